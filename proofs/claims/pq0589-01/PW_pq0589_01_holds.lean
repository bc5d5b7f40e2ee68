import PyProof.Rows.All
import Wide.All
import OpenK.AllK
import Wide.FinOn
import Open.Tops
import Lean
import PySem.Challenge.RW_pq0589_01
set_option Elab.async false
set_option maxRecDepth 100000
set_option maxHeartbeats 0
set_option linter.all false
set_option tactic.hygienic false
set_option genSizeOf false
set_option genInjectivity false
set_option backward.match.sparseCases false
set_option bootstrap.genMatcherCode false
set_option compiler.extract_closed false
namespace Internal.Mine
noncomputable section
open _root_.Array renaming find?→adJ,find?_toList→adK,getElem?_eq_getElem→AG,getElem?_eq_some_iff→E9,getElem?_toList→adR,length_toList→N5,mem_toList_iff→Fc,mk→uS,size_push→adQ
open _root_.Bool renaming and_assoc→ac2,and_eq_true→ol,and_eq_true_iff→ed,and_false→mX,casesOn→xE,eq_false_iff→qc,eq_iff_iff→An,false_and→add,false_eq_true→mY,false_ne_true→sS,not_and→ac3,not_eq_false'→ac4,not_eq_true'→Am,or_eq_false_iff→kn,or_eq_true→uP,or_eq_true_iff→ju,or_false→oj,or_true→uQ,false→C,true→I
open Classical renaming byContradiction→Nh
open Decidable renaming byContradiction→NT
open ForInStep renaming yield→ad3
open _root_.Int renaming add_assoc→Nt,add_zero→Nv,eq_ofNat_of_zero_le→xI,le_of_lt→NX,le_refl→Nu,le_trans→E3,natCast_nonneg→qa,natCast_pos→ado,ne_of_gt→NM,not_le→E4,not_lt→rb,ofNat→N9,ofNat_le→sQ,ofNat_lt→sN,sub_zero→ad1,zero_add→adi
open _root_.List renaming all_eq_true→lr,any_cons→adF,any_eq_false→adN,append_assoc→b6,append_cons→kR,append_eq_append_iff→EZ,append_eq_nil_iff→xG,append_nil→cN,casesOn→aV,concat_eq_append→Aq,cons_append→kS,cons_ne_nil→adg,contains_cons→Ao,countP→adt,countP_append→Nq,countP_cons→Ar,dropLast_concat→ac7,drop_eq_getElem_cons→N7,drop_length→Ny,eq_nil_of_length_eq_zero→xJ,eq_nil_or_concat→Nm,find?_cons→adG,find?_some→Fe,flatten_cons→ady,forall_mem_cons→adk,getD_eq_getElem?_getD→Al,getElem?_append_left→p7,getElem?_append_right→ra,getElem?_concat_length→mU,getElem?_eq_getElem→li,getElem?_eq_none→EU,getElem?_eq_some_iff→fK,getElem?_map→qb,getElem?_set_ne→mT,getElem?_set_self→oi,getElem_mem→adm,getLast?_append→uR,getLast?_cons→Nw,getLast?_eq_none_iff→Nr,getLastD_eq_getLast?→ac0,head?_append→E0,head_eq_of_cons_eq→adh,isEmpty_iff→lq,length→NB,length_append→bx,length_cons→gQ,length_drop→Ay,length_eq_one_iff→ND,length_map→c5,length_nil→lj,length_range→ad0,length_set→sM,length_take_le→adu,length_take_le'→Oc,lookup→Fd,lookup_append→aei,lookup_cons→ot,map_append→dz,map_cons→iQ,map_eq_nil_iff→adr,map_fst_zip→ad5,map_inj_left→Ff,map_map→rf,mem_append→eV,mem_append_left→fh,mem_append_right→dm,mem_cons→d4,mem_cons_of_mem→Au,mem_cons_self→EY,mem_filterMap→NN,mem_flatten→NR,mem_map→ej,mem_map_of_mem→om,mem_of_getElem?→mi,mem_of_mem_take→adp,mem_range→adn,mem_singleton→iw,nil_append→E2,nodup_append→mZ,nodup_cons→iR,nodup_nil→xH,not_mem_nil→eW,of_mem_zip→ad8,pairwise_map→adx,pairwise_singleton→Fb,perm_append_comm→sX,perm_middle→NQ,range→kl,range'→ll,range_eq_range'→xF,replicate→jq,set_append_right→acZ,set_cons_succ→adz,set_getElem_self→NE,set_set→oo,size_toArray→N4,take_of_length_le→adl
open List.Perm renaming append_left→sW,append_right→uV,cons→AC,swap→ou,trans→adA
open List.cons renaming inj→mW
open Nat renaming add_assoc→kt,add_comm→kq,add_le_add→gn,add_le_add_left→jp,add_le_add_right→sR,add_mul→adj,add_right_comm→EW,add_sub_cancel→ac1,add_sub_cancel_left→Ni,ble_eq→Np,casesOn→fU,le_add_left→hG,le_add_right→d8,le_antisymm→Aw,le_max_left→Nj,le_max_right→ac6,le_of_add_le_add_right→acY,le_of_add_right_le→Nn,le_of_eq→b7,le_of_lt→sU,le_of_lt_succ→Ax,le_of_not_lt→sO,le_of_succ_le→iy,le_of_succ_le_succ→jr,le_refl→bF,le_sub_of_add_le→ade,le_succ→ey,le_succ_of_le→f1,le_trans→aE,log2_lt→NW,lt_irrefl→NL,lt_of_le_of_lt→jt,lt_of_lt_of_le→iP,lt_of_succ_lt_succ→Nz,lt_succ_of_lt→NG,lt_succ_self→sP,lt_trans→uO,max_assoc→ac9,max_zero→No,mul_le_mul_left→ac8,mul_le_mul_right→EX,ne_of_gt→mV,ne_of_lt→fc,noConfusion→adb,not_lt→rc,not_lt_zero→Nk,not_succ_le_zero→km,one_mul→E1,sub_add_cancel→As,sub_le→adf,sub_lt_sub_left→adZ,sub_self→p9,succ_add→adc,succ_le_of_lt→NJ,succ_le_succ→gp,succ_mul→ads,succ_ne_self→NK,succ_pos→NA,zero_add→da,zero_le→dG,zero_max→EV
open Nat.succ renaming inj→E5
open Ne renaming symm→eH
open _root_.Option renaming bind→ac5,bind_eq_some_iff→oq,bind_some→E6,casesOn→gC,isNone_iff_eq_none→Fa,isSome_iff_exists→AE,map→NY,map_eq_some_iff→fV,some→ada,some→O,none→U
open Option.some renaming inj→cT
open Prod renaming fst→adq
open PyProof.Rows renaming Below→lu,Call_→xQ,CellsAre→s6,Top→oz,cellsFrom_names→Om,dflt→afe,envOfC→jW,lookup_of_mem_nodup→aeu,modules_low→aeU,seen→afd,subscriptTail→AU
open PySem renaming Addr→aH,Around→dN,BindsTo→AM,BoolOp→aek,Comprehension→Oi,DictEntry→eB,Env→dA,ExceptHandler→ae4,Expr→aX,Flow→kw,FuncData→ow,Heap→cz,IsRangeIter→Oy,Model→uW,NameKind→xM,Operator→Oh,OsState→jv,Params→bX,Pos→cJ,Program→ky,Result→s7,Scope→cY,Shared→ay,Stmt→cA,Str→aw,StrKeys→Fw,Value→ak,World→ee,assign→Fh,assignEach→FR,assignInOrder→aeP,attributeBase→aez,behindInMarks→On,binaryOp→Fz,bindArgs→FX,bindL→xN,bootBuiltins→aew,builtinsNs→uX,cLine→m1,call_meetsIn→aeB,callerA→Fi,cellsFrom→AN,checkBuiltinCall→OE,closureFor→OA,codeAny→kA,codeAny_builtin→aeI,codeAny_call_function→aer,codeAny_func→aet,compPost→aej,compareOp→oB,comprehension→afh,eval→kz,eval_ListComp→aeT,firstArgMember→afg,foldedSetIterable→u4,getAttr→FD,getItem→u5,getMethod_builtin→FK,importedModules→xO,importedNames→aep,intKind→aff,intKind_is→AP,interactive→FL,isInstance→OF,keeperOf→Ot,letTemporaryGo→FP,mainGlobals→ez,meets_dict_get_default→aeC,merged→FT,methodCallForm→aeA,model→du,moduleNames→aen,newFunctionEnv→OB,newList→AH,noteFrame→AK,nsFind→Fj,operate→AT,pastItsLine_dict→ae1,plainObj_wpAny_Assign_Attribute→Ow,pyIter→FN,pyNext→AS,rawInt→ls,recursionLimit→qd,relabel→OC,seqIndex?→Oz,setFlight→Fu,sizeLine→eI,sizeLine_eq→iz,slot_listiter_next→aeJ,standAt→Oo,starEach→Oq,storeName→Ov,strKind_is→AQ,subscripted→xS,swappedStores→aeR,swapsWith→oy,swapsWithSole→aeQ,treeTable→s1,typeLookup→aem,unpackItems→aeO,wpAny→bk,wpAny_Assign_Name→aeF,wpAny_Constant_int→Op,wpAny_Expr_any→aeD,wpAny_Name→FF,wpAny_Try_except→ae3,wpAny_assign_Name→FM,wpAny_bind→bu,wpAny_call→FW,wpAny_comprehension_free→FS,wpAny_execs_cons→AR,wpAny_execs_nil→s9,wpAny_field→s5,wpAny_getItem_of→aeN,wpAny_holding→mn,wpAny_in_of→aex,wpAny_isSubtype_exc→OD,wpAny_loadName_local→AO,wpAny_loadPart→aeW,wpAny_loadPart_at→FV,wpAny_lookBehind→ae0,wpAny_mono→mm,wpAny_newFunctionEnv_cells→aes,wpAny_newObj_type→uY,wpAny_notIn_of→aey,wpAny_nsSet1→aeZ,wpAny_passesOwn→Ox,wpAny_pure→dB,wpAny_pyIter_list→FO,wpAny_pyIter_listiter→aeS,wpAny_pyIter_range→aeL,wpAny_pyNext_list_item→aeK,wpAny_runValue→aeH,wpAny_setField→AJ,wpAny_specialOf→aeM,wpAny_standAt→u0,wpAny_storeName_local→aeE,wpAny_throw→aeG,wpAny_typeOf→aeV,Obj→jV,Tok→qY,call→ku,setAttr→NZ,strKind→adH,truthy→AD,wpAt_bind→aea,wpAt_of_wpAny→aeb
open PySem.Around renaming frames_deeper→adM
open PySem.AutoIntOps renaming floordiv_1→ae9,mod_1→afa,pow_0→afb,pow_4→afc
open PySem.Builtin renaming bitAnd→adD
open PySem.Builtin.Int renaming intBits→NV
open PySem.Builtin.ObjectAttr renaming newKeyGuard→aeY,storeInDict→ael
open PySem.Builtin.Range renaming rangeSize→N8
open PySem.Builtin.Str renaming strSliceIndices→Ob
open PySem.Calls renaming spliced_cons→FI,spliced_nil→FH
open PySem.Challenge renaming rw_pq0589_01→AB
open PySem.Code renaming body→lm,quiet_builtin→aec
open PySem.Data.func renaming elim→Og
open PySem.Data.seq renaming elim→adB
open PySem.EntryCells renaming newEntry→adw
open PySem.Expr renaming Call→aeh
open PySem.F renaming args_dict_get_3→adV,entry_dict_get→adU,excBase_Exception→ad9,plainAttrs_list→adP,slot_dict_get→N6,slot_list_pop→adS
open PySem.Heap renaming ExtBut→AF,SameBut→sY,get?_none_of_le→Od,get?_push_at→aed,get?_push_of_some→hJ,get?_push_size→kv,get?_update_ne→aee,get?_update_other→xK,get?_update_self→E7,lt_size→m0,size_push→adY
open PySem.Heap.SameBut renaming update→adT
open PySem.Heap.UpToSlots renaming of_keeps→N0
open PySem.Keeper renaming boundFrame→N3,frame→N1,machine→N2
open PySem.NameKind renaming cell→ad4,free→xL
open PySem.Obj renaming mapFields→adX,data_mapFields→NP,dict→aef,isFreed_of_fields→E8,mapFields→NO
open PySem.PassesOwn renaming never→aeg
open PySem.PyData renaming keyHash→adv
open PySem.SeqAt.EqAt renaming int_int→adE
open PySem.Str renaming ofString→Az
open PySem.StrLaws renaming sliceText→ad2
open PySem.Txt renaming slice→Oa
open PySem.Value renaming bool→adC,casesOn→sZ,isInt→adI,isInt_shape→ad7,isStrOf→adL,isStrOf_shape→ad6,none→uT,ref→uU
open PySem.W renaming Frag→cU,KtsDicts→s8,KtsTurn→mj,Looks→uZ,behindTheImports→Oj,boot_drawn→Fp,boot_heap→ri,boot_toks→Fs,builtinNamed→aeo,cellsFrom_some→FU,dictOf→FC,findIn→gE,hideAll→ml,hideAll_get→FE,hideAll_none→aev,instObj→s0,isFn→xT,keepIn→mo,keeps_K→FJ,ktsIn→xV,kts_self→AL,kts_turn_at→aeq,look_both→gD,looks_clsIn→aeX,looks_findIn→ae2,looseW→xP,namesMeet→Ft,nsIn→gq,of_hideAll→Fv,openSeen→Ol,peek→xU,piece_app→AI,topFrame→Fo,wellAll_cons_inv→ae5,isFn→adO
open PySem.W.Fast renaming tw10110043849684766642→rg,tw14364793385576792824→rh
open PySem.W.KIN renaming call_text→adW
open PySem.Within renaming cons→Oe,nil→Of
open True renaming intro→dr
section
open PySem PySem.W PyProof.Rows
noncomputable abbrev pw:ky:=PySem.Challenge.pw_pq0589_01
noncomputable abbrev q0:cJ:=⟨0,0,0,0⟩
noncomputable def vS(s:String)(t:Nat):ak:=.str (Az s) t
noncomputable def vI(n:Int):ak:=.int n 0
noncomputable abbrev vN:ak:=.none
noncomputable def vE(P:bX)(s:String)(t:Nat)(v:ak):eB:=⟨adv P<|Az s,.str (Az s) t,v⟩
noncomputable def zw:List cA->Nat->cA
 |[],_=>.Pass ⟨0,0,0,0⟩
 |s::_,0=>s
 |_::r,n+1=>zw r n
noncomputable def Bd:List cA:=Oj pw
noncomputable def aF(i:Nat):cA:=zw Bd i
noncomputable def aM(i j:Nat):cA:=match zw Bd i with
 |.ClassDef _ _ _ b _ _ _ _ _ _ _=>zw b j
 |s=>s
noncomputable def vF(s:cA)(q:String)(g:aH)(d m c:ak):ow:=match s with
 |.FunctionDef n args body _ _ _ scope _ _ _=>{name:=n,qualname:=Az q,params:=args,body:=.stmts body,scope:=scope,globals:=g,closure:=[],defaults:=d,kwdefaults:=.none,pyModule:=m,code:=c}
 |_=>default
noncomputable def oT:Obj:=⟨.type "tuple",none,.seq #[] 0,#[]⟩
noncomputable def oN:Obj:=⟨.none,none,.fields #[],#[]⟩
noncomputable def Km:Nat->List String->List ak
 |_,[]=>[]
 |t,s::r=>vS s t::Km (t+1) r
noncomputable def oS(t:Nat)(l:List String):Obj:=⟨.type "tuple",none,.seq ⟨Km t l⟩ 0,#[]⟩
noncomputable def oH(s:cA)(q:String):Obj:=⟨.none,none,.func<|vF s q 0 .none .none .none,#[]⟩
noncomputable def oF(s:cA)(q:String)(d m:ak)(c:aH):Obj:=⟨.type "function",none,.func<|vF s q 3 d m<|.ref c,#[]⟩
noncomputable def oC(n q:String)(t:Nat)(c d fl:Int)(a:aH)(b:Bool)(x y z:ak)(e:Int):Obj:=⟨.type "code",none,.fields #[vS n t,vS q (t+1),vS "/claim/cut.py" (t+2),vI c,vI d,vI 0,vI 0,vI fl,.ref a,.bool b,vI 181,.ref (a+1),.none,x,y,z,vI e,vI c,vS "/claim/cut.py" (e.toNat+1)],#[]⟩
noncomputable def Xn:List ak:=[vS "kindkeep.ptypes" 1065,vS "kindkeep.pcore" 592,vS "kindkeep.diags" 330,vS "kindkeep.pmembers" 1369,vS "kindkeep.nodes" 194,vS "kindkeep.scanner" 535,vS "law_pq0589_01" 1648,vS "__main__" 164]
noncomputable def md(k:Nat):ak:=Xn.getD k .none
noncomputable def oP(i:Nat)(q:String)(k:Nat)(c:aH):Obj:=oF (aF i) q vN (md k) c
noncomputable def oM(i j:Nat)(q:String)(k:Nat)(c:aH):Obj:=oF (aM i j) q vN (md k) c
noncomputable def hF(i:Nat)(q:String):Obj:=oH (aF i) q
noncomputable def hM(i j:Nat)(q:String):Obj:=oH (aM i j) q
noncomputable def oD(n q:String)(t:Nat)(b c:Int)(a:aH)(d:Int):Obj:=oC n q t b c 3 a true (.ref<|a+2) (.ref<|a+3) (.ref<|a+4) d
noncomputable def bW(n:String)(t:Nat)(b c:Int)(a:aH)(d:Int):Obj:=oD n n t b c a d
noncomputable def oK(n:String)(t:Nat)(b:Int)(a:aH):Obj:=oC n n t b 0 0 a false vN vN vN<|t+3
noncomputable def oO(c:String)(l:List ak):Obj:=⟨.type c,none,.fields ⟨l⟩,#[]⟩
noncomputable def oI(a:aH):Obj:=oO "builtin_function_or_method" [.builtin "object.__init_subclass__",.ref a]
noncomputable def oJ:Obj:=oO "builtin_function_or_method" [.builtin "type.__prepare__",.type "type"]
noncomputable def oU(a:aH):Obj:=oO "super" [.ref a,.ref a,.ref a]
noncomputable def oY(t:Nat)(a:aH):Obj:=oO "getset_descriptor" [vS "__dict__" t,.ref a,.builtin "function.__dict__",.builtin "function.__dict__#set"]
noncomputable def oZ(t:Nat)(a:aH):Obj:=oO "getset_descriptor" [vS "__weakref__" t,.ref a,.builtin "ExceptionGroup.__weakref__",vN]
noncomputable def so:List (Int×aH)->List ak
 |[]=>[]
 |p::r=>vI p.1::vI 4:: .ref p.2::so r
noncomputable def oV(l:List<|Int×aH):Obj:=⟨.none,none,.fields ⟨so l⟩,#[]⟩
noncomputable def oQ(l:List ak):Obj:=⟨.type "tuple",none,.seq ⟨l⟩ 0,#[]⟩
noncomputable def iq(a:aH)(k:Nat):Obj:=⟨.type "frame",none,.plain,#[some (.ref<|a+3),some (.ref 3),some (.ref a),none,some (md k),none,some (.ref 0)]⟩
noncomputable def tO:List ak:=[.type "object"]
noncomputable def oX(n:String)(b m:List ak)(d:aH)(u:List ak)(x:Option ak)(t:Nat)(f:String):Obj:=⟨.type "type",none,.cls ⟨.ofString n,b,.ref (d+1)::m,d,.ofString n,true,[],u,false,none,false⟩,#[x,none,some (vS n t),some (vS n<|t+8),some (.builtin f),some (.bool true)]⟩
noncomputable def ev(s:String)(t:Nat)(v:ak)(P:bX):eB:=vE P s t v
noncomputable def er(s:String)(t:Nat)(a:aH):bX->eB:=ev s t<|.ref a
noncomputable def ei(s:String)(t:Nat)(i:Int):bX->eB:=ev s t<|.int i<|t-1
noncomputable def eQ(t:Nat)(s:String):bX->eB:=ev "__qualname__" t<|vS s<|t-1
noncomputable def Kn(P:bX):List (bX->eB)->List eB
 |[]=>[]
 |e::r=>e P::Kn P r
noncomputable def dc(P:bX)(l:List<|bX->eB)(n:Nat):Obj:=⟨.type "dict",none,.dict ⟨Kn P l⟩ n,#[]⟩
noncomputable def Bl(x:Obj):BT:=.node x .nil .nil
noncomputable def Be(x:Obj)(y:BT):BT:=.node x y .nil
noncomputable def Bn(x:Obj)(y z:BT):BT:=.node x y z
noncomputable def Xo(P:bX):BT:=(Bn (oS 269 ["self","kind","a","kids","flags","at"]) (Bn (oP 34 "flagged" 4 62) (Bn (oS 413 ["number","text"]) (Bn (oZ 646 253) (Be oN<|Bl oN)<|Bl<|oX "ObjectKindRule" [.ref 591] [.ref 591,.type "object"] 766 [] (some<|.ref 751) 1308 "object.__new__")<|Bn (oM 71 11 "Parser.need_word" 1 382) (Bl oT)<|Bl oT)<|Bn oT (Bn (oD "ahead" "Parser.ahead" 739 197 2 314 745) (Be oT<|Bl<|oP 154 "_law_kinds" 6 1086)<|Bl<|oP 116 "read_member" 3 830)<|Bn oT (Bl<|oI 701)<|Bl<|bW "check_params" 1596 719 2 954 1604)<|Bn oT (Bn oT (Bn oN (Be (bW "literal_in_brackets" 1026 343 1 538 1030)<|Bl<|bW "_law_params" 1762 899 2 1050 1775)<|Bl<|oQ [.ref 253])<|Bn oT (Bl oT)<|Bl oN)<|Bn (oS 568 ["self","kind","text","num","at","end","line_before"]) (Bn (oS 783 ["self","text"]) (Bl<|hM 89 0 "TypePart.parse")<|Bl oT)<|Bn (oZ 946 477) (Bl<|bW "read_dotted" 1281 496 1 730 1288)<|Bl oT)
noncomputable def Xp(P:bX):BT:=(Bn (hF 32 "leaf") (Bn oT (Bn oT (Bn (oM 69 0 "Mark.__init__" 1 270) (Be oT<|Bl oT)<|Bl<|oP 108 "starts_func_kind" 0 782)<|Bn oN (Bl<|bW "ret_annotation" 1173 421 1 650 1177)<|Bl<|hM 125 0 "RetPart.parse")<|Bn (oS 525 ["file","rows"]) (Bn oT (Be (oX "KindRule" tO tO 590 [.ref 701,.ref 720,.ref 767,.ref 897] none 1080 "object.__new__")<|Bl oN)<|Bl oN)<|Bn (oS 908 ["self","number"]) (Bl<|dc P [ev "__module__" 1252 (md 0),ei "__firstlineno__" 1256 475,er "take" 1268 717,er "__static_attributes__" 1269 718,ev "__doc__" 1270 vN] 2)<|Bl oT)<|Bn (oI 109) (Bn (oX "Diag" tO tO 174 [] none 446 "object.__new__") (Bn oT (Be oT<|Bl<|oS 1797 ["r","kid","name","q","flags"])<|Bl<|oX "MembersPart" [.ref 253] [.ref 253,.type "object"] 814 [] (some<|.ref 799) 1383 "object.__new__")<|Bn (oD "end_statement" "Parser.end_statement" 868 258 1 426 872) (Bl<|dc P [ev "__module__" 1225 (md 0),eQ 1227 "ParenKindRule",ei "__firstlineno__" 1229 468,er "take" 1240 698,er "__static_attributes__" 1241 699] 5)<|Bl oT)<|Bn (dc P [ev "__module__" 630 (md 1),eQ 632 "Part",ei "__firstlineno__" 634 126,er "parse" 642 250,er "__static_attributes__" 643 251] 5) (Bn (hM 71 9 "Parser.eat_name") (Bl oN)<|Bl<|bW "read_index_sig" 1479 627 3 874 1488)<|Bn (oP 73 "read_apart" 1 494) (Bl<|oQ [.ref 591])<|Bl<|hF 142 "_law_tight")
noncomputable def Xq(P:bX):BT:=(Bn (oY 285 38) (Bn (oQ [.type "Exception"]) (Bn oT (Bn (oK "Mark" 653 130 261) (Be (oS 1006 ["p","kind","text"])<|Bl<|oS 1733 ["tokens","way","out","fresh","i","token","bars","parted"])<|Bl<|bW "mapped_ahead" 1334 526 1 770 1340)<|Bn oT (Bl<|hF 94 "annotation")<|Bl oT)<|Bn (hM 42 1 "Diags.put") (Bn (oM 71 3 "Parser.step" 1 326) (Be oN<|Bl oT)<|Bl oT)<|Bn oN (Bl oT)<|Bl<|oP 132 "read_access" 3 966)<|Bn oT (Bn oN (Bn (dc P [ev "__module__" 718 (md 1),eQ 720 "Parser",ei "__firstlineno__" 722 168,er "__init__" 731 306,er "now" 738 313,er "ahead" 747 320,er "step" 755 327,er "is_sign" 763 334,er "is_word" 771 341,er "is_name" 779 348,er "eat_sign" 787 355,er "eat_word" 795 362,er "eat_name" 803 369,er "need_sign" 811 376,er "need_word" 819 383,er "need_name" 826 390,er "prop_name" 833 397,er "member_name" 840 404,er "fault" 849 411,er "fault_at" 859 418,er "can_end" 867 425,er "end_statement" 874 432,er "down" 881 439,er "up" 888 446,er "part" 897 453,er "mark" 904 460,er "back" 912 467,er "keep" 920 474,er "__static_attributes__" 943 475] 29) (Be (oP 81 "read_prop_name" 1 550)<|Bl<|oP 150 "_law_ret" 6 1062)<|Bl oN)<|Bn (hM 71 17 "Parser.can_end") (Bl oN)<|Bl<|oS 1566 ["p","at","rows"])<|Bn (oY 585 230) (Bn oT (Bl oT)<|Bl<|hF 122 "index_sig_ahead")<|Bn (bW "take_mark" 951 293 2 482 957) (Bl<|oP 104 "read_new_name" 0 742)<|Bl oN)
noncomputable def Xr(P:bX):BT:=(Bn (bW "twig" 301 45 4 50 308) (Bn (dc P [ev "__module__" 339 (md 2),ei "__firstlineno__" 343 52,er "__init__" 352 85,er "__static_attributes__" 355 86,er "__weakref__" 357 89,ev "__doc__" 358 vN] 3) (Bn (oI 149) (Bn (oS 681 ["allow_in","at","covers","deep","in_func","in_literal","in_loop","in_switch","labels","no_cond","pending","ret_bar","splits","told"]) (Be (hF 79 "starts_prop")<|Bl<|hF 148 "_law_tparams")<|Bl oT)<|Bn (oS 844 ["self","number","args"]) (Bl<|oP 96 "read_union" 0 662)<|Bl oT)<|Bn oJ (Bn oN (Be oT<|Bl<|hF 158 "_law_told")<|Bl<|oS 1452 ["p","flags","at","name"])<|Bn oT (Bl<|hF 102 "refuse_odd_kind")<|Bl oN)<|Bn (oS 404 [""]) (Bn oT (Bn (hM 71 1 "Parser.now") (Be oN<|Bl oT)<|Bl<|bW "read_members" 1407 577 1 818 1413)<|Bn (oM 71 19 "Parser.down" 1 438) (Bl oT)<|Bl<|hF 130 "read_params")<|Bn oT (Bn (oD "need_sign" "Parser.need_sign" 804 227 2 370 809) (Bl<|oS 1151 ["p","check"])<|Bl<|iq 883 3)<|Bn oT (Bl oN)<|Bl<|bW "_law_signed" 1698 785 2 1010 1708)
noncomputable def Xu(P:bX):BT:=(Bn (oM 31 0 "Node.__init__" 4 34) (Bn oT (Bn (oI 129) (Bn oJ (Be (bW "check_height" 991 323 2 510 1000)<|Bl<|bW "_law_tokens" 1717 829 1 1022 1727)<|Bl oN)<|Bn oT (Bl oT)<|Bl<|oI 897)<|Bn oT (Bn (oS 751 ["self","token"]) (Be (oV [(392,587)])<|Bl oT)<|Bl oT)<|Bn (hM 71 21 "Parser.part") (Bl oT)<|Bl<|oS 1610 ["p","flags","token","flag"])<|Bn (oQ [.int 2589 375,vS "" 376]) (Bn (hM 41 0 "Diag.__init__") (Bn (bW "cut_rows" 703 165 2 286 708) (Be (oS 1036 ["p","name"])<|Bl<|oS 1781 ["d","flags","rest","kind"])<|Bl<|oV [(575,811)])<|Bn oT (Bl<|hF 98 "read_operator")<|Bl<|bW "read_ret" 1552 654 1 926 1560)<|Bn (oM 52 0 "Token.__init__" 5 226) (Bn (oM 71 7 "Parser.eat_sign" 1 354) (Bl<|dc P [ev "__module__" 1116 (md 0),ei "__firstlineno__" 1120 394,er "parse" 1128 609,er "__static_attributes__" 1129 610,ev "__doc__" 1130 vN] 2)<|Bl oT)<|Bn oN (Bl<|oS 1294 ["p","token","name"])<|Bl<|hF 140 "_law_name")
noncomputable def Xv(P:bX):BT:=(Bn oN (Bn (hM 37 0 "KeepError.__init__") (Bn (oS 440 ["number","text"]) (Bn oT (Be oT<|Bl oT)<|Bl oT)<|Bn (oD "member_name" "Parser.member_name" 834 242 1 398 838) (Bl<|oS 1183 ["p","node","parts"])<|Bl<|dc P [ev "__module__" 1528 (md 3),ei "__firstlineno__" 1532 648,er "parse" 1540 913,er "__static_attributes__" 1541 914,ev "__doc__" 1542 vN] 2)<|Bn (oZ 530 209) (Bn (hM 71 5 "Parser.is_word") (Be (oI 591)<|Bl<|bW "_law_without" 1842 1008 2 1102 1850)<|Bl<|bW "accessor_ahead" 1441 608 2 846 1446)<|Bn (oM 71 23 "Parser.back" 1 466) (Bl oT)<|Bl<|hF 134 "read_target")<|Bn oT (Bn (oI 175) (Bn oT (Be (hF 83 "token_key")<|Bl<|oP 152 "_law_member" 6 1074)<|Bl oN)<|Bn (oS 878 ["self"]) (Bl<|iq 687 0)<|Bl oT)<|Bn (iq 239 1) (Bn oN (Bl<|bW "read_branch" 1141 403 1 622 1145)<|Bl<|dc P [ev "__module__" 1498 (md 3),eQ 1500 "FuncKindRule",ei "__firstlineno__" 1502 636,er "take" 1516 894,er "__static_attributes__" 1517 895] 5)<|Bn oT (Bl<|oV [(521,763)])<|Bl oN)
noncomputable def Xw(P:bX):BT:=(Bn oT (Bn (oV [(54,84)]) (Bn (oS 431 [""]) (Bn (oS 666 ["self","p"]) (Be (oP 77 "eat_token" 1 522)<|Bl<|oP 146 "_law_ends" 6 1034)<|Bl<|oS 1346 ["p","head"])<|Bn (hM 71 13 "Parser.prop_name") (Bl oN)<|Bl oT)<|Bn oN (Bn oT (Be (oD "take" "KindRule.take" 1092 392 3 582 1098)<|Bl<|hF 156 "_law_fits")<|Bl<|hF 118 "word_before_name")<|Bn (oD "mark" "Parser.mark" 898 284 1 454 902) (Bl<|hM 101 0 "NameKindRule.take")<|Bl oT)<|Bn (oS 386 ["number","text"]) (Bn (oD "row" "Diag.row" 469 80 1 166 473) (Bn (iq 295 1) (Be oT<|Bl<|oC "_law_sig" "_law_sig" 1788 932 4 3 1064 true vN vN (.ref 1066) 1791)<|Bl<|oD "parse" "MembersPart.parse" 1395 575 2 806 1400)<|Bn oN (Bl<|bW "read_hanging" 1206 448 1 678 1215)<|Bl<|oP 128 "read_tparams" 3 938)<|Bn (oS 600 ["=>","==","==="]) (Bn oT (Bl<|hF 90 "ptypes_read_kind")<|Bl oN)<|Bn (oS 963 ["p","part","allow_in","no_cond","ret_bar","in_literal","covers","node"]) (Bl oT)<|Bl oT)
noncomputable def Xx(P:bX):BT:=(Bn (oS 314 ["kind","a","kids","flags","at"]) (Bn (oI 88) (Bn oT (Bn (oZ 698 281) (Be oN<|Bl oN)<|Bl<|hF 110 "pattern_ahead")<|Bn (oM 71 15 "Parser.fault" 1 410) (Bl oT)<|Bl<|hF 126 "may_be_judged")<|Bn (oK "Token" 555 102 217) (Bn (oD "is_name" "Parser.is_name" 772 215 2 342 777) (Be oT<|Bl oN)<|Bl<|oP 120 "read_named_member" 3 858)<|Bn (oS 921 ["allow_in","at","commas","covers","deep","diags","firsts","in_func","in_literal","in_loop","in_switch","labels","no_cond","not_arrow","parts","pending","ret_bar","saved","splits","tails","tokens","types"]) (Bl oN)<|Bl<|bW "read_param" 1635 757 2 982 1645)<|Bn oT (Bn (oS 500 [""]) (Bn oN (Be (bW "need_angle" 1055 372 1 566 1062)<|Bl oT)<|Bl<|oS 1419 ["p","at","flags"])<|Bn oT (Bl oT)<|Bl oN)<|Bn oT (Bn (oS 815 ["self","text"]) (Bl<|oP 92 "extends_here" 0 634)<|Bl oT)<|Bn (hF 75 "check_chain") (Bl<|oD "take" "ObjectKindRule.take" 1320 521 3 758 1327)<|Bl<|hF 144 "_law_text")
noncomputable def Xy(P:bX):BT:=(Bn (hM 31 0 "Node.__init__") (Bn oN (Bn (oX "ParseStop" [.ref 88] [.ref 88,.type "Exception",.type "BaseException",.type "object"] 128 [] (some<|.ref 112) 392 "Exception.__new__") (Bn (oI 253) (Be oT<|Bl oT)<|Bl<|oI 767)<|Bn oN (Bl<|bW "kind_with" 1156 411 2 636 1163)<|Bl<|oX "FuncKindRule" [.ref 591] [.ref 591,.type "object"] 896 [] (some<|.ref 881) 1491 "object.__new__")<|Bn (oD "__init__" "Diags.__init__" 501 84 2 188 506) (Bn oT (Be (dc P [ev "__module__" 1087 (md 0),eQ 1089 "KindRule",ei "__firstlineno__" 1091 390,er "take" 1100 588,er "__static_attributes__" 1101 589] 5)<|Bl oN)<|Bl oN)<|Bn (oS 892 ["self","n","node"]) (Bl oJ)<|Bl oT)<|Bn (oK "TooDeep" 365 57 95) (Bn (oS 461 ["self","number","at","args","file"]) (Bn oT (Be oT<|Bl oT)<|Bl<|dc P [ev "__module__" 1390 (md 3),eQ 1392 "MembersPart",ei "__firstlineno__" 1394 573,er "parse" 1402 812,er "__static_attributes__" 1403 813] 5)<|Bn (oD "fault_at" "Parser.fault_at" 850 248 4 412 857) (Bl<|oS 1201 ["p","token"])<|Bl oT)<|Bn (hM 52 0 "Token.__init__") (Bn (hM 71 7 "Parser.eat_sign") (Bl<|oM 89 0 "TypePart.parse" 0 608)<|Bl<|bW "read_sig" 1459 618 4 860 1469)<|Bn (oI 477) (Bl oT)<|Bl<|oS 1679 ["name"])
noncomputable def Xz(P:bX):BT:=(Bn (oP 32 "leaf" 4 48) (Bn (oS 348 ["self","text"]) (Bn (oD "__init__" "HostFault.__init__" 432 69 2 140 437) (Bn oN (Be (bW "names_prop" 1012 339 1 524 1016)<|Bl<|bW "_law_plain" 1744 887 1 1036 1748)<|Bl oN)<|Bn oT (Bl oT)<|Bl<|oM 125 0 "RetPart.parse" 3 912)<|Bn (oX "Diags" tO tO 208 [] none 488 "object.__new__") (Bn (oS 767 ["self","text"]) (Be (oZ 1104 591)<|Bl oT)<|Bl oT)<|Bn (hM 71 23 "Parser.back") (Bl<|oU 720)<|Bl<|oS 1630 ["p","token"])<|Bn oJ (Bn (oZ 483 175) (Bn (oD "__init__" "Parser.__init__" 723 170 3 300 729) (Be (oS 1051 ["token"])<|Bl<|hF 152 "_law_member")<|Bl<|oI 815)<|Bn oT (Bl<|oV [(470,697)])<|Bl<|bW "read_tparam" 1572 682 1 940 1581)<|Bn (oV [(128,249)]) (Bn (oM 71 9 "Parser.eat_name" 1 368) (Bl oT)<|Bl<|oQ [.ref 591])<|Bn oN (Bl<|dc P [ev "__module__" 1315 (md 0),eQ 1317 "ObjectKindRule",ei "__firstlineno__" 1319 519,er "take" 1329 764,er "__static_attributes__" 1330 765] 5)<|Bl<|oP 142 "_law_tight" 6 1008)
noncomputable def XA(P:bX):BT:=(Bn (oU 38) (Bn (dc P [ev "__module__" 339 (md 2),eQ 341 "KeepError",ei "__firstlineno__" 343 52,er "__init__" 352 85,er "__static_attributes__" 355 86] 5) (Bn (oK "HostFault" 421 67 135) (Bn oT (Be (hF 77 "eat_token")<|Bl<|hF 146 "_law_ends")<|Bl oT)<|Bn (oS 830 ["self"]) (Bl<|oP 94 "annotation" 0 648)<|Bl<|oK "RetPart" 1523 648 903)<|Bn (oM 42 1 "Diags.put" 2 200) (Bn oN (Be oT<|Bl<|oS 1835 ["d","r","own","i"])<|Bl<|oS 1435 ["p","word","behind"])<|Bn oT (Bl<|oS 1260 ["self","p","left","token","name","args"])<|Bl oN)<|Bn (oD "__init__" "TooDeep.__init__" 377 59 3 100 383) (Bn oT (Bn (oV [(170,305),(194,312),(197,319),(203,326),(209,333),(212,340),(215,347),(218,354),(221,361),(224,368),(227,375),(231,382),(234,389),(239,396),(242,403),(245,410),(248,417),(252,424),(258,431),(262,438),(268,445),(271,452),(284,459),(288,466),(291,473)]) (Be oN<|Bl oN)<|Bl oT)<|Bn (oM 71 17 "Parser.can_end" 1 424) (Bl oT)<|Bl<|hF 128 "read_tparams")<|Bn (oU 230) (Bn (oD "eat_word" "Parser.eat_word" 788 221 2 356 793) (Bl<|oS 1136 ["p","node"])<|Bl<|oP 122 "index_sig_ahead" 3 872)<|Bn oT (Bl oN)<|Bl<|oC "_law_row" "_law_row" 1683 780 2 3 998 true vN vN (.ref 1000) 1686)
noncomputable def XC(P:bX):BT:=(Bn oT (Bn (oZ 356 88) (Bn oJ (Bn (oX "Mark" tO tO 280 [] none 651 "object.__new__") (Be (oP 79 "starts_prop" 1 536)<|Bl<|oP 148 "_law_tparams" 6 1048)<|Bl<|oS 1363 ["p","spot","found"])<|Bn (hM 71 15 "Parser.fault") (Bl oN)<|Bl<|oS 1548 ["token"])<|Bn oT (Bn oT (Be (oK "TypePart" 1111 394 599)<|Bl<|oP 158 "_law_told" 6 1112)<|Bl<|hF 120 "read_named_member")<|Bn (oD "keep" "Parser.keep" 913 291 2 468 918) (Bl<|oP 102 "refuse_odd_kind" 0 728)<|Bl oT)<|Bn oN (Bn (oK "Diags" 490 82 183) (Bn (oM 71 1 "Parser.now" 1 312) (Be oT<|Bl<|bW "_law_pop" 1805 951 2 1076 1812)<|Bl oT)<|Bn oN (Bl<|oD "take" "ParenKindRule.take" 1230 470 3 692 1238)<|Bl<|oP 130 "read_params" 3 952)<|Bn (oD "parse" "Part.parse" 635 128 2 244 640) (Bn oT (Bl<|hF 92 "extends_here")<|Bl oN)<|Bn (oS 986 ["p","count"]) (Bl oT)<|Bl oT)
noncomputable def XD(P:bX):BT:=(Bn (dc P [ev "__module__" 261 (md 4),ei "__firstlineno__" 265 34,er "__init__" 277 35,er "__static_attributes__" 284 36,er "__dict__" 286 39,er "__weakref__" 288 40,ev "__doc__" 289 vN] 4) (Bn (bW "list_of" 322 49 2 64 327) (Bn oJ (Bn oT (Be oT<|Bl oT)<|Bl oT)<|Bn (oD "need_name" "Parser.need_name" 820 234 1 384 824) (Bl<|oS 1169 ["p"])<|Bl oJ)<|Bn (oS 512 ["self","number","at","args"]) (Bn (hM 71 3 "Parser.step") (Be (iq 577 0)<|Bl<|bW "_law_read" 1821 983 3 1088 1829)<|Bl<|bW "opens_sig" 1425 603 1 832 1429)<|Bn (oM 71 21 "Parser.part" 1 452) (Bl<|oK "NameKindRule" 1247 475 707)<|Bl<|hF 132 "read_access")<|Bn oN (Bn (oM 41 0 "Diag.__init__" 2 164) (Bn oT (Be (hF 81 "read_prop_name")<|Bl<|hF 150 "_law_ret")<|Bl<|iq 801 3)<|Bn (oS 863 ["self","token"]) (Bl<|oP 98 "read_operator" 0 676)<|Bl oT)<|Bn (dc P [ev "__module__" 560 (md 5),ei "__firstlineno__" 564 102,er "__init__" 577 227,er "__static_attributes__" 584 228,er "__dict__" 586 231,er "__weakref__" 588 232,ev "__doc__" 589 vN] 4) (Bn oN (Bl<|oU 612)<|Bl<|oS 1475 ["p"])<|Bn oT (Bl<|hF 104 "read_new_name")<|Bl<|oP 140 "_law_name" 6 996)
noncomputable def XE(P:bX):BT:=(Bn oT (Bn (oF (aM 37 0) "KeepError.__init__" (.ref 78) (md 2) 84) (Bn (oX "HostFault" [.ref 88] [.ref 88,.type "Exception",.type "BaseException",.type "object"] 148 [] (some<|.ref 132) 419 "Exception.__new__") (Bn (oD "put_back" "Mark.put_back" 671 148 2 272 678) (Be (oS 1022 ["token"])<|Bl<|oS 1754 ["d","name","rest","bound","last"])<|Bl<|bW "follows_param" 1351 551 2 784 1357)<|Bn oT (Bl<|hF 96 "read_union")<|Bl<|oU 916)<|Bn (oI 209) (Bn (oM 71 5 "Parser.is_word" 1 340) (Be oJ<|Bl oT)<|Bl oT)<|Bn oN (Bl<|oS 1276 ["p","behind"])<|Bl<|oP 134 "read_target" 3 980)<|Bn (oK "ParseStop" 394 62 115) (Bn oJ (Bn (oS 735 ["self"]) (Be (oP 83 "token_key" 1 564)<|Bl oN)<|Bl oT)<|Bn (hM 71 19 "Parser.down") (Bl oN)<|Bl<|oS 1587 ["p","whole","at","allow_in","no_cond","rows"])<|Bn oN (Bn oT (Bl oT)<|Bl<|oV [(638,893)])<|Bn (bW "is_token" 974 317 3 496 980) (Bl<|iq 753 0)<|Bl oT)
noncomputable def XF(P:bX):BT:=(Bn (oS 295 ["kind","a","at"]) (Bn (iq 73 2) (Bn oN (Bn (hM 69 0 "Mark.__init__") (Be oN<|Bl oN)<|Bl<|hF 108 "starts_func_kind")<|Bn (oM 71 13 "Parser.prop_name" 1 396) (Bl oT)<|Bl<|oS 1536 ["self","p"])<|Bn (oC "numbers" "Diags.numbers" 519 91 1 3 202 true vN vN (.ref 204) 522) (Bn (oD "is_sign" "Parser.is_sign" 756 209 2 328 761) (Be oT<|Bl<|oP 156 "_law_fits" 6 1100)<|Bl<|oP 118 "word_before_name" 3 844)<|Bn oT (Bl<|oM 101 0 "NameKindRule.take" 0 716)<|Bl<|bW "access_fits" 1617 740 4 968 1624)<|Bn (oX "TooDeep" [.ref 88] [.ref 88,.type "Exception",.type "BaseException",.type "object"] 108 [] (some<|.ref 92) 363 "Exception.__new__") (Bn (oS 476 ["args","at","file","number"]) (Bn oN (Be (bW "read_member_name" 1041 356 1 552 1045)<|Bl oT)<|Bl oT)<|Bn oT (Bl<|oQ [.ref 591])<|Bl oN)<|Bn oT (Bn (oS 799 ["self","text"]) (Bl<|oP 90 "ptypes_read_kind" 0 620)<|Bl oT)<|Bn (hF 73 "read_apart") (Bl<|bW "read_type_args" 1300 512 1 744 1305)<|Bl<|oS 1692 ["node","kinds","text"])
noncomputable def XG(P:bX):BT:=(Bn (hF 34 "flagged") (Bn oJ (Bn (oK "Diag" 448 72 155) (Bn (oI 281) (Be oT<|Bl oT)<|Bl<|oP 110 "pattern_ahead" 0 796)<|Bn oN (Bl<|bW "read_inter" 1189 434 1 664 1195)<|Bl<|oP 126 "may_be_judged" 3 924)<|Bn oT (Bn oT (Be (oS 1124 ["self","p"])<|Bl<|oC "law" "law" 1859 1046 1 3 1114 true vN vN (.ref 1116) 1862)<|Bl oN)<|Bn (oX "Parser" tO tO 476 [] none 711 "object.__new__") (Bl oT)<|Bl<|oS 1652 ["extends","void","null","in","new","this"])<|Bn (oD "__init__" "ParseStop.__init__" 405 64 2 120 410) (Bn oN (Bn oT (Be (oS 1067 ["any","unknown","never","undefined","string","number","boolean","object"])<|Bl<|hF 154 "_law_kinds")<|Bl<|hF 116 "read_member")<|Bn (oD "up" "Parser.up" 882 268 1 440 886) (Bl<|oX "ParenKindRule" [.ref 591] [.ref 591,.type "object"] 700 [] (some<|.ref 685) 1218 "object.__new__")<|Bl oT)<|Bn (oX "Part" tO tO 252 [.ref 612,.ref 815,.ref 916] none 623 "object.__new__") (Bn (hM 71 11 "Parser.need_word") (Bl oN)<|Bl<|oD "take" "FuncKindRule.take" 1503 638 3 888 1514)<|Bn (oP 75 "check_chain" 1 508) (Bl oT)<|Bl<|oP 144 "_law_text" 6 1020)
noncomputable def XH(P:bX):BT:=(Bn oT (Bn oT (Bn (dc P [ev "__module__" 399 (md 2),ei "__firstlineno__" 403 62,er "__init__" 412 126,er "__static_attributes__" 415 127,ev "__doc__" 416 vN] 2) (Bn (oU 253) (Be (oS 994 ["p","root","stack","node","level","kid"])<|Bl<|oS 1720 ["text","out","at","start","c","word","cooked"])<|Bl<|oU 767)<|Bn oT (Bl<|hF 93 "kind_with")<|Bl<|dc P [ev "__module__" 1498 (md 3),ei "__firstlineno__" 1502 636,er "take" 1516 894,er "__static_attributes__" 1517 895,ev "__doc__" 1518 vN] 2)<|Bn (hM 42 0 "Diags.__init__") (Bn (oM 71 2 "Parser.ahead" 1 319) (Be oJ<|Bl oT)<|Bl oT)<|Bn oN (Bl<|oQ [.ref 591])<|Bl<|oP 131 "check_params" 3 959)<|Bn (oV [(59,105)]) (Bn oN (Bn (oS 706 ["rows","count"]) (Be (oP 80 "literal_in_brackets" 1 543)<|Bl<|oP 149 "_law_params" 6 1055)<|Bl oJ)<|Bn (hM 71 16 "Parser.fault_at") (Bl oN)<|Bl<|oS 1555 ["p","token","behind","name","kind"])<|Bn oT (Bn oT (Bl<|oD "parse" "TypePart.parse" 1121 396 2 603 1126)<|Bl<|hF 121 "read_sig")<|Bn (oU 477) (Bl<|oP 103 "read_dotted" 0 735)<|Bl oN)
noncomputable def XI(P:bX):BT:=(Bn (bW "leaf" 292 43 3 43 298) (Bn oN (Bn (hM 40 0 "HostFault.__init__") (Bn oT (Be (hF 78 "names_prop")<|Bl<|hF 147 "_law_plain")<|Bl oT)<|Bn (oS 837 ["self"]) (Bl<|oP 95 "ret_annotation" 0 655)<|Bl<|oD "parse" "RetPart.parse" 1533 650 2 907 1538)<|Bn (dc P [ev "__module__" 495 (md 2),ei "__firstlineno__" 499 82,er "__init__" 508 194,er "put" 518 201,er "numbers" 524 206,er "__static_attributes__" 527 207,er "__dict__" 529 210,er "__weakref__" 531 211,ev "__doc__" 532 vN] 4) (Bn oN (Be (oY 1102 591)<|Bl<|oS 1845 ["tokens","at","out","depth","token"])<|Bl<|oS 1444 ["p","word"])<|Bn oT (Bl<|oX "NameKindRule" [.ref 591] [.ref 591,.type "object"] 719 [] (some<|.ref 704) 1245 "object.__new__")<|Bl oN)<|Bn (oQ [.ref 88]) (Bn (oY 481 175) (Bn (hM 71 0 "Parser.__init__") (Be oN<|Bl oT)<|Bl<|oU 815)<|Bn (oM 71 18 "Parser.end_statement" 1 431) (Bl oT)<|Bl<|hF 129 "read_tparam")<|Bn oT (Bn (oD "eat_name" "Parser.eat_name" 796 224 2 363 801) (Bl<|oS 1144 ["p"])<|Bl<|oP 123 "read_index_sig" 3 879)<|Bn oT (Bl oJ)<|Bl<|bW "_law_tight" 1689 782 2 1003 1695)
noncomputable def XJ(P:bX):BT:=(Bn (oZ 287 38) (Bn oJ (Bn (oV [(69,145)]) (Bn (iq 260 1) (Be oT<|Bl oT)<|Bl<|oP 107 "mapped_ahead" 0 775)<|Bn oN (Bl<|bW "annotation" 1166 417 1 643 1170)<|Bl<|oV [(650,912)])<|Bn (oD "put" "Diags.put" 509 88 4 195 516) (Bn oT (Be (oS 1095 ["self","p","left"])<|Bl oN)<|Bl oN)<|Bn (oS 901 ["self"]) (Bl oN)<|Bl oT)<|Bn (hM 38 0 "TooDeep.__init__") (Bn (oS 472 ["self"]) (Bn oT (Be oT<|Bl oT)<|Bl<|oS 1398 ["self","p"])<|Bn (oD "can_end" "Parser.can_end" 860 252 1 419 865) (Bl<|oS 1209 ["p","saved","key","node","links","index"])<|Bl oT)<|Bn (oZ 587 230) (Bn (hM 71 8 "Parser.eat_word") (Bl oN)<|Bl<|bW "index_sig_ahead" 1472 623 1 867 1476)<|Bn (oP 72 "take_mark" 1 487) (Bl oT)<|Bl<|hF 141 "_law_row")
noncomputable def XK(P:bX):BT:=(Bn (oP 33 "twig" 4 55) (Bn (oX "KeepError" [.type "Exception"] [.type "Exception",.type "BaseException",.type "object"] 87 [.ref 109,.ref 129,.ref 149] (some<|.ref 71) 332 "Exception.__new__") (Bn oT (Bn (dc P [ev "__module__" 658 (md 1),ei "__firstlineno__" 662 130,er "__init__" 670 271,er "put_back" 680 278,er "__static_attributes__" 695 279,er "__dict__" 697 282,er "__weakref__" 699 283,ev "__doc__" 700 vN] 4) (Be (bW "starts_prop" 1019 341 1 531 1023)<|Bl<|bW "_law_tparams" 1751 889 3 1043 1759)<|Bl oN)<|Bn oT (Bl oT)<|Bl oN)<|Bn (dc P [ev "__module__" 560 (md 5),eQ 562 "Token",ei "__firstlineno__" 564 102,er "__init__" 577 227,er "__static_attributes__" 584 228] 5) (Bn (oS 775 ["self","text"]) (Be (oV [(396,608)])<|Bl<|oC "_law_told" "_law_told" 1853 1024 3 3 1109 true vN vN (.ref 1111) 1856)<|Bl oT)<|Bn (hM 71 24 "Parser.keep") (Bl<|bW "refuse_odd_kind" 1273 488 1 723 1278)<|Bl<|oS 1638 ["p","whole","flags","at","target","kind","init"])<|Bn oT (Bn (oV [(84,193),(88,200),(91,205)]) (Bn (oD "now" "Parser.now" 732 194 1 307 736) (Be (oS 1058 ["p","token","behind","joined"])<|Bl<|hF 153 "_law_pop")<|Bl<|oP 115 "read_members" 3 823)<|Bn oT (Bl<|hM 100 0 "ParenKindRule.take")<|Bl<|bW "read_params" 1584 700 2 947 1593)<|Bn (hM 68 0 "Part.parse") (Bn (oM 71 10 "Parser.need_sign" 1 375) (Bl oT)<|Bl oT)<|Bn oN (Bl<|oS 1323 ["self","p","left","at"])<|Bl<|oP 143 "_law_signed" 6 1015)
noncomputable def XM(P:bX):BT:=(Bn (oS 278 ["a","at","flags","kids","kind","nid"]) (Bn (hF 35 "list_of") (Bn (oQ [.ref 88]) (Bn (dc P [ev "__module__" 658 (md 1),eQ 660 "Mark",ei "__firstlineno__" 662 130,er "__init__" 670 271,er "put_back" 680 278,er "__static_attributes__" 695 279] 6) (Be (oP 76 "check_height" 1 515)<|Bl<|oP 145 "_law_tokens" 6 1027)<|Bl<|oS 1337 ["p","n","head"])<|Bn (hM 71 12 "Parser.need_name") (Bl oN)<|Bl<|oQ [.ref 253])<|Bn oN (Bn oT (Be (oK "KindRule" 1082 390 578)<|Bl<|hF 155 "_law_read")<|Bl<|hF 117 "opens_sig")<|Bn (oD "part" "Parser.part" 889 271 2 447 895) (Bl<|oV [(477,716)])<|Bl oT)<|Bn oT (Bn (oD "__init__" "Diag.__init__" 458 74 5 159 466) (Bn (oP 70 "cut_rows" 1 291) (Be oT<|Bl oT)<|Bl<|oK "MembersPart" 1385 573 802)<|Bn oN (Bl<|bW "read_operator" 1198 443 1 671 1203)<|Bl<|oP 127 "read_ret" 3 931)<|Bn (oS 578 ["at","end","kind","line_before","num","text"]) (Bn oT (Bl<|oX "TypePart" [.ref 253] [.ref 253,.type "object"] 611 [] (some<|.ref 596) 1109 "object.__new__")<|Bl oN)<|Bn (oS 954 ["p","number","mark"]) (Bl oT)<|Bl<|bW "_law_name" 1676 776 1 991 1680)
noncomputable def XN(P:bX):BT:=(Bn (oS 304 ["kind","a","kids","at"]) (Bn (oD "__init__" "KeepError.__init__" 345 54 2 79 350) (Bn (dc P [ev "__module__" 426 (md 2),ei "__firstlineno__" 430 67,er "__init__" 439 146,er "__static_attributes__" 442 147,ev "__doc__" 443 vN] 2) (Bn (hM 69 1 "Mark.put_back") (Be oN<|Bl oN)<|Bl<|hF 109 "follows_param")<|Bn (oM 71 14 "Parser.member_name" 1 403) (Bl oT)<|Bl<|oX "RetPart" [.ref 253] [.ref 253,.type "object"] 915 [] (some<|.ref 900) 1521 "object.__new__")<|Bn (oU 209) (Bn (oD "is_word" "Parser.is_word" 764 212 2 335 769) (Be (oQ [.ref 253])<|Bl<|oP 157 "_law_without" 6 1107)<|Bl<|oP 119 "accessor_ahead" 3 851)<|Bn oT (Bl oN)<|Bl<|bW "read_target" 1627 751 1 975 1632)<|Bn (oV [(64,125)]) (Bn oT (Bn oN (Be (bW "token_key" 1048 360 1 559 1052)<|Bl oT)<|Bl<|oS 1410 ["p","at","members"])<|Bn oT (Bl oT)<|Bl oN)<|Bn oT (Bn (oS 807 ["self","text"]) (Bl<|oP 91 "read_branch" 0 627)<|Bl oT)<|Bn (hF 74 "is_token") (Bl<|oK "ObjectKindRule" 1310 519 754)<|Bl<|oS 1701 ["node","between","tparams","params","ret","body","text"])
noncomputable def XO(P:bX):BT:=(Bn oN (Bn (oK "KeepError" 334 52 74) (Bn oT (Bn oT (Be oT<|Bl oT)<|Bl oT)<|Bn (oD "prop_name" "Parser.prop_name" 827 239 1 391 831) (Bl<|oS 1176 ["p"])<|Bl oN)<|Bn (hM 42 2 "Diags.numbers") (Bn (hM 71 4 "Parser.is_sign") (Be (oM 88 0 "KindRule.take" 0 587)<|Bl<|bW "_law_fits" 1832 994 3 1095 1839)<|Bl<|bW "word_before_name" 1432 605 2 839 1438)<|Bn (oM 71 22 "Parser.mark" 1 459) (Bl<|oD "take" "NameKindRule.take" 1257 477 3 711 1266)<|Bl<|hF 133 "access_fits")<|Bn (dc P [ev "__module__" 370 (md 2),ei "__firstlineno__" 374 57,er "__init__" 385 106,er "__static_attributes__" 388 107,ev "__doc__" 389 vN] 2) (Bn (oM 41 1 "Diag.row" 2 171) (Bn oT (Be (hF 82 "read_member_name")<|Bl<|oP 151 "_law_sig" 6 1067)<|Bl<|oM 114 0 "MembersPart.parse" 3 811)<|Bn (oS 871 ["self"]) (Bl<|oP 99 "read_hanging" 0 683)<|Bl oT)<|Bn (oQ [.int 3 608,.int 4 610,.int 5 612,.int 6 614]) (Bn oN (Bl<|bW "ptypes_read_kind" 1133 398 1 615 1138)<|Bl<|oS 1482 ["p","flags","at","name","key","value"])<|Bn oT (Bl<|hF 105 "read_type_args")<|Bl oN)
noncomputable def XQ(P:bX):BT:=(Bn oT (Bn (oQ [.ref 88]) (Bn (oV [(74,164),(80,171)]) (Bn (oU 281) (Be (oS 1029 ["p"])<|Bl<|oS 1765 ["ds","rest","out","lax","count","i","d","flags","name","kind"])<|Bl<|bW "pattern_ahead" 1360 558 1 791 1366)<|Bn oT (Bl<|hF 97 "read_inter")<|Bl<|bW "may_be_judged" 1545 652 1 919 1549)<|Bn (iq 216 5) (Bn (oM 71 6 "Parser.is_name" 1 347) (Be oN<|Bl<|hF 159 "law")<|Bl oT)<|Bn (dc P [ev "__module__" 718 (md 1),ei "__firstlineno__" 722 168,er "__init__" 731 306,er "now" 738 313,er "ahead" 747 320,er "step" 755 327,er "is_sign" 763 334,er "is_word" 771 341,er "is_name" 779 348,er "eat_sign" 787 355,er "eat_word" 795 362,er "eat_name" 803 369,er "need_sign" 811 376,er "need_word" 819 383,er "need_name" 826 390,er "prop_name" 833 397,er "member_name" 840 404,er "fault" 849 411,er "fault_at" 859 418,er "can_end" 867 425,er "end_statement" 874 432,er "down" 881 439,er "up" 888 446,er "part" 897 453,er "mark" 904 460,er "back" 912 467,er "keep" 920 474,er "__static_attributes__" 943 475,er "__dict__" 945 478,er "__weakref__" 947 479,ev "__doc__" 948 vN] 4) (Bl<|oS 1284 ["p","at","name","links"])<|Bl<|oP 135 "read_param" 3 987)<|Bn (hM 39 0 "ParseStop.__init__") (Bn oT (Bn (oS 742 ["self","n","place"]) (Be (oP 84 "need_angle" 1 571)<|Bl oN)<|Bl oT)<|Bn (hM 71 20 "Parser.up") (Bl<|dc P [ev "__module__" 1225 (md 0),ei "__firstlineno__" 1229 468,er "take" 1240 698,er "__static_attributes__" 1241 699,ev "__doc__" 1242 vN] 2)<|Bl<|oS 1599 ["p","rows","seen","place","row"])<|Bn (dc P [ev "__module__" 630 (md 1),ei "__firstlineno__" 634 126,er "parse" 642 250,er "__static_attributes__" 643 251,er "__dict__" 645 254,er "__weakref__" 647 255,ev "__doc__" 648 vN] 4) (Bn oT (Bl oT)<|Bl<|hM 124 0 "FuncKindRule.take")<|Bn (bW "check_chain" 983 319 2 503 988) (Bl<|oM 106 0 "ObjectKindRule.take" 0 763)<|Bl<|oC "_law_text" "_law_text" 1711 790 1 3 1017 true vN vN (.ref 1019) 1714)
noncomputable def XR(P:bX):BT:=(Bn (oD "__init__" "Node.__init__" 266 36 6 29 275) (Bn (oS 325 ["nodes","at"]) (Bn (oU 129) (Bn oT (Be (hF 76 "check_height")<|Bl<|hF 145 "_law_tokens")<|Bl oT)<|Bn (oS 823 ["self"]) (Bl<|oP 93 "kind_with" 0 641)<|Bl<|oU 897)<|Bn (oF (aM 42 0) "Diags.__init__" (.ref 187) (md 2) 193) (Bn oN (Be oT<|Bl<|oS 1824 ["parts","types","tokens","p","node"])<|Bl<|oS 1428 ["token"])<|Bn oT (Bl<|dc P [ev "__module__" 1252 (md 0),eQ 1254 "NameKindRule",ei "__firstlineno__" 1256 475,er "take" 1268 717,er "__static_attributes__" 1269 718] 5)<|Bl oN)<|Bn (iq 94 2) (Bn oT (Bn (hF 70 "cut_rows") (Be oN<|Bl oN)<|Bl oT)<|Bn (oM 71 16 "Parser.fault_at" 1 417) (Bl oT)<|Bl<|hF 127 "read_ret")<|Bn (oD "__init__" "Token.__init__" 565 104 7 221 575) (Bn (oD "eat_sign" "Parser.eat_sign" 780 218 2 349 785) (Bl oT)<|Bl<|oP 121 "read_sig" 3 865)<|Bn oT (Bl oN)<|Bl oT)
noncomputable def XS(P:bX):BT:=(Bn oT (Bn oT (Bn (oF (aM 40 0) "HostFault.__init__" (.ref 139) (md 2) 145) (Bn (oS 674 ["self","p","place","token"]) (Be (oP 78 "names_prop" 1 529)<|Bl<|oP 147 "_law_plain" 6 1041)<|Bl<|oS 1354 ["p","n","token"])<|Bn (hM 71 14 "Parser.member_name") (Bl oN)<|Bl oT)<|Bn (oY 528 209) (Bn oT (Be (oU 591)<|Bl<|hF 157 "_law_without")<|Bl<|hF 119 "accessor_ahead")<|Bn (oD "back" "Parser.back" 905 288 2 461 910) (Bl<|oI 720)<|Bl oT)<|Bn (dc P [ev "__module__" 399 (md 2),eQ 401 "ParseStop",ei "__firstlineno__" 403 62,er "__init__" 412 126,er "__static_attributes__" 415 127] 5) (Bn (oU 175) (Bn (oM 71 0 "Parser.__init__" 1 305) (Be oT<|Bl<|bW "_law_member" 1794 938 2 1069 1802)<|Bl oT)<|Bn oN (Bl<|oK "ParenKindRule" 1220 468 688)<|Bl<|oP 129 "read_tparam" 3 945)<|Bn (oK "Part" 625 126 240) (Bn oT (Bl<|hF 91 "read_branch")<|Bl oJ)<|Bn (oS 977 ["token","kind","text"]) (Bl oT)<|Bl oT)
noncomputable def XT(P:bX):BT:=(Bn (oI 38) (Bn oT (Bn (iq 134 2) (Bn oN (Be (bW "eat_token" 1003 334 3 517 1009)<|Bl<|bW "_law_ends" 1730 870 2 1029 1741)<|Bl oN)<|Bn oT (Bl oT)<|Bl<|iq 902 3)<|Bn oT (Bn (oS 759 ["self","text"]) (Be (hM 88 0 "KindRule.take")<|Bl oT)<|Bl oT)<|Bn (hM 71 22 "Parser.mark") (Bl oT)<|Bl<|oS 1620 ["p","token","flags","flag"])<|Bn (oF (aM 38 0) "TooDeep.__init__" (.ref 99) (md 2) 105) (Bn (hM 41 1 "Diag.row") (Bn (oK "Parser" 713 168 296) (Be (oS 1044 ["p"])<|Bl<|hF 151 "_law_sig")<|Bl<|hM 114 0 "MembersPart.parse")<|Bn oT (Bl<|hF 99 "read_hanging")<|Bl<|bW "read_tparams" 1563 673 1 933 1569)<|Bn (oI 230) (Bn (oM 71 8 "Parser.eat_word" 1 361) (Bl oT)<|Bl oT)<|Bn oN (Bl<|oS 1303 ["p","args"])<|Bl<|oP 141 "_law_row" 6 1001)
noncomputable def XU(P:bX):BT:=(Bn oN (Bn (oU 88) (Bn (dc P [ev "__module__" 453 (md 2),eQ 455 "Diag",ei "__firstlineno__" 457 72,er "__init__" 468 165,er "row" 475 172,er "__static_attributes__" 480 173] 6) (Bn (oY 696 281) (Be oT<|Bl oT)<|Bl oT)<|Bn (oD "fault" "Parser.fault" 841 245 3 405 847) (Bl<|oS 1192 ["p","node","parts"])<|Bl oT)<|Bn (oV [(104,226)]) (Bn (hM 71 6 "Parser.is_name") (Be (iq 598 0)<|Bl oT)<|Bl<|bW "read_named_member" 1449 610 2 853 1456)<|Bn (oM 71 24 "Parser.keep" 1 473) (Bl oT)<|Bl<|hF 135 "read_param")<|Bn (oS 408 ["self","text"]) (Bn (iq 182 2) (Bn oT (Be (hF 84 "need_angle")<|Bl<|oP 153 "_law_pop" 6 1081)<|Bl oN)<|Bn (oS 885 ["self"]) (Bl<|oM 100 0 "ParenKindRule.take" 0 697)<|Bl oT)<|Bn (oM 68 0 "Part.parse" 1 249) (Bn oN (Bl<|bW "extends_here" 1148 407 2 629 1153)<|Bl<|oS 1506 ["self","p","left","at","flags","tparams","params","ret"])<|Bn oT (Bl<|hM 106 0 "ObjectKindRule.take")<|Bl oN)
noncomputable def XV(P:bX):BT:=(Bn (oX "Node" tO tO 37 [] none 254 "object.__new__") (Bn (oP 35 "list_of" 4 69) (Bn (dc P [ev "__module__" 426 (md 2),eQ 428 "HostFault",ei "__firstlineno__" 430 67,er "__init__" 439 146,er "__static_attributes__" 442 147] 5) (Bn (oV [(132,270),(148,277)]) (Be oN<|Bl oN)<|Bl<|hF 107 "mapped_ahead")<|Bn (oM 71 12 "Parser.need_name" 1 389) (Bl oT)<|Bl<|dc P [ev "__module__" 1528 (md 3),eQ 1530 "RetPart",ei "__firstlineno__" 1532 648,er "parse" 1540 913,er "__static_attributes__" 1541 914] 5)<|Bn oT (Bn (oD "step" "Parser.step" 748 203 1 321 753) (Be oT<|Bl<|oP 155 "_law_read" 6 1093)<|Bl<|oP 117 "opens_sig" 3 837)<|Bn oT (Bl<|iq 706 0)<|Bl<|bW "read_access" 1607 729 1 961 1614)<|Bn (oS 380 ["self","number","text"]) (Bn oT (Bn oJ (Be (bW "read_prop_name" 1033 345 1 545 1038)<|Bl<|bW "_law_ret" 1778 919 3 1057 1785)<|Bl oT)<|Bn oT (Bl oT)<|Bl oN)<|Bn (oX "Token" tO tO 229 [] none 553 "object.__new__") (Bn (oS 791 ["self","text"]) (Bl<|oI 612)<|Bl oT)<|Bn (hF 72 "take_mark") (Bl<|bW "read_new_name" 1291 506 1 737 1297)<|Bl oT)
noncomputable def XW(P:bX):BT:=(Bn (hF 33 "twig") (Bn (oS 353 ["number","text"]) (Bn (oU 149) (Bn (oM 69 1 "Mark.put_back" 1 277) (Be oT<|Bl oT)<|Bl<|oP 109 "follows_param" 0 789)<|Bn oN (Bl<|bW "read_union" 1180 425 1 657 1186)<|Bl<|oI 916)<|Bn oT (Bn oT (Be (dc P [ev "__module__" 1116 (md 0),eQ 1118 "TypePart",ei "__firstlineno__" 1120 394,er "parse" 1128 609,er "__static_attributes__" 1129 610] 5)<|Bl oN)<|Bl oN)<|Bn (oS 916 ["self","number"]) (Bl oT)<|Bl oT)<|Bn (iq 114 2) (Bn (dc P [ev "__module__" 495 (md 2),eQ 497 "Diags",ei "__firstlineno__" 499 82,er "__init__" 508 194,er "put" 518 201,er "numbers" 524 206,er "__static_attributes__" 527 207] 7) (Bn oT (Be oT<|Bl<|oS 1808 ["stack","roots","node","height"])<|Bl<|hF 115 "read_members")<|Bn (oD "down" "Parser.down" 875 262 1 433 879) (Bl<|oS 1233 ["self","p","left","at","inner"])<|Bl oT)<|Bn (oS 638 ["self","p"]) (Bn (hM 71 10 "Parser.need_sign") (Bl oN)<|Bl<|oK "FuncKindRule" 1493 636 884)<|Bn (oP 74 "is_token" 1 501) (Bl oT)<|Bl<|hF 143 "_law_signed")
noncomputable def XX(P:bX):BT:=(Bn oT (Bn (oS 344 [""]) (Bn (oS 435 ["self","text"]) (Bn (oD "__init__" "Mark.__init__" 663 132 2 265 668) (Be (oS 1015 ["token"])<|Bl<|oS 1747 ["name"])<|Bl<|bW "starts_func_kind" 1343 538 1 777 1348)<|Bn oT (Bl<|hF 95 "ret_annotation")<|Bl oT)<|Bn (oM 42 2 "Diags.numbers" 2 205) (Bn (oM 71 4 "Parser.is_sign" 1 333) (Be (dc P [ev "__module__" 1087 (md 0),ei "__firstlineno__" 1091 390,er "take" 1100 588,er "__static_attributes__" 1101 589,er "__dict__" 1103 592,er "__weakref__" 1105 593,ev "__doc__" 1106 vN] 4)<|Bl oT)<|Bl oT)<|Bn oN (Bl oT)<|Bl<|oP 133 "access_fits" 3 973)<|Bn (oU 109) (Bn (dc P [ev "__module__" 453 (md 2),ei "__firstlineno__" 457 72,er "__init__" 468 165,er "row" 475 172,er "__static_attributes__" 480 173,er "__dict__" 482 176,er "__weakref__" 484 177,ev "__doc__" 485 vN] 4) (Bn (oS 726 ["self","tokens","diags"]) (Be (oP 82 "read_member_name" 1 557)<|Bl oN)<|Bl<|dc P [ev "__module__" 1390 (md 3),ei "__firstlineno__" 1394 573,er "parse" 1402 812,er "__static_attributes__" 1403 813,ev "__doc__" 1404 vN] 2)<|Bn (hM 71 18 "Parser.end_statement") (Bl oJ)<|Bl<|oS 1575 ["p","flags","at","name","bound","given"])<|Bn oJ (Bn oT (Bl oT)<|Bl<|hF 123 "read_index_sig")<|Bn (bW "read_apart" 960 299 2 489 971) (Bl<|oP 105 "read_type_args" 0 749)<|Bl oT)
noncomputable def XY(P:bX):BT:=(Bn (bW "flagged" 311 47 5 57 319) (Bn (dc P [ev "__module__" 370 (md 2),eQ 372 "TooDeep",ei "__firstlineno__" 374 57,er "__init__" 385 106,er "__static_attributes__" 388 107] 5) (Bn (iq 154 2) (Bn oT (Be (hF 80 "literal_in_brackets")<|Bl<|hF 149 "_law_params")<|Bl<|dc P [ev "private" 1371 (.int 16384 240),ev "protected" 1372 (.int 32768 242),ev "public" 1373 (.int 65536 244),ev "readonly" 1374 (.int 131072 246)] 4)<|Bn (oS 853 ["self","number","at","args"]) (Bl<|oP 97 "read_inter" 0 669)<|Bl oT)<|Bn oN (Bn oN (Be oT<|Bl<|oP 159 "law" 6 1117)<|Bl<|oS 1462 ["p","name","flags","at","tparams","params","ret"])<|Bn (oY 944 477) (Bl<|hF 103 "read_dotted")<|Bl<|oS 1659 ["a","readonly","new","get","set","is","a-b","","0","07","1e3","in","\"\\\n\x02","out","42","$_"])<|Bn (oF (aM 39 0) "ParseStop.__init__" (.ref 119) (md 2) 125) (Bn (oS 504 ["self","file"]) (Bn (hM 71 2 "Parser.ahead") (Be (oS 1076 ["keyof","readonly","infer"])<|Bl<|oC "_law_kinds" "_law_kinds" 1815 958 1 3 1083 true vN vN (.ref 1085) 1818)<|Bl<|bW "read_member" 1416 587 1 825 1422)<|Bn (oM 71 20 "Parser.up" 1 445) (Bl<|oU 701)<|Bl<|hF 131 "check_params")<|Bn (oY 644 253) (Bn (oD "need_word" "Parser.need_word" 812 231 2 377 817) (Bl<|oS 1159 ["p","no_cond","saved","node"])<|Bl<|oM 124 0 "FuncKindRule.take" 3 893)<|Bn oT (Bl<|dc P [ev "__module__" 1315 (md 0),ei "__firstlineno__" 1319 519,er "take" 1329 764,er "__static_attributes__" 1330 765,ev "__doc__" 1331 vN] 2)<|Bl oT)
noncomputable def TF(P:bX):BT:=(Bn (boot_o_0 P) (Bn (boot_o_1 P) (Bn (dc P [ev "__name__" 165 (md 6),ev "__doc__" 166 vN,ev "__package__" 167 vN,ev "__loader__" 168 (.builtin "__main__.__loader__#opaque"),ev "__spec__" 169 vN,er "__annotations__" 170 6,er "__builtins__" 171 4,ev "__file__" 173 (vS "/claim/cut.py" 172),ev "__cached__" 174 vN,er "_wall" 193 21,ei "K_NAME" 197 8,ei "K_FUNC" 199 27,ei "K_PARAM" 201 28,ei "K_INDEXSIG" 203 63,ei "K_LIST" 205 71,ei "K_TKEY" 207 80,ei "K_TREF" 209 81,ei "K_TUNION" 211 83,ei "K_TINTER" 213 84,ei "K_TARRAY" 215 85,ei "K_TOBJ" 217 88,ei "K_TINDEX" 219 90,ei "K_TPRED" 221 96,ei "K_TPAREN" 223 98,ei "K_PROPSIG" 225 99,ei "K_TPARAM" 227 100,ei "F_METHOD" 229 32,ei "F_CALLSIG" 231 512,ei "F_CTORSIG" 233 1024,ei "F_TYPE" 235 2048,ei "F_OPT" 237 4096,ei "F_REST" 239 8192,ei "F_PRIVATE" 241 16384,ei "F_PROTECTED" 243 32768,ei "F_PUBLIC" 245 65536,ei "F_READONLY" 247 131072,ei "F_ASSERTS" 249 16777216,ei "F_IN" 251 268435456,ei "F_OUT" 253 536870912,er "Node" 291 38,er "leaf" 300 49,er "twig" 310 56,er "flagged" 321 63,er "list_of" 329 70,er "KeepError" 362 88,er "TooDeep" 391 109,er "ParseStop" 418 129,er "HostFault" 445 149,er "Diag" 487 175,er "Diags" 534 209,ei "T_END" 538 0,ei "T_NAME" 540 1,ei "T_WORD" 542 2,ei "T_NUM" 544 3,ei "T_STR" 546 4,ei "T_SIGN" 548 5,ei "T_TPL_WHOLE" 550 6,ei "T_TPL_HEAD" 552 7,er "Token" 591 230,ei "MAX_DEEP" 595 40,ei "MAX_CHAIN" 597 60,ei "MAX_HEIGHT" 599 160,er "JOINED" 603 235,ei "PART_TYPE" 605 1,ei "PART_EXPR" 607 2,ei "PART_STMT" 609 3,ei "PART_BLOCK" 611 4,ei "PART_FUNC" 613 5,ei "PART_CLASS" 615 6,ei "PART_MEMBERS" 617 9,ei "PART_PATTERN" 619 10,ei "PART_RETTYPE" 621 11,er "OWN_PARTS" 622 236,er "Part" 650 253,er "Mark" 702 281,er "cut_rows" 710 292,er "Parser" 950 477,er "take_mark" 959 488,er "read_apart" 973 495,er "is_token" 982 502,er "check_chain" 990 509,er "check_height" 1002 516,er "eat_token" 1011 523,er "names_prop" 1018 530,er "starts_prop" 1025 537,er "literal_in_brackets" 1032 544,er "read_prop_name" 1040 551,er "read_member_name" 1047 558,er "token_key" 1054 565,er "need_angle" 1064 572,er "KIND_WORDS" 1075 573,er "OPERATOR_WORDS" 1079 574,er "KindRule" 1108 591,er "TypePart" 1132 612,er "ptypes_read_kind" 1140 621,er "read_branch" 1147 628,er "extends_here" 1155 635,er "kind_with" 1165 642,er "annotation" 1172 649,er "ret_annotation" 1179 656,er "read_union" 1188 663,er "read_inter" 1197 670,er "read_operator" 1205 677,er "read_hanging" 1217 684,er "ParenKindRule" 1244 701,er "NameKindRule" 1272 720,er "refuse_odd_kind" 1280 729,er "read_dotted" 1290 736,er "read_new_name" 1299 743,er "read_type_args" 1307 750,er "ObjectKindRule" 1333 767,er "mapped_ahead" 1342 776,er "starts_func_kind" 1350 783,er "follows_param" 1359 790,er "pattern_ahead" 1368 797,er "PARAM_WORDS" 1379 798,ei "ACCESS_FLAGS" 1382 114688,er "MembersPart" 1406 815,er "read_members" 1415 824,er "read_member" 1424 831,er "opens_sig" 1431 838,er "word_before_name" 1440 845,er "accessor_ahead" 1448 852,er "read_named_member" 1458 859,er "read_sig" 1471 866,er "index_sig_ahead" 1478 873,er "read_index_sig" 1490 880,er "FuncKindRule" 1520 897,er "RetPart" 1544 916,er "may_be_judged" 1551 925,er "read_ret" 1562 932,er "read_tparams" 1571 939,er "read_tparam" 1583 946,er "read_params" 1595 953,er "check_params" 1606 960,er "read_access" 1616 967,er "access_fits" 1626 974,er "read_target" 1634 981,er "read_param" 1647 988,ev "_law_letters" 1651 (vS "abcdefghijklmnopqrstuvwxyzABCDEFGHIJKLMNOPQRSTUVWXYZ0123456789_$" 1650),er "_law_words" 1658 989,er "_law_names" 1675 990,er "_law_name" 1682 997,er "_law_row" 1688 1002,er "_law_tight" 1697 1009,er "_law_signed" 1710 1016,er "_law_text" 1716 1021,er "_law_tokens" 1729 1028,er "_law_ends" 1743 1035,er "_law_plain" 1750 1042,er "_law_tparams" 1761 1049,er "_law_params" 1777 1056,er "_law_ret" 1787 1063,er "_law_sig" 1793 1068,er "_law_member" 1804 1075,er "_law_pop" 1814 1082,er "_law_kinds" 1820 1087,er "_law_read" 1831 1094,er "_law_fits" 1841 1101,er "_law_without" 1852 1108,er "_law_told" 1858 1113,er "law" 1864 1118] 162) (Bn (boot_o_7 P) (Bn oT (Xo P)<|Xp P)<|Bn oJ (Xq P)<|Xr P)<|Bn oT (Bn (hF 0 "_wall") (Xu P)<|Xv P)<|Bn (oK "Node" 256 34 25) (Xw P)<|Xx P)<|Bn (boot_o_5 P) (Bn (boot_o_9 P) (Bn (oS 190 ["k"]) (Xy P)<|Xz P)<|Bn oT (XA P)<|XC P)<|Bn (oK "<module>" 182 1 11) (Bn (oP 0 "_wall" 7 20) (XD P)<|XE P)<|Bn oT (XF P)<|XG P)<|Bn ⟨vN,none,.dict #[(vE P "type.__subclasses__.Exception.0" 359<|vI 88),vE P "type.__subclasses__.Exception.n" 360 (vI 1)] 2,#[]⟩ (Bn (boot_o_4 P) (Bn (boot_o_8 P) (Bn oN (XH P)<|XI P)<|Bn (dc P [ev "__module__" 261 (md 4),eQ 263 "Node",ei "__firstlineno__" 265 34,er "__init__" 277 35,er "__static_attributes__" 284 36] 5) (XJ P)<|XK P)<|Bn ⟨vN,none,.fields #[(vI 1),vI 0,.ref 20,vI 34,vI 0,.ref 27,vI 43,vI 0,.ref 48,vI 45,vI 0,.ref 55,vI 47,vI 0,.ref 62,vI 49,vI 0,.ref 69,vI 52,vI 0,.ref 76,vI 57,vI 0,.ref 97,vI 62,vI 0,.ref 117,vI 67,vI 0,.ref 137,vI 72,vI 0,.ref 157,vI 82,vI 0,.ref 185,vI 102,vI 0,.ref 219,vI 126,vI 0,.ref 242,vI 130,vI 0,.ref 263,vI 165,vI 0,.ref 291,vI 168,vI 0,.ref 298,vI 293,vI 0,.ref 487,vI 299,vI 0,.ref 494,vI 317,vI 0,.ref 501,vI 319,vI 0,.ref 508,vI 323,vI 0,.ref 515,vI 334,vI 0,.ref 522,vI 339,vI 0,.ref 529,vI 341,vI 0,.ref 536,vI 343,vI 0,.ref 543,vI 345,vI 0,.ref 550,vI 356,vI 0,.ref 557,vI 360,vI 0,.ref 564,vI 372,vI 0,.ref 571,vI 390,vI 0,.ref 580,vI 394,vI 0,.ref 601,vI 398,vI 0,.ref 620,vI 403,vI 0,.ref 627,vI 407,vI 0,.ref 634,vI 411,vI 0,.ref 641,vI 417,vI 0,.ref 648,vI 421,vI 0,.ref 655,vI 425,vI 0,.ref 662,vI 434,vI 0,.ref 669,vI 443,vI 0,.ref 676,vI 448,vI 0,.ref 683,vI 468,vI 0,.ref 690,vI 475,vI 0,.ref 709,vI 488,vI 0,.ref 728,vI 496,vI 0,.ref 735,vI 506,vI 0,.ref 742,vI 512,vI 0,.ref 749,vI 519,vI 0,.ref 756,vI 526,vI 0,.ref 775,vI 538,vI 0,.ref 782,vI 551,vI 0,.ref 789,vI 558,vI 0,.ref 796,vI 573,vI 0,.ref 804,vI 577,vI 0,.ref 823,vI 587,vI 0,.ref 830,vI 603,vI 0,.ref 837,vI 605,vI 0,.ref 844,vI 608,vI 0,.ref 851,vI 610,vI 0,.ref 858,vI 618,vI 0,.ref 865,vI 623,vI 0,.ref 872,vI 627,vI 0,.ref 879,vI 636,vI 0,.ref 886,vI 648,vI 0,.ref 905,vI 652,vI 0,.ref 924,vI 654,vI 0,.ref 931,vI 673,vI 0,.ref 938,vI 682,vI 0,.ref 945,vI 700,vI 0,.ref 952,vI 719,vI 0,.ref 959,vI 729,vI 0,.ref 966,vI 740,vI 0,.ref 973,vI 751,vI 0,.ref 980,vI 757,vI 0,.ref 987,vI 776,vI 0,.ref 996,vI 780,vI 0,.ref 1001,vI 782,vI 0,.ref 1008,vI 785,vI 0,.ref 1015,vI 790,vI 0,.ref 1020,vI 829,vI 0,.ref 1027,vI 870,vI 0,.ref 1034,vI 887,vI 0,.ref 1041,vI 889,vI 0,.ref 1048,vI 899,vI 0,.ref 1055,vI 919,vI 0,.ref 1062,vI 932,vI 0,.ref 1067,vI 938,vI 0,.ref 1074,vI 951,vI 0,.ref 1081,vI 958,vI 0,.ref 1086,vI 983,vI 0,.ref 1093,vI 994,vI 0,.ref 1100,vI 1008,vI 0,.ref 1107,vI 1024,vI 0,.ref 1112,vI 1046,vI 0,.ref 1117],#[]⟩ (Bn (bW "_wall" 187 1 1 15 191) (XM P)<|XN P)<|Bn (iq 24 4) (XO P)<|XQ P)<|Bn (boot_o_6 P) (Bn (boot_o_10 P) (Bn oT (XR P)<|XS P)<|Bn (oV [(36,34)]) (XT P)<|XU P)<|Bn ⟨.type "frame",none,.plain,#[(some<|.ref 13),some (.ref 3),some (.ref 3),none,some (vS "__main__" 164),none,some (.ref 0)]⟩ (Bn oT (XV P)<|XW P)<|Bn oN (XX P)<|XY P)
noncomputable def su:BT->Nat->BT
 |.nil,_=>.nil
 |.node v l r,n=>match Nat.beq n 0 with
  |true=>.nil
  |false=>.node v (su l<|n/2)<|su r<|(n-1)/2
noncomputable def wO(o:Obj)(m:Nat)(a:ak)(b:Nat):Obj:=match o.data with
 |.dict c _=>{o with data:=.dict ⟨match c.toList.take m with|e::r=>{e with val:=a}::r|[]=>[]⟩ b}
 |_=>o
noncomputable def wQ(o:Obj)(m:Nat):Obj:=match o.data with
 |.fields a=>{o with data:=.fields ⟨a.toList.take m⟩}
 |_=>o
noncomputable def uy(o:Obj)(m:Nat):Obj:=match o.data with
 |.cls c=>{o with data:=.cls {c with subclasses:=c.subclasses.take m}}
 |_=>o
noncomputable def DH(P:bX):BT:=((((su (TF P) 15).set 2 λ_=>boot_o_2 P).set 3 λo=>wO o 9 (vS "__main__" 164) 9).set 12 λo=>wQ o 0)
noncomputable def zx(P:bX):BT:=(((su (TF P) 235).set 3 λo=>wO o 59 (vS "kindkeep.scanner" 535) 59).set 12 λo=>wQ o 39)
noncomputable def zy(P:bX):BT:=(((((su (TF P) 704).set 3 λo=>wO o 105 (vS "kindkeep.ptypes" 1065) 105).set 12 λo=>wQ o 129).set 253 λo=>uy o 1).set 591 λo=>uy o 1)
noncomputable def uz(P:bX):BT:=(((((su (TF P) 798).set 3 λo=>wO o 115 (vS "kindkeep.pmembers" 1369) 115).set 12 λo=>wQ o 159).set 253 λo=>uy o 1).set 591 λo=>uy o 3)
noncomputable def uA(P:bX):BT:=(((((su (TF P) 799).set 3 λo=>wO o 116 (vS "kindkeep.pmembers" 1369) 116).set 12 λo=>wQ o 159).set 253 λo=>uy o 1).set 591 λo=>uy o 3)
noncomputable abbrev zB(P:bX):BT:=TF P
noncomputable def jk:dA:={scope:=pw.main.scope,locals:=mainNs,globals:=mainNs,cells:=[],code:=.ref 13,frame:=some 14}
noncomputable def wR(l:List cA)(a n:Nat):List cA:=(l.drop a).take n
noncomputable def bA:List cA:=wR Bd 0 53
noncomputable def bB:List cA:=wR Bd 53 48
noncomputable def bC:List cA:=wR Bd 101 11
noncomputable def bD:List cA:=wR Bd 112 1
noncomputable def bE:List cA:=wR Bd 113 47
noncomputable abbrev sT(t:bX->BT)(n tk:Nat)(w:ee)(a:jv):SharedT:=⟨t w.params,n,{},uS [],{},tk,a⟩
noncomputable abbrev lU(l b:List cA)(p:cJ):Thread:=piecesOf l jk (lm b jk) p [Fo q0]
theorem pA:∀w:ee,(λ(p:ky) (b:List cA) (os:jv)=>rg rh p w 11 (some<|.ref 6) 1 2502 (sT DH 15 187 w os)<|lU bA b q0)=λp b os=>some (.next,sT zx 235 592 w os,lm b jk,⟨102,0,110,38⟩):=λw=>by kernel_rfl
theorem pB:∀w:ee,(λ(p:ky) (b:List cA) (os:jv)=>rg rh p w 11 (some<|.ref 6) 1 3136 (sT zx 235 592 w os)<|lU bB b ⟨102,0,110,38⟩)=λp b os=>some (.next,sT zy 704 1245 w os,lm b jk,⟨468,0,474,46⟩):=λw=>by kernel_rfl
theorem pC:∀w:ee,(λ(p:ky) (b:List cA) (os:jv)=>rg rh p w 11 (some<|.ref 6) 1 750 (sT zy 704 1245 w os)<|lU bC b ⟨468,0,474,46⟩)=λp b os=>some (.next,sT uz 798 1371 w os,lm b jk,⟨570,0,570,8⟩):=λw=>by kernel_rfl
noncomputable abbrev wf(w:ee)(b:Bool):ee:=w.withFollow "special-get-raises" b
theorem XZ:∀w:ee,(λ(p:ky) (b:List cA) (os:jv)=>rg rh p (wf w false) 11 (some<|.ref 6) 1 75 (sT uz 798 1371 (wf w false) os)<|lU bD b ⟨570,0,570,8⟩)=λp b os=>some (.next,sT uA 799 1380 (wf w false) os,lm b jk,⟨571,0,571,11⟩):=λw=>by kernel_rfl
theorem X0:∀w:ee,(λ(p:ky) (b:List cA) (os:jv)=>rg rh p (wf w true) 11 (some<|.ref 6) 1 75 (sT uz 798 1371 (wf w true) os)<|lU bD b ⟨570,0,570,8⟩)=λp b os=>some (.next,sT uA 799 1380 (wf w true) os,lm b jk,⟨571,0,571,11⟩):=λw=>by kernel_rfl
theorem pE:∀w:ee,(λ(p:ky) (b:List cA) (os:jv)=>rg rh p w 11 (some<|.ref 6) 1 2045 (sT uA 799 1380 w os)<|lU bE b ⟨571,0,571,11⟩)=λp b os=>some (.next,sT zB 1119 1865 w os,lm b jk,⟨1046,0,1066,40⟩):=λw=>by kernel_rfl
theorem hb:Oj pw=bA++(bB++(bC++(bD++(bE++[])))):=by kernel_rfl
noncomputable abbrev cE:Code:=lm (bA++(bB++(bC++(bD++(bE++[]))))) jk
noncomputable abbrev SB(w:ee)(a:jv):ay:=(sT DH 15 187 w a).abs
noncomputable abbrev SK(w:ee)(a:jv):ay:=(sT zB 1119 1865 w a).abs
theorem X1:∀(w:ee) (os:jv),topGo s1 pw w 11 (some<|.ref 6) 12 ⟨ri w.params,uS [],Fp,Fs,os⟩ (topStub pw)=some (SB w os,⟨denote s1 cE,cE,q0,[Fo q0]⟩):=λw os=>by kernel_rfl
theorem X2:∀(w:ee) (os:jv),segRun s1 pw w 11 (some<|.ref 6) 1 1 (SB w os) (blockOf (bA++(bB++(bC++(bD++(bE++[]))))) jk cE q0 [Fo q0])=some (.next,SB w os,cE,q0):=λw os=>by kernel_rfl
theorem X3:∀(w:ee) (os:jv),topRun s1 pw w 11 (some<|.ref 6) 2 (SK w os) (restOf [] jk cE ⟨1046,0,1066,40⟩ [Fo q0])=some (SK w os):=λw os=>by kernel_rfl
theorem X4: @segRunT= @rg:=Fast.te10110043849684766642
theorem X5:s1=rh:=Fast.te14364793385576792824
theorem wS{s s':jv->SharedT}{t:List cA->Thread}{c:List cA->Code}(h:(λ(p:ky) (b:List cA) (a:jv)=>rg rh p w 11 (some<|.ref 6) 1 n (s a)<|t b)=λp b a=>some (.next,s' a,c b,q)):
  segRun s1 p w 11 (some<|.ref 6) 1 n (s a).abs (t b)=some (.next,(s' a).abs,c b,q):=
 segRun_of (by rw[X4,X5];exact congrFun (congrFun (congrFun h p) b) a)
theorem pD:∀w:ee,(λ(p:ky) (b:List cA) (os:jv)=>rg rh p w 11 (some<|.ref 6) 1 75 (sT uz 798 1371 w os)<|lU bD b ⟨570,0,570,8⟩)=λp b os=>some (.next,sT uA 799 1380 w os,lm b jk,⟨571,0,571,11⟩):=
 byRow2 "special-get-raises" XZ X0
theorem X6:∀(w:ee) (os:jv),topRun s1 pw w 11 (some<|.ref 6) (12+(1+(2502+(3136+(750+(75+(2045+2))))))) ⟨ri w.params,uS [],Fp,Fs,os⟩ (topStub pw)=some (SK w os):=λw os=>
 go_top (X1 w os) (piece_block (X2 w os)<|AI (wS (s:=sT DH 15 187 w) (s':=sT zx 235 592 w) (t:=λb=>lU bA b q0) (c:=λb=>lm b jk)<|pA w)<|AI (wS (s:=sT zx 235 592 w) (s':=sT zy 704 1245 w) (t:=λb=>lU bB b ⟨102,0,110,38⟩) (c:=λb=>lm b jk)<|pB w)<|AI (wS (s:=sT zy 704 1245 w) (s':=sT uz 798 1371 w) (t:=λb=>lU bC b ⟨468,0,474,46⟩) (c:=λb=>lm b jk)<|pC w)<|AI (wS (s:=sT uz 798 1371 w) (s':=sT uA 799 1380 w) (t:=λb=>lU bD b ⟨570,0,570,8⟩) (c:=λb=>lm b jk)<|pD w)<|AI (wS (s:=sT uA 799 1380 w) (s':=sT zB 1119 1865 w) (t:=λb=>lU bE b ⟨571,0,571,11⟩) (c:=λb=>lm b jk)<|pE w)<|X3 w os)
theorem X7:∀w:ee,(fencedOpening s1 pw w 20000).map (λs=>(s.heap,s.gens,s.drawn,s.toks))=some (ri w.params,uS [],Fp,Fs):=boot_open rfl (by decide) λ_=>rfl
theorem X8:∀w:ee,((ri w.params).isNs ez&&(uS []:Array GenState).size==0,(ri w.params).objs.size,(ri w.params).nsMap ez "__annotations__")=(true,11,some<|.ref 6):=λw=>by kernel_rfl
noncomputable abbrev qv:ky:={pw with main:={pw.main with body:=pw.main.body.drop 159}}
noncomputable def gl:List aw:=(["_wall","K_NAME","K_FUNC","K_PARAM","K_INDEXSIG","K_LIST","K_TKEY","K_TREF","K_TUNION","K_TINTER","K_TARRAY","K_TOBJ","K_TINDEX","K_TPRED","K_TPAREN","K_PROPSIG","K_TPARAM","F_METHOD","F_CALLSIG","F_CTORSIG","F_TYPE","F_OPT","F_REST","F_PRIVATE","F_PROTECTED","F_PUBLIC","F_READONLY","F_ASSERTS","F_IN","F_OUT","Node","leaf","twig","flagged","list_of","KeepError","TooDeep","ParseStop","HostFault","Diag","Diags","T_END","T_NAME","T_WORD","T_NUM","T_STR","T_SIGN","T_TPL_WHOLE","T_TPL_HEAD","Token","MAX_DEEP","MAX_CHAIN","MAX_HEIGHT","JOINED","PART_TYPE","PART_EXPR","PART_STMT","PART_BLOCK","PART_FUNC","PART_CLASS","PART_MEMBERS","PART_PATTERN","PART_RETTYPE","OWN_PARTS","Part","Mark","cut_rows","Parser","take_mark","read_apart","is_token","check_chain","check_height","eat_token","names_prop","starts_prop","literal_in_brackets","read_prop_name","read_member_name","token_key","need_angle","KIND_WORDS","OPERATOR_WORDS","KindRule","TypePart","ptypes_read_kind","read_branch","extends_here","kind_with","annotation","ret_annotation","read_union","read_inter","read_operator","read_hanging","ParenKindRule","NameKindRule","refuse_odd_kind","read_dotted","read_new_name","read_type_args","ObjectKindRule","mapped_ahead","starts_func_kind","follows_param","pattern_ahead","PARAM_WORDS","ACCESS_FLAGS","MembersPart","read_members","read_member","opens_sig","word_before_name","accessor_ahead","read_named_member","read_sig","index_sig_ahead","read_index_sig","FuncKindRule","RetPart","may_be_judged","read_ret","read_tparams","read_tparam","read_params","check_params","read_access","access_fits","read_target","read_param","_law_letters","_law_words","_law_names","_law_name","_law_row","_law_tight","_law_signed","_law_text","_law_tokens","_law_ends","_law_plain","_law_tparams","_law_params","_law_ret","_law_sig","_law_member","_law_pop","_law_kinds","_law_read","_law_fits","_law_without","_law_told"]:List String).map Az
theorem X9:∀w:ee,∀os,(staticsOk (xO pw.main.body) (ri w.params) (SK w os).heap&&namesBound pw (SK w os).heap&&gensDone (SK w os)&&laidKept (ri w.params) (SK w os).heap)=true:=λw os=>by kernel_rfl
theorem Yb:∀w:ee,∀os,afd ((recsOf qv).map (·.name)) (ownsOf qv) [] (SK w os)=expectedOf qv:=λw os=>by kernel_rfl
theorem Yc:∀w:ee,∀os,(SK w os).heap.bltView=bltViewBooted:=λw os=>by kernel_rfl
theorem Yd:∀w:ee,∀os,(SK w os).heap.keysOk (xP qv gl) ((recsOf qv).map (·.name)) ((litsOf qv).map (·.1)) ((clssOf qv<|xP qv gl).map (·.name))=true:=λw os=>by kernel_rfl
theorem Ye:∀w:ee,∀os,((SK w os).heap.accountedOkI (xO pw.main.body)&&(SK w os).heap.isNs ez&&(SK w os).heap.isNs uX)=true:=λw os=>by kernel_rfl
theorem Yg:∀w:ee,∀os,tablesOk qv (SK w os).heap=true:=λw os=>by kernel_rfl
theorem Yh:∀w:ee,∀os,tabsOk qv (SK w os)=true:=λw os=>by kernel_rfl
theorem Yi:∀w:ee,∀os,pinSeenD qv (drecsOf qv) (SK w os)=pinGoodD (drecsOf qv):=λw os=>by kernel_rfl
theorem Yj:∀w:ee,∀os,plainSeenE qv (xP qv gl) (SK w os)=plainGoodE qv (xP qv gl):=λw os=>by kernel_rfl
theorem Yk:∀w:ee,∀os,plainSeenD qv gl (SK w os)=plainGoodD qv gl:=λw os=>by kernel_rfl
theorem Yl:∀w:ee,∀os,wideSeen qv (SK w os)=wideGood qv:=λw os=>by kernel_rfl
theorem Ym:∀w:ee,∀os,clsSeenW qv gl (SK w os)=clsGoodW qv gl:=λw os=>by kernel_rfl
noncomputable def Yn(P:bX)(a:aH):Obj:=((TF P).get a).getD default
noncomputable def KA:List aH:=[3,6,20,21,34,35,36,37,38,39,40,48,49,55,56,62,63,69,70,78,84,85,86,87,88,89,99,105,106,107,108,109,119,125,126,127,128,129,139,145,146,147,148,149,164,165,171,172,173,174,175,176,177,187,193,194,200,201,205,206,207,208,209,210,211,226,227,228,229,230,231,232,235,236,249,250,251,252,253,254,255,270,271,277,278,279,280,281,282,283,291,292,305,306,312,313,319,320,326,327,333,334,340,341,347,348,354,355,361,362,368,369,375,376,382,383,389,390,396,397,403,404,410,411,417,418,424,425,431,432,438,439,445,446,452,453,459,460,466,467,473,474,475,476,477,478,479,487,488,494,495,501,502,508,509,515,516,522,523,529,530,536,537,543,544,550,551,557,558,564,565,571,572,573,574,587,588,589,590,591,592,593,608,609,610,611,612,620,621,627,628,634,635,641,642,648,649,655,656,662,663,669,670,676,677,683,684,697,698,699,700,701,716,717,718,719,720,728,729,735,736,742,743,749,750,763,764,765,766,767,775,776,782,783,789,790,796,797,798,811,812,813,814,815,823,824,830,831,837,838,844,845,851,852,858,859,865,866,872,873,879,880,893,894,895,896,897,912,913,914,915,916,924,925,931,932,938,939,945,946,952,953,959,960,966,967,973,974,980,981,987,988,989,990,996,997,1001,1002,1008,1009,1015,1016,1020,1021,1027,1028,1034,1035,1041,1042,1048,1049,1055,1056,1062,1063,1067,1068,1074,1075,1081,1082,1086,1087,1093,1094,1100,1101,1107,1108,1112,1113,1117,1118]
noncomputable def KF(P:bX):cU:=KA.map λa=>(a,Yn P a)
theorem ka:∀P,KA=(KF P).map (·.1):=λP=>by unfold KF;rw[rf];exact(List.map_id _).symm
noncomputable abbrev HK:Hook:=kHook KF KA ka
theorem Yo:∀(w:ee) (os:jv),HK.obs (SK w os)=HK.val w:=λw os=>by kernel_rfl
noncomputable abbrev H1(P:bX):cz:=absHeap (zB P) 1119 {}
noncomputable abbrev wT:OpenRow:=AB.row
noncomputable abbrev wU:ay->Bool:=λs=>recOk (RowW.records wT.toRowW) s
theorem Yp:LeftO wT.prog qv gl wU HK.obs HK.val 20000:=by
 refine LeftO.of_pieces (p:=pw) (g0:=true) (H₀:=ri) (H₁:=H1) (gs₀:=uS []) (gs₁:=uS []) (d₀:=Fp) (d₁:={}) (k₀:=Fs) (k₁:=1865) X7 X8 X6 (by decide) λw=>funext λos=>?_;have a:((SK w os).heap.keysOk (xP qv gl) ((recsOf qv).map (·.name)) ((litsOf qv).map (·.1)) ((clssOf qv<|xP qv gl).map (·.name))&&(SK w os).heap.accountedOkI (xO pw.main.body)&&(SK w os).heap.isNs ez&&(SK w os).heap.isNs uX&&tablesOk qv (SK w os).heap&&wU (SK w os)&&(if true then(SK w os).gens.size==0 else !leftWithCleanup (SK w os).gens))=true:=by
  have b:=Ye w os;simp only[ol] at b;rw[Yd w os,b.1.1,b.1.2,b.2,Yg w os]
  rfl
 have z:Ol qv gl (xO pw.main.body) wU true (SK w os)=openGood qv gl:=by
  unfold Ol openGood;rw[a,Yc w os,Yh w os,Yi w os,Yj w os,Yk w os,Yl w os,Ym w os];exact congrArg (λx=>(x,_))<|Yb w os
 show(_,Ol qv gl (xO pw.main.body) wU true<|SK w os,HK.obs<|SK w os)=_;rw[z,Yo w os];exact congrArg (λx=>(x,_))<|X9 w os
noncomputable abbrev lw:OpenLaw:=AB
theorem v1:sreFenced lw.prog.main=true:=by kernel_rfl
theorem v2:((aen lw.prog.main.body).isEmpty||lookedIntoSs (aen lw.prog.main.body) lw.prog.main.body)=true:=by kernel_rfl
theorem v3:namesResolve lw.prog=true:=by kernel_rfl
theorem v4:lw.prog.boundNames.all (λn=> !worldNames.contains n)=true:=by kernel_rfl
theorem v5:noRoadLSs {strict:= !(xO lw.prog.main.body).all cThrough.contains,foot:=none,bare:=(["vars","dir","locals"]:List aw).filter<|readsOut lw.prog lw.prog.main.body} lw.prog.main.body=true:=by kernel_rfl
theorem v6:(Ft lw.prog lw.prog.main.body λ_ n=>attrL n)=true:=by kernel_rfl
theorem Yq:looksOpen lw.prog=true:=gD (gD (gD (gD (gD v1 v2) v3) v4) v5) v6
theorem w1:lw.row.wellSaid=true:=by
 unfold OpenRow.wellSaid OpenRow.partSaid;rw[show looksOpen lw.row.prog=true from Yq]
 kernel_rfl
theorem w2:decide (lw.foot<=(Oj lw.prog).length)=true:=by kernel_rfl
theorem w3:lw.footing.all footLine=true:=by kernel_rfl
theorem w4:noClassBlock lw.prog lw.footing=true:=by kernel_rfl
theorem w5:lw.most.all (λn=>decide (63<=n))=true:=by kernel_rfl
theorem w6:lw.bound.all (λn=>decide (2^63<=n))=true:=by kernel_rfl
theorem w7:noRoadLSs {strict:=true,foot:=some lw.bound',writes:=lw.writes,may:=lw.may} lw.footing=true:=by kernel_rfl
theorem w8:defStands lw.about lw.above=true:=by kernel_rfl
theorem w9:lw.namesIt=true:=by kernel_rfl
theorem Yr:(["type","isinstance","issubclass","getattr","hasattr"]:List aw).all (λn=>lw.about !=[n])=true:=by kernel_rfl
theorem Ys:lw.bound'.all (λn=> !aeo n||lw.about==[n]|| !lw.reads n)=true:=by kernel_rfl
theorem Yt:(!lw.writes||(lw.prog.main.body.flatMap aep).all λn=> !lw.reads n)=true:=by kernel_rfl
theorem Yu:(lw.prog.main.body.flatMap aep).all (λn=> !lw.reads n||(drawsOf n lw.prog.main.body).all λa=>a.2 !=("attrgetter":aw)&&a.2 !=("methodcaller":aw))=true:=by kernel_rfl
theorem Yv:Ft lw.prog lw.footing (λsc n=>(!(["type","isinstance","issubclass","getattr","hasattr"]:List aw).contains n||sc.names.lookup n==some .globalImplicit)&&(lw.may !=some n||sc.kind== .module||sc.names.lookup n==some .globalImplicit))=true:=by kernel_rfl
theorem w15:lw.own.contains lw.name=true:=by kernel_rfl
theorem w16:(lw.own.eraseDups.length==lw.own.length)=true:=by kernel_rfl
theorem w17:lw.own.all (λn=> !aeo n)=true:=by kernel_rfl
theorem w18:Ft lw.prog lw.above (λ_ n=> !lw.own.contains n)=true:=by kernel_rfl
theorem w19:(Ft lw.prog lw.footing λsc n=>sc.kind== .module||sc.names.lookup n !=some .globalExplicit)=true:=by kernel_rfl
theorem Yw:lw.wellSaid=true:=gD (gD (gD (gD (gD (gD (gD (gD (gD (gD (gD (gD (gD (gD (gD (gD (gD (gD w1 w2) w3) w4) w5) w6) w7) w8) w9) Yr) Ys) Yt) Yu) Yv) w15) w16) w17) w18) w19
theorem Yx(a:∀d b,defOf qv wT.name=some (d,b)->WalkO qv gl (λ_ _=>True) HK.says wT.toRowW d b λf c=>ku f c):AB.Holds:=by
 refine holds_law Yw λsaid=>holds_open (r:=wT) (q:=qv) (loose:=gl) (Xt:=wU) (XP:=λ_ _=>True) (Yf:=HK.obs) (Ya:=HK.val) (YP:=HK.says) (N:=20000) Yp HK.of HK.keeps (λ_ _=>trivial) (λ_ _ _ _ _=>trivial) (by rfl) (by rfl) (by rfl) (λs e=>recFacts_of e) (by rfl) (said) (by decide+kernel) ⟨rfl,rfl,rfl,rfl,rfl,by decide+kernel⟩ ?hw ?hc
 case hw=>exact⟨[.list [.int 3,.int 1]],by decide+kernel,by decide+kernel⟩
 case hc=>exact a _ _<|by rfl
end
universe i j q M N u6
section
variable{P Q R S T L V W:Prop}{Z:Prop}
theorem ly(h:P/\Q/\R)(k:P->Q->R->Z):Z:=k h.1 h.2.1 h.2.2
theorem u9(h:P/\Q/\R/\S)(k:P->Q->R->S->Z):Z:=k h.1 h.2.1 h.2.2.1 h.2.2.2
theorem OM(h:P/\Q/\R/\S/\T)(k:P->Q->R->S->T->Z):Z:=k h.1 h.2.1 h.2.2.1 h.2.2.2.1 h.2.2.2.2
theorem ON(h:P/\Q/\R/\S/\T/\L/\V/\W)(k:P->Q->R->S->T->L->V->W->Z):Z:=k h.1 h.2.1 h.2.2.1 h.2.2.2.1 h.2.2.2.2.1 h.2.2.2.2.2.1 h.2.2.2.2.2.2.1 h.2.2.2.2.2.2.2
end
section
variable{A:Sort i}{P Q R S T L V:A->Prop}{Z:Prop}(x:A)
theorem aB(h:∃x,P x/\Q x)(k:∀x,P x->Q x->Z):Z:=h.elim λx h=>k x h.1 h.2
theorem cF(h:∃x,P x/\Q x/\R x)(k:∀x,P x->Q x->R x->Z):Z:=h.elim λx h=>k x h.1 h.2.1 h.2.2
theorem F0(h:∃x,P x/\Q x/\R x/\S x)(k:∀x,P x->Q x->R x->S x->Z):Z:=h.elim λx h=>k x h.1 h.2.1 h.2.2.1 h.2.2.2
theorem A5(h:∃x,P x/\Q x/\R x/\S x/\T x/\L x/\V x)(k:∀x,P x->Q x->R x->S x->T x->L x->V x->Z):Z:=h.elim λx h=>k x h.1 h.2.1 h.2.2.1 h.2.2.2.1 h.2.2.2.2.1 h.2.2.2.2.2.1 h.2.2.2.2.2.2
theorem aD(a:P x)(b:Q x):∃x,P x/\Q x:=⟨x,a,b⟩
theorem dg(a:P x)(b:Q x)(c:R x):∃x,P x/\Q x/\R x:=⟨x,a,b,c⟩
theorem F3(a:P x)(b:Q x)(c:R x)(d:S x):∃x,P x/\Q x/\R x/\S x:=⟨x,a,b,c,d⟩
theorem F4(a:P x)(b:Q x)(c:R x)(d:S x)(e:T x):∃x,P x/\Q x/\R x/\S x/\T x:=⟨x,a,b,c,d,e⟩
theorem OO(a:P x)(b:Q x)(c:R x)(d:S x)(e:T x)(f:L x)(g:V x):∃x,P x/\Q x/\R x/\S x/\T x/\L x/\V x:=⟨x,a,b,c,d,e,f,g⟩
end
section
variable{A:Sort i}{B:Sort j}{P Q R S T:A->B->Prop}{Z:Prop}(x:A)(y:B)
theorem jx(h:∃x y,P x y)(k:∀x y,P x y->Z):Z:=h.elim λx h=>h.elim λy h=>k x y h
theorem eC(h:∃x y,P x y/\Q x y)(k:∀x y,P x y->Q x y->Z):Z:=h.elim λx h=>h.elim λy h=>k x y h.1 h.2
theorem cV(h:∃x y,P x y/\Q x y/\R x y)(k:∀x y,P x y->Q x y->R x y->Z):Z:=h.elim λx h=>h.elim λy h=>k x y h.1 h.2.1 h.2.2
theorem A6(h:∃x y,P x y/\Q x y/\R x y/\S x y)(k:∀x y,P x y->Q x y->R x y->S x y->Z):Z:=h.elim λx h=>h.elim λy h=>k x y h.1 h.2.1 h.2.2.1 h.2.2.2
theorem x6(h:∃x y,P x y/\Q x y/\R x y/\S x y/\T x y)(k:∀x y,P x y->Q x y->R x y->S x y->T x y->Z):Z:=h.elim λx h=>h.elim λy h=>k x y h.1 h.2.1 h.2.2.1 h.2.2.2.1 h.2.2.2.2
theorem gv(a:P x y):∃x y,P x y:=⟨x,y,a⟩
theorem cK(a:P x y)(b:Q x y):∃x y,P x y/\Q x y:=⟨x,y,a,b⟩
theorem cL(a:P x y)(b:Q x y)(c:R x y):∃x y,P x y/\Q x y/\R x y:=⟨x,y,a,b,c⟩
theorem m2(a:P x y)(b:Q x y)(c:R x y)(d:S x y):∃x y,P x y/\Q x y/\R x y/\S x y:=⟨x,y,a,b,c,d⟩
theorem A7(a:P x y)(b:Q x y)(c:R x y)(d:S x y)(e:T x y):∃x y,P x y/\Q x y/\R x y/\S x y/\T x y:=⟨x,y,a,b,c,d,e⟩
end
section
variable{A:Sort i}{B:Sort j}{E:Sort q}{P Q R S T L:A->B->E->Prop}{Z:Prop}(x:A)(y:B)(z:E)
theorem A8(h:∃x y z,P x y z)(k:∀x y z,P x y z->Z):Z:=h.elim λx h=>h.elim λy h=>h.elim λz h=>k x y z h
theorem iU(h:∃x y z,P x y z/\Q x y z)(k:∀x y z,P x y z->Q x y z->Z):Z:=h.elim λx h=>h.elim λy h=>h.elim λz h=>k x y z h.1 h.2
theorem te(h:∃x y z,P x y z/\Q x y z/\R x y z)(k:∀x y z,P x y z->Q x y z->R x y z->Z):Z:=h.elim λx h=>h.elim λy h=>h.elim λz h=>k x y z h.1 h.2.1 h.2.2
theorem ek(h:∃x y z,P x y z/\Q x y z/\R x y z/\S x y z)(k:∀x y z,P x y z->Q x y z->R x y z->S x y z->Z):Z:=h.elim λx h=>h.elim λy h=>h.elim λz h=>k x y z h.1 h.2.1 h.2.2.1 h.2.2.2
theorem x7(h:∃x y z,P x y z/\Q x y z/\R x y z/\S x y z/\T x y z)(k:∀x y z,P x y z->Q x y z->R x y z->S x y z->T x y z->Z):Z:=h.elim λx h=>h.elim λy h=>h.elim λz h=>k x y z h.1 h.2.1 h.2.2.1 h.2.2.2.1 h.2.2.2.2
theorem x8(h:∃x y z,P x y z/\Q x y z/\R x y z/\S x y z/\T x y z/\L x y z)(k:∀x y z,P x y z->Q x y z->R x y z->S x y z->T x y z->L x y z->Z):Z:=h.elim λx h=>h.elim λy h=>h.elim λz h=>k x y z h.1 h.2.1 h.2.2.1 h.2.2.2.1 h.2.2.2.2.1 h.2.2.2.2.2
theorem A9(a:P x y z):∃x y z,P x y z:=⟨x,y,z,a⟩
theorem lz(a:P x y z)(b:Q x y z):∃x y z,P x y z/\Q x y z:=⟨x,y,z,a,b⟩
theorem va(a:P x y z)(b:Q x y z)(c:R x y z):∃x y z,P x y z/\Q x y z/\R x y z:=⟨x,y,z,a,b,c⟩
theorem f5(a:P x y z)(b:Q x y z)(c:R x y z)(d:S x y z):∃x y z,P x y z/\Q x y z/\R x y z/\S x y z:=⟨x,y,z,a,b,c,d⟩
theorem m3(a:P x y z)(b:Q x y z)(c:R x y z)(d:S x y z)(e:T x y z):∃x y z,P x y z/\Q x y z/\R x y z/\S x y z/\T x y z:=⟨x,y,z,a,b,c,d,e⟩
theorem vb(a:P x y z)(b:Q x y z)(c:R x y z)(d:S x y z)(e:T x y z)(f:L x y z):∃x y z,P x y z/\Q x y z/\R x y z/\S x y z/\T x y z/\L x y z:=⟨x,y,z,a,b,c,d,e,f⟩
end
section
variable{A:Sort i}{B:Sort j}{E:Sort q}{F:Sort M}{P Q R S T:A->B->E->F->Prop}{Z:Prop}(x:A)(y:B)(z:E)(u:F)
theorem F5(h:∃x y z u,P x y z u)(k:∀x y z u,P x y z u->Z):Z:=h.elim λx h=>h.elim λy h=>h.elim λz h=>h.elim λu h=>k x y z u h
theorem vc(h:∃x y z u,P x y z u/\Q x y z u)(k:∀x y z u,P x y z u->Q x y z u->Z):Z:=h.elim λx h=>h.elim λy h=>h.elim λz h=>h.elim λu h=>k x y z u h.1 h.2
theorem Ba(h:∃x y z u,P x y z u/\Q x y z u/\R x y z u/\S x y z u/\T x y z u)(k:∀x y z u,P x y z u->Q x y z u->R x y z u->S x y z u->T x y z u->Z):Z:=h.elim λx h=>h.elim λy h=>h.elim λz h=>h.elim λu h=>k x y z u h.1 h.2.1 h.2.2.1 h.2.2.2.1 h.2.2.2.2
theorem OP(a:P x y z u)(b:Q x y z u):∃x y z u,P x y z u/\Q x y z u:=⟨x,y,z,u,a,b⟩
theorem Bb(a:P x y z u)(b:Q x y z u)(c:R x y z u)(d:S x y z u)(e:T x y z u):∃x y z u,P x y z u/\Q x y z u/\R x y z u/\S x y z u/\T x y z u:=⟨x,y,z,u,a,b,c,d,e⟩
end
section
variable{A:Sort i}{B:Sort j}{E:Sort q}{F:Sort M}{G:Sort N}{P Q R S T L V:A->B->E->F->G->Prop}{Z:Prop}(x:A)(y:B)(z:E)(u:F)(v:G)
theorem lB(h:∃x y z u v,P x y z u v/\Q x y z u v/\R x y z u v)(k:∀x y z u v,P x y z u v->Q x y z u v->R x y z u v->Z):Z:=h.elim λx h=>h.elim λy h=>h.elim λz h=>h.elim λu h=>h.elim λv h=>k x y z u v h.1 h.2.1 h.2.2
theorem vd(a:P x y z u v)(b:Q x y z u v)(c:R x y z u v):∃x y z u v,P x y z u v/\Q x y z u v/\R x y z u v:=⟨x,y,z,u,v,a,b,c⟩
theorem OQ(a:P x y z u v)(b:Q x y z u v)(c:R x y z u v)(d:S x y z u v)(e:T x y z u v):∃x y z u v,P x y z u v/\Q x y z u v/\R x y z u v/\S x y z u v/\T x y z u v:=⟨x,y,z,u,v,a,b,c,d,e⟩
theorem OR(a:P x y z u v)(b:Q x y z u v)(c:R x y z u v)(d:S x y z u v)(e:T x y z u v)(f:L x y z u v)(g:V x y z u v):∃x y z u v,P x y z u v/\Q x y z u v/\R x y z u v/\S x y z u v/\T x y z u v/\L x y z u v/\V x y z u v:=⟨x,y,z,u,v,a,b,c,d,e,f,g⟩
end
theorem ba{c:Type i}{a:c}{b:Prop}(h:none=some a):b:=nomatch h
theorem ve{c:Type i}{a:c}{b:Prop}(h:some a=none):b:=nomatch h
theorem c6{a:Prop}(h:true=false):a:=nomatch h
theorem bc{a:Prop}(h:false=true):a:=nomatch h
theorem jy{c:Type i}{a:c}{l:List c}{b:Prop}(h:a::l=[]):b:=nomatch h
theorem L1{l r t u:Nat}(h:l<=r)(e:t+r<=u+l:=by simp+arith only):t<=u:=acY (aE e (jp h u))
theorem L2{l r a r' t u:Nat}(h:l<=r)(b:a<=r')(e:t+(r+r')<=u+(l+a):=by simp+arith only):t<=u:=L1 (gn h b) e
theorem L3{l r d r' a b t u:Nat}(h:l<=r)(f:d<=r')(c:a<=b)(e:t+(r+(r'+b))<=u+(l+(d+a)):=by simp+arith only):t<=u:=L2 h (gn f c) e
theorem L4{l r d r' a b k f t u:Nat}(h:l<=r)(i:d<=r')(c:a<=b)(g:k<=f)(e:t+(r+(r'+(b+f)))<=u+(l+(d+(a+k))):=by simp+arith only):t<=u:=L3 h i (gn c g) e
theorem F1{l r:Nat}(h:l<=r)(e:r+1<=l:=by simp+arith only):False:=Nat.not_succ_le_self _ (aE e h)
theorem F2{l r a r':Nat}(h:l<=r)(b:a<=r')(e:r+r'+1<=l+a:=by simp+arith only):False:=F1 (gn h b) e
@[elab_as_elim] theorem vf{c:Sort i}{a b:c}{motive:c->Prop}(e:a=b)(h:motive b):motive a:=e▸h
@[elab_as_elim] theorem rwl{c:Sort i}{a b:c}{motive:c->Prop}(e:a=b)(h:motive a):motive b:=e▸h
theorem J{α:Sort u1}{a:α}:a=a:=rfl
theorem D{p:Prop}[Decidable p](h:decide p=true):p:=of_decide_eq_true h
noncomputable abbrev bI:List Nat:=[110,101,119]
noncomputable abbrev dO:List Nat:=[97,115,115,101,114,116,115]
noncomputable abbrev eX:List Nat:=[116,104,105,115]
noncomputable abbrev eY:List Nat:=[105,115]
noncomputable abbrev fd:List Nat:=[111,117,116]
noncomputable abbrev fL:List Nat:=[114,101,97,100,111,110,108,121]
noncomputable abbrev fz:List Nat:=[61,62]
noncomputable abbrev fM:List Nat:=[34,110,101,119,34]
noncomputable abbrev f2:List Nat:=[105,110]
noncomputable abbrev f3:List Nat:=[103,101,116]
noncomputable abbrev gF:List Nat:=[69,46,105,110]
noncomputable abbrev gs:List Nat:=[115,101,116]
noncomputable abbrev hN:List Nat:=[46,46,46]
noncomputable abbrev iS:List Nat:=[101,120,116,101,110,100,115]
noncomputable abbrev kT:List Nat:=[115,116,114,105,110,103]
noncomputable abbrev kU:List Nat:=[44,32]
noncomputable abbrev kB:List Nat:=[58,32]
noncomputable abbrev qe:List Nat:=[110,117,109,98,101,114]
noncomputable abbrev rj:List Nat:=[111,102]
noncomputable abbrev rk:List Nat:=[62,61]
noncomputable abbrev tc:List Nat:=[97,110,121]
noncomputable abbrev u7:List Nat:=[35,110,97,109,101]
noncomputable abbrev u8:List Nat:=[32,101,120,116,101,110,100,115,32]
noncomputable abbrev xW:List Nat:=[35,102,117,110,99]
noncomputable abbrev xX:List Nat:=[117,110,100,101,102,105,110,101,100]
noncomputable abbrev xY:List Nat:=[111,98,106,101,99,116]
noncomputable abbrev xZ:List Nat:=[110,101,118,101,114]
noncomputable abbrev x0:List Nat:=[118,111,105,100]
noncomputable abbrev x4:List Nat:=[110,117,108,108]
noncomputable abbrev x5:List Nat:=[115,121,109,98,111,108]
noncomputable abbrev AV:List Nat:=[34,92,10,2]
noncomputable abbrev AW:List Nat:=[97,115,115,101,114,116,115,32]
noncomputable abbrev AX:List Nat:=[32,105,115,32]
noncomputable abbrev AY:List Nat:=[105,110,32]
noncomputable abbrev AZ:List Nat:=[111,117,116,32]
noncomputable abbrev A0:List Nat:=[110,101,119,32]
noncomputable abbrev A1:List Nat:=[114,101,97,100,111,110,108,121,32]
noncomputable abbrev A3:List Nat:=[97,98,99,100,101,102,103,104,105,106,107,108,109,110,111,112,113,114,115,116,117,118,119,120,121,122,65,66,67,68,69,70,71,72,73,74,75,76,77,78,79,80,81,82,83,84,85,86,87,88,89,90,48,49,50,51,52,53,54,55,56,57,95,36]
noncomputable abbrev A4:List Nat:=[98,105,103,105,110,116]
noncomputable abbrev FY:List Nat:=[117,110,107,110,111,119,110]
noncomputable abbrev FZ:List Nat:=[98,111,111,108,101,97,110]
noncomputable abbrev OG:List Nat:=[105,110,32,111,117,116,32]
noncomputable abbrev OH:List Nat:=[114,101,97,100,111,110,108,121,32,91]
noncomputable abbrev OI:List Nat:=[34,92,34,92,92,92,110,92,120,48,50,34]
noncomputable abbrev OJ:List Nat:=[117,110,105,113,117,101]
noncomputable abbrev OK:List Nat:=[97,98,115,116,114,97,99,116]
noncomputable abbrev ae6:List Nat:=[97,32,110,97,109,101,115,112,97,99,101]
noncomputable abbrev ae7:List Nat:=[97,110,32,97,99,99,101,115,115,111,114,32,105,110,32,97,32,107,105,110,100]
theorem ax{a b:Prop}(h:a)(k:¬a):b:=absurd h k
theorem aN{c:Prop}{h:Decidable c}(hc:c){α:Sort u1}{t e:α}:ite c t e=t:=if_pos hc
theorem a9{c:Prop}{h:Decidable c}(hnc:¬c){α:Sort u1}{t e:α}:ite c t e=e:=if_neg hnc
theorem bH{α:Sort u1}{β:Sort u2}{a₁ a₂:α}(f:α→β)(h:a₁=a₂):f a₁=f a₂:=congrArg f h
theorem dH{p:Prop}[inst:Decidable p](h:p):decide p=true:=decide_eq_true h
theorem dT{p:Prop}[inst:Decidable p](h:¬p):decide p=false:=decide_eq_false h
theorem jw{p:Prop}[inst:Decidable p](h:decide p=false):¬p:=of_decide_eq_false h
theorem bl:True:=trivial
local macro_rules
  | `(tactic| rewrite [$e:term]) => `(tactic| first | refine vf ($e ..) ?_ | rewrite (config := {}) [$e:term])
  | `(tactic| rewrite [← $e:term]) => `(tactic| first | refine rwl ($e ..) ?_ | rewrite (config := {}) [← $e:term])
  | `(tactic| rw [$r:rwRule, $rs:rwRule,*]) => `(tactic| (rewrite [$r]; rw [$rs,*]))
theorem dn{P:Prop}(h:¬P->False):P:=Nh h
noncomputable abbrev At:=List Nat
noncomputable def At.bO:At:=[107,105,100,115]
noncomputable def At.q:At:=[97,112,112,101,110,100]
noncomputable def At.hQ:At:=[112,111,112]
noncomputable def At.aq:At:=[107,105,110,100]
noncomputable def At.a_:At:=[97]
noncomputable def At.jX:At:=[106,111,105,110]
noncomputable def At.cj:At:=[102,108,97,103,115]
noncomputable def At.cO:At:=f3
noncomputable def At.aP:At:=[116,101,120,116]
noncomputable def At.aJ:At:=[97,116]
noncomputable def At.jz:At:=[101,110,100]
noncomputable def At.kC:At:=[110,117,109]
noncomputable def At.gT:At:=[112,97,114,116,115]
noncomputable def At.fW:At:=[116,121,112,101,115]
noncomputable def At.i:At:=[110,111,119]
noncomputable def At.dU:At:=[100,105,97,103,115]
noncomputable def At.lC:At:=[114,111,119,115]
noncomputable def At.bS:At:=[100,101,101,112]
noncomputable def At.oG:At:=qe
noncomputable def At.rm:At:=[102,105,108,101]
noncomputable def At.iA:At:=[116,111,107,101,110,115]
noncomputable def At.qh:At:=[102,105,114,115,116,115]
noncomputable def At.qi:At:=[116,97,105,108,115]
noncomputable def At.rn:At:=[112,101,110,100,105,110,103]
noncomputable def At.lD:At:=[97,108,108,111,119,95,105,110]
noncomputable def At.rq:At:=[105,110,95,102,117,110,99]
noncomputable def At.rt:At:=[105,110,95,108,111,111,112]
noncomputable def At.tg:At:=[105,110,95,115,119,105,116,99,104]
noncomputable def At.ti:At:=[108,97,98,101,108,115]
noncomputable def At.hR:At:=[110,111,95,99,111,110,100]
noncomputable def At.tj:At:=[114,101,116,95,98,97,114]
noncomputable def At.vg:At:=[105,110,95,108,105,116,101,114,97,108]
noncomputable def At.vh:At:=[99,111,118,101,114,115]
noncomputable def At.vi:At:=[99,111,109,109,97,115]
noncomputable def At.vj:At:=[110,111,116,95,97,114,114,111,119]
noncomputable def At.tm:At:=[115,112,108,105,116,115]
noncomputable def At.x9:At:=[115,97,118,101,100]
noncomputable def At.b8:At:=[102,97,117,108,116]
noncomputable def At.j:At:=[115,116,101,112]
noncomputable def At.F6:At:=[102,97,117,108,116,95,97,116]
noncomputable def At.gw:At:=[112,117,116]
noncomputable def At.m4:At:=[108,105,110,101,95,98,101,102,111,114,101]
noncomputable def At.y:At:=[101,97,116,95,115,105,103,110]
noncomputable def At.F7:At:=[99,97,110,95,101,110,100]
noncomputable def At.F8:At:=[100,111,119,110]
noncomputable def At.yb:At:=[112,97,114,115,101]
noncomputable def At.up:At:=[117,112]
noncomputable def At.fX:At:=[105,115,95,115,105,103,110]
noncomputable def At.iV:At:=[110,101,101,100,95,115,105,103,110]
noncomputable def At.u:At:=[97,104,101,97,100]
noncomputable def At.fA:At:=[116,97,107,101]
noncomputable def At.tq:At:=[105,115,95,119,111,114,100]
noncomputable def At.be:At:=[112,97,114,116]
noncomputable def At.ms:At:=[105,115,95,110,97,109,101]
noncomputable def At.vk:At:=[110,101,101,100,95,110,97,109,101]
noncomputable def At.Bc:At:=[109,101,109,98,101,114,95,110,97,109,101]
noncomputable def At.OS:At:=[109,97,114,107]
noncomputable def At.ry:At:=[98,97,99,107]
noncomputable def At.yc:At:=[101,110,100,95,115,116,97,116,101,109,101,110,116]
noncomputable def At.Bf:At:=[112,114,111,112,95,110,97,109,101]
noncomputable def At.tt:At:=[101,97,116,95,119,111,114,100]
noncomputable def At.Bg:At:=[101,97,116,95,110,97,109,101]
noncomputable def At.yd:At:=[110,105,100]
noncomputable def At.Bh:At:=[97,114,103,115]
inductive eJ where
 |u|j|vl|q|i|vm|vn|vo|y|tu|tv|tw
 deriving DecidableEq
noncomputable abbrev Fn:=Nat
noncomputable def Fn.j:Fn:=1118
noncomputable def Fn.c7:Fn:=49
noncomputable def Fn.aK:Fn:=56
noncomputable def Fn.i:Fn:=63
noncomputable def Fn.gG:Fn:=649
inductive V where
 |none|i (b:Bool)|aa (i:Int)|ah (s:List Nat)
 |u (xs:List V)|af (xs:List V)|aQ (c:eJ) (fs:List (At×V))|dct (es:List (V×V))|ae (a:Nat)
inductive qf where
 |i (i:Nat)|j (v:V)
inductive f4 where|i|eA|j|q|y|u|rz
inductive qg where|eq|ne|lt|gt|ge|le|i|q|j|u
inductive Bi where|bK|ah|aa|i|j
set_option genCtorIdx false in
inductive E where
 |c (v:V)|qj (n:Nat)|l (i:Nat)
 |q (e:E) (a:At)|y (e i:E)|slc (e lo hi:E)
 |bJ (o:f4) (a b:E)|b9 (o:qg) (a b:E)
 |bN (a b:E)|or (a b:E)|cB (e:E)|bz (t a b:E)
 |ao (f:Fn) (as:List E)|ce (c:eJ) (as:List E)|bi (b:Bi) (as:List E)
 |aO (e:E) (m:At) (as:List E)
 |u (es:List E)|af (es:List E)|dct (ks vs:List E)
 |i (elt:E) (x:Nat) (it:E)|lE (elt:E) (x:Nat) (n:E)
 |j
set_option genCtorIdx false in
inductive S where
 |i (i:Nat) (e:E)|cQ (o:E) (a:At) (e:E)|iW (is:List Nat) (e:E)
 |de (i:Nat) (op:f4) (e:E)|oW (o:E) (a:At) (op:f4) (e:E)
 |ex (e:E)|bQ (t:E) (a b:List S)|gH (t:E) (b:List S)
 |y (i:Nat) (e:E) (b:List S)|jA (i:Nat) (e:E) (b:List S)
 |am (e:E)|u|q|Bj|ye (e:E)
 |m5 (i:Nat) (e:E) (h:List S)|nb (e:E) (h:List S)
 |j
inductive bY where
 |af (xs:List V)|aQ (c:eJ) (fs:List (At×V))|i
noncomputable abbrev Hp:=List bY
inductive R(α:Type) where
 |ok (a:α) (H:Hp)|q (H:Hp)|j
noncomputable def R.i{b c:Type}(r:R b)(f:b->Hp->R c):R c:=match r with
 |.ok a H=>f a H
 |.q H=>.q H
 |.j=>.j
inductive Fl where
 |aU|u|q|am (v:V)
noncomputable abbrev Lc:=List<|Option V
noncomputable abbrev ar(n:Int):E:=.c<|.aa n
noncomputable abbrev al(x:List Nat):E:=.c<|.ah x
noncomputable abbrev aG:=E.aO<|.l 0
noncomputable abbrev a7:=E.q<|.l 0
noncomputable abbrev aT(t:E)(a:List S):S:=.bQ t a []
noncomputable abbrev bq:=ar 0
noncomputable abbrev bM:=ar 1
noncomputable abbrev dI:=ar 2
noncomputable abbrev aI:=E.l 0
noncomputable abbrev aC:=E.l 1
noncomputable abbrev a8:=E.l 2
noncomputable abbrev bp:=E.l 3
noncomputable abbrev ci:=E.l 4
noncomputable abbrev cP:=E.l 5
noncomputable abbrev fN:=E.l 6
noncomputable abbrev kD:=E.l 7
noncomputable abbrev mu:=E.l 8
noncomputable abbrev tx:=E.l 9
noncomputable abbrev vp:=E.l 10
noncomputable abbrev Bk:=E.l 11
noncomputable abbrev F9:=E.l 12
noncomputable abbrev Bm:=E.l 13
noncomputable abbrev eK:=E.bJ .y
noncomputable abbrev bV:=E.bJ .i
noncomputable abbrev gx:=E.bi .bK
noncomputable abbrev kW:=E.bJ .q
noncomputable abbrev ng:=E.bJ .j
noncomputable abbrev jY:=E.b9 .j
noncomputable abbrev kX:=E.b9 .gt
noncomputable abbrev bt:=E.b9 .eq
noncomputable abbrev qk:=E.b9 .lt
noncomputable abbrev gy:=E.b9 .ne
noncomputable abbrev gU:=E.b9 .i
noncomputable abbrev tz:=E.b9 .q
noncomputable def lF:List S:=[.i 1 (.i (eK F9<|ar 1000000007) 12<|.slc aI (.c .none)<|ar 9),.i 1 (bV aC<|.slc (.af [ar 1160,ar 6,ar 4]) (gx [aC])<|.c .none),.i 2 (.ao 1087 [aC]),.i 3 (.bi .j [aC]),.i 4 (.ao 70 [.lE (.ao 1075 [bV (kW bp<|ar 3) (ng (ar 12347) Bm),.y a8 Bm]) 13 (gx [a8]),bq]),.i 5 (.dct [bM,ar 9,ar 11] [.ce .vm [],.ce .vn [],.ce .vo []]),.i 6 (.dct [al u7,al [40],al [123],al xW] [.ce .y [],.ce .tu [],.ce .tv [],.ce .tw []]),.i 7 (.ao 1028 [.ao 1021 [.ao .aK [ar 88,al [],.q ci .bO,bq]]]),.i 8 (.af []),.i 9 (.ao 1094 [cP,fN,kD]),aT (.or (jY tx<|.c .none)<|.cB<|.ao 1101 [ci,tx,mu]) [.am (.c<|.i C)],aT (kX (gx [mu]) bq) [.i 11 (.ao 1094 [cP,fN,.ao 1108 [kD,.y mu (eK bp<|gx [mu])]]),aT (.bN (.b9 .u Bk<|.c .none)<|.ao 1101 [ci,Bk,.af []]) [.am (.c<|.i C)]],.i 10 (.ao 1094 [cP,fN,.ao 1035 [kD,bV bM (eK bp dI)]]),aT (.or (jY vp<|.c .none)<|.cB<|.ao 1101 [ci,vp,.af []]) [.am (.c<|.i C)],.am (.ao 1113 [cP,fN,bp])]
noncomputable def Ga:List S:=[.i 1 (.af []),.i 2 (.af []),.y 3 aI [.i 4 (eK bp<|ar 10),.i 5 (kW bp<|ar 10),.i 6 (.y (.u [bq,eK cP (ar 3),bV dI (eK cP dI),dI,bM,eK cP (ar 4),bM,bM,bM,bM]) ci),.i 7 (.af []),.i 8 bq,.jA 9 fN [.iW [11,12] (.ao 1082 [aC,a8]),.ex (.aO kD .q [Bk]),.i 8 (.bi .i [mu,F9])],.bQ (bt ci bq) [.i 10 (.ao .c7 [ar 80,.y (.u [al tc,al xX,al xY,al xZ]) (eK cP<|ar 4),bq])] [.bQ (bt ci bM) [.i 10 (.ao .aK [ar 81,.y (.u [al [66],al gF,al eY,al rj]) (eK (kW cP<|ar 3)<|ar 4),kD,bq])] [.bQ (.or (bt ci<|ar 5)<|bt ci<|ar 9) [.i 10 (.ao .aK [ar 88,al [],.lE (.ao 1075 [kW cP (bV dI<|ng (ar 3) tx),.y kD tx]) 9 fN,bq])] [.bQ (.or (bt ci<|ar 6)<|bt ci<|ar 7) [.i 10 (.ao 1068 [al [],bV (ar 2048) (ng (ar 1024)<|eK ci dI),cP,.y kD bq])] [.i 10 (.ao .aK [.bz (qk ci<|ar 8) (.y (.u [ar 83,ar 84,ar 85])<|.bJ .eA ci dI) (ar 98),al [],kD,bq])]]]],.ex (.aO aC .q [.u [vp,bV mu bM]])],.am (bV a8<|.i (.y Bm bq) 13 aC)]
noncomputable def Gb:List S:=[aT (kX (gx [aI]) bq) [.iW [2,3] (aG .hQ []),aT (qk bp<|ar 3) [.am (.u [a8,bp])],.ex (.aO aC .q [a8])],.am (.u [.ao 1042 [al [65]],bM])]
noncomputable def OT:List S:=[.i 2 (.y (.c<|.u [.ah [97],.ah fL,.ah bI,.ah f3,.ah gs,.ah eY,.ah [97,45,98],.ah [],.ah [48],.ah [48,55],.ah [49,101,51],.ah f2,.ah AV,.ah fd,.ah [52,50],.ah [36,95]])<|eK (kW aI<|ar 6)<|ar 16),.i 3 (kW aI<|ar 96),aT (qk (eK aI<|ar 6) dI) [.i 4 (bV (ng (ar 4096)<|eK bp dI)<|ng (ar 131072)<|eK (kW bp dI) dI),.am (.ao .i [ar 99,a8,.af [.bz (bt (eK (kW bp<|ar 4)<|ar 4) bq) (.c .none) aC],ci,bq])],aT (bt (eK aI<|ar 6) dI) [.am (.ao 1068 [a8,bV (ar 32) (ng (ar 4096)<|eK bp dI),kW bp dI,aC])],aT (bt (eK aI<|ar 6)<|ar 3) [.am (.ao 1068 [al [],ar 512,bp,aC])],aT (bt (eK aI<|ar 6)<|ar 4) [.am (.ao 1068 [al [],ar 1024,bp,aC])],.am (.ao .i [ar 63,.y (.u [al [107],al fL]) (eK (kW bp dI) dI),.af [.ao .c7 [ar 80,al kT,bq],aC],ng (ar 131072) (eK bp dI),bq])]
noncomputable def Gc:List S:=[.i 4 (.lE (eK (kW a8<|.bJ .rz (ar 7) mu)<|ar 7) 8<|ar 7),.i 5 (.af [bp]),.i 6 (.ao 1049 [.y ci bq,.y (.u [al [84],al fd,al [85,50]]) (eK (.y ci<|ar 6)<|ar 3),cP]),.i 7 (.ao 1056 [ci,cP]),.am (.ao .i [ar 27,aI,.af [fN,kD,.ao 1063 [.y ci (ar 5),aC,cP],.c .none],aC,bq])]
noncomputable def Gd:List S:=[.i 3 (.bz (kX (gx [a8]) bq) (.aO a8 .hQ [])<|.ao 1042 [al [65]]),aT (.bN (bt aI bM)<|qk (eK aC<|ng dI<|ar 2048)<|ar 2048) [.am (.c .none)],aT (bt aI<|ar 3) [.am (.ao .aK [ar 96,al [120],.af [bp],bq])],aT (bt aI<|ar 4) [.am (.ao .i [ar 96,al dO,.af [.c .none],ar 16777216,bq])],aT (bt aI<|ar 5) [.am (.ao .i [ar 96,al eX,.af [bp],ar 16777216,bq])],aT (bt aI<|ar 6) [.am (.ao .aK [ar 96,al dO,.af [bp],bq])],.am bp]
noncomputable def OU:List S:=[.i 2 (.af []),.i 3 (.c<|.i C),.i 4 (eK (.y aI bM)<|ar 4),.jA 5 ci [.i 6 (.y aI<|bV dI cP),.i 7 (.bz (.or bp<|.or (bt fN bM)<|bt fN<|ar 5) (ar 4096) bq),aT (.bN (bt fN<|ar 3)<|bt cP<|.bJ .eA ci bM) [.i 7 (ar 8192)],.i 3 (.or bp<|bt kD<|ar 4096),.i 8 (.y (.u [al [120],al eY,al dO,al fL,al [121],al rj,al [36,49]])<|eK (bV (.y aI<|ar 6)<|ng dI cP)<|ar 7),aT (.bN (bt fN<|ar 4)<|bt cP bq) [.i 8 (al eX)],.i 9 (.c .none),aT (.bN (gy fN dI)<|gy fN<|ar 5) [.i 9 (.ao .c7 [ar 80,al qe,bq]),aT (.bN (gy fN<|ar 6)<|kX (gx [aC]) bq) [.i 9 (.aO aC .hQ [])]],.ex (.aO a8 .q [.ao .i [ar 28,al [],.af [.ao .c7 [ar 8,mu,bq],tx,.c .none],kD,bq]])],.am (.ao 70 [a8,bq])]
noncomputable def Ge:List S:=[aT (qk aI<|ar 4) [.am (.c .none)],aT (bt aI<|ar 4) [.am (.ao 70 [.af [.ao .i [ar 100,aC,.af [.c .none,.c .none],ar 536870912,bq]],bq])],.i 3 (.bz (kX (gx [a8]) bq) (.aO a8 .hQ [])<|.ao 1042 [al [65]]),aT (bt aI<|ar 5) [.am (.ao 70 [.af [.ao .i [ar 100,aC,.af [bp,.c .none],bq,bq]],bq])],.i 4 (.ao .i [ar 100,al fd,.af [.ao 1042 [al [84]],bp],ar 805306368,bq]),.am (.ao 70 [.af [.ao .i [ar 100,aC,.af [.c .none,.c .none],ar 268435456,bq],ci],bq])]
noncomputable def OV:List S:=[.am (.ao .aK [ar 81,aI,.af [],bq])]
noncomputable def OY:List S:=[.i 1 (a7 .aq),aT (.or (bt aC<|ar 80)<|bt aC<|ar 8) [.am (a7 .a_)],aT (bt aC<|ar 81) [.am (.bz (bt (gx [a7 .bO]) bq) (a7 .a_)<|bV (bV (bV (a7 .a_)<|al [60])<|.ao 1002 [a7 .bO,al kU])<|al [62])],aT (bt aC<|ar 83) [.am (.aO (al [32,124,32]) .jX [.i (.ao 1009 [cP,.u [ar 27,ar 83]]) 5 (a7 .bO)])],aT (bt aC<|ar 84) [.am (.aO (al [32,38,32]) .jX [.i (.ao 1009 [cP,.u [ar 27,ar 83,ar 84]]) 5 (a7 .bO)])],aT (bt aC<|ar 85) [.am (bV (.ao 1009 [.y (a7 .bO) bq,.u [ar 27,ar 83,ar 84]])<|al [91,93])],aT (bt aC<|ar 98) [.am (bV (bV (al [40])<|.ao 1021 [.y (a7 .bO) bq])<|al [41])],aT (bt aC<|ar 88) [.am (.bz (bt (gx [a7 .bO]) bq) (al [123,125])<|bV (bV (al [123,32])<|.ao 1002 [a7 .bO,al [59,32]])<|al [32,125])],aT (bt aC<|ar 96) [.i 3 (.bz (bt (a7 .cj)<|ar 16777216) (bV (al AW)<|a7 .a_)<|a7 .a_),.am (.bz (jY (.y (a7 .bO) bq)<|.c .none) bp<|bV (bV bp<|al AX)<|.ao 1021 [.y (a7 .bO) bq])],aT (bt aC<|ar 100) [.i 3 (bV (.y (.dct [bq,ar 268435456,ar 536870912,ar 805306368] [al [],al AY,al AZ,al OG])<|a7 .cj)<|a7 .a_),.de 3 .i (.bz (jY (.y (a7 .bO) bq)<|.c .none) (al [])<|bV (al u8)<|.ao 1021 [.y (a7 .bO) bq]),.am (.bz (jY (.y (a7 .bO) bM)<|.c .none) bp<|bV (bV bp<|al [32,61,32])<|.ao 1021 [.y (a7 .bO) bM])],aT (bt aC<|ar 63) [.i 3 (.bz (bt (a7 .cj)<|ar 131072) (al OH)<|al [91]),.am (bV (bV (bV (bV (bV bp<|a7 .a_)<|al kB)<|.ao 1021 [.y (a7 .bO) bq])<|al [93,58,32])<|.ao 1021 [.y (a7 .bO) bM])],aT (.bN (bt aC<|ar 27)<|.b9 .ge (eK (a7 .cj)<|ng dI<|ar 2048)<|ar 2048) [.am (bV (.bz (bt (a7 .cj)<|ar 2048) (al [])<|al A0)<|.ao 1016 [aI,al [32,61,62,32]])],aT (.bN (bt aC<|ar 27)<|gU (a7 .cj)<|.u [ar 512,ar 1024]) [.am (bV (.bz (bt (a7 .cj)<|ar 512) (al [])<|al A0)<|.ao 1016 [aI,al kB])],.i 2 (.bz (bt (eK (kW (a7 .cj)<|ar 4096) dI) bM) (al [63])<|al []),aT (bt aC<|ar 27) [.i 4 (.bz (bt (a7 .a_)<|al bI) (al fM)<|.ao 997 [a7 .a_]),.am (bV (bV ci a8)<|.ao 1016 [aI,al kB])],aT (bt aC<|ar 28) [.i 3 (bV (bV (.bz (bt (a7 .cj)<|ar 8192) (al hN)<|al [])<|.q (.y (a7 .bO) bq) .a_) a8),.am (.bz (jY (.y (a7 .bO) bM)<|.c .none) bp<|bV (bV bp<|al kB)<|.ao 1021 [.y (a7 .bO) bM])],.i 3 (bV (bV (.bz (bt (eK (kW (a7 .cj)<|ar 131072) dI) bM) (al A1)<|al [])<|.ao 997 [a7 .a_]) a8),.am (.bz (jY (.y (a7 .bO) bq)<|.c .none) bp<|bV (bV bp<|al kB)<|.ao 1021 [.y (a7 .bO) bq])]
noncomputable def Gf:List S:=[.iW [3,4,5,6] (a7 .bO),.i 2 (.bz (jY bp<|.c .none) (al [])<|bV (bV (al [60])<|.ao 1002 [.q bp .bO,al kU])<|al [62]),.de 2 .i (bV (bV (al [40])<|.ao 1002 [.q ci .bO,al kU])<|al [41]),.am (.bz (jY cP<|.c .none) a8<|bV (bV a8 aC)<|.ao 1021 [cP])]
noncomputable def OZ:List S:=[.i 2 (.ao 1021 [aI]),.am (.bz (gU (a7 .aq) aC) (bV (bV (al [40]) a8)<|al [41]) a8)]
noncomputable def O0:List S:=[.am (.aO aC .jX [.i (.ao 1021 [a8]) 2 aI])]
noncomputable def Bo:List S:=[aT (gU aI<|.u [al [97],al fL,al bI,al f3,al gs,al eY,al [48],al f2,al fd,al [52,50],al [36,95]]) [.am aI],.am (.aO (.dct [al [],al AV] [al [34,34],al OI]) .cO [aI,bV (bV (al [34]) aI) (al [34])])]
noncomputable def Gg:List S:=[.i 1 (.af []),.i 2 bq,.gH (qk a8<|gx [aI]) [.i 3 a8,.i 4 (.y aI a8),.de 2 .i bM,aT (bt ci<|al [32]) [.q],.bQ (gU ci<|al A3) [.gH (.bN (qk a8<|gx [aI])<|gU (.y aI a8)<|al A3) [.de 2 .i bM],.i 5 (.slc aI bp a8),.bQ (gU ci<|al [48,49,50,51,52,53,54,55,56,57]) [.ex (.aO aC .q [.ce .j [ar 3,cP,.bi .aa [cP],bp,a8,.c (.i C)]])] [.ex (.aO aC .q [.ce .j [.bz (gU cP<|.c<|.u [.ah iS,.ah x0,.ah x4,.ah f2,.ah bI,.ah eX]) dI bM,cP,bq,bp,a8,.c (.i C)]])]] [.bQ (bt ci<|al [34]) [.i 6 (al []),.gH (gy (.y aI a8)<|al [34]) [.bQ (bt (.y aI a8)<|al [92]) [.de 2 .i bM,.bQ (bt (.slc aI a8<|bV a8<|ar 3)<|al [120,48,50]) [.de 6 .i (al [2]),.de 2 .i (ar 3)] [.de 6 .i (.bz (bt (.y aI a8)<|al [110]) (al [10])<|.y aI a8),.de 2 .i bM]] [.de 6 .i (.y aI a8),.de 2 .i bM]],.de 2 .i bM,.ex (.aO aC .q [.ce .j [ar 4,fN,bq,bp,a8,.c (.i C)]])] [.bQ (bt (.slc aI bp<|bV bp<|ar 3)<|al hN) [.i 2 (bV bp<|ar 3)] [aT (bt (.slc aI bp<|bV bp dI)<|al fz) [.i 2 (bV bp dI)]],.ex (.aO aC .q [.ce .j [ar 5,.slc aI bp a8,bq,bp,a8,.c (.i C)]])]]],.ex (.aO aC .q [.ce .j [bq,al [],bq,a8,a8,.c (.i C)]]),.am aC]
noncomputable def Gh:List S:=[.i 2 (.af []),.i 3 (.c<|.i C),.jA 4 (gx [aI]) [.i 5 (.y aI ci),aT (.bN (bt (.q cP .aq)<|ar 5)<|.bN (bt (.q cP .aP)<|al [59])<|kX aC bq) [aT (bt aC bM) [.ex (.aO a8 .q [.ce .j [ar 5,al [44],bq,.q cP .aJ,.q cP .jz,.c (.i C)]]),.q],.i 6 (.bN (bt (.q (.y aI<|bV ci bM) .aq)<|ar 5)<|gU (.q (.y aI<|bV ci bM) .aP)<|.u [al [40],al [60]]),.i 7 (tz (.q (.y aI<|.bJ .eA ci bM) .aP)<|.u [al f3,al gs]),aT (.bN (.cB fN)<|.bN kD<|.or (gy (.q (.y aI<|.bJ .eA ci bM) .aP)<|al dO)<|gy (.q (.y aI<|bV ci bM) .aP)<|al eY) [.i 3 (.c<|.i I),.q]],.ex (.aO a8 .q [.ce .j [.q cP .aq,.q cP .aP,.q cP .kC,.q cP .aJ,.q cP .jz,bp]]),.i 3 (.c<|.i C)],.am a8]
noncomputable def Gi:List S:=[.i 2 (.af []),.i 3 bq,.y 4 aI [aT (.bN (bt (.q ci .aq)<|ar 5)<|bt (.q ci .aP)<|al [41]) [.de 3 .eA bM,aT (bt bp bq) [.i 3 (ar 99),.q]],aT (bt (.q ci .aJ) aC) [.i 3 bM,.q],aT (.bN (kX bp bq)<|.bN (bt (.q ci .aq)<|ar 5)<|bt (.q ci .aP)<|al [40]) [.de 3 .i bM],.ex (.aO a8 .q [ci])],.am a8]
noncomputable def rA:List S:=[aT (.or (jY aI<|.c .none)<|jY aC<|.c .none) [.am (.bN (jY aI<|.c .none)<|jY aC<|.c .none)],aT (.bN (bt (.q aC .aq)<|ar 98)<|gy (a7 .aq)<|ar 98) [.ex (.aO a8 .q [.q aC .aJ]),.i 1 (.y (.q aC .bO) bq)],aT (.or (gy (a7 .aq)<|.q aC .aq)<|.or (gy (a7 .a_)<|.q aC .a_)<|.or (gy (a7 .cj)<|.q aC .cj)<|gy (gx [a7 .bO])<|gx [.q aC .bO]) [.am (.c<|.i C)],.jA 3 (gx [a7 .bO]) [aT (.bN (bt (a7 .aq)<|ar 98)<|gy (.q (.y (a7 .bO) bp) .aq)<|.q (.y (.q aC .bO) bp) .aq) [.am (.c<|.i C)],aT (.cB<|.ao 1101 [.y (a7 .bO) bp,.y (.q aC .bO) bp,a8]) [.am (.c<|.i C)]],.am (.c<|.i I)]
noncomputable def Bp:List S:=[.i 3 (.ce .i [a8,.ce .q []]),.cQ bp .gT aI,.cQ bp .fW aC,.m5 4 (.ao 824 [bp]) [.am (.c .none)],aT (.or (gy (.q (.aO bp .i []) .aq) bq)<|.or (kX (gx [.q (.q bp .dU) .lC]) bq)<|gy (.q bp .bS) bq) [.am (.c .none)],.am ci]
noncomputable def yg:List S:=[.iW [7,8] (.y (.u [.u [.u [al [123],al f3,al [47],al [97],al [125]],.af [ar 9002]],.u [.u [al [123],al gs,al [97],al [125]],.af [ar 9002]],.u [.u [al [123],al [109],al [40],al hN,al [120],al [44],al [41],al [125]],.af [ar 1014]],.u [.u [al [123],al [109],al [40],al [120],al [63],al [44],al [121],al [41],al [125]],.af [ar 1016]],.u [.u [al [123],al [109],al [40],al [120],al [44],al eX,al [41],al [125]],.af [ar 2680]],.u [.u [al [123],al [97],al [98],al [125]],.af [ar 1005]],.u [.u [al [123],al [109],al [60],al tc,al [62],al [40],al [41],al [125]],.af [ar 2368]],.u [.u [al [123],al [40],al hN,al [120],al [63],al [41],al [125]],.af [ar 1005]],.u [.u [al [123],al [109],al [40],al [120],al [63],al [44],al hN,al [121],al [44],al [41],al [125]],.af [ar 1014]],.u [.u [al [123],al [63],al [125]],.af [ar 1003]]])<|eK a8<|ar 10),.i 3 (.af []),.i 4 (.c<|.i C),.y 5 kD [aT (bt cP<|al [47]) [.i 4 (.c<|.i I),.q],.i 9 (ar 5),aT (gU (.y cP bq)<|al A3) [.i 9 (.bz (gU cP<|.c<|.u [.ah iS,.ah x0,.ah x4,.ah f2,.ah bI,.ah eX]) dI bM)],.ex (.aO bp .q [.ce .j [tx,cP,bq,gx [bp],gx [bp],ci]]),.i 4 (.c<|.i C)],.ex (.aO bp .q [.ce .j [bq,al [],bq,ar 99,ar 99,.c (.i C)]]),.i 6 (.ce .i [bp,.ce .q []]),.cQ fN .gT aI,.cQ fN .fW aC,.nb (.ao 824 [fN]) [.am (.bN (bt (.i (.q vp .oG) 10<|.q (.q fN .dU) .lC) mu)<|gU (.y mu bq)<|.u [ar 9002,ar 1005,ar 1003])],.am (.bN (bt (.i (.q vp .oG) 10<|.q (.q fN .dU) .lC) mu)<|bt (.q (.aO fN .i []) .aq) bq)]
noncomputable def O1:List S:=[.am (.ce .u [aI,aC,.af [],bq,a8])]
noncomputable def O2:List S:=[.am (.ce .u [aI,aC,a8,bq,bp])]
noncomputable def O3:List S:=[.am (.ce .u [aI,aC,a8,bp,ci])]
noncomputable def O4:List S:=[.am (.ce .u [ar 71,al [],aI,bq,aC])]
noncomputable def O5:List S:=[.cQ aI .lC (.af []),.cQ aI .rm aC]
noncomputable def O6:List S:=[.ex (.aO (a7 .lC) .q [.ce .vl [aC,a8,bp,a7 .rm]])]
noncomputable def O7:List S:=[.cQ aI .iA (.slc aC (.c .none)<|.c .none),.cQ aI .aJ bq,.cQ aI .dU a8,.cQ aI .gT (.dct [] []),.cQ aI .qh (.dct [] []),.cQ aI .qi (.dct [] []),.cQ aI .fW (.dct [] []),.cQ aI .bS bq,.cQ aI .rn (.u [al [],bq,bq]),.cQ aI .lD (.c<|.i I),.cQ aI .rq bq,.cQ aI .rt bq,.cQ aI .tg bq,.cQ aI .ti (.af []),.cQ aI .hR (.c<|.i C),.cQ aI .tj (.c<|.i C),.cQ aI .vg bq,.cQ aI .vh (.af []),.cQ aI .vi (.dct [] []),.cQ aI .vj (.dct [] []),.cQ aI .tm (.af []),.cQ aI .x9 (.af [])]
noncomputable def O8:List S:=[.am (.y (a7 .iA)<|a7 .aJ)]
noncomputable def O9:List S:=[.i 2 (bV (a7 .aJ) aC),aT (.b9 .ge a8<|gx [a7 .iA]) [.i 2 (.bJ .eA (gx [a7 .iA]) bM)],.am (.y (a7 .iA) a8)]
noncomputable def Pa:List S:=[.i 1 (.y (a7 .iA)<|a7 .aJ),aT (gy (.q aC .aq) bq) [.oW aI .aJ .i bM],.am aC]
noncomputable def Pb:List S:=[.am (.ao 502 [.y (a7 .iA) (a7 .aJ),ar 5,aC])]
noncomputable def Pd:List S:=[.am (.ao 502 [.y (a7 .iA) (a7 .aJ),dI,aC])]
noncomputable def Pe:List S:=[.am (.ao 502 [.y (a7 .iA) (a7 .aJ),bM,aC])]
noncomputable def Pf:List S:=[.am (.ao 523 [aI,ar 5,aC])]
noncomputable def Pg:List S:=[.am (.ao 523 [aI,dI,aC])]
noncomputable def Ph:List S:=[.am (.ao 523 [aI,bM,aC])]
noncomputable def Pj:List S:=[aT (.cB<|.ao 523 [aI,ar 5,aC]) [.ex (aG .b8 [ar 1005,.u [aC]])]]
noncomputable def Pk:List S:=[aT (gy (.q (aG .i []) .aq) bM) [.ex (aG .b8 [ar 1003,.u []])],.am (.q (aG .j []) .aP)]
noncomputable def Pm:List S:=[.am (.ao 551 [aI])]
noncomputable def Pn:List S:=[.am (.ao 558 [aI])]
noncomputable def Pp:List S:=[.ex (aG .F6 [aC,.q (aG .i []) .aJ,a8])]
noncomputable def Pq:List S:=[.ex (.aO (a7 .dU) .gw [aC,a8,bp]),.ye aC]
noncomputable def Pr:List S:=[.i 1 (aG .i []),aT (.or (bt (.q aC .aq) bq)<|.q aC .m4) [.am (.c<|.i I)],.am (.bN (bt (.q aC .aq)<|ar 5)<|.or (bt (.q aC .aP)<|al [59])<|bt (.q aC .aP)<|al [125])]
noncomputable def Pu:List S:=[aT (.bN (.cB<|aG .y [al [59]])<|.cB<|aG .F7 []) [.ex (aG .b8 [ar 1005,.u [al [59]]])]]
noncomputable def Pw:List S:=[.oW aI .bS .i bM,aT (kX (a7 .bS)<|ar 40) [.ex (.aO (a7 .dU) .gw [ar 9001,.q (aG .i []) .aJ,.u []]),.j]]
noncomputable def Py:List S:=[.oW aI .bS .eA bM]
noncomputable def Pz:List S:=[aT (tz aC<|a7 .gT) [.j],.ex (aG .F8 []),.bQ (gU aC<|.c<|.u [.aa 3,.aa 4,.aa 5,.aa 6]) [.i 2 .j] [.i 2 (.aO (.y (a7 .gT) aC) .yb [aI])],aT (bt (a7 .bS) bM) [.ex (.ao 516 [aI,a8])],.ex (aG .up []),.am a8]
noncomputable def PB:List S:=[aT (kX aC<|ar 60) [.ex (.aO (a7 .dU) .gw [ar 9001,.q (aG .i []) .aJ,.u []]),.j]]
noncomputable def Gj:List S:=[.i 2 (.af [.u [aC,bM]]),.gH a8 [.iW [4,5] (.aO a8 .hQ []),aT (jY ci<|.c .none) [.q],aT (kX cP<|ar 160) [.ex (.aO (a7 .dU) .gw [ar 9001,.q ci .aJ,.u []]),.j],.y 3 (.q ci .bO) [.ex (.aO a8 .q [.u [bp,bV cP bM]])]]]
noncomputable def PC:List S:=[.am (.bN (bt (a7 .aq) aC)<|bt (a7 .aP) a8)]
noncomputable def PD:List S:=[aT (.cB<|.ao 502 [aG .i [],aC,a8]) [.am (.c<|.i C)],.ex (aG .j []),.am (.c<|.i I)]
noncomputable def PE:List S:=[.am (gU (a7 .aq)<|.u [bM,dI,ar 4,ar 3])]
noncomputable def PF:List S:=[.am (.or (.ao 530 [aI])<|.ao 502 [aI,ar 5,al [91]])]
noncomputable def PG:List S:=[aT (.ao 530 [aG .i []]) [.am (.q (aG .j []) .aP)],aT (.cB<|aG .fX [al [91]]) [.ex (aG .b8 [ar 1003,.u []])],aT (.cB .j) [.ex (aG .b8 [ar 9002,.u [al [97,32,99,111,109,112,117,116,101,100,32,110,97,109,101]]])],.ex (aG .j []),.i 1 (.q (aG .j []) .aP),.ex (aG .j []),.am aC]
noncomputable def PH:List S:=[aT (.bN (gy (.q (aG .i []) .aq) bM)<|gy (.q (aG .i []) .aq) dI) [.ex (aG .b8 [ar 1003,.u []])],.am (.q (aG .j []) .aP)]
noncomputable def PJ:List S:=[aT (.or (bt (a7 .aq)<|ar 5)<|bt (a7 .aq) dI) [.am (a7 .aP)],aT (bt (a7 .aq) bM) [.am (al u7)],aT (bt (a7 .aq)<|ar 3) [.am (al [35,110,117,109])],aT (bt (a7 .aq)<|ar 4) [.am (al [35,115,116,114])],aT (.or (bt (a7 .aq)<|ar 6)<|bt (a7 .aq)<|ar 7) [.am (al [35,116,112,108])],.am (al [])]
noncomputable def PK:List S:=[.i 1 (aG .i []),aT (.cB<|.ao 502 [aC,ar 5,al rk]) [.ex (aG .iV [al [62]]),.am (.c .none)],.i 2 (aG .u [bM]),.ex (.aO (a7 .tm) .q [.u [a7 .aJ,aC]]),.i 3 (bV (al [61])<|.q a8 .aP),aT (.or (gy (.q a8 .aq)<|ar 5)<|.or (gy (.q a8 .aJ)<|.q aC .jz)<|tz bp<|.c<|.u [.ah fz,.ah [61,61],.ah [61,61,61]]) [.j,.am (.c .none)],.ex (.aO (a7 .tm) .q [.u [bV (a7 .aJ) bM,a8]]),.j,.j,.ex (aG .j [])]
noncomputable def PL:List S:=[.am (.ao 621 [aC])]
noncomputable def PM:List S:=[.i 1 (.ao 628 [aI]),aT (.or (a7 .hR)<|.or (.cB<|.ao 635 [aI,aC])<|tz (al [35,99,111,110,100])<|a7 .fW) [.am aC],.am (.aO (.y (a7 .fW)<|al [35,99,111,110,100]) .fA [aI,aC])]
noncomputable def PN:List S:=[aT (.bN (gU (al xW)<|a7 .fW)<|.ao 783 [aI]) [.am (.aO (.y (a7 .fW)<|al xW) .fA [aI,.c .none])],.am (.ao 663 [aI])]
noncomputable def PP:List S:=[aT (.or (bt (.q aC .aq)<|ar 27)<|.q (aG .i []) .m4) [.am (.c<|.i C)],.am (aG .tq [al iS])]
noncomputable def PQ:List S:=[.i 2 (a7 .hR),.cQ aI .hR aC,.i 3 (aG .be [bM]),.cQ aI .hR a8,.am bp]
noncomputable def PT:List S:=[aT (.cB<|aG .y [al [58]]) [.am (.c .none)],.am (aG .be [bM])]
noncomputable def PU:List S:=[aT (.cB<|aG .y [al [58]]) [.am (.c .none)],.am (aG .be [ar 11])]
noncomputable def PV:List S:=[.ex (aG .y [al [124]]),.i 1 (.ao 670 [aI]),aT (.cB<|aG .fX [al [124]]) [.am aC],.i 2 (.af [aC]),.gH (aG .y [al [124]]) [.ex (.aO a8 .q [.ao 670 [aI]])],.am (.ao .aK [ar 83,al [],a8,.q aC .aJ])]
noncomputable def PX:List S:=[.ex (aG .y [al [38]]),.i 1 (.ao 677 [aI]),aT (.cB<|aG .fX [al [38]]) [.am aC],.i 2 (.af [aC]),.gH (aG .y [al [38]]) [.ex (.aO a8 .q [.ao 677 [aI]])],.am (.ao .aK [ar 84,al [],a8,.q aC .aJ])]
noncomputable def PY:List S:=[.i 1 (aG .i []),aT (.bN (bt (.q aC .aq) bM)<|.bN (gU (.q aC .aP)<|.c<|.u [.ah [107,101,121,111,102],.ah fL,.ah [105,110,102,101,114]])<|gU (.q aC .aP)<|a7 .fW) [.am (.aO (.y (a7 .fW)<|.q aC .aP) .fA [aI,.c .none])],.am (.ao 684 [aI])]
noncomputable def PZ:List S:=[.i 1 (a7 .hR),.cQ aI .hR (.c<|.i C),.i 2 (.ao 565 [aG .i []]),aT (tz a8<|a7 .fW) [.ex (aG .b8 [ar 1110,.u []])],.i 3 (.aO (.y (a7 .fW) a8) .fA [aI,.c .none]),.i 4 bq,.gH (.bN (aG .fX [al [91]])<|.cB<|.q (aG .i []) .m4) [.ex (aG .j []),.de 4 .i bM,.ex (.ao 509 [aI,ci]),.bQ (aG .y [al [93]]) [.i 3 (.ao .aK [ar 85,al [],.af [bp],.q bp .aJ])] [.i 5 (aG .be [bM]),.ex (aG .iV [al [93]]),.i 3 (.ao .aK [ar 90,al [],.af [bp,cP],.q bp .aJ])]],.cQ aI .hR aC,.am bp]
noncomputable def P0:List S:=[.i 3 (.q (.aO aC .j []) .aJ),.i 4 (.aO aC .be [bM]),.ex (.aO aC .iV [al [41]]),.am (.ao .aK [ar 98,al [],.af [ci],bp])]
noncomputable def P1:List S:=[.i 3 (.aO aC .i []),aT (gU (.q bp .aP)<|.c<|.u [.ah tc,.ah FY,.ah xZ,.ah xX,.ah kT,.ah qe,.ah FZ,.ah xY]) [.ex (.aO aC .j []),.am (.ao .c7 [ar 80,.q bp .aP,.q bp .aJ])],.ex (.ao 729 [aC]),.i 4 (.ao 736 [aC]),.i 5 (.af []),aT (.bN (.aO aC .fX [al [60]])<|.cB<|.q (.aO aC .i []) .m4) [.i 5 (.ao 750 [aC])],.am (.ao .aK [ar 81,ci,cP,.q bp .aJ])]
noncomputable def P2:List S:=[.i 1 (aG .u [bM]),aT (.or (aG .ms [al x5])<|aG .ms [al A4]) [.ex (.aO (a7 .dU) .gw [ar 9002,.q (aG .i []) .aJ,.u [.q (aG .i []) .aP]])],aT (.bN (aG .ms [al OJ])<|.ao 502 [aC,bM,al x5]) [.ex (aG .b8 [ar 9002,.u [al [117,110,105,113,117,101,32,115,121,109,98,111,108]]])],aT (.bN (aG .ms [al OK])<|.ao 502 [aC,dI,al bI]) [.ex (aG .b8 [ar 9002,.u [al [97,110,32,97,98,115,116,114,97,99,116,32,99,111,110,115,116,114,117,99,116,32,107,105,110,100]]])]]
noncomputable def P4:List S:=[.i 1 (.q (aG .i []) .aJ),.i 2 (aG .vk []),.i 3 bq,.gH (aG .y [al [46]]) [.i 2 (bV (bV a8<|al [46])<|aG .Bc []),.de 3 .i bM],aT (kX bp bM) [.ex (.aO (a7 .dU) .gw [ar 9002,aC,.u [al ae6]])],.am a8]
noncomputable def P5:List S:=[.i 1 (aG .i []),.i 2 (aG .vk []),aT (.or (gU a8<|.c<|.u [.ah tc,.ah FY,.ah xZ,.ah xX,.ah kT,.ah qe,.ah FZ,.ah xY])<|.or (bt a8<|al x5)<|bt a8<|al A4) [.ex (.aO (a7 .dU) .gw [ar 2368,.q aC .aJ,.u [a8]])],.am a8]
noncomputable def P6:List S:=[.ex (aG .iV [al [60]]),.i 1 (.af [.ao 642 [aI,.c (.i C)]]),.gH (aG .y [al [44]]) [.ex (.aO aC .q [.ao 642 [aI,.c (.i C)]])],.ex (.ao 572 [aI]),.am aC]
noncomputable def P7:List S:=[aT (.bN (gU (al [35,109,97,112,112,101,100])<|.q aC .fW) .j) [.am (.aO (.y (.q aC .fW)<|al [35,109,97,112,112,101,100]) .fA [aC,.c .none])],.i 3 (.q (.aO aC .i []) .aJ),.am (.ao .aK [ar 88,al [],.q (.aO aC .be [ar 9]) .bO,bp])]
noncomputable def P8:List S:=[aT (.or (aG .fX [al [60]])<|aG .tq [al bI]) [.am (.c<|.i I)],aT (.cB<|aG .fX [al [40]]) [.am (.c<|.i C)],.i 1 (aG .u [bM]),aT (.or (.ao 502 [aC,ar 5,al [41]])<|.ao 502 [aC,ar 5,al hN]) [.am (.c<|.i I)],aT (.or (bt (.q aC .aq) bM)<|.ao 502 [aC,dI,al eX]) [.am (.ao 790 [aI,dI])],aT (.or (.ao 502 [aC,ar 5,al [123]])<|.ao 502 [aC,ar 5,al [91]]) [.am (.ao 797 [aI])],.am (.c<|.i C)]
noncomputable def P9:List S:=[.i 2 (aG .u [aC]),aT (gy (.q a8 .aq)<|ar 5) [.am (.c<|.i C)],aT (gU (.q a8 .aP)<|.u [al [58],al [44],al [63],al [61]]) [.am (.c<|.i I)],.am (.bN (bt (.q a8 .aP)<|al [41])<|.ao 502 [aG .u [bV aC bM],ar 5,al fz])]
noncomputable def Qa:List S:=[aT (tz (ar 10)<|a7 .gT) [.am (.c<|.i C)],.i 1 (aG .OS []),.ex (aG .j []),.j,.ex (aG .ry [aC]),.am a8]
noncomputable def Qb:List S:=[.am (.ao 824 [aC])]
noncomputable def Qc:List S:=[.i 1 (.q (aG .i []) .aJ),.ex (aG .iV [al [123]]),.i 2 (.af []),.gH (.cB<|aG .fX [al [125]]) [.ex (.aO a8 .q [.ao 831 [aI]]),aT (.cB<|aG .y [al [44]]) [.ex (aG .yc [])]],.ex (aG .j []),.am (.ao 70 [a8,aC])]
noncomputable def Qd:List S:=[.i 1 (.q (aG .i []) .aJ),aT (.or (aG .fX [al [40]])<|aG .fX [al [60]]) [.am (.ao 866 [aI,al [],ar 512,aC])],aT (.bN (aG .tq [al bI])<|.ao 838 [aG .u [bM]]) [.ex (aG .j []),.am (.ao 866 [aI,al [],ar 1024,aC])],.i 2 bq,aT (.ao 845 [aI,al fL]) [.ex (aG .j []),.i 2 (ar 131072)],aT (.ao 873 [aI]) [.am (.ao 880 [aI,a8,aC])],aT (.or (.ao 852 [aI,al f3])<|.ao 852 [aI,al gs]) [.ex (aG .b8 [ar 9002,.u [al ae7]])],.am (.ao 859 [aI,a8])]
noncomputable def Qe:List S:=[.am (.or (.ao 502 [aI,ar 5,al [40]])<|.ao 502 [aI,ar 5,al [60]])]
noncomputable def Qf:List S:=[.i 2 (aG .u [bM]),.am (.bN (aG .ms [aC])<|.bN (.ao 537 [a8])<|.cB<|.q a8 .m4)]
noncomputable def Qg:List S:=[.am (.bN (aG .ms [aC])<|.ao 537 [aG .u [bM]])]
noncomputable def Qh:List S:=[.i 2 (.q (aG .i []) .aJ),.i 3 (aG .Bf []),aT (aG .y [al [63]]) [.de 1 .i (ar 4096)],aT (.bN (.ao 838 [aG .i []])<|qk aC<|ar 131072) [.am (.ao 866 [aI,bp,bV aC (ar 32),a8])],.am (.ao .i [ar 99,bp,.af [.ao .gG [aI]],aC,a8])]
noncomputable def Qi:List S:=[.i 4 (.ao 939 [aI]),.i 5 (.ao 953 [aI,.c (.i C)]),.i 6 (.ao 656 [aI]),.am (.ao .i [ar 27,aC,.af [ci,cP,fN,.c .none],a8,bp])]
noncomputable def Qj:List S:=[aT (.or (.cB<|aG .fX [al [91]])<|gy (.q (aG .u [bM]) .aq) bM) [.am (.c<|.i C)],.am (.ao 502 [aG .u [dI],ar 5,al [58]])]
noncomputable def Qk:List S:=[.ex (aG .iV [al [91]]),.i 3 (aG .vk []),.ex (aG .iV [al [58]]),.i 4 (aG .be [bM]),.ex (aG .iV [al [93]]),.ex (aG .iV [al [58]]),.i 5 (aG .be [bM]),.am (.ao .i [ar 63,bp,.af [ci,cP],aC,a8])]
noncomputable def Ql:List S:=[.i 3 (.q (.aO aC .i []) .aJ),.i 4 (ar 2048),aT (.aO aC .tt [al bI]) [.i 4 (ar 3072)],.i 5 (.ao 939 [aC]),.i 6 (.ao 953 [aC,.c (.i C)]),.ex (.aO aC .iV [al fz]),.i 7 (.aO aC .be [ar 11]),.am (.ao .i [ar 27,al [],.af [cP,fN,kD,.c .none],ci,bp])]
noncomputable def Qm:List S:=[.am (.ao 932 [aC])]
noncomputable def Qn:List S:=[.am (.or (bt (a7 .aq) bM)<|.ao 502 [aI,dI,al eX])]
noncomputable def Qo:List S:=[.i 1 (aG .i []),.i 2 (aG .u [bM]),aT (.or (.q a8 .m4)<|.cB<|.ao 925 [aC]) [.am (aG .be [bM])],aT (.ao 502 [a8,bM,al eY]) [.ex (aG .j []),.ex (aG .j []),.am (.ao .aK [ar 96,.q aC .aP,.af [aG .be [bM]],.q aC .aJ])],aT (.or (.cB<|aG .ms [al dO])<|.cB<|.ao 925 [a8]) [.am (aG .be [bM])],.ex (aG .j []),.i 3 (.q (aG .j []) .aP),.i 4 (.c .none),.bQ (aG .Bg [al eY]) [.i 4 (aG .be [bM])] [aT (.or (aG .fX [al [38]])<|aG .fX [al [124]]) [.ex (aG .b8 [ar 1228,.u []])]],.am (.ao .i [ar 96,bp,.af [ci],ar 16777216,.q aC .aJ])]
noncomputable def Qp:List S:=[.i 1 (.q (aG .i []) .aJ),aT (.cB<|aG .y [al [60]]) [.am (.c .none)],.i 2 (.af [.ao 946 [aI]]),.gH (.bN (aG .y [al [44]])<|.bN (.cB<|aG .fX [al [62]])<|.cB<|aG .fX [al rk]) [.ex (.aO a8 .q [.ao 946 [aI]])],.ex (.ao 572 [aI]),.am (.ao 70 [a8,aC])]
noncomputable def Qq:List S:=[aT (aG .tq [al [99,111,110,115,116]]) [.ex (aG .b8 [ar 9002,.u [al [97,32,99,111,110,115,116,32,107,105,110,100,32,112,97,114,97,109,101,116,101,114]]])],.i 1 bq,aT (aG .tt [al f2]) [.i 1 (ar 268435456)],aT (.bN (aG .ms [al fd])<|bt (.q (aG .u [bM]) .aq) bM) [.ex (aG .j []),.de 1 .i (ar 536870912)],.i 2 (.q (aG .i []) .aJ),.i 3 (.ao 743 [aI]),.i 4 (.c .none),.i 5 (.c .none),aT (aG .tt [al iS]) [.i 4 (.ao 642 [aI,.c (.i C)])],aT (aG .y [al [61]]) [.i 5 (.ao 642 [aI,.c (.i C)])],.am (.ao .i [ar 100,bp,.af [ci,cP],aC,a8])]
noncomputable def Qr:List S:=[.i 2 (.q (aG .i []) .aJ),.ex (aG .iV [al [40]]),.i 3 (a7 .lD),.i 4 (a7 .hR),.cQ aI .lD (.c<|.i I),.cQ aI .hR (.c<|.i C),.i 5 (.af []),.gH (.cB<|aG .fX [al [41]]) [.ex (.aO cP .q [.ao 988 [aI,aC]]),aT (.cB<|aG .y [al [44]]) [.u],aT (.bJ .u (.q (.y cP<|.qj 1) .cj)<|ar 8192) [.ex (.aO (a7 .dU) .gw [ar 1014,.q (.y cP<|.qj 1) .aJ,.u []])]],.ex (aG .iV [al [41]]),.cQ aI .lD bp,.cQ aI .hR ci,.ex (.ao 960 [aI,cP]),.am (.ao 70 [cP,a8])]
noncomputable def Qs:List S:=[.i 2 (.c<|.i C),.jA 3 (gx [aC]) [.i 4 (.y aC bp),aT (.bN (kX bp bq)<|.bN (bt (.q (.y (.q ci .bO) bq) .aq)<|ar 8)<|bt (.q (.y (.q ci .bO) bq) .a_)<|al eX) [.ex (.aO (a7 .dU) .gw [ar 2680,.q ci .aJ,.u []])],.bQ (.bJ .u (.q ci .cj)<|ar 4096) [.i 2 (.c<|.i I)] [aT (.bN a8<|.bN (.cB<|.bJ .u (.q ci .cj)<|ar 8192)<|jY (.y (.q ci .bO) dI)<|.c .none) [.ex (.aO (a7 .dU) .gw [ar 1016,.q ci .aJ,.u []])]]]]
noncomputable def Qt:List S:=[.i 1 (aG .i []),aT (.ao 925 [aC]) [.ex (aG .j []),.am (.ao .c7 [ar 8,.q aC .aP,.q aC .aJ])],.am (aG .be [ar 10])]
noncomputable def Qu:List S:=[.i 2 bq,.bQ aC [.i 2 .j] [],.i 3 (.q (aG .i []) .aJ),aT (aG .y [al hN]) [.de 2 .i (ar 8192)],.i 4 (.ao 981 [aI]),aT (.bN (.cB<|.bJ .u a8<|ar 8192)<|aG .y [al [63]]) [.de 2 .i (ar 4096)],.i 5 (.ao .gG [aI]),.i 6 (.c .none),aT (.bN aC<|.bN (.cB<|.bJ .u a8<|ar 12288)<|aG .y [al [61]]) [.i 6 (aG .be [dI])],.am (.ao .i [ar 28,al [],.af [ci,cP,fN],a8,bp])]
noncomputable def lG:List (Fn×Nat×Nat×List S):=[(.j,1,14,lF),(1087,1,14,Ga),(1082,2,4,Gb),(1075,2,5,OT),(1068,4,9,Gc),(1063,3,4,Gd),(1056,2,10,OU),(1049,3,5,Ge),(1042,1,1,OV),(1021,1,6,OY),(1016,2,7,Gf),(1009,2,3,OZ),(1002,2,3,O0),(997,1,1,Bo),(1028,1,7,Gg),(1035,2,8,Gh),(1108,2,5,Gi),(1101,3,4,rA),(1094,3,5,Bp),(1113,3,11,yg),(.c7,3,3,O1),(.aK,4,4,O2),(.i,5,5,O3),(70,2,2,O4),(194,2,2,O5),(201,4,4,O6),(306,3,3,O7),(313,1,1,O8),(320,2,3,O9),(327,1,2,Pa),(334,2,2,Pb),(341,2,2,Pd),(348,2,2,Pe),(355,2,2,Pf),(362,2,2,Pg),(369,2,2,Ph),(376,2,2,Pj),(390,1,1,Pk),(397,1,1,Pm),(404,1,1,Pn),(411,3,3,Pp),(418,4,4,Pq),(425,1,2,Pr),(432,1,1,Pu),(439,1,1,Pw),(446,1,1,Py),(453,2,3,Pz),(509,2,2,PB),(516,2,6,Gj),(502,3,3,PC),(523,3,3,PD),(530,1,1,PE),(537,1,1,PF),(551,1,2,PG),(558,1,1,PH),(565,1,1,PJ),(572,1,4,PK),(609,2,2,PL),(621,1,2,PM),(628,1,1,PN),(635,2,2,PP),(642,2,4,PQ),(.gG,1,1,PT),(656,1,1,PU),(663,1,3,PV),(670,1,3,PX),(677,1,2,PY),(684,1,6,PZ),(698,3,5,P0),(717,3,6,P1),(729,1,2,P2),(736,1,4,P4),(743,1,3,P5),(750,1,2,P6),(764,3,4,P7),(783,1,2,P8),(790,2,3,P9),(797,1,3,Qa),(812,2,2,Qb),(824,1,3,Qc),(831,1,3,Qd),(838,1,1,Qe),(845,2,3,Qf),(852,2,2,Qg),(859,2,4,Qh),(866,4,7,Qi),(873,1,1,Qj),(880,3,6,Qk),(894,3,8,Ql),(913,2,2,Qm),(925,1,1,Qn),(932,1,5,Qo),(939,1,3,Qp),(946,1,6,Qq),(953,2,6,Qr),(960,2,5,Qs),(981,1,2,Qt),(988,2,7,Qu)]
noncomputable def iX(f:Fn):Nat×Nat×List S:=(lG.lookup f).getD (0,0,[.j])
noncomputable def jB:eJ->Option (Nat×List (At×qf))
 |.u=>O (5,[(.aq,.i 0),(.a_,.i 1),(.bO,.i 2),(.cj,.i 3),(.aJ,.i 4),(.yd,.j<|.aa 0)])
 |.j=>O (6,[(.aq,.i 0),(.aP,.i 1),(.kC,.i 2),(.aJ,.i 3),(.jz,.i 4),(.m4,.i 5)])
 |.vl=>O (4,[(.oG,.i 0),(.aJ,.i 1),(.Bh,.i 2),(.rm,.i 3)])
 |_=>U
noncomputable def o4:eJ->Option (Fn×List V)
 |.q=>O (194,[.ah []])
 |.i=>O (306,[])
 |_=>U
noncomputable def Gk(c:eJ):List (At×Fn):=match c with
 |.q=>[(.gw,201)]
 |.i=>[(.i,313),(.u,320),(.j,327),(.fX,334),(.tq,341),(.ms,348),(.y,355),(.tt,362),(.Bg,369),(.iV,376),(.vk,390),(.Bf,397),(.Bc,404),(.b8,411),(.F6,418),(.F7,425),(.yc,432),(.F8,439),(.up,446),(.be,453)]
 |.vm=>[(.yb,609)]
 |.vn=>[(.yb,812)]
 |.vo=>[(.yb,913)]
 |.y=>[(.fA,717)]
 |.tu=>[(.fA,698)]
 |.tv=>[(.fA,764)]
 |.tw=>[(.fA,894)]
 |_=>[]
noncomputable def gV(c:eJ)(a:At):Option Fn:=(Gk c).lookup a
noncomputable def cG{b:Type}(o:Option b)(H:Hp):R b:=match o with
 |some a=>.ok a H
 |.none=>.j
noncomputable def dC(v:V)(H:Hp):Option Bool:=match v with
 |.none=>O C
 |.i b=>O b
 |.aa i=>O<|i !=0
 |.ae a=>match H[a]? with
  |some (.af c)=>O<|!c.isEmpty
  |_=>.none
 |_=>.none
noncomputable def bg:Nat:=16777216
noncomputable def hS(v:V)(H:Hp):Option (List V):=match v with
 |.u b=>O b
 |.af b=>O b
 |.ae a=>match H[a]? with
  |some (.af b)=>O b
  |_=>.none
 |_=>.none
noncomputable def o5(o:f4)(x y:Int)(H:Hp):R V:=match o with
 |.i=>.ok (.aa<|x+y) H
 |.eA=>.ok (.aa<|x-y) H
 |.j=>if x.natAbs<bg*bg/\y.natAbs<bg*bg then .ok (.aa<|x*y) H else .j
 |.q=>if 0<y/\y<bg then .ok (.aa<|x/y) H else .j
 |.y=>if 0<y then .ok (.aa<|x%y) H else .j
 |.u=>if 0<=x/\0<=y then .ok (.aa<|Nat.land x.toNat y.toNat) H else .j
 |.rz=>if 2<=x/\x<16/\0<=y/\y<16 then .ok (.aa<|x^y.toNat) H else .j
noncomputable def vq(o:f4)(x y:List Nat)(H:Hp):R V:=match o with
 |.i=>if(x++y).length<=bg then .ok (.ah<|x++y) H else .j
 |_=>.j
noncomputable def vr(o:f4)(x y:Nat)(H:Hp):R V:=match o with
 |.i=>match H[x]?,H[y]? with
  |some (.af a),O (.af b)=>if(a++b).length<=bg then .ok (.ae H.length) (H++[.af (a++b)]) else .j
  |_,_=>.j
 |_=>.j
noncomputable def fO(o:f4)(a b:V)(H:Hp):R V:=match a with
 |.aa x=>(match b with|.aa y=>o5 o x y H|_=>.j)
 |.ah x=>(match b with|.ah y=>vq o x y H|_=>.j)
 |.ae x=>(match b with|.ae y=>vr o x y H|_=>.j)
 |_=>.j
noncomputable def iY(o:f4)(a b:V)(H:Hp):R V:=match a with
 |.aa _=>fO o a b H
 |.ah _=>fO o a b H
 |_=>.j
noncomputable def Qv(c:List Nat)(s:List Nat):Option Bool:=match c with
 |[x]=>O<|s.contains x
 |_=>.none
noncomputable def rC(a b:V):Option Bool:=match a with
 |.aa x=>(match b with|.aa y=>O (decide (x=y))|_=>.none)
 |.ah x=>(match b with|.ah y=>O (decide (x=y))|_=>.none)
 |_=>.none
noncomputable def Qw:V->Option (Option V)
 |.aa _=>O .none
 |.ah _=>O .none
 |_=>.none
noncomputable def nh(k:V):List (V×V)->Option (Option V)
 |[]=>Qw k
 |(a,v)::r=>(rC a k).bind λb=>(nh k r).map λo=>if b then O v else o
noncomputable def rD(k:V):List V->Option Bool
 |[]=>O C
 |a::r=>(rC a k).bind λb=>(rD k r).map (b||·)
noncomputable def Bq(a b:V):Option Bool:=match b with
 |.u c=>rD a c
 |.dct d=>(nh a d).map (·.isSome)
 |_=>.none
noncomputable def vt(a b:V):Option Bool:=match b with
 |.ah s=>(match a with|.ah c=>Qv c s|_=>.none)
 |b=>Bq a b
noncomputable def ni:List V->Option (List Int)
 |[]=>O []
 |.aa i::r=>(ni r).map (i::·)
 |_=>.none
noncomputable def ql(H:Hp)(x:Nat):Option (List V):=match H[x]? with
 |some (.af a)=>O a
 |_=>.none
noncomputable def vu(x y:Nat)(H:Hp):Option Bool:=(ql H x).bind λa=>(ql H y).bind λb=>(ni a).bind λis=>(ni b).map λc=>decide (is=c)
noncomputable def Gl(a b:V)(H:Hp):Option Bool:=match a with
 |.ae x=>(match b with|.ae y=>vu x y H|_=>.none)
 |a=>rC a b
noncomputable def Br(a b:V):Option Bool:=match b with
 |.none=>(match a with|.none=>O I|_=>O C)
 |_=>.none
noncomputable def vv(f:Int->Int->Bool)(a b:V):Option Bool:=match a with
 |.aa x=>(match b with|.aa y=>O (f x y)|_=>.none)
 |_=>.none
noncomputable def lH(o:qg)(a b:V)(H:Hp):R V:=cG ((match o with
 |.eq=>Gl a b H
 |.ne=>(rC a b).map (!·)
 |.i=>vt a b
 |.q=>(Bq a b).map (!·)
 |.j=>Br a b
 |.u=>(Br a b).map (!·)
 |.lt=>vv (λx y=>decide (x<y)) a b
 |.gt=>vv (λx y=>decide (y<x)) a b
 |.ge=>vv (λx y=>decide (y<=x)) a b
 |.le=>vv (λx y=>decide (x<=y)) a b).map V.i) H
noncomputable def fe(fs:List<|At×V)(a:At):Option V:=match fs with
 |[]=>.none
 |(b,v)::r=>if b=a then O v else fe r a
noncomputable def fB(fs:List<|At×V)(a:At)(v:V):List (At×V):=match fs with
 |[]=>[(a,v)]
 |(b,u)::r=>if b=a then(b,v)::r else(b,u)::fB r a v
noncomputable def kE(v:V)(a:At)(H:Hp):R V:=match v with
 |.aQ _ b=>cG (fe b a) H
 |.ae x=>match H[x]? with
  |some (.aQ _ b)=>cG (fe b a) H
  |_=>.j
 |_=>.j
noncomputable def jZ(v:V)(a:At)(u:V)(H:Hp):R Unit:=match v with
 |.ae x=>match H[x]? with
  |some (.aQ c b)=>.ok ()<|H.set x<|.aQ c<|fB b a u
  |_=>.j
 |_=>.j
noncomputable def fP(i:Int)(n:Nat):Option Nat:=if 0<=i then(if i<n then O i.toNat else .none) else if-(n:Int)<=i then O (i+n).toNat else .none
noncomputable def Qx(v:V)(i:Int)(H:Hp):R V:=match v with
 |.ah s=>cG ((fP i s.length).bind λj=>(s[j]?).map λc=>.ah [c]) H
 |v=>cG ((hS v H).bind λa=>(fP i a.length).bind λj=>a[j]?) H
noncomputable def Bs(v i:V)(H:Hp):R V:=match i with
 |.aa i=>Qx v i H
 |_=>.j
noncomputable def f6(v i:V)(H:Hp):R V:=match v with
 |.dct a=>cG ((nh i a).bind id) H
 |v=>Bs v i H
noncomputable def nj:V->Option (Option Nat)
 |.none=>O .none
 |.aa a=>if 0<=a then O (O a.toNat) else .none
 |_=>.none
noncomputable def vw(v:V)(H:Hp):Option (List V):=match v with
 |.af a=>O a
 |.ae x=>match H[x]? with
  |some (.af a)=>O a
  |_=>.none
 |_=>.none
noncomputable def Qy(s:List Nat)(a b:Option Nat)(H:Hp):R V:=match a with
 |.none=>.j
 |some a=>match b with
  |.none=>.j
  |some b=>if a<=b/\a<=s.length then .ok (.ah<|(s.take b).drop a) H else .j
noncomputable def Bt(c:List V)(a b:Option Nat)(H:Hp):R V:=match a with
 |.none=>.ok (.ae H.length)<|H++[.af (match b with|some b=>c.take b|.none=>c)]
 |some a=>match b with
  |.none=>.ok (.ae H.length)<|H++[.af (c.drop a)]
  |some _=>.j
noncomputable def rE(v:V)(a b:Option Nat)(H:Hp):R V:=match v with
 |.ah s=>Qy s a b H
 |v=>match vw v H with
  |some c=>Bt c a b H
  |.none=>.j
noncomputable def lI(v c d:V)(H:Hp):R V:=match nj c with
 |.none=>.j
 |some a=>match nj d with
  |.none=>.j
  |some b=>rE v a b H
noncomputable def rF:List V->Option (List<|List Nat)
 |[]=>O []
 |.ah s::r=>(rF r).map (s::·)
 |_=>.none
noncomputable def dJ(a:List Nat):List (List Nat)->List Nat
 |[]=>[]
 |[x]=>x
 |x::r=>x++a++dJ a r
noncomputable def f7(b:Bi)(as:List V)(H:Hp):R V:=match b,as with
 |.bK,[.ah s]=>.ok (.aa s.length) H
 |.bK,[v]=>cG ((hS v H).map λc=>.aa c.length) H
 |.aa,[.ah s]=>if s=[48] then .ok (.aa 0) H else if s=[52,50] then .ok (.aa 42) H else .j
 |.i,[.aa a,.aa b]=>.ok (.aa<|if a<b then b else a) H
 |.j,[.ae a]=>cG (((hS (.ae a) H).bind ni).map λis=>.aa is.sum) H
 |_,_=>.j
noncomputable def o6(v:V)(H:Hp):V×Hp:=match v with
 |.ae a=>match H[a]? with
  |some (.af b)=>(.af b,H.set a .i)
  |_=>(v,H)
 |_=>(v,H)
noncomputable def mv:List V->Hp->List V×Hp
 |[],H=>([],H)
 |v::r,H=>
  let(c,a):=o6 v H
  let(d,b):=mv r a
  (c::d,b)
noncomputable def nk(as:List V):List (At×qf)->Option (List<|At×V)
 |[]=>O []
 |(a,.j v)::r=>(nk as r).map ((a,v)::·)
 |(a,.i i)::r=>(as[i]?).bind λv=>(nk as r).map ((a,v)::·)
noncomputable abbrev gS:=Fn->List V->Hp->R V
noncomputable def iZ(a:gS)(c:eJ)(as:List V)(H:Hp):R V:=match jB c with
 |some (n,b)=>if as.length=n then
   let(d,e):=mv as H
   match nk d b with
   |some g=>.ok (.aQ c g) e
   |.none=>.j
  else .j
 |.none=>match o4 c with
  |some (f,dflt)=>(a f (.ae H.length::(as++if c=.q/\as.length=0 then dflt else[]))<|H++[.aQ c []]).i λh e=>.ok (.ae H.length) e
  |.none=>if as.length=0 then .ok (.aQ c []) H else .j
noncomputable def qm(v:V)(H:Hp):Option eJ:=match v with
 |.aQ c _=>O c
 |.ae a=>match H[a]? with
  |some (.aQ c _)=>O c
  |_=>.none
 |_=>.none
noncomputable def hT(v:V)(m:At)(as:List V)(H:Hp):R V:=match v with
 |.ah c=>if m=.jX then(match as with
  |[.ae a]=>(match H[a]? with
   |some (.af b)=>(match rF b with
    |some e=>if(e.map (·.length)).sum+e.length*c.length<=bg then .ok (.ah<|dJ c e) H else .j
    |.none=>.j)
   |_=>.j)
  |_=>.j) else .j
 |.dct f=>if m=.cO then(match as with
  |[k,d]=>cG ((nh k f).map (·.getD d)) H
  |_=>.j) else .j
 |.ae a=>if m=.q then(match as with
  |[u]=>(match H[a]? with
   |some (.af b)=>if b.length<bg then .ok .none (H.set a<|.af<|b++[u]) else .j
   |_=>.j)
  |_=>.j)
  else if m=.hQ then(match as with
  |[]=>(match H[a]? with
   |some (.af b)=>(match b.getLast? with
    |some u=>.ok u<|H.set a<|.af b.dropLast
    |.none=>.j)
   |_=>.j)
  |_=>.j) else .j
 |_=>.j
noncomputable def Bu(H:Hp)(a:Nat):Bool:=match H[a]? with
 |some (.af _)=>I
 |_=>C
noncomputable def o7(v:V)(m:At)(H:Hp):Bool:=match v with
 |.ah _=>decide (m=.jX)
 |.dct _=>decide (m=.cO)
 |.ae a=>(decide (m=.q)||decide (m=.hQ))&&Bu H a
 |_=>C
noncomputable def eZ(f:V->Hp->R V):List V->Hp->R (List V)
 |[],H=>.ok [] H
 |v::r,H=>match f v H with
  |.ok u H=>(eZ f r H).i λa H=>.ok (u::a) H
  |_=>.j
noncomputable def rG{c:Type}(v:V)(H:Hp)(f:List V->Hp->R c):R c:=match v with
 |.u b=>f b H
 |.af b=>f b H
 |.ae a=>match H[a]? with
  |some (.af b)=>(f b<|H.set a .i).i λr H=>.ok r<|H.set a<|.af b
  |_=>.j
 |_=>.j
noncomputable def yh{a:Type}(v:V)(H:Hp)(f:List V->Hp->R a):R a:=match v with
 |.u _=>.j
 |v=>rG v H f
mutual
noncomputable def az(d:gS):E->Lc->Hp->R V
 |.c v,_,H=>.ok v H
 |.qj n,_,H=>.ok (.aa<|-(n:Int)) H
 |.l i,l,H=>match l[i]? with
  |some (some v)=>.ok v H
  |_=>.j
 |.q e a,l,H=>(az d e l H).i λv H=>kE v a H
 |.y e i,l,H=>(az d e l H).i λv H=>(az d i l H).i λj H=>f6 v j H
 |.slc e lo p,l,H=>(az d e l H).i λv H=>(az d lo l H).i λa H=>(az d p l H).i λb H=>lI v a b H
 |.bJ o a b,l,H=>(az d a l H).i λx H=>(az d b l H).i λy H=>fO o x y H
 |.b9 o a b,l,H=>(az d a l H).i λx H=>(az d b l H).i λy H=>lH o x y H
 |.bN a b,l,H=>(az d a l H).i λx H=>match dC x H with
  |some c=>if c then az d b l H else .ok x H
  |.none=>.j
 |.or a b,l,H=>(az d a l H).i λx H=>match dC x H with
  |some c=>if c then .ok x H else az d b l H
  |.none=>.j
 |.cB e,l,H=>(az d e l H).i λx H=>cG ((dC x H).map λb=>.i<|!b) H
 |.bz t a b,l,H=>(az d t l H).i λx H=>match dC x H with
  |some c=>if c then az d a l H else az d b l H
  |.none=>.j
 |.ao f as,l,H=>(cu d as l H).i λg H=>d f g H
 |.ce c as,l,H=>(cu d as l H).i λg H=>iZ d c g H
 |.bi b as,l,H=>(cu d as l H).i λg H=>f7 b g H
 |.aO e m as,l,H=>(az d e l H).i λv H=>match qm v H with
  |some c=>match gV c m with
   |some f=>(cu d as l H).i λg H=>d f (v::g) H
   |.none=>.j
  |.none=>if o7 v m H=I then(cu d as l H).i λg H=>hT v m g H else .j
 |.u h,l,H=>(cu d h l H).i λg H=>.ok (.u g) H
 |.af h,l,H=>(cu d h l H).i λg H=>.ok (.ae H.length)<|H++[.af g]
 |.dct ks g,l,H=>(cu d ks l H).i λks H=>(cu d g l H).i λg H=>.ok (.dct<|ks.zip g) H
 |.i e x it,l,H=>(az d it l H).i λv H=>(yh v H λq H=>eZ (λv H=>az d e (l.set x<|O v) H) q H).i λg H=>.ok (.ae H.length)<|H++[.af g]
 |.lE e x n,l,H=>(az d n l H).i λv H=>match v with
  |.aa k=>if 0<=k/\k<=bg then(eZ (λv H=>az d e (l.set x<|O v) H) ((kl k.toNat).map λ(i:Nat)=>V.aa (i:Int)) H).i λg H=>.ok (.ae H.length) (H++[.af g]) else .j
  |_=>.j
 |.j,_,_=>.j
noncomputable def cu(a:gS):List E->Lc->Hp->R (List V)
 |[],_,H=>.ok [] H
 |e::b,l,H=>(az a e l H).i λv H=>(cu a b l H).i λc H=>.ok (v::c) H
end
noncomputable def lJ:List Nat->List V->Lc->Option Lc
 |[],[],l=>O l
 |i::is,v::a,l=>lJ is a<|l.set i<|O v
 |_,_,_=>.none
noncomputable def qn(t:Lc->Hp->R Bool)(b:Lc->Hp->R (Fl×Lc)):Nat->Lc->Hp->R (Fl×Lc)
 |0,_,_=>.j
 |n+1,l,H=>(t l H).i λc H=>if c then(b l H).i λr H=>match r with
   |(.aU,l)=>qn t b n l H
   |(.q,l)=>qn t b n l H
   |(.u,l)=>.ok (.aU,l) H
   |(.am v,l)=>.ok (.am v,l) H
  else .ok (.aU,l) H
noncomputable def dp(b:V->Lc->Hp->R (Fl×Lc)):List V->Lc->Hp->R (Fl×Lc)
 |[],l,H=>.ok (.aU,l) H
 |v::r,l,H=>match b v l H with
  |.ok (.aU,l) H=>dp b r l H
  |.ok (.q,l) H=>dp b r l H
  |.ok (.u,l) H=>.ok (.aU,l) H
  |.ok (.am v,l) H=>.ok (.am v,l) H
  |_=>.j
noncomputable def hU:Nat:=16777216
noncomputable def kY{a:Type}:R a->R a
 |.q _=>.j
 |r=>r
mutual
noncomputable def fY(d:gS):S->Lc->Hp->R (Fl×Lc)
 |.i i e,l,H=>(az d e l H).i λv H=>.ok (.aU,l.set i<|O v) H
 |.cQ o a e,l,H=>(az d e l H).i λv H=>(az d o l H).i λx H=>(jZ x a v H).i λg H=>.ok (.aU,l) H
 |.iW is e,l,H=>(az d e l H).i λv H=>match hS v H with
  |some f=>match lJ is f l with
   |some l=>.ok (.aU,l) H
   |.none=>.j
  |.none=>.j
 |.de i op e,l,H=>match l[i]? with
  |some (some x)=>(az d e l H).i λy H=>(iY op x y H).i λv H=>.ok (.aU,l.set i<|O v) H
  |_=>.j
 |.oW o a op e,l,H=>(az d o l H).i λx H=>(kE x a H).i λu H=>(az d e l H).i λy H=>(iY op u y H).i λv H=>(jZ x a v H).i λg H=>.ok (.aU,l) H
 |.ex e,l,H=>(az d e l H).i λg H=>.ok (.aU,l) H
 |.bQ t a b,l,H=>(az d t l H).i λx H=>match dC x H with
  |some c=>if c then aZ d a l H else aZ d b l H
  |.none=>.j
 |.gH t b,l,H=>qn (λl H=>(az d t l H).i λx H=>cG (dC x H) H) (λl H=>aZ d b l H) hU l H
 |.y i e b,l,H=>(az d e l H).i λv H=>rG v H λf H=>dp (λv l H=>aZ d b (l.set i<|O v) H) f l H
 |.jA i e b,l,H=>(az d e l H).i λv H=>match v with
  |.aa k=>if 0<=k/\k<=bg then dp (λv l H=>aZ d b (l.set i<|O v) H) ((kl k.toNat).map λ(i:Nat)=>V.aa (i:Int)) l H else .j
  |_=>.j
 |.am e,l,H=>(az d e l H).i λv H=>.ok (.am v,l) H
 |.u,l,H=>.ok (.u,l) H
 |.q,l,H=>.ok (.q,l) H
 |.Bj,l,H=>.ok (.aU,l) H
 |.ye e,l,H=>(az d e l H).i λv H=>match v with
  |.aa i=>if 0<=i/\i<1000000 then .q H else .j
  |_=>.j
 |.m5 i e h,l,H=>match az d e l H with
  |.ok v H=>.ok (.aU,l.set i<|O v) H
  |.q H=>kY<|aZ d h l H
  |.j=>.j
 |.nb e h,l,H=>match az d e l H with
  |.ok _ H=>.ok (.aU,l) H
  |.q H=>kY<|aZ d h l H
  |.j=>.j
 |.j,_,_=>.j
noncomputable def aZ(a:gS):List S->Lc->Hp->R (Fl×Lc)
 |[],l,H=>.ok (.aU,l) H
 |s::r,l,H=>(fY a s l H).i λx H=>match x with
  |(.aU,l)=>aZ a r l H
  |x=>.ok x H
end
noncomputable def Bv(a:gS)(f:Fn)(as:List V)(H:Hp):R V:=
 let(np,nl,body):=iX f
 if as.length=np then
  (aZ a body (as.map O++jq (nl-np) U) H).i λx H=>match x with
   |(.am v,_)=>.ok v H
   |(.aU,_)=>.ok .none H
   |_=>.j
 else .j
noncomputable def ag:Nat->gS
 |0,_,_,_=>.j
 |n+1,f,as,H=>Bv (ag n) f as H
section
open PySem PySem.W PySem.Calls PyProof.Rows
noncomputable abbrev PO:=jV
noncomputable abbrev aW:=List<|aH×PO
noncomputable abbrev dF(l:List dA):List aH:=l.filterMap (·.frame)
theorem sw{i:dA}{outer:List dA}{L b:aH}(a:i.frame=O L)(c:b∈dF (i::outer)):b=L∨b∈dF outer:=by
 refine aB (NN.mp c) λe he h=>?_
 rcases d4.mp he with rfl|he
 ·exact .inl (cT<|a.symm.trans h).symm
 ·exact .inr<|NN.mpr<|aD e he h
inductive Ko(h base:cz)(e:aH)(cls fl:ak):Prop
 |mk:∀oe vs T oT ts,h.get? e=some oe->oe.cls=cls->oe.data=.fields vs->vs[1]? =some (.ref T)->vs[2]? =some .none->base.get? T=none->T≠e->h.get? T=some oT->oT.data=.fields ts->ts[3]? =some fl->Ko h base e cls fl
noncomputable def lV(base:cz)(l:List dA)(e:aH)(cls fl:ak)(h:cz):Prop:=base.StaysIn h/\base.get? e=U/\h.FunFrames base l/\Ko h base e cls fl
section
variable{M:uW}{A:dN}{E:ak->ay->Prop}{s:ay}{base:cz}{i:dA}{outer l:List dA}{L e:aH}{cls fl:ak}{Q:Unit->ay->Prop}
theorem uB{h:cz}{a oT:PO}{d ts:Array ak}{b T:aH}{o:PO}(c:h.get? b=O o)(f:∀g,o.data≠ .fields g)(i:h.get? e=O a)(j:a.data=.fields d):b≠e:=λq=>by
 rw[q,i] at c;cases c;exact f _ j
theorem Kr{u:PO}{t:Array ak}{r:ak}{g:Bool}(H:A.frames=some (i::outer))(B:s.heap.FunFrames base (i::outer))(R:i.frame=some L)(F:s.heap.get? e=some u)(N:base.StaysIn s.heap)(v:base.get? e=none)
  (w:u.data=.fields t)(hsz:1<t.size)(S:t[2]? =some .none)(h:∀P,lV base (i::outer) e u.cls (ls L) P->s.heap.UpToSlots P->Q () {s with heap:=P}):
  bk M A (do let a<-frameOf i;let G<-entryPlaceOf L g;let b<-adw r a .none (ls L) .none G;setField (.ref e) 1 b) Q E s:=by
 have x:e∉dF (i::outer):=λhm=>by
  obtain⟨_,o,Z,j⟩:=B.mem hm
  rw[F] at Z;cases Z;exact j t w
 refine bu (wpAny_frameOf_fun H B R λc d=>bu (wpAny_entryPlaceOf λG y=>?_))
 unfold adw newFields
 refine bu (uY ?_ (y.sizeOk5 _ _ _ _ _))
 have f:=(d.2.1 e x).trans F
 have k:base.StaysIn c:=λb o hb=>(d.2.1 b λhm=>by rw[(B.mem hm).1] at hb;exact ba hb).trans (N b o hb)
 generalize T:({cls:=.type "traceback",dict:=none,data:=.fields ([r,.ref L,.none,ls L,.none]++(if G.isEmpty then jq 6 uT else G)).toArray}:PO)=oT
 have p:∃ts:Array ak,oT.data=.fields ts/\ts[3]? =some (ls L):=aD _ (by rw[<-T]) (by first|(simp;done)|(rcases y with rfl|⟨_,_,_,_,_,_,_,rfl⟩<;>simp))
 refine aB p λts p X=>?_
 refine AJ (hJ oT f) w hsz (h _ ?_ ?_)
 all_goals
  have z:=mV (m0 f)
  have keep:∀b o,b≠e->c.get? b=some o->((c.push oT).update e (NO (·.setIfInBounds 1 (.ref c.objs.size)))).get? b=some o:=λb o Y hb=>by
   rw[xK _ _ (eH Y)];exact hJ _ hb
 ·have m:=NP w (·.setIfInBounds 1 (uU c.objs.size))
  refine⟨λb o hb=>keep b o (λq=>by rw[q,v] at hb;exact ba hb) (k b o hb),v,B.of_keeps λb o hb j=>?_,_,_,c.objs.size,oT,ts,E7 _ (hJ oT f) (E8 m),PySem.Obj.cls_mapFields ..,m,by simp[hsz],?_,k.fresh,z,?_,p,X⟩
  ·obtain⟨K,hs⟩:=d.2.2 b o hb
   exact aD _ (keep b _ (uB (T:=e) (ts:=t) (oT:=u) hb j F w) hs) rfl
  ·rw[Array.getElem?_setIfInBounds_ne (by decide)];exact S
  ·rw[xK _ _ (eH z)];exact kv c (by rw[E8 p])
 ·intro b o hb j
  obtain⟨K,hs⟩:=d.2.2 b o hb
  exact⟨K,keep b _ (uB (T:=e) (ts:=t) (oT:=u) hb j F w) hs⟩
theorem Yy{a:PO}{b:Array ak}(c:A.frames=O (i::outer))(p:s.heap.FunFrames base<|i::outer)(j:i.frame=O L)(k:s.heap.get? e=O a)(d:base.StaysIn s.heap)(f:base.get? e=U)
  (m:a.data=.fields b)(o:b[1]? =O .none)(q:b[2]? =O .none)(h:∀g,lV base (i::outer) e a.cls (ls L) g->s.heap.UpToSlots g->Q () {s with heap:=g}):bk M A (AK (.ref e) i) Q E s:=by
 unfold AK;simp only[j];refine bu<|s5 k m o ?_;rw[a9 (D J)];exact Kr c p j k d f m (E9.mp o).1 q h
theorem Ks(g:A.frames=O (i::outer))(r:i.frame=O L)(x:lV base (i::outer) e cls .none s.heap)(h:∀d,lV base (i::outer) e cls (ls L) d->s.heap.UpToSlots d->Q () {s with heap:=d}):bk M A (AK (.ref e) i) Q E s:=by
 obtain⟨j,k,B,t,v,T,oT,ts,w,hcls,hd,y,h2,m,p,f,a,z⟩:=x;subst hcls;unfold AK;simp only[r];refine bu<|s5 w hd y ?_;rw[aN (by simp)];refine bu<|s5 f a z ?_;rw[a9 (by simp[ls])];refine bu<|AJ f a (E9.mp z).1 ?_;have other:∀b,b≠T->(s.heap.update T (NO (·.setIfInBounds 3 uT))).get? b=s.heap.get? b:=λb hb=>xK _ _<|eH hb;refine Kr g (B.of_keeps λb o hb c=>aD o ((other b<|uB (T:=e) (ts:=v) (oT:=t) hb c f a).trans hb) J) r ((other e<|eH p).trans w)
  (λb o hb=>(other b λq=>by rw[q,m] at hb;exact ba hb).trans<|j b o hb) k hd (E9.mp y).1 h2
  λd x u=>h d x λb o hb c=>u b o ((other b<|uB (T:=e) (ts:=v) (oT:=t) hb c f a).trans hb) c
theorem zC(x:lV base l e cls fl s.heap)(h:∀k,lV base l e cls .none k->s.heap.UpToSlots k->Q () {s with heap:=k}):bk M A (Fu (.ref e) U) Q E s:=by
 obtain⟨m,p,w,r,t,T,oT,ts,u,hcls,hd,v,h2,g,i,j,a,y⟩:=x;have c:=(E9.mp y).1;have other:∀b,b≠T->(s.heap.update T (NO (·.setIfInBounds 3 ((U:Option aH).elim uT λf=>ls f)))).get? b=s.heap.get? b:=
  λb hb=>xK _ _<|eH hb
 unfold Fu;refine bu<|s5 u hd v ?_;rw[aN (by simp)];refine AJ j a c<|h _ ⟨λb o hb=>(other b λq=>by rw[q,g] at hb;exact ba hb).trans<|m b o hb,p,w.of_keeps λb o hb d=>aD o ((other b<|uB (T:=e) (ts:=t) (oT:=r) hb d j a).trans hb) J,r,t,T,_,_,(other e<|eH i).trans u,hcls,hd,v,h2,g,i,E7 _ j<|E8<|NP a _,NP a _,by simp[c]⟩
  λb o hb d=>⟨o.slots,(other b<|uB (T:=e) (ts:=t) (oT:=r) hb d j a).trans hb⟩
theorem Kt{fl:ak}(x:lV base (i::outer) e cls fl h):lV base outer e cls fl h:=⟨x.1,x.2.1,x.2.2.1.2.2,x.2.2.2⟩
theorem Yz(g:A.frames=O (i::outer))(m:i.frame=O L)(x:lV base (i::outer) e cls .none s.heap)(h:∀j,lV base outer e cls .none j->s.heap.UpToSlots j->Q () {s with heap:=j}):bk M A («leaving» i<|.ref e) Q E s:=by
 unfold «leaving»;exact bu<|Ks g m x λk a b=>zC a λc d f=>h c (Kt d)<|b.trans f
theorem YA{g:PO}{j:Array ak}(k:A.frames=O (i::outer))(r:s.heap.FunFrames base<|i::outer)(t:i.frame=O L)(u:s.heap.get? e=O g)(m:base.StaysIn s.heap)(o:base.get? e=U)
  (v:g.data=.fields j)(w:j[1]? =O .none)(x:j[2]? =O .none)(h:∀p,lV base outer e g.cls .none p->s.heap.UpToSlots p->Q () {s with heap:=p}):bk M A («leaving» i<|.ref e) Q E s:=by
 unfold «leaving»;exact bu<|Yy k r t u m o v w x λq a b=>zC a λc d f=>h c (Kt d)<|b.trans f
end
noncomputable def b4:aH:=129
inductive qN(base G:cz)(l:List dA)(e:aH)(news:aW)(h:cz):Prop
 |mk:∀B,base.StaysIn B->(∀b o,G.get? b=some o->b∉dF l->B.get? b=some o)->(∀q∈news,B.get? q.1=some q.2/\G.get? q.1=none/\base.get? q.1=none)->lV B l e (.ref b4) .none h->qN base G l e news h
structure DI(h h':cz)(e:aH):Prop where
 DJ:∀b o,h.get? b=some o->h'.get? b=some o
 ce:h.get? e=none
 Ku:∃oe vs,h'.get? e=some oe/\oe.cls=.ref b4/\oe.data=.fields vs/\vs[1]? =some .none/\vs[2]? =some .none
theorem YB(Y:s6 f d a):(∀n c,(n,c)∈d->L<c)->∀q∈a,L<q.1:=by
 induction Y with
 |nil=>exactλh q b=>ax b eW
 |cons hd Y g=>exactλh q b=>(d4.mp b).elim (λe=>e▸h _ _ (.head _))<|g (λn c hm=>h n c<|.tail _ hm) q
theorem DK{b:List<|aw×aH}{a:aW}(Y:s6 c b a):a.map (·.1)=b.map (·.2):=by
 induction Y with
 |nil=>rfl
 |cons hd Y d=>exact bH (_::·) d
section
variable{K:cU}{p:ky}{loose:List aw}{lW:ExcName->Option ak}{mg mb:aw->Option ak}
theorem YC{h c g r:cz}{j:dA}
  (B:lu f h a c)(k:Fr c L g m)(T:mj (dF<|j::a) g r)(y:j.frame=O L):
  ∃s,mj (dF a) c s/\Fr s L r m/\lu f h a s/\(∀b,r.get? b=U->s.get? b=U):=by
 have nL:=AL k;refine ek k.ns λM A F G t u v=>?_;obtain⟨N,hs⟩:=T.up G;obtain⟨d,i⟩:=aeq (fs:=dF a)
  (λb hb=>by
   obtain⟨_,o,w,_⟩:=B.frames.mem hb;exact⟨o,w⟩)
  (λb o e l=>T.other b o (k.keep b o e) (λq=>by
   rcases sw y q with z|z
   ·rw[z,nL] at e;exact ba e
   ·exact l z))
  (λb o e hm=>T.up<|k.keep b o e)
 refine⟨_,d,⟨f5 _ A F hs t u v,i,by rw[d.size];exact k.above⟩,⟨B.stack,λb o e=>d.other b o (B.stays b o e) (λhm=>by
  rw[(B.frames.mem hm).1] at e;exact ba e),B.frames.of_keeps λb o e P=>by
  obtain⟨H,x⟩:=d.up e;exact aD _ x J⟩,λb e=>?_⟩
 cases q:(ktsHeap r (dF a) c).get? b with
 |none=>rfl
 |some o=>have:=i b o q;rw[e] at this;exact ba this
set_option backward.match.sparseCases true in
theorem Kv{P A:dN}{s:ay}{r l Q:cz}{G:dA}
  {R:s7->ay->Prop}{name k:aw}{X:List cA}{d:cY}{dV kV doc pm u ct oc:ak}{args:Args}{z:List<|aw×ak}
  (B:lu P r i l)(F:Fr l L s.heap m)(Z:K.In l)(N:News l L s.heap t)(T:oz p loose lW mg mb l)(XB:K.In r)(TB:oz p loose lW mg mb r)(a:s8 (dF i) l)
  (T0:mj (dF i) Q l)(hA:A.frames=O (G::i))(hf:G.frame=O L)(hke:G.scope.kind=.function)
  (ho:K.lookup f=O ⟨oc,od,.func<|fnOf name k M X d dV kV doc pm an u ct,osl⟩)(hcd:codeIn K u k=I)(hroom:A.depth<qd)
  (hbind:AM s (fnOf name k M X d dV kV doc pm an u ct) args z)
  (hkind:(z.all λy=>d.names.lookup y.1==O .local||d.names.lookup y.1==O .cell)=I)(mq:((AN 0 d.names []).map (·.1)).Nodup)
  (h:∀g E H tk cells,Fr l L g m->Fr g E H (xN (jW k d E f u).kindOf z λξ=>U)->News g E H (cells++t)->s6 (bindC (jW k d E f u).kindOf z λξ=>U) (AN (E+1) d.names []) cells->lu A r (G::i) g->K.In g->oz p loose lW mg mb g->s8 (dF<|G::i) g->(∀p∈t,p.1<E)->(∀p∈cells,E<p.1)->(cells.map (·.1)).Nodup->(∀W,mj (dF<|G::i) g W->∃j,mj (dF i) Q j/\Fr j L W m/\lu P r i j/\K.In j/\oz p loose lW mg mb j/\s8 (dF i) j/\(∀b,W.get? b=U->j.get? b=U))->bk (du prog w) (A.deeper<|jW k d E f u) (execs X<|jW k d E f u) (λfl s'=>R (.ok<|.ret<|match fl with|.ret v=>v|_=>.none) s') (λe s'=>bk (du prog w) (A.deeper<|jW k d E f u) («leaving» (jW k d E f u) e) (λξ s''=>R (.error e) s'') (λe' s''=>R (.error e') s'') s') {s with heap:=H,toks:=tk})
  (hco:d.isCoroutine=C)(hgen:d.isGenerator=C)(hk:d.kind=.function):kA (du prog w) A (.call (.ref f) args) R s:=by
 refine u9 (groundX (R:=R) B F N hA hf hke) ?_;rintro FG BG st-;have DG:s8 (dF<|G::i) (ml s.heap (t.map (·.1))):=λb hb=>by
  rcases sw hf hb with rfl|hb
  ·refine te FG.ns λo es n ho hd ξ=>?_;exact lz o es n ho hd
  ·exact iU (a b hb) λo es' n' ho' hd'=>lz o es' n' (st b o ho') hd'
 have UP:∀W,mj (dF<|G::i) (ml s.heap (t.map (·.1))) W->∃j,mj (dF i) Q j/\Fr j L W m/\lu P r i j/\K.In j/\oz p loose lW mg mb j/\s8 (dF i) j/\(∀b,W.get? b=U->j.get? b=U):=λW T'=>F0 (YC B FG T' hf) λh' T₁ F₁ S n₁=>OO h' (T0.trans T₁) F₁ S (XB.keeps S.stays) (TB.keeps S.stays) (a.turn T₁) n₁;refine aer hroom ((Z.keeps F.keep) _ _ ho) J hco hgen J (codeRec_of (Z.keeps F.keep) hcd)<|hbind _ _ _ _ ?_;refine aes hk (kindsX hkind _) λenv' he s' x=>?_;subst he;refine⟨(T.nolimit.keeps F.keep).keeps x.toInCall.keep,aet ?_⟩;refine eC x.done ?_;rintro H tk rfl _;have V:=x.toInCall.keep;refine aB (Cl.news (bF _) λn c hm=>⟨x.cell n c<|aeu (Om d.names 0 (s.heap.objs.size+1) [] [] J▸mq) hm,x.above n c hm⟩) λcells NC Y=>?_;have hcl:∀q∈cells,s.heap.objs.size<q.1:=YB Y λn c hm=>x.above n c hm;have hcn:(cells.map (·.1)).Nodup:=by rw[DK Y];exact adx.mpr x.apart
 refine h _ s.heap.objs.size H tk cells FG ⟨x.toInCall.ns,λb o e=>V b o<|Fv _ e,b7<|hideAll_size _ _⟩ (λp hp=>?_) Y BG (Z.keeps st) (T.keeps st) DG (λp hp=>m0 (N p hp).1) hcl hcn UP
 rcases eV.mp hp with hp|hp
 ·refine⟨(NC p hp).1,(NC p hp).2.1,?_⟩
  cases q:(ml s.heap (t.map (·.1))).get? p.1 with
  |none=>rfl
  |some o=>have:=Fv _ q;rw[(NC p hp).2.2] at this;exact ba this
 ·exact⟨V _ _ (N p hp).1,fc<|m0 (N p hp).1,aev _<|om hp⟩
end
noncomputable def df:eJ->aH
 |.u=>38
 |.j=>230
 |.vl=>175
 |.q=>209
 |.i=>477
 |.vm=>612
 |.vn=>815
 |.vo=>916
 |.y=>720
 |.tu=>701
 |.tv=>767
 |.tw=>897
noncomputable def ec(a:At):aw:=⟨a.toArray⟩
noncomputable def iN:List At:=[.bO,.aq,.a_,.cj,.aP,.aJ,.jz,.kC,.gT,.fW,.dU,.lC,.bS,.oG,.rm,.iA,.qh,.qi,.rn,.lD,.rq,.rt,.tg,.ti,.hR,.tj,.vg,.vh,.vi,.vj,.tm,.x9,.m4,.yd,.Bh]
structure lX(fs:List (At×V)):Prop where
 nd:(fs.map (·.1)).Nodup
 DL:∀q∈fs,q.1∈iN
noncomputable def sV(l:List Nat):aw:=⟨l.toArray⟩
noncomputable abbrev c3(a:Array ak)(n:Nat):PO:={cls:=.type "list",data:=.seq a n}
noncomputable abbrev DM(a:Array ak)(n:Nat):PO:={cls:=.type "tuple",data:=.seq a n}
noncomputable abbrev nZ(a:Array eB)(n:Nat):PO:={cls:=.type "dict",data:=.dict a n}
structure Zs where
 Z:aW
 ad:List aH
structure Cx where
 di:ky
 w:ee
 K:cU
 p:ky
 gl:List aw
 lW:ExcName->Option ak
 mg:aw->Option ak
 mb:aw->Option ak
noncomputable def KX(P:bX)(q:aH×jV):cU:=KF P++[q]
noncomputable def wV(c:Cx):Prop:=∀(q:aH×jV) (s:ay) (a:aH) (e:Array ak) (n:Nat) (ts:List<|Int×qY) (H:Hp) (Q E:ak->ay->Prop),c.K=KX c.w.params q->c.K.In s.heap->oz c.p c.gl c.lW c.mg c.mb s.heap->c.K.lookup a=O (c3 e n)->e.size<=eI->e.toList=ts.map (λp=>.int p.1 p.2)->
 Mine.ag 340 .j [.af (ts.map λp=>.aa p.1)] []=.ok (.i I) H->(∀d,(∀b o,s.heap.get? b=O o->d.heap.get? b=O o)->d={s with heap:=d.heap,toks:=d.toks}->Q (.bool I) d)->bk (du c.di c.w) Fi (ku (.ref 1118) [.ref a]) Q E s
noncomputable def cx:Cx:= @Classical.epsilon Cx ⟨⟨default,aWorld 0,[],default,[],λa=>U,λa=>U,λa=>U⟩⟩ λc=>¬wV c
theorem YD(h:wV cx)(c:Cx):wV c:=Nh λn=>Classical.epsilon_spec_aux ⟨c⟩ (λc=>¬wV c) ⟨c,n⟩ h
noncomputable def Zs.dZ(z:Zs)(a:aH)(o:PO):Prop:=(a,o)∈z.Z∨cx.K.lookup a=O o
structure Zs.le(z B:Zs):Prop where
 eA:∀q∈z.Z,q∈B.Z
 ad:∃r,B.ad=z.ad++r
theorem Zs.le.refl{z:Zs}:z.le z:=⟨λa h=>h,[],by simp⟩
theorem Zs.le.q{z B a:Zs}(x:z.le B)(y:B.le a):z.le a:=by
 obtain⟨r,e⟩:=x.ad;obtain⟨b,c⟩:=y.ad;exact⟨λq h=>y.eA q<|x.eA q h,r++b,by rw[c,e,b6]⟩
theorem Zs.le.dZ{z B:Zs}(x:z.le B)(h:z.dZ a o):B.dZ a o:=h.elim (λh=>.inl<|x.eA _ h) .inr
theorem Zs.le.at{z B:Zs}(x:z.le B){i:Nat}{a:aH}(h:z.ad[i]? =O a):B.ad[i]? =O a:=by
 obtain⟨r,e⟩:=x.ad;rw[e];have:=(fK.mp h).1;rw[p7 this];exact h
noncomputable def DN(w:ee)(a:Array eB):Prop:=(∀e∈a,∃i t,e.key=.int i t/\e.hash=hashInt i)∨(∀e∈a,∃x t,e.key=.str x t/\e.hash=hashStr w x)
mutual
noncomputable def aA(z:Zs):V->ak->Prop
 |.none,v=>v=.none
 |.i b,v=>v=.bool b
 |.aa i,v=>∃t,v=.int i t
 |.ah s,v=>(∃t,v=.str (sV s) t)/\s.length<=eI
 |.u g,v=>∃a e n,v=.ref a/\z.dZ a (DM e n)/\e.size<=eI/\aR z g e.toList
 |.af g,v=>∃a e n,v=.ref a/\z.dZ a (c3 e n)/\e.size<=eI/\aR z g e.toList
 |.aQ c h,v=>∃a d f n,v=.ref a/\z.dZ a (s0 (df c) d)/\z.dZ d (nZ f n)/\lX h/\gO z h f.toList
 |.dct j,v=>∃a f n,v=.ref a/\z.dZ a (nZ f n)/\(DN cx.w f/\(a==sysModules)=C)/\kc z j f.toList
 |.ae i,v=>∃a,v=.ref a/\z.ad[i]? =O a
noncomputable def aR(z:Zs):List V->List ak->Prop
 |[],[]=>True
 |x::a,v::b=>aA z x v/\aR z a b
 |_,_=>False
noncomputable def gO(z:Zs):List (At×V)->List eB->Prop
 |[],[]=>True
 |(a,x)::b,e::c=>((∃t,e.key=.str (ec a) t)/\aA z x e.val)/\gO z b c
 |_,_=>False
noncomputable def kc(z:Zs):List (V×V)->List eB->Prop
 |[],[]=>True
 |(k,x)::a,e::b=>(aA z k e.key/\aA z x e.val)/\kc z a b
 |_,_=>False
end
theorem V.j{M:V->Prop}(j:M .none)(k:∀b,M<|.i b)(l:∀i,M<|.aa i)(m:∀s,M<|.ah s)(h4:∀a,(∀x∈a,M x)->M (.u a))(h5:∀a,(∀x∈a,M x)->M (.af a))(h6:∀c fs,(∀q∈fs,M q.2)->M (.aQ c fs))(h7:∀g,(∀q∈g,M q.1/\M q.2)->M (.dct g))(h8:∀i,M<|.ae i)(x:V):M x:=
 V.rec j k l m h4 h5 h6 h7 h8
  (λ_ h=>ax h eW) (λ_ _ h d x f=>(d4.mp f).elim (λe=>e▸h)<|d x) (λ_ h=>ax h eW) (λ_ _ h d x f=>(d4.mp f).elim (λe=>e▸h)<|d x) (λ_ h=>ax h eW) (λ_ _ h d x f=>(d4.mp f).elim (λe=>e▸h)<|d x) (λ_ _ h=>h) (λ_ _ h o=>⟨h,o⟩) x
structure Zs.lk(k:Nat)(z B:Zs):Prop where
 dZ:∀{a o},z.dZ a o->B.dZ a o
 cO:∀{i:Nat} {a},i<k->z.ad[i]? =some a->B.ad[i]? =some a
noncomputable def RL(k:Nat)(x:V):Prop:=∀(z B:Zs) (v:ak),z.lk k B->aA z x v->aA B x v
section
variable{z B:Zs}
theorem aR.i:∀{b:List ak},aR z a b->∀x∈a,∃v,aA z x v:=by
 induction a with
 |nil=>exactλ_ _ h=>ax h eW
 |cons x a c=>exactλ{b} r=>match b with|[]=>r.elim|_::_=>λy d=>(d4.mp d).elim (λe=>e▸⟨_,r.1⟩)<|c r.2 y
theorem gO.i:∀{a:List eB},gO z fs a->∀q∈fs,∃v,aA z q.2 v:=by
 induction fs with
 |nil=>exactλ_ _ h=>ax h eW
 |cons x f b=>exactλ{c} r=>match c with|[]=>r.elim|_::_=>λy d=>(d4.mp d).elim (λe=>e▸⟨_,r.1.2⟩)<|b r.2 y
theorem kc.i:∀{b:List eB},kc z a b->∀q∈a,(∃v,aA z q.1 v)/\∃v,aA z q.2 v:=by
 induction a with
 |nil=>exactλ_ _ h=>ax h eW
 |cons x g c=>exactλ{d} r=>match d with|[]=>r.elim|_::_=>λy f=>(d4.mp f).elim (λe=>e▸⟨⟨_,r.1.1⟩,_,r.1.2⟩)<|c r.2 y
theorem aR.u(c:z.lk k B):∀{a:List ak},(∀x∈b,RL k x)->aR z b a->aR B b a:=by
 induction b with
 |nil=>exactλ{a} _ r=>match a with|[]=>r|_::_=>r.elim
 |cons x b d=>exactλ{a} h r=>match a with|[]=>r.elim|_::_=>⟨h _ (.head _) _ _ _ c r.1,d (λy e=>h y<|.tail _ e) r.2⟩
theorem gO.u(c:z.lk k B):∀{b:List eB},(∀q∈fs,RL k q.2)->gO z fs b->gO B fs b:=by
 induction fs with
 |nil=>exactλ{a} _ r=>match a with|[]=>r|_::_=>r.elim
 |cons x f d=>exactλ{a} h r=>match a with|[]=>r.elim|_::_=>⟨⟨r.1.1,h _ (.head _) _ _ _ c r.1.2⟩,d (λy e=>h y<|.tail _ e) r.2⟩
theorem kc.u(c:z.lk k B):∀{d:List eB},(∀q∈a,RL k q.1/\RL k q.2)->kc z a d->kc B a d:=by
 induction a with
 |nil=>exactλ{b} _ r=>match b with|[]=>r|_::_=>r.elim
 |cons x g e=>exactλ{b} h r=>match b with|[]=>r.elim|_::_=>⟨⟨(h _<|.head _).1 _ _ _ c r.1.1,(h _<|.head _).2 _ _ _ c r.1.2⟩,e (λy f=>h y<|.tail _ f) r.2⟩
theorem aA.rl(x:V):∀{z:Zs} {v:ak},aA z x v->RL z.ad.length x:=by
 induction x using V.j with
 |h4 l g=>exactλr _ _ _ le b=>ek r λ_ _ _ _ _ _ r=>ek b λa j n e o h b=>f5 a j n e (le.dZ o) h (b.u le λx f=>(r.i x f).elim λ_=>g x f)
 |h5 l g=>exactλr _ _ _ le b=>ek r λ_ _ _ _ _ _ r=>ek b λa j n e o h b=>f5 a j n e (le.dZ o) h (b.u le λx f=>(r.i x f).elim λ_=>g x f)
 |h6 c p g=>exactλr _ _ _ le b=>Ba r λ_ _ _ _ _ _ _ _ r=>Ba b λa d m n e o k h b=>Bb a d m n e (le.dZ o) (le.dZ k) h (b.u le λx f=>(r.i x f).elim λ_=>g x f)
 |h7 q g=>exactλr _ _ _ le b=>ek r λ_ _ _ _ _ _ r=>ek b λa j n e o h b=>f5 a j n e (le.dZ o) h (b.u le λx f=>⟨(r.i x f).1.elim λ_=>(g x f).1,(r.i x f).2.elim λ_=>(g x f).2⟩)
 |h8 i=>exactλr _ _ _ le b=>aB r λ_ _ o=>aB b λa e k=>aD a e<|le.cO (fK.mp o).1 k
 |_=>exactλ_ _ _ _ _ r=>r
theorem Zs.le.lk(h:z.le B){k:Nat}:z.lk k B:=⟨h.dZ,λ_=>h.at⟩
theorem aA.au(h:z.le B)(x:V)(v:ak)(r:aA z x v):aA B x v:=aA.rl x r _ _ _ h.lk r
theorem aR.au(h:z.le B)(a:List V)(b:List ak)(r:aR z a b):aR B a b:=r.u h.lk λx c=>(r.i x c).elim λ_=>aA.rl x
theorem gO.au(h:z.le B)(a:List<|At×V)(b:List eB)(r:gO z a b):gO B a b:=r.u h.lk λx c=>(r.i x c).elim λ_=>aA.rl x.2
theorem kc.au(h:z.le B)(a:List<|V×V)(b:List eB)(r:kc z a b):kc B a b:=r.u h.lk λx c=>⟨(r.i x c).1.elim λ_=>aA.rl x.1,(r.i x c).2.elim λ_=>aA.rl x.2⟩
end
theorem aR.j{z:Zs}:∀{a:List V} {b:List ak},aR z a b->a.length=b.length
 |[],[],_=>rfl
 |[],_::_,r=>r.elim
 |_::_,[],r=>r.elim
 |_::_,_::_,r=>by simp[aR.j r.2]
theorem aR.nil{z:Zs}:aR z [] []:=by trivial
theorem aR.cons{z:Zs}(h:aA z x v)(t:aR z a b):aR z (x::a) (v::b):=⟨h,t⟩
theorem aR.cO{z:Zs}:∀{a:List V} {b:List ak},aR z a b->∀(i:Nat),(a[i]? =.none/\b[i]? =.none)∨∃x v,a[i]? =O x/\b[i]? =O v/\aA z x v:=by
 intro a
 induction a with
 |nil=>
  intro d
  induction d using aV with
  |nil=>
  intro c;intro i;exact .inl<|by simp
  |cons c c=>
  intro r;intro c;exact r.elim
 |cons x a e=>
  intro f
  induction f using aV with
  |nil=>
  intro r;intro c;exact r.elim
  |cons v b=>
  intro r;intro i
  induction i using fU with
  |zero=>exact .inr<|cL x v J J r.1
  |succ i=>simpa using e r.2 i
theorem aR.q{z:Zs}:∀{b:List V} {c:List ak} {d:List V} {e:List ak},aR z b c->aR z d e->aR z (b++d) (c++e):=by
 intro b
 induction b with
 |nil=>
  intro f
  induction f using aV with
  |nil=>
  intro a;intro a;intro a;intro t;simpa using t
  |cons a a=>
  intro a;intro a;intro r;intro a;exact r.elim
 |cons x b g=>
  intro h
  induction h using aV with
  |nil=>
  intro a;intro a;intro r;intro a;exact r.elim
  |cons v c=>
  intro a;intro a;intro r;intro t;exact aR.cons r.1<|g r.2 t
theorem aR.fA{z:Zs}:∀{a:List V} {c:List ak} (n:Nat),aR z a c->aR z (a.take n) (c.take n):=by
 intro a
 induction a with
 |nil=>
  intro d
  induction d using aV with
  |nil=>
  intro n;intro b;simp[aR.nil]
  |cons b b=>
  intro b;intro r;exact r.elim
 |cons x a e=>
  intro f
  induction f using aV with
  |nil=>
  intro b;intro r;exact r.elim
  |cons v c=>
  intro n;intro r
  induction n using fU with
  |zero=>simp[aR.nil]
  |succ n=>exact aR.cons r.1<|e n r.2
theorem aR.y{z:Zs}:∀{a:List V} {c:List ak} (n:Nat),aR z a c->aR z (a.drop n) (c.drop n):=by
 intro a
 induction a with
 |nil=>
  intro d
  induction d using aV with
  |nil=>
  intro n;intro b;simp[aR.nil]
  |cons b b=>
  intro b;intro r;exact r.elim
 |cons x a e=>
  intro f
  induction f using aV with
  |nil=>
  intro b;intro r;exact r.elim
  |cons v c=>
  intro n;intro r
  induction n using fU with
  |zero=>exact aR.cons r.1 r.2
  |succ n=>exact e n r.2
inductive g8(z:Zs):bY->aH->aW->Prop
 |af {xs:List V} {a:aH} {vs:Array ak} {n:Nat}:aR z xs vs.toList->vs.size<=eI->g8 z (.af xs) a [(a,c3 vs n)]
 |aQ {c:eJ} {fs:List (At×V)} {a d:aH} {es:Array eB} {n:Nat}:lX fs->gO z fs es.toList->g8 z (.aQ c fs) a [(a,s0 (df c) d),(d,nZ es n)]
 |i {a:aH}:g8 z .i a []
theorem g8.au{z b:Zs}(h:z.le b){g:aW}(x:g8 z o a g):g8 b o a g:=by
 induction x with
 |af r q=>exact .af (aR.au h _ _ r) q
 |aQ q r=>exact .aQ q<|gO.au h _ _ r
 |i=>exact .i
structure kf(z:Zs)(H:Hp)(B:List aW):Prop where
 bK:H.length=z.ad.length
 qO:B.length=z.ad.length
 dW:∀(i:Nat) (o:bY) (a:aH) (g:aW),H[i]? =some o->z.ad[i]? =some a->B[i]? =some g->g8 z o a g
theorem kf.cO{z:Zs}{H:Hp}{B:List aW}(x:kf z H B){i:Nat}{o:bY}(h:H[i]? =O o):∃a g,z.ad[i]? =O a/\B[i]? =O g/\g8 z o a g:=by
 have d:=(fK.mp h).1;have b:=x.bK▸d;have h2:=x.qO▸b;exact cL _ _ (li b) (li h2)<|x.dW i o _ _ h (li b)<|li h2
theorem kf.au{z:Zs}{H:Hp}{B:List aW}(x:kf z H B){Z:aW}(h:∀q∈z.Z,q∈Z):kf ⟨Z,z.ad⟩ H B:=
 ⟨x.bK,x.qO,λi o a g b h2 d=>(x.dW i o a g b h2 d).au ⟨h,[],by simp⟩⟩
theorem kf.q{z:Zs}{H:Hp}{B:List aW}(x:kf z H B){g:aW}(h:g8 z o a g):kf ⟨z.Z,z.ad++[a]⟩ (H++[o]) (B++[g]):=by
 have le:z.le ⟨z.Z,z.ad++[a]⟩:=⟨λl h=>h,[a],J⟩;refine⟨by simp[x.bK],by simp[x.qO],λi e f j b h2 d=>?_⟩;have e1:=x.bK;have e2:=x.qO
 dsimp only at h2
 rw[List.getElem?_append] at b h2 d
 by_cases q:i<z.ad.length
 ·rw[aN (by lia)] at b h2 d;exact(x.dW i e f j b h2 d).au le
 ·rw[a9 (by lia)] at b h2 d;have k:i-H.length=0:=by
   have:=(fK.mp b).1;simp at this;exact Aw (L1<|b7 this)<|by simp+arith only
  rw[show i-z.ad.length=0 by lia] at h2;rw[show i-B.length=0 by lia] at d;rw[k] at b;simp at b h2 d;subst b h2 d;exact h.au le
theorem kf.y{z:Zs}{H:Hp}{B:List aW}(x:kf z H B){g:aW}(e:z.ad[i]? =O a)(h:g8 z o a g):kf z (H.set i o) (B.set i g):=by
 refine⟨by simp[x.bK],by simp[x.qO],λj f k l b h2 d=>?_⟩
 by_cases q:i=j
 ·subst q;rw[e] at h2;rw[oi (by have:=(fK.mp b).1;simpa using this)] at b;rw[oi (by have:=(fK.mp d).1;simpa using this)] at d
  cases b;cases h2;cases d;exact h
 ·rw[mT q] at b d;exact x.dW j f k l b h2 d
structure Fm where
 A₀:dN
 lY:cz
 ir:List dA
 L:aH
 aS:dA
 td:cz
 P:aW
 eS:ay
section
structure Fm.Ok(c:Fm):Prop where
 wW:c.aS.frame=some c.L
 aq:c.aS.scope.kind=.function
 jP:c.aS.globals=ez
 hW:c.aS.builtins=uX
 XB:cx.K.In c.lY
 TB:oz cx.p cx.gl cx.lW cx.mg cx.mb c.lY
 jl:c.aS.locals=c.L
 dZ:∀x,c.aS.kindOf x=some .cell->(c.aS.cells.lookup x).isSome=true
noncomputable abbrev bP(c:Fm)(z:Zs)(cs:aW)(B:List aW):aW:=c.P++(cs++(z.Z++B.flatten))
structure bG(c:Fm)(z:Zs)(H:Hp)(m:aw->Option ak)(cs:aW)(s:ay)(g:cz)(B:List aW):Prop where
 iu:mj (dF c.ir) c.td g
 fr:Fr g c.L s.heap m
 nw:News g c.L s.heap (bP c z cs B)
 jm:lu c.A₀ c.lY c.ir g
 dv:cx.K.In g
 fH:oz cx.p cx.gl cx.lW cx.mg cx.mb g
 jQ:s8 (dF c.ir) g
 nd:((bP c z cs B).map (·.1)).Nodup
 cX:kf z H B
 fy:s={c.eS with heap:=s.heap,toks:=s.toks}
inductive St(c:Fm)(z:Zs)(H:Hp)(m:aw->Option ak)(cs:aW)(s:ay):Prop
 |mk:∀g B,bG c z H m cs s g B->St c z H m cs s
end
section
variable{c:Fm}{z:Zs}{H:Hp}{m:aw->Option ak}{cs:aW}{s:ay}{g:cz}{B:List aW}
theorem News.i{g h f:cz}{L:aH}{m:aw->Option ak}{d nw:aW}(F:Fr g L h m)(N:News g L h d)(i:∀b o,h.get? b=O o->f.get? b=O o)
  (j:∀q∈nw,f.get? q.1=O q.2/\h.objs.size<=q.1):∀q,q∈nw∨q∈d->f.get? q.1=O q.2/\q.1≠L/\g.get? q.1=none:=λq hq=>by
 rcases hq with hq|hq
 ·obtain⟨a,b⟩:=j q hq;refine⟨a,λe=>?_,?_⟩
  ·exact ax F.ns.lt<|rc.mpr<|e▸b
  ·cases e:g.get? q.1 with
   |none=>rfl
   |some o=>exact ax (m0<|F.keep _ _ e)<|rc.mpr b
 ·exact⟨i _ _ (N q hq).1,(N q hq).2⟩
theorem bG.lt(S:bG c z H m cs s g B):∀q∈bP c z cs B,q.1<s.heap.objs.size:=λq a=>m0 (S.nw q a).1
theorem YE{d f:List aH}(h:f.Nodup)(i:∀y∈f,y<n)(j:d.Nodup)(k:∀x∈d,n<=x):(d++f).Nodup:=
 mZ.mpr ⟨j,h,λa l b hb e=>ax (i b hb)<|rc.mpr<|e▸k a l⟩
theorem wX{b:Type}:∀(a:List<|List b) (i:Nat) (g:List b),a[i]? =O g->a.flatten.Perm (g++(a.set i []).flatten):=by
 intro a
 induction a with
 |nil=>
  intro i;intro g;intro h;simp at h
 |cons l a d=>
  intro e
  induction e using fU with
  |zero=>
  intro g;intro h;simp at h;subst h;simp
  |succ i=>
  intro g;intro h;have:=d i g<|by simpa using h
  simp only[ady,adz];exact(sW l this).trans (by
   rw[<-b6,<-b6];exact uV _ sX)
theorem Kw{a:Type}(b:List<|List a)(g:List a):(b++[g]).flatten=b.flatten++g:=by simp
theorem St.y(S:St c z H m cs s){f:cz}{tk:Nat}(a:aW)(i:∀b o,s.heap.get? b=O o->f.get? b=O o)
  (j:∀q∈a,f.get? q.1=O q.2/\s.heap.objs.size<=q.1)(k:(a.map (·.1)).Nodup):St c ⟨a++z.Z,z.ad⟩ H m cs {s with heap:=f,toks:=tk}:=by
 obtain⟨g,B,S⟩:=S;have hp:(bP c ⟨a++z.Z,z.ad⟩ cs B).Perm (a++bP c z cs B):=by
  show(c.P++(cs++((a++z.Z)++B.flatten))).Perm (a++(c.P++(cs++(z.Z++B.flatten))));have e:c.P++(cs++((a++z.Z)++B.flatten))=(c.P++cs)++(a++(z.Z++B.flatten)):=by simp
  have l:a++(c.P++(cs++(z.Z++B.flatten)))=a++((c.P++cs)++(z.Z++B.flatten)):=by simp
  rw[e,l,<-b6,<-b6 a];exact uV _ sX
 refine⟨g,B,S.iu,S.fr.keeps i,λq d=>?_,S.jm,S.dv,S.fH,S.jQ,?_,S.cX.au λq h=>dm _ h,by rw[S.fy]⟩
 ·exact News.i S.fr S.nw i j q<|eV.mp<|hp.mem_iff.mp d
 ·refine(hp.map _).nodup_iff.mpr ?_;rw[dz];refine YE (n:=s.heap.objs.size) S.nd (λy p=>?_) k λx r=>?_
  ·refine aB (ej.mp p) ?_;rintro q d rfl;exact S.lt q d
  ·refine aB (ej.mp r) ?_;rintro q d rfl;exact(j q d).2
theorem Kx(c:Fm)(z:Zs)(cs:aW)(B:List aW)(a:aW):(bP c ⟨a++z.Z,z.ad⟩ cs B).Perm (a++bP c z cs B):=by
 show(c.P++(cs++((a++z.Z)++B.flatten))).Perm (a++(c.P++(cs++(z.Z++B.flatten))));have e:c.P++(cs++((a++z.Z)++B.flatten))=(c.P++cs)++(a++(z.Z++B.flatten)):=by simp
 have b:a++(c.P++(cs++(z.Z++B.flatten)))=a++((c.P++cs)++(z.Z++B.flatten)):=by simp
 rw[e,b,<-b6,<-b6 a];exact uV _ sX
theorem Ky(c:Fm)(z:Zs)(cs:aW)(B:List aW)(b:aW)(a:aH):(bP c ⟨z.Z,z.ad++[a]⟩ cs<|B++[b]).Perm (b++bP c z cs B):=by
 show(c.P++(cs++(z.Z++(B++[b]).flatten))).Perm (b++(c.P++(cs++(z.Z++B.flatten))));rw[Kw];have e:c.P++(cs++(z.Z++(B.flatten++b)))=(c.P++(cs++(z.Z++B.flatten)))++b:=by simp
 rw[e];exact sX
theorem zD{f d:aW}(h:(d.map (·.1)).Nodup)(i:(f.map (·.1)).Nodup)(j:∀q∈f,∀r∈d,r.1<q.1):((f++d).map (·.1)).Nodup:=by
 rw[dz];refine mZ.mpr ⟨i,h,λa k b hb e=>?_⟩;refine aB (ej.mp k) ?_;rintro q l rfl;refine aB (ej.mp hb) ?_;rintro r hr rfl;exact ax (j q l r hr) (by rw[e];exact NL _)
theorem bG.DO(S:bG c z H m cs s g B){tk:Nat}{nw:aW}(b:Fr g c.L a m)(d:News g c.L a<|nw++bP c z cs B)(e:∀q∈nw,∀r∈bP c z cs B,r.1<q.1)(f:(nw.map (·.1)).Nodup):
  bG c ⟨nw++z.Z,z.ad⟩ H m cs {s with heap:=a,toks:=tk} g B:=by
 have hp:=Kx c z cs B nw;exact⟨S.iu,b,λq i=>d q<|hp.mem_iff.mp i,S.jm,S.dv,S.fH,S.jQ,(hp.map _).nodup_iff.mpr<|zD S.nd f e,S.cX.au λq h=>dm _ h,by rw[S.fy]⟩
theorem bG.DP(S:bG c z H m cs s g B){tk:Nat}{gr:aW}(d:Fr g c.L b m)(e:News g c.L b<|gr++bP c z cs B)(f:∀q∈gr,∀r∈bP c z cs B,r.1<q.1)(h:(gr.map (·.1)).Nodup)
  (i:g8 z o a gr):bG c ⟨z.Z,z.ad++[a]⟩ (H++[o]) m cs {s with heap:=b,toks:=tk} g (B++[gr]):=by
 have hp:=Ky c z cs B gr a;exact⟨S.iu,d,λq j=>e q<|hp.mem_iff.mp j,S.jm,S.dv,S.fH,S.jQ,(hp.map _).nodup_iff.mpr<|zD S.nd h f,S.cX.q i,by rw[S.fy]⟩
theorem St.j(S:St c z H m cs s)(tk:Nat):St c z H m cs {s with toks:=tk}:=by
 obtain⟨g,B,S⟩:=S;exact⟨g,B,S.iu,S.fr,S.nw,S.jm,S.dv,S.fH,S.jQ,S.nd,S.cX,by rw[S.fy]⟩
noncomputable def qP(c:Fm)(z:Zs)(cs:aW)(B:List aW)(i:Nat)(pre post:aW):aW:=pre++post++(c.P++(cs++(z.Z++(B.set i []).flatten)))
theorem zE{pre post:aW}(a:B[i]? =O (pre++(d,od)::post)):(bP c z cs B).Perm ((d,od)::qP c z cs B i pre post):=by
 have q:=wX B i _ a;have e:bP c z cs B=(c.P++(cs++z.Z))++B.flatten:=by simp[bP]
 rw[e];refine(sW _ q).trans ?_;have e2:(c.P++(cs++z.Z))++((pre++(d,od)::post)++(B.set i []).flatten)=(c.P++(cs++z.Z)++pre)++(d,od)::(post++(B.set i []).flatten):=by simp
 rw[e2];refine NQ.trans<|AC _ ?_;have b:(c.P++(cs++z.Z)++pre)++(post++(B.set i []).flatten)=(c.P++(cs++z.Z))++(pre++post)++(B.set i []).flatten:=by simp
 have f:pre++post++(c.P++(cs++(z.Z++(B.set i []).flatten)))=(pre++post)++(c.P++(cs++z.Z))++(B.set i []).flatten:=by simp
 unfold qP;rw[b,f];exact uV _ sX
theorem YF{pre post:aW}(a:i<B.length):(bP c z cs<|B.set i<|pre++(d,od')::post).Perm ((d,od')::qP c z cs B i pre post):=by
 have:=zE (c:=c) (z:=z) (cs:=cs) (pre:=pre) (post:=post) (d:=d) (od:=od')<|oi a;unfold qP at this⊢;rwa [oo] at this
theorem bG.Kz(S:bG c z H m cs s g B){i:Nat}{pre post:aW}(f:B[i]? =O (pre++(d,b)::post)):∀q∈qP c z cs B i pre post,q.1≠d:=λq h e=>by
 have a:=((zE f).map (·.1)).nodup_iff.mp S.nd;exact(iR.mp<|by simpa only[iQ] using a).1<|ej.mpr<|aD q h e
theorem bG.KC(S:bG c z H m cs s g B){tk:Nat}{i:Nat}{e:bY}{pre post:aW}(o:z.ad[i]? =O a)(j:B[i]? =O (pre++(d,l)::post))
  (p:Fr g c.L f m)(r:News g c.L f<|(d,b)::qP c z cs B i pre post)(t:g8 z e a<|pre++(d,b)::post):bG c z (H.set i e) m cs {s with heap:=f,toks:=tk} g (B.set i<|pre++(d,b)::post):=by
 have u:=(fK.mp j).1;have v:=zE (c:=c) (z:=z) (cs:=cs) j;have k:=YF (c:=c) (z:=z) (cs:=cs) (d:=d) (pre:=pre) (post:=post) (od':=b) u;refine⟨S.iu,p,λq w=>r q<|k.mem_iff.mp w,S.jm,S.dv,S.fH,S.jQ,?_,S.cX.y o t,by rw[S.fy]⟩;have h:=(v.map (·.1)).nodup_iff.mp S.nd;refine(k.map _).nodup_iff.mpr ?_;simpa only[iQ] using h
theorem bG.DQ(S:bG c z H m cs s g B){i:Nat}{pre post:aW}(b:B[i]? =O (pre++(d,a)::post)):News g c.L s.heap ((d,a)::qP c z cs B i pre post):=
 λq e=>S.nw q<|(zE b).mem_iff.mpr e
theorem bG.u(S:bG c z H m cs s g B){k:cz}{tk:Nat}{i:Nat}{pre post:aW}{r j:PO}(u:z.ad[i]? =O a)(l:B[i]? =O (pre++(d,r)::post))
  (p:sY d s.heap k)(v:k.get? d=O j)(w:g8 z h a<|pre++(d,j)::post):bG c z (H.set i h) m cs {s with heap:=k,toks:=tk} g (B.set i<|pre++(d,j)::post):=by
 have N:=S.DQ l;have f:=N (d,r)<|.head _;refine S.KC u l ⟨S.fr.ns.sameBut p<|eH f.2.1,λb o e=>(p.2 b λq=>?_).trans<|S.fr.keep b o e,S.fr.above⟩ (λq x=>?_) w
 ·rw[q,f.2.2] at e;exact ba e
 ·rcases d4.mp x with rfl|hq'
  ·exact⟨v,f.2⟩
  ·have t:=N q<|.tail _ hq';exact⟨(p.2 _<|S.Kz l q hq').trans t.1,t.2⟩
theorem bG.YG(S:bG c z H m cs s g B){i:Nat}(f:B[i]? =O b):bG c ⟨b++z.Z,z.ad⟩ (H.set i .i) m cs s g (B.set i []):=by
 have k:=(fK.mp f).1;have d:∃a,z.ad[i]? =O a:=⟨_,li<|S.cX.qO▸k⟩;obtain⟨a,d⟩:=d;have j:(bP c ⟨b++z.Z,z.ad⟩ cs<|B.set i []).Perm (bP c z cs B):=by
  have q:=wX B i _ f;have e:bP c z cs B=(c.P++(cs++z.Z))++B.flatten:=by simp[bP]
  rw[e];refine adA ?_ (sW _ q.symm);have l:bP c ⟨b++z.Z,z.ad⟩ cs (B.set i [])=(c.P++cs)++((b++z.Z)++(B.set i []).flatten):=by simp[bP]
  have o:(c.P++(cs++z.Z))++(b++(B.set i []).flatten)=(c.P++cs)++((z.Z++b)++(B.set i []).flatten):=by simp
  rw[l,o];exact sW _<|uV _ sX
 refine⟨S.iu,S.fr,λq p=>S.nw q<|j.mem_iff.mp p,S.jm,S.dv,S.fH,S.jQ,(j.map _).nodup_iff.mpr S.nd,?_,S.fy⟩;exact(S.cX.au λq h=>dm _ h).y d .i
end
theorem YH(h:(a&&b)=I):a=I/\b=true:=ed.mp h
theorem bL(h:(a&&b)=I):a=true:=(ed.mp h).1
theorem bR(h:(a&&b)=I):b=true:=(ed.mp h).2
theorem dS{p:Prop}[Decidable p](h:decide p=I):p:=D h
theorem kg(h:(!b)=I):b=false:=by induction b using xE with|true=>exact bc h|false=>rfl
theorem KD{c Q:Prop}[Decidable c]{t:c->Bool}(h:(if h:c then t h else C)=I)(k:∀h:c,t h=I->Q):Q:=by
 by_cases hc:c
 ·rw[dif_pos hc] at h;exact k hc h
 ·rw[dif_neg hc] at h;exact bc h
noncomputable def lZ(c:Fm)(j:dA)(m:aw->Option ak)(cs:aW)(x:aw)(v:ak):Prop:=match j.kindOf x with
 |some .local=>(j.locals=c.L/\m x=O v)∨∃o b n,(j.locals,o)∈c.P/\o.data=.dict b n/\Fw b/\Fj b x=O v
 |some .cell=>∃a o,j.cells.lookup x=O a/\(a,o)∈c.P++cs/\o.data=.cell (O v)
 |some .free=>∃a o,j.cells.lookup x=O a/\(a,o)∈c.P++cs/\o.data=.cell (O v)
 |_=>True
theorem lZ.u{c e:Fm}{j:dA}{m i:aw->Option ak}{cs d:aW}(h:lZ c j m cs x v)(f:((j.locals=c.L/\m x=O v)∨∃o b n,(j.locals,o)∈c.P/\o.data=.dict b n/\Fw b/\Fj b x=O v)->(j.locals=e.L/\i x=O v)∨∃o b n,(j.locals,o)∈e.P/\o.data=.dict b n/\Fw b/\Fj b x=O v)(g:(∃a o,j.cells.lookup x=O a/\(a,o)∈c.P++cs/\o.data=.cell (O v))->∃a o,j.cells.lookup x=O a/\(a,o)∈e.P++d/\o.data=.cell (O v)):lZ e j i d x v:=by
 delta lZ at h⊢;generalize j.kindOf x=o at h⊢
 induction o using gC with
 |none=>trivial
 |some k=>induction k using NameKind.casesOn with
  |«local»=>exact f h
  |cell=>exact g h
  |free=>exact g h
  |_=>trivial
section
noncomputable def g9(nm:Nat->aw)(c:Fm)(j:dA)(z:Zs)(m:aw->Option ak)(cs:aW)(l:Lc):Prop:=
 ∀(i:Nat) (v:V),l[i]? =O (O v)->∃a,aA z v a/\lZ c j m cs (nm i) a
inductive Xs(c:Fm)(z:Zs)(H:Hp)(m:aw->Option ak)(cs:aW)(x:ak)(s:ay):Prop
 |mk (e:aH) (G g:cz) (lvs:List aW) (hx:x=.ref e) (T:mj (dF c.ir) c.td g) (F:Fr g c.L G m) (B:lu c.A₀ c.lY c.ir g) (K:cx.K.In g) (P:oz cx.p cx.gl cx.lW cx.mg cx.mb g) (a:s8 (dF c.ir) g)
  (R:qN c.lY G (c.aS::c.ir) e (bP c z cs lvs) s.heap) (b:G.UpToSlots s.heap) (nd:((bP c z cs lvs).map (·.1)).Nodup) (L:kf z H lvs) (same:s={c.eS with heap:=s.heap,toks:=s.toks})
inductive kO{α β:Type}(rel:Zs->α->β->Prop)(c:Fm)(z:Zs)(m:aw->Option ak)(cs:aW)(r:R α)(b:β)(s:ay):Prop
 |mk:∀z' a H',r=.ok a H'->z.le z'->St c z' H' m cs s->rel z' a b->kO rel c z m cs r b s
inductive wY{α:Type}(c:Fm)(z:Zs)(m:aw->Option ak)(cs:aW)(r:R α)(x:ak)(s:ay):Prop
 |mk:∀z' H',r=.q H'->z.le z'->Xs c z' H' m cs x s->wY c z m cs r x s
end
section
variable{c:Fm}{z:Zs}{H:Hp}{m:aw->Option ak}{cs:aW}{s:ay}{l:Lc}{nm:Nat->aw}{j:dA}
theorem g9.au(h:z.le d)(x:g9 nm c j z m cs l):g9 nm c j d m cs l:=λi v e=>let⟨f,a,b⟩:=x i v e;(aD f (aA.au h _ _ a) b)
theorem kO.i{e f:Type}{d:Zs->e->f->Prop}{a:e}{b:f}(S:St c z H m cs s)(h:d z a b):kO d c z m cs (.ok a H) b s:=⟨z,a,H,J,.refl,S,h⟩
theorem bG.i(x:aH)(S:bG c z H m cs s g a)(h:z.dZ x o):s.heap.get? x=O o:=by
 rcases h with h|h
 ·exact(S.nw (x,o)<|dm _<|dm _<|fh _ h).1
 ·exact S.fr.keep _ _<|S.dv _ _ h
theorem St.i(x:aH)(S:St c z H m cs s)(h:z.dZ x o):s.heap.get? x=O o:=let⟨_,_,S⟩:=S;S.i x h
theorem St.dv(S:St c z H m cs s):cx.K.In s.heap:=let⟨_,_,S⟩:=S;S.dv.keeps S.fr.keep
theorem St.DR(S:St c z H m cs s){q:aH×PO}(h:q∈c.P++cs):s.heap.get? q.1=O q.2:=by
 obtain⟨g,a,S⟩:=S;refine(S.nw q ?_).1
 rcases eV.mp h with h|h
 ·exact fh _ h
 ·exact dm _<|fh _ h
theorem KE{M:uW}{A:dN}{E:ak->ay->Prop}{Q:ak->ay->Prop}{x:aw}{v:ak}(S:St c z H m cs s)(h:lZ c j m cs x v)(b:j.scope.kind=.function)
  (hx:j.kindOf x=O .local∨j.kindOf x=O .cell∨j.kindOf x=O .free)(e:(x==("__classdict__":aw))=C)(q:Q v s):bk M A (loadName j x) Q E s:=by
 obtain⟨g,f,i⟩:=id S;unfold lZ at h
 rcases hx with hx|hx|hx
 ·rw[hx] at h
  rcases h with⟨k,hm⟩|⟨o,p,n,r,hd,hs,t⟩
  ·exact AO b hx (k▸i.fr.ns) hm q
  ·exact AO b hx (f5 o p n (S.DR<|fh _ r) hd hs λu=>rfl) t q
 ·rw[hx] at h;exact cV h λa o hc d hd=>wpAny_loadName_cell b hx hc (aD o (S.DR d) hd) q
 ·rw[hx] at h;exact cV h λa o hc d hd=>wpAny_loadName_free b hx hc (aD o (S.DR d) hd) q e
theorem YI{M:uW}{A:dN}{E:ak->ay->Prop}{Q:ak->ay->Prop}{x:aw}{v:ak}{a:cJ}(S:St c z H m cs s)(e:gq cx.K ez x=O (O v))
  (b:j.scope.kind=.function)(d:j.globals=ez)(f:j.kindOf x=O .globalImplicit)(h:(x==("__debug__":aw))=C)(q:Q v s):bk M A (kz (.Name x a) j) Q E s:=by
 obtain⟨g,i,S⟩:=S;exact nameG_K S.fr S.dv (topRead_of S.fH) e q d b f h
theorem DS{M:uW}{A:dN}{E:ak->ay->Prop}{Q:ak->ay->Prop}{x:aw}{v:ak}{a:cJ}(S:St c z H m cs s)(e:gq cx.K ez x=O U)(b:aew x=O v)(d:x≠"__name__")
  (f:j.scope.kind=.function)(h:j.globals=ez)(i:j.builtins=uX)(k:j.kindOf x=O .globalImplicit)(o:(x==("__debug__":aw))=C)(q:Q v s):bk M A (kz (.Name x a) j) Q E s:=by
 obtain⟨g,p,S⟩:=S;exact Name_function_global f k (loadGlobal_builtin (by rw[h];exact S.fH.g.keeps S.fr.keep) (mg_none_of S.dv S.fH.g e) (by rw[i];exact S.fH.b.keeps S.fr.keep) ((S.fH.builtins x d).trans b) q) o
noncomputable def DT(x:V)(v:ak):Bool:=match x with
 |.none=>(match v with|.none=>I|_=>C)
 |.i b=>(match v with|.bool a=>b==a|_=>C)
 |.aa i=>(match v with|.int j _=>i==j|_=>C)
 |.ah s=>(match v with|.str x _=>decide (x.cps.toList=s)&&decide (s.length<=1000)|_=>C)
 |_=>C
noncomputable def DU(b:List V)(a:List ak):Bool:=match b with
 |[]=>a.isEmpty
 |x::b=>match a with
  |[]=>C
  |v::a=>DT x v&&DU b a
noncomputable def DV(K:cU)(d:List V)(a:aH):Bool:=match K.lookup a with
 |some o=>(o.cls== .type "tuple")&&(o.dict.isNone&&(o.slots.isEmpty&&(if h:o.data.ctorIdx=2 then adB o.data h λb e=>decide (b.size<=1000)&&DU d b.toList else C)))
 |none=>C
noncomputable def DW(K:cU)(x:V)(v:ak):Bool:=match x with
 |.u b=>(match v with
  |.ref a=>DV K b a
  |_=>C)
 |x=>DT x v
theorem KG(h:DT x v=I):aA z x v:=by
 refine dn λa=>?_
 induction x using V.casesOn with
 |none=>induction v using sZ with
  |none=>exact a J
  |_=>exact bc h
 |i b=>induction v using sZ with
  |bool d=>exact a<|bH adC (beq_iff_eq.mp h).symm
  |_=>exact bc h
 |aa i=>induction v using sZ with
  |int j t=>exact a ⟨t,by rw[beq_iff_eq.mp h]⟩
  |_=>exact bc h
 |ah s=>induction v using sZ with
  |str x t=>exact a ⟨⟨t,by unfold sV;rw[<-dS (bL h)]⟩,by rw[iz];exact aE (dS<|bR h)<|D J⟩
  |_=>exact bc h
 |_=>exact bc h
theorem YJ(b:List V):∀{a:List ak},DU b a=I->aR z b a:=by
 induction b with
 |nil=>
  intro a h;rw[lq.mp h];exact aR.nil
 |cons x b d=>
  intro a h
  induction a using aV with
  |nil=>exact bc h
  |cons v a=>exact aR.cons (KG<|bL h)<|d<|bR h
theorem YK(h:DW cx.K x v=I):aA z x v:=by
 refine dn λb=>?_
 induction x using V.casesOn with
 |u d=>induction v using sZ with
  |ref a=>
   have h:DV cx.K d a=true:=h;unfold DV at h
   cases e:cx.K.lookup a with
   |none=>rw[e] at h;exact bc h
   |some o=>
    rw[e] at h;obtain⟨cl,f,dt,g⟩:=o;obtain rfl:cl=.type "tuple":=beq_iff_eq.mp<|bL h;obtain rfl:f=none:=Fa.mp<|bL<|bR h;obtain rfl:g= #[]:=Array.isEmpty_iff.mp<|bL<|bR<|bR h;refine b<|KD (bR<|bR<|bR h) λe1 h=>adB dt e1 (λi n j h e=>?_) e1 h e;exact f5 a i n J (.inr e) (by rw[iz];exact aE (dS<|bL h)<|D J)<|YJ d<|bR h
  |_=>exact bc h
 |_=>exact b<|KG h
end
noncomputable def ma:f4->Oh
 |.i=>.Add|.eA=>.Sub|.j=>.Mult|.q=>.FloorDiv|.y=>.Mod|.u=>.BitAnd|.rz=>.Pow
section
variable{A:dN}{E:ak->ay->Prop}
variable{c:Fm}{z:Zs}{H:Hp}{m:aw->Option ak}{cs:aW}{s:ay}{l:Lc}{nm:Nat->aw}{i:dA}
theorem zF{n:Nat}(h:n<=eI):(n:Int)<2^63:=by rw[iz] at h;lia
theorem St.u(S:St c z H m cs s){i:Nat}{d:List V}(h:H[i]? =O (.af d)):∃a b n,z.ad[i]? =O a/\s.heap.get? a=O (c3 b n)/\aR z d b.toList/\b.size<=eI:=by
 obtain⟨g,e,S⟩:=S;refine cV (S.cX.cO h) λa j f hg L=>?_
 cases L with
 | @af _ _ b n r q=>
  refine f5 a b n f ((S.nw (a,c3 b n) ?_).1) r q;exact dm _<|dm _<|dm _<|NR.mpr<|aD _ (mi hg)<|.head _
theorem gm{h:cz}(e:h.get? a=O (c3 b n)):h.IsList a b:=⟨_,e,J,n,J⟩
theorem sx{h:cz}(e:h.get? a=O (DM b n)):h.IsTuple a b:=⟨_,e,J,n,J⟩
theorem jR{i:Nat}(r:aA z (.ae i) v)(d:z.ad[i]? =O a):v=.ref a:=by
 refine aB r λb e hb=>?_;rw[d] at hb;cases hb;exact e
theorem KH{v:V}{pv:ak}{b:Bool}{Q:Bool->ay->Prop}(S:St c z H m cs s)(r:aA z v pv)(h:dC v H=O b)(q:∀j,St c z H m cs j->Q b j):
  bk (du cx.di cx.w) A (AD pv) Q E s:=by
 refine dn λd=>?_
 induction v using V.casesOn with
 |none=>rw[r] at d;cases h;exact d<|truthy_none<|q _ S
 |i _=>rw[r] at d;cases h;exact d<|wpAny_truthy_bool<|q _ S
 |aa _=>obtain⟨t,rfl⟩:=r;cases h;exact d<|P.truthy_int<|q _ S
 |ae i=>
  have h:(match H[i]? with|some (.af f)=>O (!f.isEmpty)|_=>U)=O b:=h
  cases g:H[i]? with
  |none=>rw[g] at h;exact ba h
  |some o=>
   rw[g] at h
   induction o using bY.casesOn with
   |af f=>
    refine ek (S.u g) λa k n p u hr hs=>?_;rw[jR r p] at d;refine d<|wpAny_truthy_list (gm u) (zF hs) ?_;have e:k.isEmpty=f.isEmpty:=by
     have:=hr.j
     induction f using aV with
     |nil=>exact dH this.symm
     |cons _ _=>exact dT λe=>nomatch this.trans e
    rw[e,cT h];exact q _<|S.j _
   |_=>exact ba h
 |_=>exact ba h
theorem jS{i:Int}:aA z (.aa i) (.int i t):=⟨t,J⟩
theorem KI:aA z (.i b) (.bool b):=by rfl
theorem wZ:aA z .none .none:=by rfl
theorem pT{x:List Nat}(h:x.length<=eI):aA z (.ah x) (.str (sV x) t):=⟨⟨t,J⟩,h⟩
theorem me(x:List Nat):(sV x).length=x.length:=by simp[sV,PySem.Str.length]
theorem zG(x y:List Nat):sV x++sV y=sV (x++y):=PySem.Str.ext' (by rw[PySem.Str.cps_append];simp[sV])
theorem aA.ah{x:List Nat}(h:aA z (.ah x) v):(∃t,v=.str (sV x) t)/\x.length<=eI:=h
theorem qQ{a:Type}{c:Prop}[Decidable c]{r:R a}(h:(if c then r else .j)≠ .j):c:=NT λq=>h<|a9 q
theorem KJ{x:Int}(h:x.natAbs<2^n):NV x<=n:=by
 unfold NV
 by_cases a:(x==0)=I
 ·rw[aN a];exact dG _
 ·rw[a9 a];exact(NW λq=>a<|beq_iff_eq.mpr<|Int.natAbs_eq_zero.mp q).mpr h
theorem DX{y:Int}(h:0<y):¬(y==0)=true:=λe=>ax (beq_iff_eq.mp e)<|NM h
theorem YL{f:f4}{x y:Int}{t u:qY}(S:St c z H m cs s)(b:o5 f x y H≠ .j):bk (du cx.di cx.w) A (Fz (ma f) (.int x t)<|.int y u) (kO (aA) c z m cs<|o5 f x y H) E s:=by
 have a:∀i t k,kO (aA) c z m cs (.ok (.aa i) H) (.int i t) {s with toks:=k}:=λi t k=>.i (S.j _) jS
 induction f using f4.casesOn with
 |i=>exact P.add_int<|a ..
 |eA=>exact P.sub_int<|a ..
 |j=>
  have hb:=qQ b;rw[show o5 .j x y H=_ from aN hb];exact P.mul_int (a ..)<|IntMulOk.of_left<|aE (KJ (n:=48) hb.1)<|D J
 |q=>
  have hb:=qQ b;rw[show o5 .q x y H=_ from aN hb];refine ae9 (DX hb.1) ?_ ?_
  ·intro hp;have h2:y.natAbs.log2<24:=(NW<|Int.natAbs_ne_zero.mpr<|NM hb.1).mpr (by have:=hb.2;unfold bg at this;lia);have g:300<(if(y==0)=I then 0 else y.natAbs.log2/30+1):=D (ed.mp hp).1;rw[a9 (DX hb.1)] at g;lia
  ·rw[Int.fdiv_eq_ediv_of_nonneg _ (NX hb.1)];exact a ..
 |y=>
  have hb:=qQ b;rw[show o5 .y x y H=_ from aN hb];refine afa (DX hb) ?_;rw[Int.fmod_eq_emod_of_nonneg _ (NX hb)];exact a ..
 |u=>
  have hb:=qQ b;rw[show o5 .u x y H=_ from aN hb];refine and_int ?_;rw[show adD x y=(Nat.land x.toNat y.toNat:Nat) by unfold adD;rw[dH hb.1,dH hb.2];rfl];exact a ..
 |rz=>
  have hb:=qQ b;rw[show o5 .rz x y H=_ from aN hb];refine u9 hb λp r d h=>?_
  by_cases o:(y==0)=I
  ·refine afb d o ?_;rw[beq_iff_eq.mp o];rw[Int.pow_zero x];exact a ..
  ·refine afc d o ?_ ?_ ?_ (a ..)
   ·exactλe=>(ju.mp e).elim (λe=>ax (beq_iff_eq.mp e)<|by lia) λe=>ax (beq_iff_eq.mp e)<|by lia
   ·exactλe=>ax (beq_iff_eq.mp e)<|by lia
   ·have g:((NV x:Nat):Int)*y<=4*16:=Int.mul_le_mul (sQ.mpr<|KJ<|by lia) (NX h) d<|D J;exactλe=>ax (D e)<|rb.mpr<|E3 g<|by decide+kernel
theorem YM{b:f4}{x y:List Nat}{t u:qY}(S:St c z H m cs s)(g:x.length<=eI)(h:y.length<=eI)(a:vq b x y H≠ .j):bk (du cx.di cx.w) A (Fz (ma b) (.str (sV x) t)<|.str (sV y) u) (kO (aA) c z m cs<|vq b x y H) E s:=by
 induction b using f4.casesOn with
 |i=>
  have hb:=qQ a;rw[show vq .i x y H=_ from aN hb];have f:(x++y).length<=eI:=by rw[iz];exact hb
  refine P.add_str ?_;rw[zG,me,me]
  by_cases d:(x.length==0)=true
  ·rw[aN d,xJ (beq_iff_eq.mp d)];exact .i S<|pT h
  ·rw[a9 d]
   by_cases e:(y.length==0)=true
   ·rw[aN e,xJ (beq_iff_eq.mp e),cN];exact .i S<|pT g
   ·rw[a9 e];exact⟨by rw[me];exact f,.i (S.j _)<|pT f⟩
 |_=>exact ax rfl a
theorem YN(S:St c z H m cs s)(F:aA z (.ae x) v)(G:aA z (.ae y) w)(b:vr p x y H≠ .j):bk (du cx.di cx.w) A (Fz (ma p) v w) (kO (aA) c z m cs<|vr p x y H) E s:=by
 refine dn λd=>?_
 induction p using f4.casesOn with
 |i=>
  unfold vr at b d
  cases e:H[x]? with
  |none=>rw[e] at b;exact b J
  |some o=>induction o using bY.casesOn with
   |af R=>cases h2:H[y]? with
    |none=>rw[e,h2] at b;exact b J
    |some o=>induction o using bY.casesOn with
     |af T=>
      rw[e,h2] at b d;have hb:=qQ b
      dsimp only at d
      rw[aN hb] at d;refine ek (S.u e) λa B n L M hr hs=>ek (S.u h2) λV f W t u j N=>?_;rw[jR F L,jR G t] at d;obtain⟨g,P,k⟩:=S;have Q:(B.toList++f.toList).length<=eI:=by rw[iz,<-(hr.q j).j];exact hb
      refine d<|add_lists k.fr k.nw (gm M) (gm u) λh' X Y=>?_;have Z:=k.DP (tk:=s.toks) (gr:=[(s.heap.objs.size,c3 (B.toList++f.toList).toArray 0)]) X Y (λq K r hr=>by
       rw[iw.mp K];exact k.lt r hr) (Fb ..)<|.af (hr.q j) Q
      exact⟨⟨z.Z,z.ad++[s.heap.objs.size]⟩,_,_,J,⟨λξ h=>h,_,J⟩,⟨g,_,Z⟩,_,J,by rw[k.cX.bK];exact mU⟩
     |_=>rw[e,h2] at b;exact b J
   |_=>rw[e] at b;exact b J
 |_=>exact b J
theorem YO(S:St c z H m cs s)(e:aA z x g)(f:aA z y h)(a:fO b x y H≠ .j):
  bk (du cx.di cx.w) A (Fz (ma b) g h) (kO (aA) c z m cs<|fO b x y H) (wY c z m cs<|fO b x y H) s:=by
 refine dn λd=>?_
 induction x using V.casesOn with
 |aa x=>induction y using V.casesOn with
  |aa y=>
   rw[show fO b (.aa x) (.aa y) H=o5 b x y H from J] at a d;obtain⟨t,rfl⟩:=e;obtain⟨u,rfl⟩:=f;exact d<|YL S a
  |_=>exact a J
 |ah x=>induction y using V.casesOn with
  |ah y=>
   rw[show fO b (.ah x) (.ah y) H=vq b x y H from J] at a d;obtain⟨⟨t,rfl⟩,lx⟩:=e.ah;obtain⟨⟨u,rfl⟩,i⟩:=f.ah;exact d<|@YM A _ c z H m cs s b x y t u S lx i a
  |_=>exact a J
 |ae x=>induction y using V.casesOn with
  |ae y=>
   rw[show fO b (.ae x) (.ae y) H=vr b x y H from J] at a d;exact d<|YN S e f a
  |_=>exact a J
 |_=>exact a J
end
end
section
open PySem PySem.W PySem.Calls PyProof.Rows
open SeqAt (EqAt RcAt RcNeAt)
noncomputable def qR:qg->CmpOp
 |.eq=>.Eq|.ne=>.NotEq|.lt=>.Lt|.gt=>.Gt|.ge=>.GtE|.le=>.LtE|.i=>.In|.q=>.NotIn|.j=>.Is|.u=>.IsNot
theorem YQ{a b:List Int}(h:a.length=b.length):(kl a.length).all (λj=>decide (a[j]? =b[j]?))=decide (a=b):=by
 rw[An,lr,decide_eq_true_eq];constructor
 ·intro x;apply List.ext_getElem?;intro j
  by_cases q:j<a.length
  ·exact D<|x j<|adn.mpr q
  ·rw[EU (L1<|sO q),EU (L2 (b7 h.symm)<|sO q)]
 ·clear h
  rintro rfl j _
  simp
section
variable{A:dN}{E:ak->ay->Prop}
variable{c:Fm}{z:Zs}{H:Hp}{m:aw->Option ak}{cs:aW}{s:ay}{l:Lc}{nm:Nat->aw}{i:dA}
theorem KL(b:List V):∀{is:List Int} {a:List ak},ni b=O is->aR z b a->is.length=a.length/\∀j (h:j<a.length),∃t i,is[j]? =O i/\a[j]=.int i t:=by
 induction b with
 |nil=>
  intro is a e r
  induction a using aV with
  |nil=>cases e;exact⟨J,λj h=>ax h<|Nk j⟩
  |cons _ _=>exact r.elim
 |cons x b d=>
  intro is a e r
  induction a using aV with
  |nil=>exact r.elim
  |cons v a=>induction x using V.casesOn with
   |aa i=>
    refine aB (fV.mp<|e) ?_;rintro f g rfl;obtain⟨k,h2⟩:=d g r.2;obtain⟨t,rfl⟩:=r.1;refine⟨bH (·+1) k,λj o=>?_⟩
    induction j using fU with
    |zero=>exact cK t i J J
    |succ j=>exact h2 j<|Nz o
   |_=>exact ba e
noncomputable def KN(x:V):Bool:=match x with
 |.none=>I
 |_=>C
theorem KO(r:aA z x a):(a==uT)=KN x:=by
 induction x using V.casesOn with
 |none=>rw[r];rfl
 |i _=>rw[r];rfl
 |aa _=>obtain⟨_,rfl⟩:=r;rfl
 |ah _=>obtain⟨_,rfl⟩:=r.ah.1;rfl
 |aQ _ _=>refine vc r ?_;clear r;rintro _ _ _ _ rfl _;rfl
 |ae _=>refine aB r ?_;clear r;rintro _ rfl _;rfl
 |_=>refine iU r ?_;clear r;rintro _ _ _ rfl _;rfl
noncomputable def mh:ak->ak->Bool
 |.int a _,.int b _=>a==b
 |.str a _,.str b _=>a==b
 |_,_=>C
theorem YR(h:sV x=sV y):x=y:=bH (λs:PySem.Str=>s.cps.toList) h
theorem YS(x y:List Nat)(t u:qY):mh (.str (sV x) t) (.str (sV y) u)=decide (x=y):=by
 by_cases q:x=y
 ·rw[q,dH J];exact beq_self_eq_true _
 ·rw[dT q];exact beq_eq_false_iff_ne.mpr λe=>q<|YR e
theorem zH{P:V->V->ak->ak->Bool->Prop}{d e:ak}(h:rC a k=O b)(f:aA z a d)(g:aA z k e)(j:∀x y t u,P (.aa x) (.aa y) (.int x t) (.int y u)<|decide (x=y))(o:∀x y t u,P (.ah x) (.ah y) (.str (sV x) t) (.str (sV y) u)<|decide (x=y)):P a k d e b:=by
 refine dn λi=>?_
 induction a using V.casesOn with
 |aa x=>induction k using V.casesOn with
  |aa y=>
   obtain⟨t,rfl⟩:=f;obtain⟨u,rfl⟩:=g;exact i<|cT h▸j x y t u
  |_=>exact ba h
 |ah x=>induction k using V.casesOn with
  |ah y=>
   obtain⟨t,rfl⟩:=f.ah.1;obtain⟨u,rfl⟩:=g.ah.1;exact i<|cT h▸o x y t u
  |_=>exact ba h
 |_=>exact ba h
theorem KP{d e:ak}{s:ay}(h:rC a k=O b)(f:aA z a d)(g:aA z k e):EqAt A s d e (mh d e)/\mh d e=b:=
 zH (P:=λi i d e b=>EqAt A s d e (mh d e)/\mh d e=b) h f g (λx y t u=>⟨adE x t y u,J⟩) λx y t u=>⟨SeqAt.EqAt.str_str (sV x) t (sV y) u,YS x y t u⟩
theorem YT{s:ay}(g:aA z k d)(f:List V):∀{a:List ak} {b:Bool},rD k f=O b->aR z f a->(∀y,y∈a->EqAt A s y d (mh y d))/\a.any (mh · d)=b:=by
 induction f with
 |nil=>
  intro a b h r
  induction a using aV with
  |nil=>exact⟨λw q=>ax q eW,cT h⟩
  |cons _ _=>exact r.elim
 |cons x f i=>
  intro a b h r
  induction a using aV with
  |nil=>exact r.elim
  |cons v a=>
   refine aB (oq.mp<|h) λb1 j h2=>?_;clear h;refine aB (fV.mp h2) ?_;rintro b2 o rfl;obtain⟨p,t⟩:=i o r.2;obtain⟨e1,e2⟩:=KP j r.1 g;exact⟨λy u=>(d4.mp u).elim (λe=>e▸e1)<|p y,by rw[adF,e2,t]⟩
noncomputable def pU(z:Zs)(o:Option V)(r:Option ak):Prop:=match o with
 |.none=>r=U
 |some x=>∃v,r=O v/\aA z x v
theorem pU.is{o:Option V}{r:Option ak}(h:pU z o r):r.isSome=o.isSome:=by
 induction o using gC with
 |none=>rw[h];rfl
 |some x=>refine aB h ?_;clear h;rintro v rfl _;rfl
noncomputable def KQ(a v:ak):Prop:=match a with
 |.int _ _=>∃i t,v=.int i t
 |.str _ _=>∃x t,v=.str x t
 |_=>False
structure FkR(z:Zs)(k:V)(pk:ak)(es:List eB)(o:Option V):Prop where
 f:pU z o ((es.find? λe=>mh e.key pk).map (·.val))
 kd:∀e∈es,KQ pk e.key
 ok:(∃i t,pk=.int i t)∨∃x t,pk=.str (sV x) t
theorem YU(p:aA z k j)(u:List<|V×V):∀{g:List eB} {o:Option V},nh k u=O o->kc z u g->FkR z k j g o:=by
 induction u with
 |nil=>
  intro g o h r
  induction g using aV with
  |cons _ _=>exact r.elim
  |nil=>induction k using V.casesOn with
   |aa i=>obtain⟨t,rfl⟩:=p;exact⟨cT h▸J,λa q=>ax q eW,.inl<|gv i t J⟩
   |ah x=>obtain⟨t,rfl⟩:=p.ah.1;exact⟨cT h▸J,λa q=>ax q eW,.inr<|gv x t J⟩
   |_=>exact ba h
 |cons d u y=>
  intro g o h r
  induction g using aV with
  |nil=>exact r.elim
  |cons e g=>
   refine aB (oq.mp<|h) λb w h2=>aB (fV.mp h2) ?_;rintro L B rfl;obtain⟨f,kd,ok⟩:=y B r.2;refine⟨?_,λF v=>(d4.mp v).elim (λq=>q▸zH (P:=λa a G j a=>KQ j G) w r.1.1 p (λx a t a=>gv x t J) λx a t a=>gv (sV x) t J)<|kd F,ok⟩;rw[adG,(KP (A:=Fi) (s:=⟨{},#[],{},0,{}⟩) w r.1.1 p).2]
   induction b using xE with
   |true=>exact aD e.val J r.1.2
   |false=>exact f
theorem DY{b:Array eB}{h:cz}(r:h.get? a=O (nZ b n))(ok:DN cx.w b)(w:kc z p b.toList)(v:aA z k g)(y:nh k p=O o):
  (∃i t f,g=.int i t/\h.MapOf (aff cx.di cx.w) a f/\pU z o (f i))∨
  (∃x t f,g=.str x t/\h.MapOf (adH cx.di cx.w) a f/\pU z o (f x)):=by
 obtain⟨F,G,K⟩:=YU v p y w;clear v
 rcases K with⟨i,t,rfl⟩|⟨x,t,rfl⟩
 ·refine .inl<|va i t (λk=>findBy adI b k) rfl (m3 _ b n r ⟨rfl,rfl,rfl⟩ rfl (λe d=>?_) λB=>rfl) ?_
  ·refine jx (G e<|Fc.mpr d) λj u e1=>aD j (by rw[e1];exact beq_self_eq_true j) ?_
   rcases ok with ok|ok<;>refine eC (ok e d) λL M e2 q=>?_<;>cases e1.symm.trans e2
   exact q
  ·rw[show(λe:eB=>mh e.key<|.int i t)=λe=>adI i e.key by funext e;cases e.key<;>rfl] at F;show pU z o (NY (·.val)<|adJ _ b);rw[<-adK];exact F
 ·refine .inr<|va (sV x) t (λk=>findBy adL b k) J (m3 _ b n r ⟨J,J,J⟩ J (λe d=>?_) λB=>J) ?_
  ·refine jx (G e<|Fc.mpr d) λj u e1=>aD j (by rw[e1];exact beq_self_eq_true j) ?_
   rcases ok with ok|ok<;>refine eC (ok e d) λL M e2 q=>?_<;>cases e1.symm.trans e2
   exact q
  ·rw[show(λe:eB=>mh e.key<|.str (sV x) t)=λe=>adL (sV x) e.key by funext e;cases e.key<;>rfl] at F;show pU z o (NY (·.val)<|adJ _ b);rw[<-adK];exact F
theorem KR{H:Hp}(h:cG o H≠ .j):∃a,o=O a:=by
 induction o using gC with
 |none=>exact(h J).elim
 |some a=>exact⟨a,J⟩
theorem KS{e p:ak}{Q:ak->ay->Prop}(S:St c z H m cs s)(v:aA z x e)(d:aA z y p)(h:Bq x y=some b):
  ((∀g,St c z H m cs g->Q (.bool b) g)->bk (du cx.di cx.w) A (oB .In e p) Q E s)/\((∀g,St c z H m cs g->Q (.bool<|!b) g)->bk (du cx.di cx.w) A (oB .NotIn e p) Q E s):=by
 refine dn λr=>?_
 induction y using V.casesOn with
 |u B=>
  refine ek d ?_;clear d;rintro a G n rfl k hs hr;obtain⟨w,hb⟩:=YT v B h hr;rw[Array.any_toList] at hb;exact r ⟨λq=>SeqAt.in_tupleAt (λy=>mh y e) (sx<|S.i a k) (λy d=>w y<|Fc.mpr d) (by rw[hb];exact q _ S),λq=>SeqAt.notIn_tupleAt (λy=>mh y e) (sx<|S.i a k) (λy d=>w y<|Fc.mpr d) (by rw[hb];exact q _ S)⟩
 |dct L=>
  refine aB (fV.mp<|h) ?_;rintro o F rfl;refine ek d ?_;clear d;rintro a M n rfl k ⟨ok,hd⟩ hr
  rcases DY (S.i a k) ok hr v F with⟨i,t,f,rfl,hm,j⟩|⟨i,t,f,rfl,hm,j⟩
  ·exact r ⟨λq=>aex (AP cx.di cx.w i t) hd hm (by rw[j.is];exact q _<|S.j _),λq=>aey (AP cx.di cx.w i t) hd hm (by rw[j.is];exact q _<|S.j _)⟩
  ·exact r ⟨λq=>aex (AQ cx.di cx.w i t) hd hm (by rw[j.is];exact q _<|S.j _),λq=>aey (AQ cx.di cx.w i t) hd hm (by rw[j.is];exact q _<|S.j _)⟩
 |_=>exact ba h
theorem YV{d e:ak}{Q:ak->ay->Prop}(S:St c z H m cs s)(f:aA z x d)(g:aA z y e)(h:vt x y=O b)(q:∀a,St c z H m cs a->Q (.bool b) a):
  bk (du cx.di cx.w) A (oB .In d e) Q E s:=by
 refine dn λi=>?_
 induction y using V.casesOn with
 |ah a=>induction x using V.casesOn with
  |ah cc=>
   induction cc using aV with
   |nil=>exact ba h
   |cons j r=>induction r using aV with
    |cons _ _=>exact ba h
    |nil=>
     obtain⟨t,rfl⟩:=f.ah.1;obtain⟨u,rfl⟩:=g.ah.1;refine i<|P.in_str ?_;rw[StrLaws.found_one,show decide (j∈(sV a).cps.toList)=a.contains j from List.elem_eq_mem .. |>.symm,cT h];exact q _ S
  |_=>exact ba h
 |_=>exact i<|(KS S f g h).1 q
theorem YW(h:Gl x y H=O b):rC x y=O b∨∃i j,x=.ae i/\y=.ae j/\vu i j H=O b:=by
 induction x using V.casesOn with
 |ae i=>induction y using V.casesOn with
  |ae j=>exact .inr<|cL i j J J h
  |_=>exact ba h
 |_=>exact .inl h
theorem zI{P:ak->ak->Bool->Prop}{f:Int->Int->Bool}(h:vv f x y=O b)(e:aA z x a)(g:aA z y d)(k:∀i j t u,P (.int i t) (.int j u)<|f i j):P a d b:=by
 refine dn λo=>?_
 induction x using V.casesOn with
 |aa i=>induction y using V.casesOn with
  |aa j=>
   obtain⟨t,rfl⟩:=e;obtain⟨u,rfl⟩:=g;exact o<|cT h▸k i j t u
  |_=>exact ba h
 |_=>exact ba h
theorem KU(h:Br x y=O b):y=.none/\KN x=b:=by
 induction y using V.casesOn with
 |none=>cases x<;>exact⟨J,cT h⟩
 |_=>exact ba h
theorem KV{i:Nat}(h:ql H i=O b):H[i]? =O (.af b):=by
 unfold ql at h
 cases a:H[i]? with
 |none=>rw[a] at h;exact ba h
 |some o=>induction o using bY.casesOn with
  |af d=>rw[a] at h;exact bH (λx=>O<|bY.af x)<|cT h
  |_=>rw[a] at h;exact ba h
theorem YX{i j:Nat}{Q:ak->ay->Prop}(R:A.units<m1)(S:St c z H m cs s)(M:aA z (.ae i) x)(N:aA z (.ae j) y)(h:vu i j H=O b)(q:∀B,St c z H m cs B->Q (.bool b) B):bk (du cx.di cx.w) A (oB .Eq x y) Q E s:=by
 refine aB (oq.mp h) λP o h=>aB (oq.mp h) λX h2 h=>aB (oq.mp h) λis e1 h=>aB (fV.mp h) ?_;rintro F e2 rfl;refine ek (S.u<|KV o) λa G n Y L hr hs=>ek (S.u<|KV h2) λa' f n' p g r Z=>?_;rw[jR M Y,jR N p];obtain⟨n1,K⟩:=KL P e1 hr;obtain⟨n2,T⟩:=KL X e2 r;have n1:is.length=G.size:=n1;have n2:F.length=f.size:=n2
 by_cases d:G.size=f.size
 ·refine SeqAt.eq_listAt (gm L) (gm g) d R (λj o h2=>?_) (by rw[<-n1,YQ (n1.trans<|d.trans n2.symm)];exact q _ S);refine eC (K j o) λt k V W=>eC (T j h2) λt' u v w=>?_;rw[W,w,V,v,show decide (O k=O u)=(k==u) by rw[An];simp];exact adE k t u t'
 ·refine SeqAt.eq_list_lengthsAt (gm L) (gm g) (bne_iff_ne.mpr d) R ?_;rw[show C=decide (is=F) from(dT λe=>d<|by rw[<-n1,<-n2,e]).symm];exact q _ S
theorem KW(x y:List Nat):((sV x).cps.toList==(sV y).cps.toList)=decide (x=y):=by rw[An];simp[sV]
theorem KY(R:A.units<m1)(S:St c z H m cs s)(h:aA z x f)(k:aA z y g)(p:lH v x y H≠ .j):
  bk (du cx.di cx.w) A (oB (qR v) f g) (kO (aA) c z m cs<|lH v x y H) (wY c z m cs<|lH v x y H) s:=by
 unfold lH at p⊢;obtain⟨r,hr⟩:=KR p;refine aB (fV.mp hr) ?_;rintro b hb rfl;rw[hr];clear hr p;generalize w:kO (aA) c z m cs (cG (O<|V.i b) H)=Q;have a:∀d,St c z H m cs d->Q (.bool b) d:=λd F=>w▸ .i F KI;clear w;generalize wY c z m cs (cG (O<|V.i b) H)=E
 induction v using qg.casesOn with
 |eq=>
  rcases YW hb with hb|⟨i,j,rfl,rfl,hb⟩
  ·exact zH (P:=λe e f g b=>(∀d,St c z H m cs d->Q (.bool b) d)->bk (du cx.di cx.w) A (oB .Eq f g) Q E s) hb h k (λx y t u q=>P.eq_int<|q _ S) (λx y t u q=>P.eq_str (by rw[KW];exact q _ S)) a
  ·exact YX R S h k hb a
 |ne=>
  refine aB (fV.mp hb) ?_;rintro B o rfl;exact zH (P:=λe e f g b=>(∀d,St c z H m cs d->Q (.bool<|!b) d)->bk (du cx.di cx.w) A (oB .NotEq f g) Q E s) o h k (λx y t u q=>P.ne_int<|q _ S) (λx y t u q=>P.ne_str (by unfold bne;rw[KW];exact q _ S)) a
 |lt=>exact zI (P:=λf g b=>(∀d,St c z H m cs d->Q (.bool b) d)->bk (du cx.di cx.w) A (oB .Lt f g) Q E s) hb h k (λe e e e q=>P.lt_int<|q _ S) a
 |gt=>exact zI (P:=λf g b=>(∀d,St c z H m cs d->Q (.bool b) d)->bk (du cx.di cx.w) A (oB .Gt f g) Q E s) hb h k (λe e e e q=>P.gt_int<|q _ S) a
 |ge=>exact zI (P:=λf g b=>(∀d,St c z H m cs d->Q (.bool b) d)->bk (du cx.di cx.w) A (oB .GtE f g) Q E s) hb h k (λe e e e q=>P.ge_int<|q _ S) a
 |le=>exact zI (P:=λf g b=>(∀d,St c z H m cs d->Q (.bool b) d)->bk (du cx.di cx.w) A (oB .LtE f g) Q E s) hb h k (λe e e e q=>P.le_int<|q _ S) a
 |i=>exact YV S h k hb a
 |q=>
  refine aB (fV.mp hb) ?_;rintro B o rfl;exact(KS S h k o).2 a
 |j=>
  obtain⟨rfl,rfl⟩:=KU hb;rw[k];exact is_none_gen (by rw[KO h];exact a _ S)
 |u=>
  refine aB (fV.mp hb) ?_;rintro B o rfl;clear hb;obtain⟨rfl,rfl⟩:=KU o;rw[k];exact isnot_none_gen (by rw[KO h];exact a _ S)
end
theorem YY(h:ec a=ec b):a=b:=bH (λx:aw=>x.cps.toList) h
theorem YZ{c:Type}[DecidableEq c]:∀(l b:List c),b.Nodup->(∀x∈b,x∈l)->b.length<=l.length:=by
 intro l
 induction l with
 |nil=>
  intro b g h
  induction b using aV with|nil=>exact bF _|cons x _=>exact ax (h x<|.head _)<|by simp
 |cons a l e=>
  intro b d h;have z:=e (b.erase a) (d.erase a) λx f=>by
   have:=(d.mem_erase_iff).mp f;exact(d4.mp<|h x this.2).resolve_left this.1
  by_cases q:a∈b
  ·rw[List.length_erase_of_mem q] at z;simp;lia
  ·rw[List.erase_of_not_mem q] at z;simp;exact L1 z
theorem lX.bK{fs:List<|At×V}(h:lX fs):fs.length<=35:=by
 have:=YZ iN (fs.map (·.1)) h.nd λx a=>by
  refine aB (ej.mp a) ?_;rintro q b rfl;exact h.DL q b
 rw[c5] at this;exact this
theorem DZ{r:List<|At×V}:fB ((b,u)::r) a v=if b=a then(b,v)::r else(b,u)::fB r a v:=rfl
theorem KZ{r:List<|At×V}:fe ((b,v)::r) a=if b=a then O v else fe r a:=rfl
theorem K0:∀{q:At×V},q∈fB fs a v->q∈fs∨q=(a,v):=by
 induction fs with
 |nil=>intro q h;exact .inr<|iw.mp h
 |cons p r c=>
  obtain⟨b,u⟩:=p;intro q h;rw[DZ] at h;split at h
  ·rename_i e
   rcases d4.mp h with rfl|h
   ·exact .inr<|by rw[e]
   ·exact .inl<|.tail _ h
  ·rcases d4.mp h with rfl|h
   ·exact .inl<|.head _
   ·exact(c h).imp (.tail _) id
theorem lX.gw(h:lX fs)(v:V)(f:a∈iN):lX (fB fs a v):=by
 refine⟨?_,λq d=>?_⟩
 ·have:∀fs:List (At×V),(fs.map (·.1)).Nodup->((fB fs a v).map (·.1)).Nodup:=by
   intro fs
   induction fs with
   |nil=>intro _;show[a].Nodup;simp
   |cons p r g=>
    obtain⟨b,u⟩:=p;intro c;simp only[iQ,iR] at c;rw[DZ];split
    ·rename_i e;simpa using c
    ·rename_i e
     simp only[iQ,iR];refine⟨λhm=>?_,g c.2⟩;refine aB (ej.mp hm) λq d e2=>?_
     rcases K0 d with h|h
     ·exact c.1<|ej.mpr<|aD q h e2
     ·rw[h] at e2;exact e e2.symm
  exact this fs h.nd
 ·rcases K0 d with h'|h'
  ·exact h.DL q h'
  ·rw[h'];exact f
theorem lX.nil:lX []:=⟨by simp,λa h=>ax h eW⟩
section
variable{z:Zs}
theorem K1{v:ak}(h:v=.str (ec a) t):v.isStr (ec b)=decide (a=b):=by
 subst h;unfold Value.isStr;rw[An,beq_iff_eq,decide_eq_true_eq];exact⟨λe=>YY e,λe=>by rw[e]⟩
theorem K2:∀{c:List<|At×V} {d:List eB} (a:At),gO z c d->match fe c a with
  |some v=>∃e,d.find? (·.key.isStr (ec a))=O e/\aA z v e.val
  |.none=>d.find? (·.key.isStr (ec a))=none:=by
 intro c
 induction c with
 |nil=>
  intro h
  induction h using aV with
  |nil=>
  intro a;intro f;exact J
  |cons f f=>
  intro f;intro r;exact r.elim
 |cons i c g=>
  obtain⟨b,x⟩:=i;intro j
  induction j using aV with
  |nil=>
  intro f;intro r;exact r.elim
  |cons e d=>
  intro a;intro r;obtain⟨⟨⟨t,k⟩,l⟩,hr⟩:=r;have g:=g a hr;rw[KZ];simp only[adG,K1 k]
  by_cases q:b=a
  ·rw[aN q,dH q];exact aD e J l
  ·rw[a9 q,dT q];exact g
theorem Y0:∀{a:List<|At×V} {c:List eB},gO z a c->c.any (·.refKey)=false:=by
 intro a
 induction a with
 |nil=>
  intro f
  induction f using aV with
  |nil=>
  intro d;exact J
  |cons d d=>
  intro r;exact r.elim
 |cons g a h=>
  obtain⟨b,x⟩:=g;intro i
  induction i using aV with
  |nil=>
  intro r;exact r.elim
  |cons e c=>
  intro r;obtain⟨⟨⟨t,j⟩,k⟩,hr⟩:=r;rw[adF,h hr];unfold DictEntry.refKey;rw[j];rfl
theorem K3(r:gO z fs b)(h:fe fs a=O v):∃c,getL (ec a) b=O (O c)/\aA z v c:=by
 have:=K2 a r;rw[h] at this;exact aB this λe e1 e2=>aD e.val (by unfold getL;rw[e1]) e2
theorem K4(r:gO z fs b)(h:fe fs a=.none):getL (ec a) b=O none:=by
 have:=K2 a r;rw[h] at this;unfold getL;rw[this,Y0 r];rfl
theorem Y1(a:At)(r:gO z fs b):(getL (ec a) b).isSome=true:=by
 cases h:fe fs a with
 |none=>rw[K4 r h];rfl
 |some v=>refine aB (K3 r h) λc e d=>?_;rw[e];rfl
theorem K5{hsh:Int}(g:aA z v pv):∀{c:List<|At×V} {d:List eB},gO z c d->gO z (fB c a v) (putL (ec a) hsh (.str (ec a) t) pv d):=by
 intro c
 induction c with
 |nil=>
  intro i
  induction i using aV with
  |nil=>
  intro h;exact⟨⟨⟨t,J⟩,g⟩,bl⟩
  |cons h h=>
  intro r;exact r.elim
 |cons j c k=>
  obtain⟨b,x⟩:=j;intro l
  induction l using aV with
  |nil=>
  intro r;exact r.elim
  |cons e d=>
  intro r;obtain⟨⟨⟨u,f⟩,m⟩,hr⟩:=r;rw[DZ];simp only[putL,K1 f]
  by_cases q:b=a
  ·rw[aN q,dH q,aN J];exact⟨⟨⟨u,f⟩,g⟩,hr⟩
  ·rw[a9 q,dT q,a9 (D J)];exact⟨⟨⟨u,f⟩,m⟩,k hr⟩
theorem Y2:∀{a:List<|At×V} {c:List eB},gO z a c->a.length=c.length:=by
 intro a
 induction a with
 |nil=>
  intro f
  induction f using aV with
  |nil=>
  intro d;exact J
  |cons d d=>
  intro r;exact r.elim
 |cons g a h=>
  obtain⟨b,x⟩:=g;intro i
  induction i using aV with
  |nil=>
  intro r;exact r.elim
  |cons e c=>
  intro r;simp[h r.2]
theorem Y3(h:∀q∈fs,q.1≠a):fe fs a=.none:=by
 induction fs with
 |nil=>rfl
 |cons p r c=>obtain⟨b,u⟩:=p;rw[KZ,a9 (h (b,u)<|.head _)];exact c λq d=>h q<|.tail _ d
end
noncomputable def D0(K:cU)(c:eJ):Bool:=plainGet K (df c) ""&&hasDictIn K (df c)&&plainOver K (df c)&&(gE K (.ref<|df c) "__setattr__"==O (O<|.builtin "object.__setattr__"))&&makesIn K (df c)&&
 iN.all λa=>gE K (.ref<|df c) (ec a)==O U
structure hD(K:cU)(c:eJ):Prop where
 cO:∀n,plainGet K (df c) n=true
 K6:hasDictIn K (df c)=true
 zJ:plainOver K (df c)=true
 D1:gE K (.ref (df c)) "__setattr__"=some (some (.builtin "object.__setattr__"))
 K7:makesIn K (df c)=true
 K8:∀a∈iN,gE K (.ref (df c)) (ec a)=some none
theorem Y4{K:cU}{c:eJ}(h:D0 K c=I):hD K c:=by
 unfold D0 at h;simp only[ol,beq_iff_eq,lr] at h;obtain⟨⟨⟨⟨⟨a,h2⟩,b⟩,h4⟩,d⟩,e⟩:=h;exact⟨λf=>a,h2,b,h4,d,e⟩
section
variable{A:dN}{E:ak->ay->Prop}
variable{c:Fm}{z:Zs}{H:Hp}{m:aw->Option ak}{cs:aW}{s:ay}{l:Lc}{nm:Nat->aw}{i:dA}
structure K9(z:Zs)(h:cz)(a:aH)(cl:eJ)(fs:List (At×V))(d:aH)(es:List eB)(n:Nat):Prop where
 aQ:InstAt h a (s0 (df cl) d) (df cl) (some (FC es n))
 ok:lX fs
 Lb:gO z fs es
theorem zK(a:Array eB)(n:Nat):FC a.toList n=nZ a n:=by simp[FC]
set_option tactic.hygienic true in
theorem St.aQ(S:St c z H m cs s){e:eJ}(k:aA z v pv)(b:qm v H=O e):∃a d f n h,pv=.ref a/\K9 z s.heap a e h d f n/\(v=.aQ e h∨∃i,v=.ae i/\H[i]? =O (.aQ e h)):=by
 induction v using V.casesOn with
 |aQ p h=>
  cases b
  refine Ba k ?_;clear k;rintro a d f n rfl u h2 ok r;exact vd a d f.toList n _ J ⟨⟨S.i a u,J,J,by rw[zK];exact S.i d h2⟩,ok,r⟩<|.inl J
 |ae i=>
  replace b:(match H[i]? with|some (.aQ c _)=>O c|_=>U)=O e:=b
  cases j:H[i]? with
  |none=>rw[j] at b;exact ba b
  |some o=>
  rw[j] at b
  induction o using bY.casesOn with
  |aQ p h=>
   cases b
   obtain⟨g,w,t⟩:=id S;refine cV (t.cX.cO j) λa B x hg L=>?_
   cases L with
   | @aQ _ _ _ d f n ok r=>
    have rd:∀q∈[(a,s0 (df e) d),(d,nZ f n)],s.heap.get? q.1=O q.2:=λq y=>(t.nw q<|dm _<|dm _<|dm _<|NR.mpr<|aD _ (mi hg) y).1;exact vd a d f.toList n h (jR k x) ⟨⟨rd _<|.head _,J,J,by rw[zK];exact rd _<|.tail _<|.head _⟩,ok,r⟩<|.inr<|aD i J j
  |_=>exact ba b
 |_=>exact ba b
theorem Y5(h:aA z v pv):handedIn pv=true:=by
 cases v
 ·rw[h];rfl
 ·rw[h];rfl
 ·exact h.elim λt e=>by rw[e];rfl
 ·exact h.1.elim λt e=>by rw[e];rfl
 ·refine iU h ?_;clear h;rintro _ _ _ rfl _;rfl
 ·refine iU h ?_;clear h;rintro _ _ _ rfl _;rfl
 ·refine vc h ?_;clear h;rintro _ _ _ _ rfl _;rfl
 ·refine iU h ?_;clear h;rintro _ _ _ rfl _;rfl
 ·refine aB h ?_;clear h;rintro _ rfl _;rfl
theorem Y6{H:Hp}{i:Nat}:kE (.ae i) a H=match H[i]? with
  |some (.aQ _ b)=>cG (fe b a) H
  |_=>.j:=rfl
theorem Y7{H:Hp}{i:Nat}:qm (.ae i) H=match H[i]? with
  |some (.aQ c _)=>O c
  |_=>none:=rfl
theorem Y8{H:Hp}{i:Nat}:jZ (.ae i) a u H=match H[i]? with
  |some (.aQ c b)=>.ok ()<|H.set i<|.aQ c<|fB b a u
  |_=>.j:=rfl
set_option tactic.hygienic true in
theorem Y9(b:∀cl,hD cx.K cl)(S:St c z H m cs s)(G:aA z v pv)(L:a∈iN)(p:kE v a H≠ .j):
  bk (du cx.di cx.w) A (FD pv (ec a) I) (kO (aA) c z m cs<|kE v a H) E s:=by
 have go:∀{cl q t d x n},pv=.ref t->K9 z s.heap t cl q d x n->∀u,fe q a=O u->bk (du cx.di cx.w) A (FD pv (ec a) I) (kO (aA) c z m cs<|.ok u H) E s:=by
  intro cl q t d x n e f u w;subst e;refine aB (K3 f.Lb w) λQ M B=>?_;obtain⟨g,N,F⟩:=id S;exact get_own F.fr F.dv f.aQ ((b cl).cO _) (b cl).K6 ((b cl).K8 a L) J M (Y5 B)<|.i (S.j _) B
 have r:∀{cl q},qm v H=O cl->kE v a H=cG (fe q a) H->(∀k,(v=.aQ cl k∨∃i,v=.ae i/\H[i]? =O (.aQ cl k))->k=q)->bk (du cx.di cx.w) A (FD pv (ec a) I) (kO (aA) c z m cs<|kE v a H) E s:=by
  intro cl q e1 e2 P;rw[e2] at p⊢;obtain⟨u,w⟩:=KR p;refine lB (S.aQ G e1) λt d x n k e f h=>?_;rw[P k h] at f;rw[w];exact go e f u w
 induction v using V.casesOn with
 |aQ cl q=>exact r J J λk h=>h.elim (λh=>by cases h;rfl) λ⟨i,h,_⟩=>by cases h
 |ae i=>
  have e:=Y6 (a:=a) (H:=H) (i:=i);have e1:=Y7 (H:=H) (i:=i)
  cases y:H[i]? with
  |none=>rw[y] at e;exact ax e p
  |some o=>
   rw[y] at e e1
   induction o using bY.casesOn with
   |aQ cl q=>exact r e1 e λk h=>h.elim (λh=>by cases h) λ⟨j,h,h2⟩=>by cases h;rw[y] at h2;cases h2;rfl
   |_=>exact ax e p
 |_=>exact ax J p
set_option tactic.hygienic true in
theorem Za(f:∀cl,hD cx.K cl)(S:St c z H m cs s)(X:aA z x N)(P:aA z u y)(B:a∈iN)(k:jZ x a u H≠ .j):
  bk (du cx.di cx.w) A (NZ N (ec a) y) (λY F=>∃p,jZ x a u H=.ok () p/\St c z p m cs F) E s:=by
 induction x using V.casesOn with
 |ae i=>
  have t:=Y8 (a:=a) (u:=u) (H:=H) (i:=i)
  cases G:H[i]? with
  |none=>rw[G] at t;exact ax t k
  |some o=>
  rw[G] at t
  induction o using bY.casesOn with
  |aQ cl Z=>
   rw[t];obtain⟨g,v,j⟩:=id S;refine cV (j.cX.cO G) λb gr hb hg L=>?_;have e:=jR X hb;subst e
   cases L with
   | @aQ _ _ _ d Q n ok r=>
    have M:∀q∈[(b,s0 (df cl) d),(d,nZ Q n)],q∈bP c z cs v:=λq w=>dm _<|dm _<|dm _<|NR.mpr<|aD _ (mi hg) w;have rd:=λq w=>(j.nw q<|M q w).1;have h:InstAt s.heap b (s0 (df cl) d) (df cl) (O<|FC Q.toList n):=⟨rd _<|.head _,J,J,by rw[zK];exact rd _<|.tail _<|.head _⟩;have hp:=set_plain (prog:=cx.di) (w:=cx.w) (A:=A) (E:=E) (v:=y) (name:=ec a) (Q:=λY F=>∃p,R.ok () (H.set i<|.aQ cl<|fB Z a u)=R.ok () p/\St c z p m cs F) (j.dv.keeps j.fr.keep) h (f cl).D1 ?_
    ·exact hp
    ·refine osa_dict (post:=qP c z cs v i [(b,s0 (df cl) d)] []) j.fr (by rw[zK];exact j.DQ hg) (j.dv.keeps j.fr.keep) h J (f cl).zJ ?_ (f cl).K6 (Y1 a r) (λq w=>ax w eW) (j.Kz hg) (putName_dict _ _ _ _ _ _) J ?_ λh' K T=>?_
     ·unfold takerIn;rw[(f cl).K8 a B];rfl
     ·have W:=(ok.gw u B).bK;have h2:=Y2<|K5 (a:=a) (hsh:=adv cx.w.params<|ec a) (t:=s.toks+1) P r;rw[<-h2];exact L1 W
     ·refine⟨_,J,g,_,j.KC hb hg K T<|g8.aQ (ok.gw u B) ?_⟩;simpa using K5 P r
  |_=>exact ax t k
 |_=>exact ax J k
end
section
variable{M:uW}{A:dN}{E:ak->ay->Prop}{j:ay}{base G g h:cz}{i:dA}{outer:List dA}{L e:aH}{m:aw->Option ak}{Q:Unit->ay->Prop}{news news':aW}
theorem Ld(R:qN base G l e news h)(c:∀q∈news',q∈news):qN base G l e news' h:=by
 obtain⟨B,d,a,f,b⟩:=R;exact⟨B,d,a,λq i=>f q<|c q i,b⟩
theorem Zb(K:lu A base outer g)(F:Fr g L G m)(R:qN base G (i::outer) e news j.heap)(p:i.frame=O L)(c:G.UpToSlots j.heap)
  (r:∀a,qN base g outer e news a->g.UpToSlots a->Q () {j with heap:=a}):
  bk M (A.deeper i) («leaving» i<|.ref e) Q E j:=by
 obtain⟨B,s,d,f,k⟩:=R;exact Yz (adM K.stack) p k λa t u=>
  r a ⟨B,s,λb o q nm=>d b o (F.keep b o q) (λhm=>by
   rcases sw p hm with z|z
   ·rw[z,AL F] at q;exact ba q
   ·exact nm z),λq l=>⟨(f q l).1,kts_none F.keep (f q l).2.1,(f q l).2.2⟩,t⟩ ((N0 F.keep).trans<|c.trans u)
theorem Zc(K:lu A base outer g)(F:Fr g L h m)(N:News g L h news)(c:i.frame=O L)(k:i.scope.kind=.function):
  base.StaysIn (ml h<|dF<|i::outer)/\(∀b o,g.get? b=O o->b∉dF outer->(ml h<|dF<|i::outer).get? b=O o)/\
  (∀q∈news,(ml h<|dF<|i::outer).get? q.1=O q.2/\g.get? q.1=U/\base.get? q.1=U)/\h.FunFrames (ml h<|dF<|i::outer) (i::outer):=by
 have d:=pushX K F c k;have f:∀env'∈(i::outer),∀b,env'.frame=O b->b∈dF (i::outer):=λenv' l b hb=>NN.mpr<|aD env' l hb;refine⟨λb o q=>FE _ (d.stays b o q) λhm=>?_,λb o q nm=>FE _ (F.keep b o q) λhm=>?_,λq a=>?_,funFrames_hide d.frames f⟩
 ·rw[(d.frames.mem hm).1] at q;exact ba q
 ·rcases sw c hm with z|z
  ·rw[z,AL F] at q;exact ba q
  ·exact nm z
 ·refine⟨FE _ (N q a).1 λhm=>?_,(N q a).2.2,fresh_of_stays K.stays (N q a).2.2⟩
  rcases sw c hm with z|z
  ·exact(N q a).2.1 z
  ·obtain⟨_,o,j,_⟩:=K.frames.mem z;rw[(N q a).2.2] at j;exact ba j
theorem Zd(K:lu A base outer g)(a:DI h j.heap e)(F:Fr g L h m)(N:News g L h news)(d:i.frame=O L)(l:i.scope.kind=.function)
  (p:∀c,qN base g outer e news c->g.UpToSlots c->Q () {j with heap:=c}):
  bk M (A.deeper i) («leaving» i<|.ref e) Q E j:=by
 refine u9 (Zc K F N d l) λst sg r ff=>x6 a.Ku λv w s hc hd t h2=>?_;have f:∀b o,(ml h<|dF<|i::outer).get? b=O o->h.get? b=O o:=λb o q=>Fv _ q;have en:(ml h<|dF<|i::outer).get? e=none:=by
  cases q:(ml h<|dF<|i::outer).get? e with
  |none=>rfl
  |some o=>have:=f _ _ q;rw[a.ce] at this;exact ba this
 refine YA (adM K.stack) (ff.of_keeps λb o hb x=>aD o (a.DJ b o hb) J) d s (λb o hb=>a.DJ b o<|f b o hb) en hd t h2 λc k u=>?_;rw[hc] at k;exact p c ⟨_,st,sg,r,k⟩<|((N0 F.keep).trans<|N0 a.DJ).trans u
end
noncomputable def w0(c:Fm)(A:dN):Prop:=A.handled=U∨∃e a b,A.handled=O (.ref e)/\(e,a)∈c.P/\a.data=.fields b/\b[2]? =O .none
noncomputable def xb(h:cz)(A:dN):Prop:=A.handled=U∨∃e a b,A.handled=O (.ref e)/\h.get? e=O a/\a.data=.fields b/\b[2]? =O .none
section
inductive Ms(c:Fm)(z:Zs)(H:Hp)(x:ak)(s:ay):Prop
 |mk:∀e h m cs g lvs,x=.ref e->DI h s.heap e->bG c z H m cs {s with heap:=h} g lvs->Ms c z H x s
structure sy(nm:Nat->aw)(c:Fm)(l:Lc)(cm:aw->Option ak)(cs:aW):Prop where
 mR:s6 cm c.aS.cells cs
 xc:∀i j,i<l.length->j<l.length->nm i=nm j->i=j
 nn:(c.aS.cells.map (·.1)).Nodup
 bK:∀i,nm i≠⟨#[]⟩->i<l.length
 dZ:∀x,c.aS.kindOf x=some .cell->(c.aS.cells.lookup x).isSome=true
inductive jT(nm:Nat->aw)(c:Fm)(z:Zs)(l:Lc)(H:Hp)(s:ay):Prop
 |mk:∀m cs cm,St c z H m cs s->g9 nm c c.aS z m cs l->sy nm c l cm cs->jT nm c z l H s
noncomputable def sA(z:Zs):Fl->kw->Prop
 |.aU,.next=>True
 |.u,.brk=>True
 |.q,.cont=>True
 |.am v,.ret a=>aA z v a
 |_,_=>False
end
noncomputable def dy(a:List aw)(i:Nat):aw:=a.getD i ⟨#[]⟩
noncomputable abbrev MM:uW:=du cx.di cx.w
structure Gx where
 ag:gS
 ns:List aw
 hd:Bool
 c:Fm
 A:dN
 fr:A.frames=some (c.aS::c.ir)
 ok:Fm.Ok c
 gR:w0 c A
 qS:A.units<m1
structure Fx where
 g:Gx
 bo:dA
 m:aw->Option ak
 cs:aW
 l:Lc
 jP:bo.globals=ez
 hW:bo.builtins=uX
 aq:bo.scope.kind=.function
 dZ:∀x,bo.kindOf x=some .cell->(bo.cells.lookup x).isSome=true
structure Pt(f:Fx) where
 z:Zs
 H:Hp
 s:ay
 st:St f.g.c z H f.m f.cs s
 lo:g9 (dy f.g.ns) f.g.c f.bo z f.m f.cs f.l
noncomputable def Pt.le{f:Fx}(p q:Pt f):Prop:=p.z.le q.z
structure Tk{G F:Type}(y:Zs->G->F->Prop){f:Fx}(p:Pt f)(r:R G)(Q:F->ay->Prop)(E:ak->ay->Prop):Prop where
 ne:r≠ .j
 ok:∀(q:Pt f) a b,r=.ok a q.H->p.le q->y q.z a b->Q b q.s
 ex:∀x s z' H',r=.q H'->p.z.le z'->Xs f.g.c z' H' f.m f.cs x s->E x s
noncomputable def Go{G F:Type}(y:Zs->G->F->Prop){f:Fx}(p:Pt f)(r:R G)(t:Sem F):Prop:=∀Q E,Tk y p r Q E->bk MM f.g.A t Q E p.s
section
variable{G F u B:Type}{y:Zs->G->F->Prop}{rel':Zs->u->B->Prop}{f:Fx}{p:Pt f}{r:R G}{t:Sem F}{r':G->Hp->R u}{Q:B->ay->Prop}{E:ak->ay->Prop}
theorem Tk.to{q:Pt f}{r:R u}(T:Tk rel' p r Q E)(le:p.le q):Tk rel' q r Q E:=
 ⟨T.ne,λd a b e c=>T.ok d a b e<|le.q c,λx s g h e c=>T.ex x s g h e<|le.q c⟩
theorem Go.tG{c:F->ay->Prop}(h:Go y p r t)(k:∀(q:Pt f) a b,r=.ok a q.H->p.le q->y q.z a b->Tk rel' q (r' a q.H) Q E->c b q.s)(T:Tk rel' p (r.i r') Q E):bk MM f.g.A t c E p.s:=
 h c E ⟨λe=>T.ne (by rw[e];rfl),λq a b e le rl=>k q a b e le rl (by rw[e] at T;exact T.to le),λx s d g e le X=>T.ex x s d g (by rw[e];rfl) le X⟩
theorem Go.nx{c:F->ay->Prop}(h:Go y p r t)(k:∀(q:Pt f) a b,p.le q->y q.z a b->Tk rel' q (r' a q.H) Q E->c b q.s)(T:Tk rel' p (r.i r') Q E):bk MM f.g.A t c E p.s:=
 h.tG (λq a b _=>k q a b) T
theorem Go.of(h:r≠ .j->bk MM f.g.A t (kO y f.g.c p.z f.m f.cs r) (wY f.g.c p.z f.m f.cs r) p.s):Go y p r t:=λQ E T=>
 mm (h T.ne) (λb s ⟨c,a,d,e,le,S,rl⟩=>T.ok ⟨c,d,s,S,p.lo.au le⟩ a b e le rl) λx s ⟨c,d,e,le,X⟩=>T.ex x s c d e le X
noncomputable def Pt.tk(p:Pt f)(k:Nat):Pt f:=⟨p.z,p.H,{p.s with toks:=k},p.st.j k,p.lo⟩
theorem Tk.i(T:Tk rel' p (.ok a p.H) Q E)(h:rel' p.z a b):Q b p.s:=T.ok p a b J .refl h
theorem Tk.j(T:Tk rel' p (.ok a p.H) Q E)(h:rel' p.z a b)(k:Nat):Q b {p.s with toks:=k}:=T.ok (p.tk k) a b J .refl h
theorem Tk.q{c:Prop}[Decidable c]{r:R u}{a:Prop}(T:Tk rel' p (if c then r else .j) Q E)(k:c->Tk rel' p r Q E->a):a:=by
 by_cases h:c
 ·rw[aN h] at T;exact k h T
 ·rw[a9 h] at T;exact(T.ne J).elim
theorem Tk.op{b:Prop}(T:Tk rel' p (cG o H) Q E)(k:∀a,o=O a->Tk rel' p (.ok a H) Q E->b):b:=by
 cases o with
 |none=>exact(T.ne J).elim
 |some a=>exact k a J T
theorem Tk.as{b c:Type}{r:R b}{k:b->Hp->R c}{d:c->Hp->R u}(T:Tk rel' p ((r.i k).i d) Q E):Tk rel' p (r.i λa H=>(k a H).i d) Q E:=by cases r<;>exact T
end
section
variable{f:Fx}{p:Pt f}
noncomputable def sB:Zs->Bool->Bool->Prop:=λ_ a b=>a=b
noncomputable abbrev eG(x:V)(H:Hp):R Bool:=cG (Mine.dC x H) H
noncomputable def bj(f:Fx)(e:E)(a:aX):Prop:=∀p:Pt f,Go aA p (az f.g.ag e f.l p.H) (kz a f.bo)
noncomputable def iO(f:Fx)(e:E)(a:aX):Prop:=∀p:Pt f,Go sB p ((az f.g.ag e f.l p.H).i eG) (isTrue a f.bo<|kz a f.bo)
noncomputable def EsR(n:Nat)(z:Zs)(b:List V)(a:List ak):Prop:=aR z b a/\b.length=n
noncomputable def n6(f:Fx)(b:List E)(a:List aX):Prop:=∀p:Pt f,Go (EsR b.length) p (cu f.g.ag b f.l p.H) (spliced<|a.map λe=>(C,kz e f.bo))
noncomputable def Pt.on(p:Pt f)(s:ay)(S:St f.g.c p.z p.H f.m f.cs s):Pt f:=⟨p.z,p.H,s,S,p.lo⟩
theorem Lf{u B:Type}{rel':Zs->u->B->Prop}{Q:B->ay->Prop}{E:ak->ay->Prop}{a:Bool->ay->Prop}{d:Bool->R u}{e:ak}(g:aA p.z x e)(k:∀s S b,Tk rel' (p.on s S) (d b) Q E->a b s)(T:Tk rel' p (match Mine.dC x p.H with|some c=>d c|.none=>.j) Q E):
  bk MM f.g.A (AD e) a E p.s:=by
 cases h:Mine.dC x p.H with
 |none=>rw[h] at T;exact(T.ne J).elim
 |some b=>rw[h] at T;exact KH p.st g h λs S=>k s S b<|T.to .refl
theorem Ze{u B:Type}{rel':Zs->u->B->Prop}{r:R V}{Q:B->ay->Prop}{E:ak->ay->Prop}{a:Bool->Hp->R u}(T:Tk rel' p (r.i λx H=>match Mine.dC x H with|some c=>a c H|.none=>.j) Q E):Tk rel' p ((r.i eG).i a) Q E:=by
 cases r with
 |ok x H=>
  have e:(match Mine.dC x H with|some c=>a c H|.none=>.j)=(eG x H).i a:=by unfold eG;cases Mine.dC x H<;>rfl
  exact e▸T
 |_=>exact T
theorem Lg{e g:aX}(i:bj f a e)(j:bj f b g):bj f (.bJ op a b) (.BinOp e (ma op) g c):=
 λp Q E T=>wpAny_BinOp<|(i p).nx (λq x o le k=>(j q).nx λl y s d m=>Go.of (λh=>YO l.st (aA.au d _ _ k) m h) Q E) T
theorem Zf{e:cJ}(j:On (qR c) d=C)(k:bj f a i)(l:bj f b d):bj f (.b9 c a b) (.Compare i [qR c] [d] e):=
 λp Q E T=>wpAny_Compare1 ((k p).nx (λq x u le m=>(l q).nx λo y v g s=>Go.of (λh=>KY f.g.qS o.st (aA.au g _ _ m) s h) Q E) T) j
theorem Zg(h:bj f a c):bj f a (.BoolOp d [c] b):=λp Q E T=>BoolOp_one<|h p Q E T
theorem Zh{e:cJ}(j:bj f a g)(k:bj f b<|.BoolOp .And (h::d) e):bj f (.bN a b) (.BoolOp .And (g::h::d) e):=
 λp Q E T=>BoolOp_and<|(j p).nx (λq x l le i=>Lf i λs S c T=>by cases c with
  |true=>exact k (q.on s S) Q E T
  |false=>exact T.i i) T
theorem Zi{e:cJ}(j:bj f a g)(k:bj f b<|.BoolOp .Or (h::d) e):bj f (.or a b) (.BoolOp .Or (g::h::d) e):=
 λp Q E T=>BoolOp_or<|(j p).nx (λq x l le i=>Lf i λs S c T=>by cases c with
  |true=>exact T.i i
  |false=>exact k (q.on s S) Q E T) T
theorem D2(r:aA p.z x a):Go sB p (eG x p.H) (AD a):=λQ E T=>by
 cases h:Mine.dC x p.H with
 |none=>exact(T.ne (by unfold eG;rw[h];rfl)).elim
 |some b=>exact KH p.st r h λs S=>T.ok (p.on s S) b b (by unfold eG;rw[h];rfl) .refl J
theorem Zj:(eG x H).i (λb H=>R.ok (V.i<|!b) H)=cG ((Mine.dC x H).map λb=>V.i<|!b) H:=by unfold eG;cases Mine.dC x H<;>rfl
theorem Zk(g:bj f a d):bj f (.cB a) (.UnaryOp .Not d c):=
 λp Q E T=>UnaryOp_<|(g p).nx (λq x j le h T=>not_of<|(D2 h).nx (λq t b i e T=>T.i<|bH (λb=>adC<|!b) e.symm)<|Zj▸T) T
theorem Zl{t a b:E}(j:iO f t g)(k:bj f a h)(l:bj f b i):bj f (.bz t a b) (.IfExp g h i d):=
 λp Q E T=>IfExp_<|(j p).nx (λq t c le e T=>by cases e;cases t with
  |true=>exact k q Q E T
  |false=>exact l q Q E T)<|Ze T
theorem Zm{b:aX}(d:∀c whole,isTrue b c whole=(do let v<-whole;Oo b.pos;holding [v]<|AD v))(e:bj f a b):iO f a b:=
 λp Q E T=>isTrue_plain ((e p).nx (λq x h le g=>D2 g Q E) T)<|d _ _
theorem Zn{c:qg}{a b:E}{i d:aX}{e:cJ}(j:On (qR c) d=C)(k:bj f a i)(l:bj f b d):iO f (.b9 c a b) (.Compare i [qR c] [d] e):=
 λp Q E T=>wpAny_isTrue_Compare1 ((k p).nx (λq x u le m T=>(l q).nx (λq y w g o T=>(Go.of λh=>KY f.g.qS q.st (aA.au g _ _ m) o h).nx (λq v z le s=>D2 s Q E) T) T.as)<|Tk.as T) j
theorem Zo{a:E}{d:aX}{c:cJ}(g:iO f a d):iO f (.cB a) (.UnaryOp .Not d c):=
 λp Q E T=>isTrue_not ((g p).nx (λq t b le e T=>T.i (congrArg not e)) (by
  have T:Tk sB p (((az f.g.ag a f.l p.H).i λx H=>cG ((Mine.dC x H).map λb=>V.i (!b)) H).i eG) Q E:=T
  cases h:az f.g.ag a f.l p.H with
  |ok x H=>rw[h] at T;exact(show(eG x H).i (λb H=>R.ok (!b) H)=(cG ((Mine.dC x H).map λb=>V.i (!b)) H).i eG by unfold eG;cases Mine.dC x H<;>rfl)▸T
  |_=>rw[h] at T;exact T))
theorem Zp(g:iO f a d):iO f a (.BoolOp .And [d] c):=
 λp Q E T=>isTrue_and<|g p _ E ⟨T.ne,λq t b e le rl=>by
  cases rl;cases t with
  |true=>exact isTrue_and_nil<|T.ok q _ _ e le J
  |false=>exact T.ok q _ _ e le J,T.ex⟩
theorem Zq(g:iO f a d):iO f a (.BoolOp .Or [d] c):=
 λp Q E T=>isTrue_or<|g p _ E ⟨T.ne,λq t b e le rl=>by
  cases rl;cases t with
  |true=>exact T.ok q _ _ e le J
  |false=>exact isTrue_or_nil<|T.ok q _ _ e le J,T.ex⟩
theorem Zr{r:R V}{k:Hp->R V}{Q:Bool->ay->Prop}{E:ak->ay->Prop}(T:Tk sB p ((r.i λx H=>match Mine.dC x H with|some c=>if c then k H else .ok x H|.none=>.j).i eG) Q E):
  Tk sB p ((r.i eG).i λc H=>if c then(k H).i eG else .ok C H) Q E:=by
 cases r with
 |ok x H=>
  have e:(match Mine.dC x H with|some c=>if c=I then k H else R.ok x H|.none=>.j).i eG=(eG x H).i λc H=>if c then(k H).i eG else .ok C H:=by
   unfold eG
   cases h:Mine.dC x H with
   |none=>rfl
   |some c=>cases c with
    |true=>rfl
    |false=>show cG (Mine.dC x H) H=_;rw[h];rfl
  exact e▸T
 |_=>exact T
theorem Zt{r:R V}{k:Hp->R V}{Q:Bool->ay->Prop}{E:ak->ay->Prop}(T:Tk sB p ((r.i λx H=>match Mine.dC x H with|some c=>if c then .ok x H else k H|.none=>.j).i eG) Q E):
  Tk sB p ((r.i eG).i λc H=>if c then .ok I H else(k H).i eG) Q E:=by
 cases r with
 |ok x H=>
  have e:(match Mine.dC x H with|some c=>if c=I then R.ok x H else k H|.none=>.j).i eG=(eG x H).i λc H=>if c then .ok I H else(k H).i eG:=by
   unfold eG
   cases h:Mine.dC x H with
   |none=>rfl
   |some c=>cases c with
    |false=>rfl
    |true=>show cG (Mine.dC x H) H=_;rw[h];rfl
  exact e▸T
 |_=>exact T
theorem Zu(i:iO f a h)(j:iO f b<|.BoolOp .And d g):iO f (.bN a b) (.BoolOp .And (h::d) g):=
 λp Q E T=>isTrue_and<|(i p).nx (λq t c le e T=>by cases e;cases t with
  |true=>exact j q Q E T
  |false=>exact T.i J)<|Zr T
theorem Zv(i:iO f a h)(j:iO f b<|.BoolOp .Or d g):iO f (.or a b) (.BoolOp .Or (h::d) g):=
 λp Q E T=>isTrue_or<|(i p).nx (λq t c le e T=>by cases e;cases t with
  |true=>exact T.i J
  |false=>exact j q Q E T)<|Zt T
end
noncomputable def D3(a:cY)(x:aw):Bool:=a.names.lookup x==O .local||a.names.lookup x==O .cell||a.names.lookup x==O .free
noncomputable def iv(a:cY)(x:aw):Bool:=a.names.lookup x==O .globalImplicit
noncomputable def kP(x:aw):Bool:=(x==("__debug__":aw))==C&&(x==("__classdict__":aw))==C
section
variable{f:Fx}{p:Pt f}
theorem Zw{i:Int}:bj f (.c<|.aa i) (.Constant (.int i) k a):=λp Q E T=>Op<|T.j jS _
theorem Zx{x:List Nat}{y:aw}(h:y.cps.toList=x)(b:x.length<=1000):bj f (.c<|.ah x) (.Constant (.str y) k a):=
 λp Q E T=>Constant_str<|T.j (by rw[show y=sV x by unfold sV;rw[<-h]];exact pT<|aE b (by rw[iz];decide)) _
theorem Zy:bj f (.c<|.i b) (.Constant (.bool b) k a):=λp Q E T=>Constant_bool<|T.i KI
theorem Zz:bj f (.c .none) (.Constant .none k a):=λp Q E T=>Constant_none<|T.i wZ
theorem Pt.jP(p:Pt f){Q E:ak->ay->Prop}(h:gq cx.K ez x=O (O v))(b:iv f.bo.scope x=I)(h4:kP x=I)(q:Q v p.s):bk MM f.g.A (kz (.Name x a) f.bo) Q E p.s:=
 YI p.st h f.aq f.jP (beq_iff_eq.mp b) (beq_iff_eq.mp<|bL h4) q
theorem ZA(b:gq cx.K ez x=O (O pv))(c:DW cx.K v pv=I)(d:iv f.bo.scope x=I)(h4:kP x=I):bj f (.c v) (.Name x a):=
 λp Q E T=>p.jP b d h4<|T.i<|YK c
theorem ZB(b:dy f.g.ns i=x)(h3:D3 f.bo.scope x=I)(h4:kP x=I):bj f (.l i) (.Name x a):=λp Q E T=>by
 have T:Tk aA p (match f.l[i]? with|some (some v)=>.ok v p.H|_=>.j) Q E:=T
 rcases e:f.l[i]? with _|_|v<;>rw[e] at T
 ·exact(T.ne rfl).elim
 ·exact(T.ne J).elim
 ·refine aB (p.lo i v e) λc r V=>FF (KE p.st (b▸V) f.aq ?_ (beq_iff_eq.mp<|bR h4)<|T.i r)<|beq_iff_eq.mp<|bL h4
  rcases ju.mp h3 with h3|h3
  ·exact(ju.mp h3).imp beq_iff_eq.mp λh=>.inl<|beq_iff_eq.mp h
  ·exact .inr<|.inr<|beq_iff_eq.mp h3
theorem ZC{n:Nat}{i:Int}{k:Nat}{b a:cJ}(h:i=n):bj f (.qj n) (.UnaryOp .USub (.Constant (.int i) k a) b):=
 λp Q E T=>UnaryOp_<|Op<|P.neg_int<|h▸T.j jS _
noncomputable def fJ:aX->Bool
 |.Starred _ _=>C
 |_=>I
noncomputable def uC:aX->Bool
 |.Call (.Name _ _) [] [] _=>C
 |_=>I
theorem ZD(b:List aX):b.all fJ=I->Oq b a=b.map λe=>(C,kz e a):=by
 induction b with
 |nil=>exactλ_=>J
 |cons e b c=>
  intro h;have c:=c<|bR h
  cases e<;>first|exact bc (bL h)|exact bH _ c
theorem pV{b:List aX}(h:b.all fJ=I):backTo c (Oq b a)=b.map λe=>(C,kz e a):=by
 rw[ZD b h];exact rf
theorem Lh(h:uC v=I):aez v b c a=a:=by
 cases v<;>first|rfl|(cases func<;>first|rfl|(cases args<;>cases keywords<;>first|rfl|exact bc h))
theorem qT{b:List aX}{c:cJ}{d:ak}{first:List ak}{P:cz->Prop}{Q E:ak->ay->Prop}
  (i:∀h,P h->∃k,(k=N1∨k=N2∨k=N3)/\uZ MM h (Ot d) k)
  (h:bk MM f.g.A (spliced<|b.map λe=>(C,kz e f.bo)) (λg a=>P a.heap/\bk MM f.g.A (call d<|first++g) Q E a) E p.s):
  bk MM f.g.A (callWith c d first (b.map λe=>(C,kz e f.bo)) []) Q E p.s:=by
 refine callWith_of ?_ i ?_
 ·rw[List.any_nil,oj,adN];exactλx j=>(ej.mp j).elim λe h=>h.2▸sS
 ·cases b with
  |cons e b=>exact evalArgs_plain h
  |nil=>
   unfold evalArgs;exact bu<|mm h (λg o l=>bu<|dB<|mn<|bu<|dB<|bu<|dB<|dB l) λm m x=>x
structure Av(run:gS)(A:dN):Prop where
 gR:A.handled=none
 sC:∀pas,(A.under (.builtin "type.__call__" ⟨.ref b4::pas,[]⟩)).depth<qd
 j3:∀cl,hD cx.K cl
 ao:∀(fn:Fn) (f:Fx),f.g.A=A->∀(p:Pt f) (as:List V) (pas:List ak),aR p.z as pas->Go aA p (run fn as p.H) (ku (.ref fn) pas)
 aO:∀cl a fn,gV cl a=some fn->gE cx.K (.ref (df cl)) (ec a)=some (some (.ref fn))/\a∉iN/\adO cx.K (.ref fn)=true/\mo cx.K (.ref fn)=true
 ZE:∀(cl:eJ) (f:Fx),f.g.A=A->∀(p:Pt f) (as:List V) (pas:List ak),aR p.z as pas->Go aA p (iZ run cl as p.H) (ku (.ref (df cl)) pas)
 zL:∀cl,mo cx.K (.ref (df cl))=true
theorem Li(F:∀cl,hD cx.K cl)(b:aA p.z v pv)(c:a∈iN):Go aA p (kE v a p.H) (FD pv (ec a) I):=
 Go.of λh=>mm (Y9 (E:=λ_ _=>False) F p.st b c h) (λ_ _ x=>x) λ_ _ x=>x.elim
theorem ZF{e:E}(F:∀cl,hD cx.K cl)(d:x=ec a)(g:a∈iN)(h:uC b=I)(i:bj f e b):bj f (.q e a) (.Attribute b x c):=
 λp Q E T=>Attribute_any_ ((i p).nx (λq v k le j=>d▸Li F j g Q E) T)<|by rw[arm_eval_Attribute,Lh h]
theorem ZG:n6 f [] []:=λp Q E T=>FH<|T.i ⟨aR.nil,J⟩
theorem ZH{e:E}(h:bj f e g)(i:n6 f d a):n6 f (e::d) (g::a):=
 λp Q E T=>FI ((h p).nx (λq v l le j=>(i q).nx λm o k c b T=>T.i ⟨aR.cons (aA.au c _ _ j) b.1,bH (·+1) b.2⟩) T)
theorem ZI{a:List aX}{c g:cJ}(F:Av f.g.ag f.g.A)(h:gq cx.K ez x=O (O<|.ref b))(i:iv f.bo.scope x=I)(h4:kP x=I)(j:a.all fJ=I)(k:mo cx.K (.ref b)=I)
  (l:n6 f as a):bj f (.ao b as) (.Call (.Name x g) a [] c):=
 λp Q E T=>xQ<|pV j▸p.jP h i h4 (qT (FJ k)<|(l p).nx (λq m d le e T=>⟨q.st.dv,F.ao b f J q m d e.1 Q E T⟩) T)
theorem ZJ{a:List aX}{c g:cJ}(F:Av f.g.ag f.g.A)(h:gq cx.K ez x=O (O<|.ref<|df b))(i:iv f.bo.scope x=I)(h4:kP x=I)(j:a.all fJ=I)
  (k:n6 f as a):bj f (.ce b as) (.Call (.Name x g) a [] c):=
 λp Q E T=>xQ<|pV j▸p.jP h i h4 (qT (FJ<|F.zL b)<|(k p).nx (λq l d le e T=>⟨q.st.dv,F.ZE b f J q l d e.1 Q E T⟩) T)
theorem D4(c:∀a,b≠ .ref a)(h:cz)(_:True):∃k,(k=N1∨k=N2∨k=N3)/\uZ M h (Ot b) k:=by
 refine aD .machine (.inr<|.inl J) ?_
 cases b<;>first|exact .now|exact ax rfl<|c _
theorem zM{c:List aX}(i:gq cx.K ez x=O U)(j:aew x=O fv)(k:x≠"__name__")(l:∀a,fv≠ .ref a)(m:iv f.bo.scope x=I)(h4:kP x=I)(o:c.all fJ=I)
  (B:∀(p:Pt f) (as:List V) (c:List ak),aR p.z as c->Go aA p (f7 b as p.H) (ku fv c))(r:n6 f as c):bj f (.bi b as) (.Call (.Name x h) c [] d):=
 λp Q E T=>xQ<|pV o▸DS p.st i j k f.aq f.jP f.hW (beq_iff_eq.mp m) (beq_iff_eq.mp<|bL h4) (qT (D4 l)<|(r p).nx (λq s e le g T=>⟨bl,B q s e g.1 Q E T⟩) T)
end
section
variable{c:Fm}{z:Zs}{H:Hp}{m:aw->Option ak}{cs:aW}{s:ay}
theorem Zs.le.i{Z:aW}:z.le ⟨Z++z.Z,z.ad⟩:=⟨λq h=>dm _ h,[],(cN _).symm⟩
theorem Zs.le.ce:z.le ⟨z.Z,z.ad++[a]⟩:=⟨λb h=>h,_,J⟩
theorem St.q(S:St c z H m cs s){o:PO}(a:o.isFreed=C):St c ⟨[(s.heap.objs.size,o)]++z.Z,z.ad⟩ H m cs {s with heap:=s.heap.push o}:=
 S.y [(s.heap.objs.size,o)] (λb g e=>hJ o e) (λq d=>by rw[iw.mp d];exact⟨kv _ a,bF _⟩) (Fb ..)
theorem St.Lj(S:St c z H m cs s){a:Array ak}(r:aR z b a.toList)(d:a.size<=eI):St c ⟨z.Z,z.ad++[s.heap.objs.size]⟩ (H++[.af b]) m cs {s with heap:=s.heap.push<|c3 a n}:=by
 obtain⟨g,e,S⟩:=S;exact⟨g,_,S.DP (gr:=[(s.heap.objs.size,c3 a n)]) (S.fr.push _) (S.nw.push S.fr _) (λq h r hr=>by rw[iw.mp h];exact S.lt r hr) (Fb ..)<|.af r d⟩
inductive ZK(c:Fm)(z:Zs)(H:Hp)(m:aw->Option ak)(cs:aW)(s:ay)(i:Nat)(xs:List V):Prop
 |mk (a:aH) (vs:Array ak) (n:Nat) (ha:z.ad[i]? =some a) (ho:s.heap.get? a=some (c3 vs n)) (r:aR z xs vs.toList) (hs:vs.size<=eI)
  (up:∀h' xs' vs' n',sY a s.heap h'->h'.get? a=some (c3 vs' n')->aR z xs' vs'.toList->vs'.size<=eI->St c z (H.set i (.af xs')) m cs {s with heap:=h'})
theorem St.cX(S:St c z H m cs s){i:Nat}{j:List V}(h:H[i]? =O (.af j)):ZK c z H m cs s i j:=by
 obtain⟨g,l,S⟩:=S;refine cV (S.cX.cO h) λa w k hg L=>?_
 cases L with
 | @af _ _ o n r q=>
  exact⟨a,o,n,k,(S.DQ (pre:=[]) hg _<|.head _).1,r,q,λx t u y b d v e=>⟨g,_,S.u (pre:=[]) k hg b d<|.af v e⟩⟩
end
section
variable{f:Fx}{p:Pt f}
noncomputable def Pt.i(p:Pt f){z:Zs}{H:Hp}{s:ay}(S:St f.g.c z H f.m f.cs s)(le:p.z.le z):Pt f:=⟨z,H,s,S,p.lo.au le⟩
theorem ZL{d:List V}(r:aR p.z d a)(b:d.length<=eI):Go aA p (.ok (.u d) p.H) (newTuple a):=λQ E T=>by
 have b:a.toArray.size<=eI:=by rw[N4,<-r.j];exact b
 exact uY (T.ok (p.i (p.st.q J) .i) _ _ J Zs.le.i<|f5 _ a.toArray 0 J (.inl<|.head _) b<|aR.au .i _ _ r) b
theorem ZM{b:List V}(r:aR p.z b d)(a:b.length<=eI):Go aA p (.ok (.ae p.H.length)<|p.H++[.af b]) (AH d):=λQ E T=>by
 have a:d.toArray.size<=eI:=by rw[N4,<-r.j];exact a
 refine uY (T.ok (p.i (p.st.Lj r a) .ce) _ _ J Zs.le.ce<|aD _ J ?_) a;obtain⟨g,e,S⟩:=p.st;rw[S.cX.bK];exact mU
theorem ZN{d:List E}{a:List aX}{e:cJ}(g:a.all fJ=I)(i:d.length<=1000)(h:n6 f d a):bj f (.u d) (.Tuple a k e):=
 λp Q E T=>Tuple_<|pV g▸(h p).nx (λq l j le b=>ZL b.1 (by rw[b.2,iz];exact aE i<|D J) Q E) T
theorem ZO{d:List E}{a:List aX}{e:cJ}(g:a.all fJ=I)(i:d.length<=1000)(h:n6 f d a):bj f (.af d) (.List a e):=
 λp Q E T=>List_<|pV g▸(h p).nx (λq k j le b=>ZM b.1 (by rw[b.2,iz];exact aE i<|D J) Q E) T
end
theorem ZP{A:dN}{E:ak->ay->Prop}{s:ay}{a:dA}{o:aX}{name:aw}{b d:cJ}{c:List aX}{Q:ak->ay->Prop}(r:uC o=I)(t:c.all fJ=I)(u:c.length<30)(j:(b.endLine==d.line)=I)
  (h:∀v,bk MM A (kz o a) (λov g=>bk MM A (getMethod ov name v) (λfp i=>bk MM A (callWith d fp.1 fp.2 (c.map λe=>(C,kz e a)) []) Q E i) E g) E s):
  bk MM A (kz (.Call (.Attribute o name b) c [] d) a) Q E s:=by
 show bk MM A (aez o name a (kz o a)>>=λov=>Oo b.atName>>=λ_=>methodCall o name b d a ov c.length (backTo d<|Oq c a) []) Q E s;rw[Lh r,pV t];have k:aeA c.length (c.map λe=>(C,kz e a)) []=true:=by
  unfold aeA;rw[lr.mpr λx w=>(ej.mp w).elim λe h=>h.2▸J];exact dH u
 refine bu<|mm (h<|do return(<-importBound o a).getD I) (λov g l=>bu<|u0 ?_) λq q x=>x;unfold methodCall;rw[k,show methodCallPos I o a b d=pure d from aN j];exact bu<|mn<|mm l (λfp i m=>bu<|dB m) λq q x=>x
inductive uD{f:Fx}(p:Pt f)(v:V)(pv:ak)(a:At):Prop
 |mk (id:String) (get:∀(Q:ak×List ak->ay->Prop) (E:ak->ay->Prop) (pl:Sem Bool),Q (.builtin id,[pv]) p.s->bk MM f.g.A (getMethod pv (ec a) pl) Q E p.s)
  (call:∀(q:Pt f) (vs:List V) (pvs:List ak),p.le q->aR q.z vs pvs->Go aA q (hT v a vs q.H) (ku (.builtin id) (pv::pvs)))
section
variable{f:Fx}{p:Pt f}
theorem ZQ(h:cz)(_:True):∃k,(k=N1∨k=N2∨k=N3)/\uZ MM h (Ot<|.builtin a) k:=aD .machine (.inr<|.inl J) .now
theorem ZR{v:V}{a:At}{H:Hp}{b:Prop}[Decidable b]{Q:ak->ay->Prop}{E:ak->ay->Prop}{e:Prop}(g:Fn->R V)(d:R V)(T:Tk aA p (match qm v H with|some c=>(match gV c a with|some fn=>g fn|none=>.j)|none=>if b then d else .j) Q E)
  (h:∀cl fn,qm v H=O cl->gV cl a=O fn->Tk aA p (g fn) Q E->e)(i:b->Tk aA p d Q E->e):e:=by
 cases hc:qm v H with
 |none=>rw[hc] at T;exact T.q i
 |some cl=>
  rw[hc] at T;have T:Tk aA p (match gV cl a with|some fn=>g fn|none=>.j) Q E:=T
  cases hm:gV cl a<;>rw[hm] at T
  ·exact(T.ne J).elim
  ·exact h _ _ hc hm T
theorem ZS{e:E}{h:List aX}{i r:cJ}(F:Av f.g.ag f.g.A)(B:∀(p:Pt f) (v:V) (pv:ak),aA p.z v pv->o7 v a p.H=I->uD p v pv a)(y:x=ec a)(z:uC t=I)(A:h.all fJ=I)(G:h.length<30)(j:(i.endLine==r.line)=I)
  (L:bj f e t)(w:n6 f as h):bj f (.aO e a as) (.Call (.Attribute t x i) h [] r):=by
 subst y;refineλp Q E T=>ZP z A G j λM=>(L p).nx (λq v pv le u T=>ZR (λfn=>(cu f.g.ag as f.l q.H).i λk H=>f.g.ag fn (v::k) H) ((cu f.g.ag as f.l q.H).i λk H=>hT v a k H) T (λcl fn hc hm T=>?_) λhb T=>(B q v pv u hb).casesOn λid N P=>N _ E M (qT ZQ<|(w q).nx (λs k l m o T=>⟨bl,P s k l m o.1 Q E T⟩) T)) T
 refine lB (q.st.aQ u hc) ?_;rintro b d W n fs rfl c-;obtain⟨g,X,S⟩:=id q.st;obtain⟨Y,mq,Z,K⟩:=F.aO cl a fn hm;exact method_inst S.fr S.dv c.aQ ((F.j3 cl).cO _) Y Z (K4 c.Lb<|Y3 λq R e=>mq<|e▸c.ok.DL q R)<|qT (FJ K)
  ((w q).nx (λs k l m o T=>⟨s.st.dv,F.ao fn f J s (v::k) (_::l) (aR.cons (aA.au m _ _ u) o.1) Q E T⟩) T)
theorem ZT{H:Hp}(h:Bu H i=I):∃a,H[i]? =O (.af a):=by
 unfold Bu at h
 rcases e:H[i]? with _|⟨a|_|_⟩<;>rw[e] at h<;>first|exact⟨a,rfl⟩|exact bc h
theorem D5{d g:Type}{c:Zs->d->g->Prop}{H:Hp}{i:Nat}{k:List V->R d}{Q:g->ay->Prop}{E:ak->ay->Prop}{a:Prop}(T:Tk c p (match H[i]? with|some (.af b)=>k b|_=>.j) Q E)(h:∀b,H[i]? =O (.af b)->Tk c p (k b) Q E->a):a:=by
 rcases e:H[i]? with _|⟨b|_|_⟩<;>rw[e] at T<;>first|exact h b e T|exact(T.ne rfl).elim
theorem D6(h:aR z [u] a):∃b,a=[b]/\aA z u b:=by
 cases a with
 |nil=>exact h.elim
 |cons b r=>cases r with
  |nil=>exact aD b J h.1
  |cons _ _=>exact h.2.elim
theorem Lk{b:Array ak}(h:aR z a b.toList)(d:aA z u c):aR z (a++[u]) (b.push c).toList:=by
 rw[Array.toList_push];exact h.q<|aR.cons d aR.nil
theorem Ll{H:Hp}(h:o7 v a H=I)(c:a≠ .jX)(d:a≠ .cO):∃i b,v=.ae i/\H[i]? =O (.af b):=by
 refine dn λe=>?_
 induction v using V.casesOn with
 |ae i=>exact(ZT<|bR h).elim λb g=>e ⟨i,b,J,g⟩
 |ah _=>exact c<|D h
 |dct _=>exact d<|D h
 |_=>exact bc h
theorem xd{i j:Type}{d:Zs->i->j->Prop}{k:List V->R i}{b:List V}{g:List ak}{Q:j->ay->Prop}{E:ak->ay->Prop}{a:Prop}(T:Tk d p (k b) Q E)(l:aR p.z b g)(m:k []=.j)(o:∀u v r,k (u::v::r)=.j)(q:∀u h,b=[u]->g=[h]->aA p.z u h->Tk d p (k [u]) Q E->a):a:=by
 refine dn λc=>?_
 induction b using aV with
 |nil=>exact T.ne m
 |cons u b=>induction b using aV with
  |cons v r=>exact T.ne<|o u v r
  |nil=>exact aB (D6 l) λh e s=>c<|q u h J e s T
theorem ZU{v:V}{pv:ak}(r:aA p.z v pv)(d:o7 v .q p.H=I):uD p v pv .q:=by
 refine eC (Ll d (λh=>ax h<|D J) λh=>ax h<|D J) λi m e g=>?_;obtain⟨a,o,n,k,c,-⟩:=p.st.cX g;rw[e] at r⊢;rw[jR r k];refine⟨"list.append",λQ E z q=>?_,λq l s le rs Q E T=>?_⟩
 ·rw[show ec .q=("append":aw) from by decide+kernel];exact FK (aD _ c J) adP PySem.F.slot_list_append PySem.F.type_list_append (λb e=>by cases e;exact aD _ c J) q
 ·refine xd (k:=λl=>hT (.ae i) .q l q.H) T rs J (λ_ _ _=>J) λu A e t w T=>?_;rw[t];refine D5 T λm g T=>T.q λx T=>?_;obtain⟨b,o,n,d,c,r,hs,up⟩:=q.st.cX g;obtain rfl:=cT<|(le.at k).symm.trans d;exact append_at (hsz:=hs) c λy j hd=>T.ok (q.i (up y _ _ _ j hd (Lk r w) (by rw[adQ,iz,<-N5,<-r.j];exact x)) .refl) _ _ J Zs.le.refl wZ
end
section
variable{f:Fx}{p:Pt f}
theorem aR.eM{u:V}(b:List V):∀{a:List ak},aR z (b++[u]) a->∃c y,a=c++[y]/\aR z b c/\aA z u y:=by
 induction b with
 |nil=>exactλh=>aB (D6 h) λy e r=>cL [] y e aR.nil r
 |cons y b d=>
  intro a h
  induction a using aV with
  |nil=>exact h.elim
  |cons v a=>exact cV (d h.2) λc y e r g=>cL (v::c) y (bH _ e) (aR.cons h.1 r) g
theorem ZV{g i:Type}{d:Zs->g->i->Prop}{k:List V->R g}{e:List V}{b:List ak}{Q:i->ay->Prop}{E:ak->ay->Prop}{a:Prop}(T:Tk d p (k e) Q E)(j:aR p.z e b)(h:∀u r,k (u::r)=.j)(l:b=[]->Tk d p (k []) Q E->a):a:=by
 refine dn λc=>?_
 induction e using aV with
 |cons u r=>exact T.ne<|h u r
 |nil=>induction b using aV with
  |nil=>exact c<|l J T
  |cons _ _=>exact j
theorem ZW{a:Array ak}{b:List ak}(e:a.toList=b++[y]):a.size=b.length+1/\a[a.size-1]? =O y/\(a.eraseIdxIfInBounds<|a.size-1).toList=b:=by
 have h:a.size=b.length+1:=by rw[<-N5,e];exact bx
 refine⟨h,by rw[<-adR,e,h];exact mU,?_⟩;unfold Array.eraseIdxIfInBounds;rw[dif_pos (by rw[h];exact sP _),Array.toList_eraseIdx,e,h,ac1,List.eraseIdx_append_of_length_le (bF _),p9];exact cN _
theorem ZX(r:aA p.z v pv)(j:o7 v .hQ p.H=I):uD p v pv .hQ:=by
 refine eC (Ll j (λh=>ax h<|D J) λh=>ax h<|D J) λi g e k=>?_;obtain⟨a,d,n,m,c,-⟩:=p.st.cX k;rw[e] at r⊢;rw[jR r m];refine⟨"list.pop",λQ E F q=>?_,λq o x le rs Q E T=>?_⟩
 ·rw[show ec .hQ=("pop":aw) from by decide+kernel];exact FK (aD _ c J) adP adS PySem.F.type_list_pop (λb e=>by cases e;exact aD _ c J) q
 ·refine ZV (k:=λo=>hT (.ae i) .hQ o q.H) T rs (λ_ _=>J) λe T=>?_;rw[e];refine D5 T λg k T=>?_
  cases l:g.getLast? with
  |none=>rw[l] at T;exact(T.ne J).elim
  |some u=>
   rw[l] at T;obtain⟨b,d,n,j,c,r,hs,up⟩:=q.st.cX k;obtain rfl:=cT<|(le.at m).symm.trans j;obtain⟨z,e⟩:=List.getLast?_eq_some_iff.mp l;rw[e] at r T;refine cV (aR.eM z r) λG y e r A=>ly (ZW e) λB h2 s=>call_meets adS (aD _ c J) PySem.F.entry_list_pop (PySem.F.args_list_pop_1 _) (PySem.MeetsSeq.list_pop_last _ _ n y h2 hs) ⟨c,?_⟩;have t:=PySem.IsL.update c λg=>g.eraseIdxIfInBounds<|d.size-1;have w:(d.eraseIdxIfInBounds<|d.size-1).size+1=d.size:=by rw[<-N5,s];exact B.symm
   rw[a9 (λq=>ax (w.trans (beq_iff_eq.mp q).symm)<|NK _)] at t;exact T.ok (q.i (up _ _ _ _ (adT ..) t (by rw[s,ac7];exact r)<|aE (sU<|Nat.lt_of_succ_le<|b7 w) hs) .refl) _ _ J Zs.le.refl A
theorem ZY(b:List V):∀{c:List<|List Nat} {a:List ak},rF b=O c->aR z b a->∃l:List (aw×qY),a=strValues l/\l.map (·.1)=c.map sV:=by
 induction b with
 |nil=>
  intro c a e r
  induction a using aV with
  |nil=>cases e;exact aD [] J J
  |cons _ _=>exact r.elim
 |cons x b d=>
  intro c a e r
  induction a using aV with
  |nil=>exact r.elim
  |cons v a=>induction x using V.casesOn with
   |ah y=>
    refine aB (fV.mp<|e) λg e h=>aB (d e r.2) λl i h2=>?_;obtain⟨⟨t,e1⟩,_⟩:=r.1;rw[<-h,e1,i];exact aD ((sV y,t)::l) J (bH (sV y::·) h2)
   |_=>exact ba e
theorem Lm(a:List Nat):∀b:List (List Nat),Str.join (sV a) (b.map sV)=sV (dJ a b)
 |[]=>rfl
 |[x]=>rfl
 |x::y::r=>by
  show sV x++sV a++Str.join (sV a) ((y::r).map sV)=_;rw[Lm a (y::r),zG,zG];rfl
theorem Ln(a:List Nat):∀b:List (List Nat),(dJ a b).length<=(b.map (·.length)).sum+b.length*a.length
 |[]=>dG _
 |[x]=>d8 _ _
 |x::y::r=>by
  have c:=Ln a<|y::r;show(x++a++dJ a (y::r)).length<=(x.length+((y::r).map (·.length)).sum)+((y::r).length+1)*a.length;rw[bx,bx,adj,E1];exact L1 c
theorem ZZ(r:aA p.z v pv)(s:o7 v .jX p.H=I):uD p v pv .jX:=by
 refine dn λh=>?_
 induction v using V.casesOn with
 |ah c=>
  obtain⟨⟨t,e⟩,w⟩:=r.ah;rw[e] at h;refine h ⟨"str.join",λQ E H q=>?_,λq j y le rs Q E T=>?_⟩
  ·rw[show ec .jX=("join":aw) from by decide+kernel];exact FK (typeIs_str _ _ _) PySem.F.plainAttrs_str PySem.F.slot_str_join PySem.F.type_str_join (λb e=>by cases e) q
  ·refine xd (k:=λj=>hT (.ah c) .jX j q.H) T rs J (λu _ _=>by cases u<;>rfl) λu L _ e z T=>?_;rw[e];refine dn λh=>?_
   induction u using V.casesOn with
   |ae i=>
    refine D5 T λm A T=>?_
    cases d:rF m with
    |none=>rw[d] at T;exact T.ne J
    |some g=>
     rw[d] at T;refine T.q λo T=>h ?_;obtain⟨a,M,n,B,F,r,hs,-⟩:=q.st.cX A;rw[jR z B];refine aB (ZY m d r) λl G h2=>SC.join (show q.s.heap.IsList a (strValues l).toArray by rw[<-G,Array.toArray_toList];exact gm F) h2 ?_ λN k=>?_
     ·unfold JoinOk;rw[StrLaws.joinTotal,show((g.map sV).map (·.length)).sum=(g.map (·.length)).sum by rw[rf,show((λx:aw=>x.length)∘sV)=λx=>x.length from funext me],c5,me];unfold Builtin.Str.tooLong;rw[iz];exact Am .. ▸dT (rc.mpr<|aE (by simp+arith only) o)
     ·rw[show Txt.join (sV c) (g.map sV)=sV (dJ c g) from(StrLaws.glued_eq_join _ _).trans (Lm c g)];exact T.j (pT<|aE (Ln c g) (by rw[iz];exact o)) _
   |_=>exact T.ne J
 |_=>exact bc s
theorem Lq{j l:Type}{g:Zs->j->l->Prop}{k:List V->R j}{d:List V}{b:List ak}{Q:l->ay->Prop}{E:ak->ay->Prop}{a:Prop}(T:Tk g p (k d) Q E)(i:aR p.z d b)(m:k []=.j)(o:∀u,k [u]=.j)(q:∀u v w r,k (u::v::w::r)=.j)
  (s:∀u v h pv,b=[h,pv]->aA p.z u h->aA p.z v pv->Tk g p (k [u,v]) Q E->a):a:=by
 refine dn λc=>?_
 induction d using aV with
 |nil=>exact T.ne m
 |cons u d=>induction d using aV with
  |nil=>exact T.ne<|o u
  |cons v d=>induction d using aV with
   |cons w r=>exact T.ne<|q u v w r
   |nil=>induction b using aV with
    |nil=>exact i
    |cons h b=>exact aB (D6 i.2) λpv e t=>c<|s u v h pv (bH _ e) i.1 t T
theorem Z0{o:Option V}{r:Option ak}(h:pU z o r)(b:aA z d a):aA z (o.getD d) (r.getD a):=by
 induction o using gC with
 |none=>rw[h];exact b
 |some x=>exact aB h λv e r=>e▸r
theorem Z1(r:aA p.z v pv)(x:o7 v .cO p.H=I):uD p v pv .cO:=by
 refine dn λm=>?_
 induction v using V.casesOn with
 |dct y=>
  refine ek r λA G n e s h hr=>?_;have u:=p.st.i A s;rw[e] at m;refine m ⟨"dict.get",λQ E H q=>?_,λq w z le rs Q E T=>?_⟩
  ·rw[show ec .cO=("get":aw) from by decide+kernel];exact FK (aD _ u J) PySem.F.plainAttrs_dict N6 PySem.F.type_dict_get (λb e=>by cases e;exact aD _ u J) q
  ·refine Lq (k:=λw=>hT (.dct y) .cO w q.H) T rs J (λ_=>J) (λ_ _ _ _=>J) λk d L g e B hd T=>?_;rw[e];refine Tk.op T λa j T=>aB (fV.mp j) λo l e=>?_;rw[<-e] at T;have rd:∀{F:Option ak},pU q.z o F->∀tk,Q (F.getD g) {q.s with toks:=tk}:=λc tk=>T.j (Z0 c hd) tk
   rcases DY (q.st.i A<|le.dZ s) h.1 (kc.au le _ _ hr) B l with⟨i,t,F,e,hm,c⟩|⟨i,t,F,e,hm,c⟩<;>rw[e]
   ·exact aeB N6 hm.typeIs adU (adV _ _ _) (aeC (PySem.intKind cx.di cx.w) _ (AP cx.di cx.w i t) h.2 g)<|aD F hm<|rd c _
   ·exact aeB N6 hm.typeIs adU (adV _ _ _) (aeC (adH cx.di cx.w) _ (AQ cx.di cx.w i t) h.2 g)<|aD F hm<|rd c _
 |_=>exact bc x
theorem Z2(r:aA p.z v pv)(b:o7 v a p.H=I):uD p v pv a:=by
 by_cases h:a=.q∨a=.hQ∨a=.jX∨a=.cO
 ·rcases h with e|e|e|e<;>rw[e] at b⊢
  ·exact ZU r b
  ·exact ZX r b
  ·exact ZZ r b
  ·exact Z1 r b
 ·exfalso
  induction v using V.casesOn with
  |ah _=>exact h<|.inr<|.inr<|.inl<|D b
  |dct _=>exact h<|.inr<|.inr<|.inr<|D b
  |ae _=>exact(ju.mp (ed.mp b).1).elim (λq=>h<|.inl<|D q) λq=>h<|.inr<|.inl<|D q
  |_=>exact bc b
end
section
variable{f:Fx}{p:Pt f}
theorem Pt.j(p:Pt f)(g:aA p.z v pv)(h:hS v p.H=O c):∃a b n,pv=.ref a/\(p.s.heap.get? a=O (c3 b n)∨p.s.heap.get? a=O (DM b n))/\aR p.z c b.toList/\b.size<=eI:=by
 refine dn λj=>?_
 induction v using V.casesOn with
 |u k=>exact ek g λa b n e d hs hr=>j<|f5 a b n e (.inr<|p.st.i a d) (cT h▸hr) hs
 |af k=>exact ek g λa b n e d hs hr=>j<|f5 a b n e (.inl<|p.st.i a d) (cT h▸hr) hs
 |ae i=>
  have h:(match p.H[i]? with|some (.af c)=>O c|_=>U)=O c:=h
  rcases e:p.H[i]? with _|⟨k|_|_⟩<;>rw[e] at h
  ·exact ba h
  ·obtain⟨a,b,n,d,l,r,hs,-⟩:=p.st.cX e;exact j<|f5 a b n (jR g d) (.inl l) (cT h▸r) hs
  ·exact ba h
  ·exact ba h
 |_=>exact ba h
theorem Z3(g:aR p.z as b):Go aA p (f7 .bK as p.H) (ku (.builtin "len") b):=λQ E T=>by
 refine xd (k:=λas=>f7 .bK as p.H) T g J (λu v r=>by cases u<;>rfl) λv q _ e j T=>?_;rw[e];refine dn λh=>?_;have go:Tk aA p (cG ((hS v p.H).map λd=>V.aa d.length) p.H) Q E->False:=λT=>Tk.op T λu k T=>aB (fV.mp k) λd l e=>h (ek (p.j j l) λa s n m c hr hs=>by
  rw[m];rw[<-e,hr.j] at T
  rcases c with c|c
  ·exact len_list (gm c) (zF hs)<|T.j jS _
  ·exact len_tuple ⟨_,c,J,n,J⟩ (zF hs)<|T.j jS _)
 induction v using V.casesOn with
 |ah x=>
  obtain⟨⟨t,e⟩,o⟩:=j.ah;rw[e] at h;exact h<|P.len_str (by rw[me];exact E4.mpr<|zF o) (by rw[me];exact T.j jS _)
 |u d=>exact go T
 |af d=>exact go T
 |ae i=>exact go T
 |_=>exact T.ne J
theorem Z4(h:f.g.A.handled=U)(d:aR p.z as c):Go aA p (f7 .i as p.H) (ku (.builtin "max") c):=λQ E T=>by
 refine Lq (k:=λas=>f7 .i as p.H) T d J (λu=>by cases u<;>rfl) (λu v w r=>by cases u<;>first|rfl|(cases v<;>rfl)) λu v m o e i j T=>?_;rw[e];refine dn λg=>?_
 induction u using V.casesOn with
 |aa a=>induction v using V.casesOn with
  |aa b=>
   obtain⟨t,e1⟩:=i;obtain⟨s,e2⟩:=j;rw[e1,e2] at g;refine g<|max_two_ints h λx tk k=>T.ok (p.i (p.st.y [] k (λq l=>ax l eW) xH) .refl) _ _ J Zs.le.refl ?_
   by_cases q:a<b
   ·rw[aN q,aN (q)];exact jS
   ·rw[a9 q,a9 (q)];exact jS
  |_=>exact T.ne J
 |_=>exact T.ne J
theorem Z5(c:aR p.z as a):Go aA p (f7 .aa as p.H) (ku (.type "int") a):=λQ E T=>by
 refine xd (k:=λas=>f7 .aa as p.H) T c J (λu v r=>by cases u<;>rfl) λv h _ e g T=>?_;rw[e];refine dn λb=>?_
 induction v using V.casesOn with
 |ah x=>
  obtain⟨⟨t,e⟩,-⟩:=g.ah;rw[e] at b;have T:Tk aA p (if x=[48] then .ok (.aa 0) p.H else if x=[52,50] then .ok (.aa 42) p.H else .j) Q E:=T
  by_cases d:x=[48]
  ·rw[aN d] at T;rw[d] at b;exact b<|adW (by decide+kernel) (by decide+kernel)<|T.j jS _
  ·rw[a9 d] at T;exact T.q λh2 T=>by
    rw[h2] at b;exact b<|adW (by decide+kernel) (by decide+kernel)<|T.j jS _
 |_=>exact T.ne J
theorem Z6(b:List V):∀{is:List Int} {a:List ak},ni b=O is->aR z b a->IntsAre a is:=by
 induction b with
 |nil=>
  intro is a e r
  induction a using aV with
  |nil=>cases e;exact .nil
  |cons _ _=>exact r.elim
 |cons x b c=>
  intro is a e r
  induction a using aV with
  |nil=>exact r.elim
  |cons v a=>induction x using V.casesOn with
   |aa i=>
    refine aB (fV.mp<|e) λg d e=>?_;obtain⟨t,e1⟩:=r.1;rw[<-e,e1];exact .cons _ _<|c d r.2
   |_=>exact ba e
theorem Z7(m:f.g.A.handled=U)(j:aR p.z as c):Go aA p (f7 .j as p.H) (ku (.builtin "sum") c):=λQ E T=>by
 refine xd (k:=λas=>f7 .j as p.H) T j J (λu v r=>by cases u<;>rfl) λv z _ e o T=>?_;rw[e];refine dn λq=>?_
 induction v using V.casesOn with
 |ae i=>
  refine Tk.op T λu s T=>aB (fV.mp s) λis k e=>aB (oq.mp k) λd b k=>q ?_;rw[<-e] at T;have b:(match p.H[i]? with|some (.af d)=>O d|_=>U)=O d:=b
  rcases e:p.H[i]? with _|⟨A|_|_⟩<;>rw[e] at b
  ·exact ba b
  ·rw[cT b] at e;obtain⟨a,B,n,t,w,r,hs,-⟩:=p.st.cX e;rw[jR o t];obtain⟨g,l,S⟩:=id p.st;exact PyProof.Rows.LSm.sum_ints S.fr S.nw m (gm w) (Z6 d k r) λF tk G x y=>T.ok (p.i ⟨g,l,S.DO x y (λH h=>ax h eW) xH⟩ Zs.le.i) _ _ J Zs.le.i jS
  ·exact ba b
  ·exact ba b
 |_=>exact T.ne J
end
structure Wt(g:Gx) where
 z:Zs
 H:Hp
 s:ay
 l:Lc
 m:aw->Option ak
 cs:aW
 cm:aw->Option ak
 st:St g.c z H m cs s
 lo:g9 (dy g.ns) g.c g.c.aS z m cs l
 fx:sy (dy g.ns) g.c l cm cs
section
variable{g:Gx}
noncomputable def Wt.f(w:Wt g):Fx:=⟨g,g.c.aS,w.m,w.cs,w.l,g.ok.jP,g.ok.hW,g.ok.aq,g.ok.dZ⟩
noncomputable def Wt.p(w:Wt g):Pt w.f:=⟨w.z,w.H,w.s,w.st,w.lo⟩
noncomputable def Wt.at(w:Wt g)(q:Pt w.f):Wt g:=⟨q.z,q.H,q.s,w.l,w.m,w.cs,w.cm,q.st,q.lo,w.fx⟩
structure Ts(w:Wt g)(r:R (Fl×Lc))(Q:kw->ay->Prop)(E:ak->ay->Prop):Prop where
 ne:r≠ .j
 ok:∀(v:Wt g) fl pfl,r=.ok (fl,v.l) v.H->w.z.le v.z->sA v.z fl pfl->Q pfl v.s
 ex:∀x s z' H',r=.q H'->w.z.le z'->((∃m cs,Xs g.c z' H' m cs x s)∨(g.hd=false/\Ms g.c z' H' x s))->E x s
 kF:PassesOwn MM g.A g.c.aS E
noncomputable def dj(g:Gx)(b:S)(a:cA):Prop:=∀(w:Wt g) Q E,Ts w (fY g.ag b w.l w.H) Q E->bk MM g.A (exec a g.c.aS) Q E w.s
noncomputable def kh(g:Gx)(b:List S)(a:List cA):Prop:=∀(w:Wt g) Q E,Ts w (aZ g.ag b w.l w.H) Q E->bk MM g.A (execs a g.c.aS) Q E w.s
variable{w:Wt g}{Q:kw->ay->Prop}{j:ak->ay->Prop}
theorem Ts.to{v:Wt g}{r:R<|Fl×Lc}(T:Ts w r Q j)(le:w.z.le v.z):Ts v r Q j:=
 ⟨T.ne,λq a b e c=>T.ok q a b e<|le.q c,λx s d f e c=>T.ex x s d f e<|le.q c,T.kF⟩
theorem Ts.nx{f i:Type}{d:Zs->f->i->Prop}{r:R f}{t:Sem i}{r':f->Hp->R (Fl×Lc)}{c:i->ay->Prop}(T:Ts w (r.i r') Q j)(h:Go d w.p r t)(k:∀(q:Pt w.f) a b,w.z.le q.z->d q.z a b->Ts (w.at q) (r' a q.H) Q j->c b q.s):bk MM g.A t c j w.s:=
 h c j ⟨λe=>T.ne (by rw[e];rfl),λq a b e le rl=>k q a b le rl (by rw[e] at T;exact T.to le),λx s l m e le X=>T.ex x s l m (by rw[e];rfl) le<|.inl<|gv w.m w.cs X⟩
theorem Ts.i(T:Ts w (.ok (fl,w.l) w.H) Q j)(h:sA w.z fl a):Q a w.s:=T.ok w fl a J .refl h
theorem Z8:dj g .Bj (.Pass a):=λw Q j T=>wpAny_Pass<|T.i bl
theorem Z9:dj g .u (.Break a):=λw Q j T=>wpAny_Break<|T.i bl
theorem aaa:dj g .q (.Continue a):=λw Q j T=>wpAny_Continue<|T.i bl
theorem aab:dj g (.am<|.c .none) (.Return U a):=λw Q j T=>wpAny_Return_none<|Ts.i T (wZ:aA w.z .none .none)
theorem aac{e:E}{b:aX}{a:cJ}(c:∀w:Wt g,bj w.f e b):dj g (.am e) (.Return (O b) a):=
 λw Q j T=>wpAny_Return_some<|T.nx (c w w.p) λq v f le d T=>T.i d
theorem aad{e:E}{b:aX}{a:cJ}(c:FL g.c.aS=C)(d:oy b U a.line g.c.aS=pure C)(f:∀w:Wt g,bj w.f e b):dj g (.ex e) (.Expr b a):=
 λw Q j T=>aeD (T.nx (f w w.p) λq v h le i T=>T.i bl) c d
theorem aae{r:R V}{k:Bool->Hp->R (Fl×Lc)}(T:Ts w (r.i λx H=>match Mine.dC x H with|some c=>k c H|.none=>.j) Q j):Ts w ((r.i eG).i k) Q j:=by
 cases r with
 |ok x H=>
  have e:(match Mine.dC x H with|some c=>k c H|.none=>.j)=(eG x H).i k:=by unfold eG;cases Mine.dC x H<;>rfl
  exact e▸T
 |_=>exact T
theorem aaf:kh g [] []:=λw Q j T=>s9<|T.i bl
theorem Ts.eA{r:R<|Fl×Lc}{k:Fl×Lc->Hp->R (Fl×Lc)}{a:kw->ay->Prop}(T:Ts w (r.i k) Q j)(h:∀(v:Wt g) fl b,w.z.le v.z->sA v.z fl b->Ts v (k (fl,v.l) v.H) Q j->a b v.s):Ts w r a j:=
 ⟨λe=>T.ne (by rw[e];rfl),λv fl b e le fr=>h v fl b le fr (by rw[e] at T;exact T.to le),λx s c d e=>T.ex x s c d (by rw[e];rfl),T.kF⟩
@[elab_as_elim] theorem zN{P:Fl->kw->Prop}(h:sA z fl a)(c:P .aU .next)(d:P .u .brk)(e:P .q .cont)(f:∀v pv,aA z v pv->P (.am v) (.ret pv)):P fl a:=by
 refine dn λb=>?_
 cases fl<;>cases a<;>first|exact h|exact b c|exact b d|exact b e|exact b<|f _ _ h
theorem aag{r:List S}(h:dj g b a)(d:kh g r c):kh g (b::r) (a::c):=λw Q j T=>
 AR (h w _ j<|Ts.eA T λv fl e le fr T=>zN fr (λT=>d v Q j T) (λT=>T.i bl) (λT=>T.i bl) (λ_ _ r T=>T.i r) T)
theorem Lr{t b:Bool}{r r':R<|Fl×Lc}{a c:Prop}(e:t=b)(T:Ts w (if t then r else r') Q j)(k:Ts w r Q j->a)(d:Ts w r' Q j->c):if b then a else c:=by
 cases e;cases t
 ·exact d T
 ·exact k T
theorem aah{e:E}{a d:List S}{f:aX}{h i:List cA}{c:cJ}(k:∀w:Wt g,iO w.f e f)(l:kh g a h)(m:kh g d i):dj g (.bQ e a d) (.If f h i c):=
 λw Q j T=>wpAny_If<|Ts.nx (aae T) (k w w.p) λq t b le e T=>Lr e T (l (w.at q) Q j)<|m (w.at q) Q j
end
theorem D7{d:aw->Option ak}{cs:List<|aw×aH}(Y:s6 d cs b):cs.lookup x=O a->∃o,(a,o)∈b/\o.data=.cell (d x):=by
 induction Y with
 |nil=>exact ba
 | @cons n c o cs b hd Y e=>
  intro h;rw[ot] at h
  cases hb:x==n with
  |true=>rw[hb] at h;rw[beq_iff_eq.mp hb,<-cT h];exact aD o (.head _) hd
  |false=>rw[hb] at h;exact aB (e h) λf i h2=>aD f (.tail _ i) h2
noncomputable def rp(a:aH)(b:PO)(q:aH×PO):aH×PO:=if q.1=a then(a,b) else q
theorem aai(q:aH×PO):(rp a b q).1=q.1:=by
 unfold rp;split
 ·rename_i h;exact h.symm
 ·rfl
theorem aaj(cs:aW):(cs.map<|rp a b).map (·.1)=cs.map (·.1):=by
 rw[rf];exact List.map_congr_left λq d=>aai q
theorem aak{k:aw->Option ak}{f:PO}(l:f.data=.cell (O v)){cs:List<|aw×aH}{d:aW}(Y:s6 k cs d):(∀n b,(n,b)∈cs->(n=x↔b=a))->
  s6 (λy=>if y=x then O v else k y) cs (d.map<|rp a f):=by
 induction Y with
 |nil=>exactλh=>.nil
 | @cons n b o cs d hd Y i=>
  intro h;have i:=i λn b hm=>h n b<|.tail _ hm;have hb:=h n b<|.head _;rw[iQ]
  by_cases j:n=x
  ·have e:=hb.mp j;rw[show rp a f (b,o)=(b,f) from(aN e).trans (by rw[e])];exact .cons (by rw[l,aN j]) i
  ·rw[show rp a f (b,o)=(b,o) from a9 λe=>j (hb.mpr e)];exact .cons (by rw[hd,a9 j]) i
theorem Ls:∀{cs:List<|aw×aH},cs.lookup x=O a->(x,a)∈cs:=by
 intro cs
 induction cs with
 |nil=>
  intro h;exact ba h
 |cons b cs d=>
  obtain⟨n,c⟩:=b;intro h;rw[ot] at h
  cases hb:x==n with
  |true=>rw[hb] at h;cases h;rw[beq_iff_eq.mp hb];exact .head _
  |false=>rw[hb] at h;exact .tail _<|d h
theorem D8{d e:Type}{l:List<|d×e}(h:(l.map (·.1)).Nodup){x:d}{a b:e}(h1:(x,a)∈l)(h2:(x,b)∈l):a=b:=by
 induction l with
 |nil=>cases h1
 |cons q l f=>
  simp only[iQ,iR] at h
  rcases d4.mp h1 with e1|h1<;>rcases d4.mp h2 with e2|h2
  ·rw[<-e1] at e2;cases e2;rfl
  ·exact ax (ej.mpr<|aD _ h2<|by rw[<-e1]) h.1
  ·exact ax (ej.mpr<|aD _ h1<|by rw[<-e2]) h.1
  ·exact f h.2 h1 h2
theorem aal{b d:Type}{l:List<|b×d}(h:(l.map (·.2)).Nodup){x y:b}{a:d}(h1:(x,a)∈l)(h2:(y,a)∈l):x=y:=by
 induction l with
 |nil=>cases h1
 |cons q l e=>
  simp only[iQ,iR] at h
  rcases d4.mp h1 with e1|h1<;>rcases d4.mp h2 with e2|h2
  ·rw[<-e1] at e2;cases e2;rfl
  ·exact ax (ej.mpr<|aD _ h2<|by rw[<-e1]) h.1
  ·exact ax (ej.mpr<|aD _ h1<|by rw[<-e2]) h.1
  ·exact e h.2 h1 h2
section
variable{A:dN}
variable{c:Fm}{z:Zs}{H:Hp}{m:aw->Option ak}{cs:aW}{s:ay}
theorem aam{x:aw}{v:ak}{Q:Unit->ay->Prop}{E:ak->ay->Prop}(S:St c z H m cs s)(b:c.aS.locals=c.L)(f:c.aS.scope.kind=.function)(i:c.aS.kindOf x=O .local)
  (h:∀d,St c z H (λy=>if y=x then O v else m y) cs d->Q () d):bk (du cx.di cx.w) A (Ov c.aS x v) Q E s:=by
 obtain⟨g,a,S⟩:=S;refine aeE i (by rw[b];exact S.fr.ns) (λj e hs=>?_) (by rw[f];rfl);rw[b] at e hs;refine h _ ⟨g,a,S.iu,S.fr.set e hs,S.nw.set hs,S.jm,S.dv,S.fH,S.jQ,S.nd,S.cX,?_⟩;rw[S.fy]
theorem g9.i{c:Fm}{d:Nat->aw}{l:Lc}{i:Nat}(o:d=dy k)(p:∀j,j<l.length->d j=d i->j=i)(t:c.aS.kindOf (d i)=O .local)(B:c.aS.locals=c.L)
  (x:g9 d c c.aS z m cs l)(r:aA z v pv):g9 d c c.aS z (λy=>if y=d i then O pv else m y) cs (l.set i<|O v):=by
 intro j u e
 by_cases h:j=i
 ·subst h;have f:j<l.length:=by
   have:=(fK.mp e).1;simpa using this
  rw[oi f] at e;obtain rfl:=cT<|cT e;refine aD pv r ?_;unfold lZ;rw[t];exact .inl ⟨B,by simp⟩
 ·rw[mT (eH h)] at e;refine aB (x j u e) λq a b=>?_;have f:=(fK.mp e).1;exact aD q a<|b.u (λb=>b.imp_left λb=>⟨b.1,(a9 λe=>h<|p j f e).trans b.2⟩) id
theorem bG.aan{g:cz}(S:bG c z H m cs s g f){t:cz}{o i:PO}(x:(a,o)∈cs)(u:sY a s.heap t)(y:t.get? a=O i):
  bG c z H m (cs.map<|rp a i) {s with heap:=t} g f:=by
 have j:(a,o)∈bP c z cs f:=dm _<|fh _ x;have d:=S.nw _ j;have v:∀q∈bP c z (cs.map<|rp a i) f,q=(a,i)∨(q∈bP c z cs f/\q.1≠a):=by
  intro q hq;have k:∀r:aW,(∀q∈r,q∈bP c z cs f)->(∀q∈r,q∉cs)->q∈r->q=(a,i)∨(q∈bP c z cs f/\q.1≠a):=by
   intro r p h2 hq;refine .inr ⟨p q hq,λe=>?_⟩;have:=D8 S.nd (by rw[<-e];exact p q hq) j;exact h2 q hq (by rw[show q=(a,o) from by rw[<-e,<-this]];exact x)
  have l:∀q,q∈c.P∨q∈z.Z++f.flatten->q∉cs:=by
   intro q hq hc;have nd:=S.nd;simp only[bP,dz] at nd
   rcases hq with hq|hq
   ·exact(mZ.mp nd).2.2 q.1 (om hq) q.1 (fh _<|om hc) J
   ·have:=(mZ.mp (mZ.mp nd).2.1).2.2 q.1 (om hc) q.1 (by rw[<-dz];exact om hq);exact this J
  rcases eV.mp hq with h|h
  ·exact k c.P (λq h=>fh _ h) (λq h=>l q<|.inl h) h
  ·rcases eV.mp h with h|h
   ·refine aB (ej.mp h) ?_;rintro r hr rfl;unfold rp;split
    ·exact .inl J
    ·rename_i e
     exact .inr ⟨dm _<|fh _ hr,e⟩
   ·exact k _ (λq h=>dm _<|dm _ h) (λq h=>l q<|.inr h) h
 refine⟨S.iu,⟨S.fr.ns.sameBut u<|eH d.2.1,λb o e=>(u.2 b λq=>?_).trans<|S.fr.keep b o e,S.fr.above⟩,λq hq=>?_,S.jm,S.dv,S.fH,S.jQ,?_,S.cX,by rw[S.fy]⟩
 ·rw[q,d.2.2] at e;exact ba e
 ·rcases v q hq with rfl|⟨p,h2⟩
  ·exact⟨y,d.2⟩
  ·have N:=S.nw q p;exact⟨(u.2 _ h2).trans N.1,N.2⟩
 ·have e:(bP c z (cs.map<|rp a i) f).map (·.1)=(bP c z cs f).map (·.1):=by
   simp only[bP,dz,aaj]
  rw[e];exact S.nd
theorem xe{x:aw}{i:Nat}{l:Lc}{v:V}{pv:ak}{f:List aw}{Q:Unit->ay->Prop}{E:ak->ay->Prop}(L:Fm.Ok c)(S:jT (dy f) c z l H s)(r:aA z v pv)
  (hx:dy f i=x)(N:x≠⟨#[]⟩)(hk:c.aS.kindOf x=O .local∨c.aS.kindOf x=O .cell)
  (h:∀M,jT (dy f) c z (l.set i<|O v) H M->Q () M):bk (du cx.di cx.w) A (Ov c.aS x pv) Q E s:=by
 obtain⟨m,cs,cm,S,Lo,Fx⟩:=S;subst hx;have k:=Fx.bK i N
 rcases hk with hk|hk
 ·refine aam S L.jl L.aq hk λM P=>h M ⟨_,cs,cm,P,Lo.i rfl (λj d e=>Fx.xc j i d k e) hk L.jl r,Fx.mR,λi j k d=>Fx.xc i j (by simpa using k) (by simpa using d),Fx.nn,λi X=>by simpa using Fx.bK i X,Fx.dZ⟩
 ·--a cell
  have hsome:∃a o,c.aS.cells.lookup (dy f i)=some a/\(a,o)∈cs/\o.data=.cell (cm<|dy f i):=by
   obtain⟨a,t⟩:=AE.mp<|Fx.dZ _ hk;exact aB (D7 Fx.mR t) λo Y h2=>cL a o t Y h2
  refine cV hsome λa o t Z hd=>?_;obtain⟨g,K,S⟩:=S;have hr:=(S.nw (a,o)<|dm _<|fh _ Z).1;refine wpAny_storeName_cell L.aq hk t (aD o hr hd) λh' hc hs=>aB hc λo' R y=>?_;have P:=S.aan Z hs R;have T:(c.aS.cells.map (·.2)).Nodup:=by
   rw[<-DK Fx.mR];have nd:=S.nd;simp only[bP,dz] at nd;exact(mZ.mp (mZ.mp nd).2.1).1
  have B:∀n b,(n,b)∈c.aS.cells->(n=dy f i↔b=a):=λn b hm=>by
   have F:=Ls t;exact⟨λe=>by subst e;exact D8 Fx.nn hm F,λe=>by subst e;exact aal T hm F⟩
  refine h _ ⟨m,_,_,⟨g,K,P⟩,?_,aak y Fx.mR B,λi j k d=>Fx.xc i j (by simpa using k) (by simpa using d),Fx.nn,λi X=>by simpa using Fx.bK i X,Fx.dZ⟩;intro j u e
  by_cases d:j=i
  ·subst d;rw[oi k] at e;obtain rfl:=cT<|cT e;refine aD pv r ?_;unfold lZ;rw[hk];refine cL a o' t (dm _<|ej.mpr<|aD _ Z (by unfold rp;simp)) y
  ·rw[mT (eH d)] at e;refine aB (Lo j u e) λq Y h2=>?_;have W:=(fK.mp e).1;refine aD q Y ?_;have keep:∀p G,c.aS.cells.lookup (dy f j)=O p->(p,G)∈c.P++cs->(p,G)∈c.P++cs.map (rp a o'):=λp G hl hm=>by
    have hne:p≠a:=λe=>d<|Fx.xc j i W k<|(B _ _<|Ls hl).mpr e
    rcases eV.mp hm with hm|hm
    ·exact fh _ hm
    ·exact dm _<|ej.mpr<|aD _ hm (by unfold rp;rw[a9 hne])
   exact h2.u id λh=>cV h λp G b1 b2 b3=>cL p G b1 (keep _ _ b1 b2) b3
end
noncomputable def jn(a:cY)(b:List aw)(i:Nat)(x:aw):Bool:=(dy b i==x)&& !(x==⟨#[]⟩)&&(a.names.lookup x==O .local||a.names.lookup x==O .cell)
noncomputable def xg:f4->Bool
 |.i=>I
 |.eA=>I
 |_=>C
theorem aao(h:xg a=I):a=.i∨a=.eA:=by cases a<;>first|exact .inl rfl|exact .inr rfl|exact bc h
theorem aap(h:iY .i x y H≠ .j):(∃i j,x=.aa i/\y=.aa j)∨∃i j,x=.ah i/\y=.ah j:=by
 refine dn λa=>?_
 induction x using V.casesOn with
 |aa i=>induction y using V.casesOn with
  |aa j=>exact a<|.inl ⟨_,_,J,J⟩
  |_=>exact h J
 |ah i=>induction y using V.casesOn with
  |ah j=>exact a<|.inr ⟨_,_,J,J⟩
  |_=>exact h J
 |_=>exact h J
theorem aaq(h:iY .eA x y H≠ .j):∃i j,x=.aa i/\y=.aa j:=by
 refine dn λa=>?_
 induction x using V.casesOn with
 |aa i=>induction y using V.casesOn with
  |aa j=>exact a ⟨_,_,J,J⟩
  |_=>exact h J
 |ah i=>cases y with
  |_=>exact h J
 |_=>exact h J
section
variable{g:Gx}{w:Wt g}{Q:kw->ay->Prop}{B:ak->ay->Prop}
theorem Ts.st{H:Hp}{z:Zs}{s:ay}(T:Ts w (.ok (fl,l) H) Q B)(S:jT (dy g.ns) g.c z l H s)(le:w.z.le z)(b:sA z fl a):Q a s:=
 let⟨m,cs,cm,S,L,F⟩:=S;T.ok ⟨z,H,s,l,m,cs,cm,S,L,F⟩ fl a J le b
theorem Wt.S(w:Wt g):jT (dy g.ns) g.c w.z w.l w.H w.s:=⟨w.m,w.cs,w.cm,w.st,w.lo,w.fx⟩
theorem uE(h:jn g.c.aS.scope g.ns i x=I):dy g.ns i=x/\x≠⟨#[]⟩/\(g.c.aS.kindOf x=O .local∨g.c.aS.kindOf x=O .cell):=
 ⟨beq_iff_eq.mp<|bL<|bL h,beq_eq_false_iff_ne.mp<|kg<|bR<|bL h,(ju.mp<|bR h).imp beq_iff_eq.mp beq_iff_eq.mp⟩
theorem Ts.j{i:Nat}(T:Ts w (.ok (.aU,w.l.set i<|O v) w.H) Q B)(a:jn g.c.aS.scope g.ns i x=I)(r:aA w.z v pv):bk MM g.A (Ov g.c.aS x pv) (λ_=>Q .next) B w.s:=
 ly (uE a) λb h2 d=>xe g.ok w.S r b h2 d λs S=>T.st S .refl bl
theorem D9{e:E}{a b:cJ}(f:oy d (O<|.Name x a) b.line g.c.aS=pure C)(h:∀w:Wt g,bj w.f e d)(j:jn g.c.aS.scope g.ns i x=I):dj g (.i i e) (.Assign [.Name x a] d b):=
 λw Q B T=>aeF (T.nx (h w w.p) λq v l le k T=>Ts.j T j k) f
theorem Lu{p:Pt f}(d:∀cl,hD cx.K cl)(j:aA p.z x h)(k:aA p.z u i)(l:a∈iN):Go (λ_ _ _=>True) p (jZ x a u p.H) (NZ h (ec a) i):=λQ E T=>
 mm (Za (E:=λ_ _=>False) d p.st j k l T.ne) (λb s ⟨o,e,S⟩=>T.ok ⟨p.z,o,s,S,p.lo⟩ () b e .refl bl) λ_ _ x=>x.elim
theorem aar{o e:E}{d f:cJ}(b:∀cl,hD cx.K cl)(j:oy i (O<|.Attribute h x d) f.line g.c.aS=pure C)(k:∀w:Wt g,bj w.f e i)(l:∀w:Wt g,bj w.f o h)
  (p:x=ec a)(r:a∈iN):dj g (.cQ o a e) (.Assign [.Attribute h x d] i f):=
 λw Q B T=>Ow (T.nx (k w w.p) λq v u le t T=>T.nx (l (w.at q) (w.at q).p) λq o h le ro T=>p▸T.nx (Lu b ro (aA.au le _ _ t) r) λq _ _ le _ T=>T.i bl) j
theorem Lw{p:Pt f}(k:xg d=I)(a:aA p.z x l)(b:aA p.z y o):Go aA p (iY d x y p.H) (inplaceOp (ma d) l o):=λQ E T=>by
 rcases aao k with e|e<;>rw[e] at T⊢
 ·rcases aap T.ne with⟨i,j,e1,e2⟩|⟨i,j,e1,e2⟩<;>rw[e1] at a T<;>rw[e2] at b T
  ·obtain⟨t,e1⟩:=a;obtain⟨u,e2⟩:=b;rw[e1,e2];exact PyProof.Rows.iadd_int<|T.j jS _
  ·obtain⟨⟨t,e1⟩,lx⟩:=a.ah;obtain⟨⟨u,e2⟩,q⟩:=b.ah;rw[e1,e2];have T:=T;exact T.q λhb T=>PyProof.Rows.iadd_str (λr tk=>by rw[zG];exact T.j (pT (by rw[iz];exact hb)) _) (by rw[me,me,<-bx,iz];exact hb)
 ·refine jx (aaq T.ne) λi j h=>?_;rw[h.1] at a T;rw[h.2] at b T;obtain⟨t,e1⟩:=a;obtain⟨u,e2⟩:=b;rw[e1,e2];exact PyProof.Rows.isub_int<|T.j jS _
theorem aas{e:E}(f:xg b=I)(o:∀w:Wt g,bj w.f e j)(k:jn g.c.aS.scope g.ns i x=I)(h:kP x=I):dj g (.de i b e) (.AugAssign (.Name x a) (ma b) j d):=λw Q B T=>by
 have T:Ts w (match w.l[i]? with|some (some x)=>(az g.ag e w.l w.H).i λy H=>(iY b x y H).i λv H=>.ok (.aU,w.l.set i<|O v) H|_=>.j) Q B:=T
 rcases l:w.l[i]? with _|_|v<;>rw[l] at T
 ·exact(T.ne rfl).elim
 ·exact(T.ne J).elim
 ·exact ly (uE k) λp h2 t=>aB (w.lo i v l) λF r V=>wpAny_AugAssign_Name<|KE w.st (p▸V) g.ok.aq (t.imp id .inl) (beq_iff_eq.mp<|bR h)<|T.nx (o w w.p) λq u M le G T=>T.nx (Lw f (aA.au le _ _ r) G) λq v F le L T=>Ts.j T k L
theorem aat{o e:E}{h r:aX}(b:∀cl,hD cx.K cl)(j:xg f=I)(y:∀w:Wt g,bj w.f e r)(F:∀w:Wt g,bj w.f o h)
  (G:x=ec a)(t:a∈iN):dj g (.oW o a f e) (.AugAssign (.Attribute h x d) (ma f) r i):=by
 subst G;exactλw Q B T=>wpAny_AugAssign_AttributeAny<|T.nx (F w w.p) λq o h le ro T=>T.nx (Li b ro t) λq u N k L T=>T.nx (y _ ((w.at _).at q).p) λq v M rZ l T=>
  T.nx (Lw j (aA.au rZ _ _ L) l) λq v M p l T=>T.nx (Lu b (aA.au ((k.q rZ).q p) _ _ ro) l t) λq _ _ le _ T=>T.i bl
inductive Ly(g:Gx)(t:Lc->Hp->R Bool)(bd:Lc->Hp->R (Fl×Lc))(Q:kw->ay->Prop)(B:ak->ay->Prop)(n:Nat):ay->Prop
 |mk (w:Wt g) (T:Ts w (qn t bd n w.l w.H) Q B):Ly g t bd Q B n w.s
noncomputable def aau(t:Lc->Hp->R Bool)(a:Lc->Hp->R (Fl×Lc))(n:Nat)(r:Fl×Lc)(H:Hp):R (Fl×Lc):=match r with
 |(.aU,l)=>qn t a n l H
 |(.q,l)=>qn t a n l H
 |(.u,l)=>.ok (.aU,l) H
 |(.am v,l)=>.ok (.am v,l) H
theorem aav{t:Lc->Hp->R Bool}{b:Lc->Hp->R (Fl×Lc)}{a:Prop}(T:Ts w (qn t b n w.l w.H) Q B)(k:∀m,n=m+1->Ts w ((t w.l w.H).i λc H=>if c then(b w.l H).i (aau t b m) else .ok (.aU,w.l) H) Q B->a):a:=by
 cases n with
 |zero=>exact(T.ne J).elim
 |succ m=>exact k m J T
theorem aaw(j:∀w:Wt g,iO w.f t h)(k:kh g a i):dj g (.gH t a) (.While h i [] d):=by
 refineλw Q B T=>wpAny_While<|codeAny_whileLoop (Ly g (λl H=>(az g.ag t l H).i eG) (λl H=>aZ g.ag a l H) Q B) (λn s f=>?_) hU ⟨w,T⟩
 induction f with
 |mk w T=>exact aav T λm en T=>Ox T.kF<|T.nx (j w w.p) λq t b le e T=>Lr e T (λT=>Ox T.kF<|k (w.at q) _ B (T.eA λv fl o le fr T=>have lt:=en▸sP m
   zN fr (λT=>⟨m,lt,v,T⟩) (λT=>T.i bl) (λT=>⟨m,lt,v,T⟩) (λ_ _ r T=>T.i r) T)) λT=>s9<|T.i bl
end
noncomputable abbrev Fm.P'(c:Fm)(P:aW):Fm:={c with P:=P}
section
variable{A:dN}
variable{c:Fm}{z:Zs}{H:Hp}{m:aw->Option ak}{cs:aW}{s:ay}{g:cz}{u:List aW}
theorem bG.y{P d:aW}(S:bG (c.P' P) z H m cs s g u)(e:∀q∈bP (c.P' d) b cs a,q∈bP (c.P' P) z cs u)(h:((bP (c.P' d) b cs a).map (·.1)).Nodup)
  (L:kf b f a):bG (c.P' d) b f m cs s g a:=
 ⟨S.iu,S.fr,λq i=>S.nw q<|e q i,S.jm,S.dv,S.fH,S.jQ,h,L,S.fy⟩
theorem sD{P f:aW}(S:bG (c.P' P) z H m cs s g u)(p:sy b c l k cs)(q:c.aS.locals=c.L)(t:g9 b (c.P' P) c.aS z m cs l):g9 b (c.P' f) c.aS z m cs l:=by
 intro i v e;refine aB (t i v e) λd r V=>aD d r ?_;have cell:∀x,(∃a o,c.aS.cells.lookup x=O a/\(a,o)∈P++cs/\o.data=.cell (O d))->∃a o,c.aS.cells.lookup x=O a/\(a,o)∈f++cs/\o.data=.cell (O d):=by
  rintro x ⟨a,o,j,h2,y⟩
  refine aB (D7 p.mR j) λB h4 M=>?_;have F:(a,o)∈bP (c.P' P) z cs u:=by
   rcases eV.mp h2 with h|h
   ·exact fh _ h
   ·exact dm _<|fh _ h
  have G:(a,B)∈bP (c.P' P) z cs u:=dm _<|fh _ h4;have:=D8 S.nd F G;subst this;exact cL a o j (dm _ h4) y
 exact V.u (λV=>V.elim .inl λV=>ek V λo N n L _ _ _=>ax q (S.nw (c.aS.locals,o)<|fh _ L).2.1)<|cell _
theorem bG.xh{r:aW}{h:cz}{tk:Nat}(S:bG (c.P'<|(d,k)::r) z H m cs s g u)(i:sY d s.heap h)(l:h.get? d=O f):
  bG (c.P'<|(d,f)::r) z H m cs {s with heap:=h,toks:=tk} g u:=by
 have a:=S.nw (d,k)<|.head _;have nd:=S.nd;simp only[bP,kS,iQ,iR] at nd;refine⟨S.iu,⟨S.fr.ns.sameBut i<|eH a.2.1,λb o e=>(i.2 b λq=>?_).trans<|S.fr.keep b o e,S.fr.above⟩,λq p=>?_,S.jm,S.dv,S.fH,S.jQ,?_,S.cX,by rw[S.fy]⟩
 ·rw[q,a.2.2] at e;exact ba e
 ·rcases d4.mp p with rfl|hq'
  ·exact⟨l,a.2⟩
  ·have N:=S.nw q<|.tail _ hq';have j:q.1≠d:=λe=>nd.1 (by rw[<-e];exact om hq');exact⟨(i.2 _ j).trans N.1,N.2⟩
 ·simpa only[bP,kS,iQ,iR] using nd
theorem bG.j{P:aW}{i:cz}{tk:Nat}(S:bG (c.P' P) z H m cs s g u)(j:∀b o,s.heap.get? b=O o->i.get? b=O o)(l:i.get? d=O f)(k:s.heap.objs.size<=d):
  bG (c.P'<|(d,f)::P) z H m cs {s with heap:=i,toks:=tk} g u:=by
 refine⟨S.iu,S.fr.keeps j,λq a=>?_,S.jm,S.dv,S.fH,S.jQ,?_,S.cX,by rw[S.fy]⟩
 ·refine News.i S.fr S.nw j (nw:=[(d,f)]) (λq a=>?_) q ?_
  ·rcases iw.mp a with rfl;exact⟨l,k⟩
  ·rcases d4.mp a with h|h
   ·exact .inl (by rw[h];exact .head _)
   ·exact .inr h
 ·rw[iQ,iR];refine⟨λh=>?_,S.nd⟩;refine aB (ej.mp h) λq a e=>?_;have:=S.lt q a;rw[e] at this;exact ax this<|rc.mpr k
theorem bG.Ea{P Q:aW}(S:bG (c.P'<|Q++P) z H m cs s g u):bG (c.P' P) z H m cs s g u:=by
 have e:bP (c.P'<|Q++P) z cs u=Q++bP (c.P' P) z cs u:=by simp[bP]
 refine S.y (λq a=>by rw[e];exact dm _ a) ?_ S.cX;have nd:=S.nd;rw[e,dz] at nd;exact(mZ.mp nd).2.1
theorem Lz{b:Type}:∀(a:List<|List b) (i:Nat),(a.set i []).flatten.Sublist a.flatten:=by
 intro a
 induction a with
 |nil=>
  intro i;simp
 |cons l a d=>
  intro e
  induction e using fU with
  |zero=>
  simp
  |succ i=>
  simp only[adz,ady];exact(List.Sublist.refl l).append<|d i
theorem bG.rG{P:aW}(S:bG (c.P' P) z H m cs s g u){i:Nat}(h:H[i]? =O (.af d)):
  ∃a b n,z.ad[i]? =O a/\aR z d b.toList/\b.size<=eI/\bG (c.P'<|(a,c3 b n)::P) z (H.set i .i) m cs s g (u.set i []):=by
 refine cV (S.cX.cO h) λa o f hg L=>?_
 cases L with
 | @af _ _ b n r q=>
  have j:(bP (c.P'<|(a,c3 b n)::P) z cs<|u.set i []).Perm (bP (c.P' P) z cs u):=by
   have q:=wX u i _ hg;have e:bP (c.P' P) z cs u=(P++(cs++z.Z))++u.flatten:=by simp[bP]
   rw[e];refine adA ?_ (sW _ q.symm);have k:bP (c.P'<|(a,c3 b n)::P) z cs (u.set i [])=(a,c3 b n)::((P++(cs++z.Z))++(u.set i []).flatten):=by simp[bP]
   rw[k];exact NQ.symm
  exact f5 a b n f r q<|S.y (λq l=>j.mem_iff.mp l) ((j.map _).nodup_iff.mpr S.nd)<|S.cX.y f .i
theorem bG.ry{P:aW}{b:Array ak}{n i:Nat}{j:List V}(S:bG (c.P'<|(a,c3 b n)::P) z H m cs s g u)(k:z.ad[i]? =O a)(r:aR z j b.toList)(o:b.size<=eI):
  ∃d,bG (c.P' P) z (H.set i<|.af j) m cs s g d:=by
 have l:i<u.length:=by rw[S.cX.qO];exact(fK.mp k).1
 refine⟨u.set i [(a,c3 b n)],S.y ?_ ?_ (S.cX.y k<|.af r o)⟩
 ·intro q p;have f:=wX (u.set i [(a,c3 b n)]) i _<|oi l;rw[oo] at f
  rcases eV.mp p with h|h
  ·exact .tail _<|fh _ h
  ·rcases eV.mp h with h|h
   ·exact .tail _<|dm _<|fh _ h
   ·rcases eV.mp h with h|h
    ·exact .tail _<|dm _<|dm _<|fh _ h
    ·have h:=f.mem_iff.mp h
     rcases eV.mp h with h|h
     ·rw[iw.mp h];exact .head _
     ·exact .tail _<|dm _<|dm _<|dm _<|(Lz u i).subset h
 ·have f:=wX (u.set i [(a,c3 b n)]) i _<|oi l;rw[oo] at f;have t:(bP (c.P' P) z cs<|u.set i [(a,c3 b n)]).Perm ((a,c3 b n)::(P++(cs++(z.Z++(u.set i []).flatten)))):=by
   have e:bP (c.P' P) z cs (u.set i [(a,c3 b n)])=(P++(cs++z.Z))++(u.set i [(a,c3 b n)]).flatten:=by simp[bP]
   rw[e];refine(sW _ f).trans ?_;have e2:(a,c3 b n)::(P++(cs++(z.Z++(u.set i []).flatten)))=(a,c3 b n)::((P++(cs++z.Z))++(u.set i []).flatten):=by simp
   rw[e2];exact NQ
  refine(t.map _).nodup_iff.mpr<|List.Nodup.sublist ?_ S.nd;exact List.Sublist.map _<|((((Lz u i).append_left z.Z).append_left cs).append_left P).cons_cons _
end
theorem aax:entryFor table "proto.unchain"=O Builtin.«proto.unchain»:=entryFor_of_fast<|by kernel_rfl
section
variable{prog:ky}{w:ee}
theorem aay{o:Type}{A:dN}{s:ay}{E:ak->ay->Prop}{Q:o->ay->Prop}{b:aH}{a:PO}{e:Array ak}(d:xb s.heap A)(f:s.heap.get? b=O a)(p:a.data=.fields e)(hsz:2<e.size)
  (i:∀x,A.handled=O (.ref x)->x≠b)(h:∀j q,sY b s.heap j->j.get? b=O q->q.cls=a.cls->E (.ref b) {s with heap:=j}):bk (du prog w) A (raiseNew (.ref b):Sem o) Q E s:=by
 unfold raiseNew;refine bu<|wpAny_handled ?_
 rcases d with d|⟨x,t,u,d,r,k,h2⟩
 ·rw[d];exact bu<|dB<|aeG<|h s.heap a (.refl ..) f rfl
 ·rw[d];have l:=i x d;have hb:(uU x !=uU b)=true:=by simp[l]
  dsimp only
  rw[aN hb];refine bu<|mn<|aeH<|aeI aax ?_;refine bu<|s5 r k h2 ?_;rw[aN (D J)];refine dB<|bu<|AJ f p hsz<|aeG ?_;exact h _ _ (adT ..) (E7 _ f<|Obj.isFreed_of_fields<|Obj.data_mapFields p _)<|Obj.cls_mapFields ..
theorem aaz{A:dN}{E:ak->ay->Prop}{s:ay}{e l:aH}{i:Nat}{a:Array ak}{Q:Option ak->ay->Prop}(d:xb s.heap A)(f:s.heap.IsListIter e l i)(P:s.heap.IsList l a)(j:a[i]? =U)(r:A.handled≠O (.ref e))
  (X:∀k,AF e s.heap k->Q U {s with heap:=k}):bk (du prog w) A (AS<|.ref e) Q E s:=by
 refine cF (id f) λo t hc hd=>?_;obtain⟨K,u,_,nl,v⟩:=P;unfold AS;refine bu<|wpAny_attempt<|wpAny_callSpecial?_slot f.typeIs aeJ
  (wpAny_call_entry aeJ f.typeIs entry_listiter_next ?_ (args_listiter_next _))
 show bk _ _ (field (.ref e) 0>>=_) _ _ s;refine bu<|s5 t hd (x:=.ref l) J ?_;rw[a9 (sS)];refine bu<|s5 t hd J ?_;refine bu<|wpAny_seqItems u v ?_;simp only[Int.toNat_natCast,j];refine bu<|wpAny_rule<|bu<|AJ t hd (by simp) ?_;refine bu ?_;simp only[newExc,newTuple];refine bu<|uY ?_ (by size_fits);refine bu<|wpAny_of_eq (a:=uT) (by first|rfl|(simp only[afg];rfl)) ?_;refine uY ?_ (by size_fits);have R:∀{k Y:_},sY Y ((((s.heap.update e (adX (·.setIfInBounds 0 uT))).push {cls:=.type "tuple",dict:=U,data:=.seq ([]:List ak).toArray}))) k->True:=λS=>bl;refine aay (?_:xb _ A) (kv _ J) J (by show 2<(_++_:Array ak).size;rw[Array.size_append];exact iP (D J)<|d8 6 _) (λx j q=>?_) λk Z hs h2 y=>?_
 ·rcases d with d|⟨x,G,L,d,h,p,h2⟩
  ·exact .inl d
  ·refine .inr<|f5 x G L d ?_ p h2;have B:x≠e:=λq=>r<|by rw[d,q]
   exact hJ _<|hJ _<|(xK _ _<|eH B).trans h
 ·rcases d with d|⟨T,G,L,d,h,p,h2⟩
  ·rw[show A.in1.handled=A.handled from rfl,d] at j;exact ba j
  ·rw[show A.in1.handled=A.handled from J,d] at j
   cases j
   have M:=m0 h;rw[q] at M;refine ax M<|rc.mpr ?_;rw[adY,Heap.size_after_update];exact ey _
 ·refine bu<|wpAny_isInstance (aD Z h2 y) isSubtype_stop ?_;refine dB<|X _ λb V hb F=>?_;have N:=hJ {cls:=.type "tuple",dict:=U,data:=.seq ([]:List ak).toArray} ((xK s.heap (adX (·.setIfInBounds 0 uT))<|eH hb).trans F);refine(hs.2 b λq=>?_).trans<|hJ _ N;have:=m0 N;rw[q] at this;exact ax this<|NL _
end
structure uF(A:dN)(It:cz->aH->Nat->Prop)(n:Nat)(val:Nat->ak->Prop)(src:cz->Prop):Prop where
 xi:∀(s:ay) (a:aH) (k:Nat) (Q:Option ak->ay->Prop) (E:ak->ay->Prop),It s.heap a k->src s.heap->k<n->(∀x h' tk,val k x->It h' a (k+1)->sY a s.heap h'->Q (some x) {s with heap:=h',toks:=tk})->bk (du cx.di cx.w) A (AS (.ref a)) Q E s
 d9:∀(s:ay) (a:aH) (Q:Option ak->ay->Prop) (E:ak->ay->Prop),xb s.heap A->A.handled≠some (.ref a)->It s.heap a n->src s.heap->(∀h',AF a s.heap h'->Q none {s with heap:=h'})->bk (du cx.di cx.w) A (AS (.ref a)) Q E s
 gh:∀(h:cz) (a:aH) (k:Nat),It h a k->∃o,h.get? a=some o
 fy:∀(h h':cz) (a:aH) (k:Nat),It h a k->h'.get? a=h.get? a->It h' a k
section
variable{A:dN}
variable{c:Fm}{z:Zs}{H:Hp}{m:aw->Option ak}{cs:aW}{s:ay}{g:cz}{u:List aW}
theorem Eb{d:Array ak}:uF A (λh a k=>h.IsListIter a l k) d.size (λk x=>d[k]? =O x) (λh=>h.IsList l d) where
 xi:=λs a k Q E b hs i h=>aeK b hs (AG i) λj p h2=>h _ j s.toks (AG i) p h2
 d9:=λs a Q E q t b hs h=>aaz q b hs (by simp) t h
 gh:=λh a k b=>let⟨o,f,_⟩:=b;⟨o,f⟩
 fy:=λh j a k b e=>let⟨o,f,r⟩:=b;(aD o (e.trans f) r)
theorem aaA{d:Array ak}(p:A.handled=U):uF A (λh a k=>h.IsTupleIter a l k) d.size (λk x=>d[k]? =O x) (λh=>h.IsTuple l d) where
 xi:=λs a k Q E b hs i h=>wpAny_pyNext_tuple_item b hs (AG i) λj q h2=>h _ j s.toks (AG i) q h2
 d9:=λs a Q E t u b hs h=>wpAny_pyNext_tuple_end p b hs (by simp) h
 gh:=λh a k b=>let⟨o,f,_⟩:=b;⟨o,f⟩
 fy:=λh j a k b e=>let⟨o,f,r⟩:=b;(aD o (e.trans f) r)
theorem LA{n:Nat}(f:A.handled=U):uF A (λh a k=>k<=n/\Oy h a k ((n:Int)-k) 1) n (λk x=>∃t,x=.int k t) (λi=>True) where
 xi:=λs a k Q E b hs j h=>by
  refine wpAny_pyNext_range_item b.2 (by lia) λd l h2=>h _ d _ ⟨_,J⟩ ⟨j,?_⟩ h2;have e:(n:Int)-((k+1:Nat):Int)=(n:Int)-(k:Int)-1:=by push_cast;lia
  rw[e];exact l
 d9:=λs a Q E i o b hs h=>wpAny_pyNext_range_end f b.2 (by lia) h
 gh:=λh a k b=>⟨_,b.2⟩
 fy:=λh d a k b e=>⟨b.1,e.trans b.2⟩
theorem bG.zO{P:aW}{i:cz}(S:bG (c.P'<|(a,o)::P) z H m cs s g u)(f:AF a s.heap i):bG (c.P' P) z H m cs {s with heap:=i} g u:=by
 have d:=S.nw (a,o)<|.head _;have nd:=S.nd;simp only[bP,kS,iQ,iR] at nd;refine⟨S.iu,⟨S.fr.ns.extBut f<|eH d.2.1,λb j e=>f b j (λq=>?_)<|S.fr.keep b j e,S.fr.above⟩,λq k=>?_,S.jm,S.dv,S.fH,S.jQ,nd.2,S.cX,by rw[S.fy]⟩
 ·rw[q,d.2.2] at e;exact ba e
 ·have N:=S.nw q<|.tail _ k;have h:q.1≠a:=λe=>nd.1 (by rw[<-e];exact om k);exact⟨f _ _ h N.1,N.2⟩
theorem w0.at{c:Fm}{A:dN}(h:w0 c A){P:aW}(a:∀q∈c.P,q∈P)(S:bG (c.P' P) z H m cs s g u):xb s.heap A:=
 h.imp id λh=>te h λe b d f h2 i=>va e b d f ((S.nw _<|fh _<|a _ h2).1) i
theorem w0.ne{c:Fm}{A:dN}(h:w0 c A){P:aW}(b:∀q∈c.P,q∈P)(S:bG (c.P'<|(a,o)::P) z H m cs s g u):A.handled≠O (.ref a):=by
 rcases h with h|⟨e,i,j,d,h2,k⟩
 ·rw[h];exactλe=>ba e
 ·rw[d];intro q;refine dn λf=>?_
  cases q
  refine f ?_;have nd:=S.nd;simp only[bP,kS,iQ,iR] at nd;exact nd.1<|om<|fh _<|b _ h2
end
noncomputable def Gx.wP(g:Gx)(P:aW)(hP:∀q∈g.c.P,q∈P):Gx:=⟨g.ag,g.ns,g.hd,g.c.P' P,g.A,g.fr,⟨g.ok.wW,g.ok.aq,g.ok.jP,g.ok.hW,g.ok.XB,g.ok.TB,g.ok.jl,g.ok.dZ⟩,g.gR.imp id λh=>te h λe a b d h2 f=>va e a b d (hP _ h2) f,g.qS⟩
section
variable{g:Gx}{P:aW}{hP:∀q∈g.c.P,q∈P}{q:aH×PO}{j:∀i∈g.c.P,i∈q::P}
theorem sy.re{c:Fm}{d P e:aW}(F:sy a (c.P' P) l b d):sy a (c.P' e) l b d:=⟨F.mR,F.xc,F.nn,F.bK,F.dZ⟩
theorem jT.re{c:Fm}{P e:aW}{z b:Zs}(S:jT d (c.P' P) z l H s)(i:c.aS.locals=c.L)(le:z.le b)(k:∀{m cs g a},bG (c.P' P) z H m cs s g a->St (c.P' e) b f m cs h):jT d (c.P' e) b l f h:=by
 obtain⟨m,cs,cm,⟨g,a,S⟩,L,F⟩:=S;exact⟨m,cs,cm,k S,(sD S F.re i L).au le,F.re⟩
noncomputable def LC(a:V->Lc->Hp->R (Fl×Lc))(r:List V)(fl:Fl)(l:Lc)(H:Hp):R (Fl×Lc):=match fl with
 |.aU=>dp a r l H
 |.q=>dp a r l H
 |.u=>.ok (.aU,l) H
 |.am v=>.ok (.am v,l) H
theorem aaB{j:Gx}{i:Wt j}{b:V->Lc->Hp->R (Fl×Lc)}{r:List V}{a Q:kw->ay->Prop}(T:Ts f (dp b (v::r) l H) Q k)(m:PassesOwn MM j.A j.c.aS k)
  (h:∀(u:Wt j) fl d,i.z.le u.z->sA u.z fl d->Ts f (LC b r fl u.l u.H) Q k->a d u.s):Ts i (b v l H) a k:=by
 have e:∀{x},b v l H=x->dp b (v::r) l H=match x with|.ok (.aU,l) H=>dp b r l H|.ok (.q,l) H=>dp b r l H|.ok (.u,l) H=>.ok (.aU,l) H|.ok (.am v,l) H=>.ok (.am v,l) H|_=>.j:=λe=>e▸J
 exact⟨λq=>T.ne<|e q,λu fl d q le fr=>h u fl d le fr<|(show dp b (v::r) l H=LC b r fl u.l u.H from(e q).trans (by cases fl<;>rfl))▸T,λx s o p q=>ax (e q) T.ne,m⟩
inductive LD(w₀:Wt (g.wP P hP))(z₁:Zs)(a:aH)(It:cz->aH->Nat->Prop)(fb:V->Lc->Hp->R (Fl×Lc))(xs:List V)(Q:kw->ay->Prop)(Ee:ak->ay->Prop)(n:Nat)(s:ay):Prop
 |mk (k:Nat) (o:PO) (z:Zs) (l:Lc) (H:Hp) (hn:n=xs.length-k) (hk:k<=xs.length) (le:z₁.le z) (S:jT (dy g.ns) (g.c.P' ((a,o)::P)) z l H s) (hI:It s.heap a k) (T:Ts w₀ (dp fb (xs.drop k) l H) Q Ee)
theorem Ec{w₀:Wt<|g.wP P hP}{It:cz->aH->Nat->Prop}{val:Nat->ak->Prop}{src:cz->Prop}{G:List V}{a:aH}{i:Nat}{x:aw}{px:cJ}{bd:List S}{pb:List cA}{N:ak->ay->Prop}{Q:kw->ay->Prop}{l:Lc}{M:PO}{z:Zs}{H:Hp}{s:ay}
  (Ru:uF g.A It G.length val src)(hb:∀P hP,kh (g.wP P hP) bd pb)(hx:jn g.c.aS.scope g.ns i x=I)
  (hv:∀k pv v Y,z.le Y->val k pv->G[k]? =O v->aA Y v pv)(hs:∀{Y H m cs s h d o},z.le Y->bG (g.c.P'<|(a,o)::P) Y H m cs s h d->src s.heap)
  (t:w₀.z.le z)(S:jT (dy g.ns) (g.c.P'<|(a,M)::P) z l H s)(hI:It s.heap a 0)(T:Ts w₀ (dp (λv l H=>aZ g.ag bd (l.set i<|O v) H) G l H) Q N):
  kA MM g.A (.forLoop (.Name x px) (.ref a) pb [] g.c.aS) (λr s'=>match r with|.ok f=>Q f s'|.error e=>cameBackBy MM g.A g.c.aS N e s') s:=by
 refine codeAny_forLoop (LD w₀ z a It (λv l H=>aZ g.ag bd (l.set i<|O v) H) G Q N) ?_ G.length ⟨0,M,z,l,H,J,dG _,.refl,S,hI,T⟩;intro n s inv;obtain⟨k,o,w,l,H,hn,hk,le,S,hI,T⟩:=inv;have j:∀{o},∀q∈g.c.P,q∈(a,o)::P:=λq hq=>.tail _<|hP q hq
 by_cases p:k<G.length
 ·obtain⟨m,cs,cm,⟨h,d,S⟩,L,F⟩:=S;refine Ru.xi s a k _ _ hI (hs le S) p λpv h' tk hval y hsb=>?_;obtain⟨b,A⟩:=Ru.gh _ _ _ y;refine ly (uE hx) λh1 h2 h3=>?_;rw[N7 p] at T;have Z:jT (dy g.ns) (g.c.P'<|(a,b)::P) w l H _:=⟨m,cs,cm,⟨h,d,S.xh (tk:=tk) hsb A⟩,sD S F.re g.ok.jl L,F.re⟩;refine FM<|xe (c:=g.c.P'<|(a,b)::P) (g.wP _ j).ok Z (hv k pv G[k] w le hval<|li p) h1 h2 h3 λE B=>Ox T.kF ?_;obtain⟨m,cs,cm,B,K,R⟩:=B;exact hb _ j ⟨w,H,E,_,m,cs,cm,B,K,R⟩ _ N (aaB T T.kF λu fl X W fr T=>have lt:=hn▸adZ p (sP k);have on:Ts w₀ (dp _ (G.drop<|k+1) u.l u.H) Q N->∃m,m<n/\LD w₀ z a It (λv l H=>aZ g.ag bd (l.set i<|O v) H) G Q N m u.s:=λT=>
    ⟨_,lt,k+1,b,u.z,u.l,u.H,J,p,le.q W,u.S,Ru.fy _ _ _ _ y (by obtain⟨h,d,S⟩:=u.st;exact((S.nw (a,b)<|.head _).1).trans A.symm),T⟩
   have off:∀{fl X},sA u.z fl X->Ts w₀ (.ok (fl,u.l) u.H) Q N->Q X u.s:=λfr T=>T.st (u.S.re g.ok.jl .refl λS=>⟨_,_,S.Ea (Q:=[(a,b)])⟩) (t.q<|le.q W) fr
   zN fr on (off bl) on (λ_ _ r=>off r) T)
 ·obtain⟨m,cs,cm,⟨h,d,S⟩,L,F⟩:=S;obtain rfl:k=G.length:=Aw hk<|sO p;refine Ru.d9 s a _ _ (g.gR.at j S) (g.gR.ne hP S) hI (hs le S) λh' he=>?_;rw[Ny] at T;exact s9<|T.st ⟨m,cs,cm,⟨h,d,S.zO he⟩,sD S F.re g.ok.jl L,F.re⟩ (t.q le) bl
end
theorem LF{h:Type}{H:Hp}{k:List V->Hp->R h}{b:Prop}(M:R h->Prop)(T:M<|rG v H k)(d:¬M .j)(i:∀c,v=.u c->M (k c H)->b)(j:∀c,v=.af c->M (k c H)->b)(l:∀a c,v=.ae a->H[a]? =O (.af c)->M ((k c<|H.set a .i).i λr H=>.ok r<|H.set a<|.af c)->b):b:=by
 refine dn λf=>?_
 induction v using V.casesOn with
 |u c=>exact f<|i c J T
 |af c=>exact f<|j c J T
 |ae a=>
  have T:M (match H[a]? with|some (.af c)=>(k c<|H.set a .i).i λr H=>.ok r (H.set a<|.af c)|_=>.j):=T
  rcases e:H[a]? with _|⟨c|_|_⟩<;>rw[e] at T
  ·exact d T
  ·exact f<|l a c J e T
  ·exact d T
  ·exact d T
 |_=>exact d T
theorem aaC(b:List V):∀{l:Lc} {H c:Hp},dp a b l H≠ .q c:=by
 induction b with
 |nil=>exact nofun
 |cons v r d=>
  intro l H c;show(match a v l H with|.ok (.aU,l) H=>dp a r l H|.ok (.q,l) H=>dp a r l H|.ok (.u,l) H=>.ok (.aU,l) H|.ok (.am v,l) H=>.ok (.am v,l) H|_=>.j)≠_
  rcases a v l H with⟨⟨_|_|_|_,l⟩,H⟩|_|_<;>first|exact d|exact nofun
section
variable{g:Gx}{w:Wt g}{Q:kw->ay->Prop}{u:ak->ay->Prop}
theorem Ed(g:Gx):∀q∈g.c.P,q∈g.c.P:=λ_ h=>h
theorem aR.at{z:Zs}{a:List V}{b:Array ak}(r:aR z a b.toList){k:Nat}{pv:ak}{v:V}(c:b[k]? =O pv)(d:a[k]? =O v):aA z v pv:=by
 rw[<-adR] at c
 rcases r.cO k with⟨e,_⟩|⟨x,u,e1,e2,r⟩
 ·exact ba<|e.symm.trans d
 ·rw[cT (e1.symm.trans d),cT (e2.symm.trans c)] at r;exact r
theorem jT.j{c:Fm}{P:aW}{s:ay}{o:PO}(S:jT a (c.P' P) z l H s)(d:c.aS.locals=c.L)(f:o.isFreed=C):jT a (c.P'<|(s.heap.objs.size,o)::P) z l H {s with heap:=s.heap.push o}:=
 S.re d .refl λS=>⟨_,_,S.j (λb h e=>hJ o e) (kv _ f)<|bF _⟩
theorem aaD{i:Nat}{e:E}{G:List S}{x:aw}{R L:cJ}{M:aX}{N:List cA}(hh:g.A.handled=none)(hs:∀(X:dA) (x:ak),u4 M X x=pure x)(he:∀w:Wt g,bj w.f e M)(W:∀P hP,kh (g.wP P hP) G N)(hx:jn g.c.aS.scope g.ns i x=true):
  dj g (.y i e G) (.For (.Name x R) M N [] L):=by
 refineλw Q u T=>wpAny_For (T.nx (he w w.p) λq v pv le F T=>?_) (hs _)
 have go:∀{P:aW} {hP:∀q∈g.c.P,q∈P} {p:List V} {a:aH} {c:Array ak} {z:Zs} {H:Hp} {s:ay} {w₀:Wt (g.wP P hP)} (le:w₀.z.le z) (S:jT (dy g.ns) (g.c.P' P) z w.l H s),aR z p c.toList->s.heap.IsList a c->
   (∀{y H' m cs A h B o},z.le y->bG (g.c.P' ((s.heap.objs.size,o)::P)) y H' m cs A h B->A.heap.IsList a c)->
   Ts w₀ (dp (λv l H=>aZ g.ag G (l.set i (some v)) H) p w.l H) Q u->bk MM g.A (FN (.ref a)) (λit s=>kA MM g.A (.forLoop (.Name x R) it N [] g.c.aS) (λr A=>match r with|.ok f=>Q f A|.error e=>cameBackBy MM g.A g.c.aS u e A) s) u s:=
  λle S r hl Y T=>FO hl (Ec (It:=λh b k=>h.IsListIter b _ k) (val:=λk x=>_[k]? =some x) (src:=λh=>h.IsList _ _) (r.j▸Eb) W hx (λk pv v y le Z h2=>(aR.au le _ _ r).at Z h2) Y le (S.j g.ok.jl rfl) (dg _ (kv _ rfl) rfl rfl) T)
 refine LF (λr=>Ts (w.at q) r Q u) T (λT=>T.ne rfl) (λp e T=>?_) (λp e T=>?_) λi p e ho T=>?_<;>rw[e] at F
 ·refine ek F λa c n K d t hr=>?_
  rw[K]
  exact wpAny_pyIter_tuple (sx (q.st.i a d)) (Ec (w₀:=w.at q) (hP:=Ed g) (It:=λh b k=>h.IsTupleIter b a k) (val:=λk x=>c[k]? =some x) (src:=λh=>h.IsTuple a c) ((show p.length=c.size from hr.j)▸aaA hh) W hx (λk pv v y le Z h2=>(aR.au le _ _ hr).at Z h2) (λle S=>sx (S.i a (le.dZ d))) .refl ((w.at q).S.j (c:=g.c) (P:=g.c.P) g.ok.jl rfl) (dg _ (kv _ rfl) rfl rfl) T)
 ·refine ek F λa c n K d t hr=>?_
  rw[K]
  exact go (w₀:=w.at q) (hP:=Ed g) .refl (w.at q).S hr (gm (q.st.i a d)) (λle S=>gm (S.i a (le.dZ d))) T
 ·obtain⟨h,B,S⟩:=id q.st
  refine ek (bG.rG S ho) λa c n d hr t j=>?_
  rw[jR F d]
  have hP:∀q∈g.c.P,q∈(a,c3 c n)::g.c.P:=λq h=>.tail _ h
  let w₀:Wt (g.wP _ hP):=⟨q.z,_,q.s,w.l,w.m,w.cs,w.cm,⟨h,_,j⟩,sD S w.fx g.ok.jl q.lo,w.fx.re⟩
  refine go .refl w₀.S hr (gm ((j.nw (a,c3 c n) (.head _)).1)) (λle S=>gm ((S.nw (a,c3 c n) (.tail _ (.head _))).1)) ⟨λe=>T.ne (by rw[e];rfl),λv fl pfl e le fr=>?_,λx s y H' e=>absurd e (aaC p),T.kF⟩
  rw[e] at T
  exact T.st (v.S.re g.ok.jl .refl λS=>(S.ry (le.at d) (aR.au le _ _ hr) t).elim λ_ S=>⟨_,_,S⟩) le fr
end
theorem LG{n:Nat}(h:(n:Int)<=bg):Builtin.Range.small 0 n 1=true:=by
 have:bg=16777216:=J;exact small_one (D J) (D J) (by lia)<|by lia
theorem LH(n:Nat):N8 0 n 1=n:=by
 rw[rangeSize_one];split<;>lia
noncomputable def zP(v:V)(H:Hp):R Nat:=match v with
 |.aa k=>if 0<=k/\k<=bg then .ok k.toNat H else .j
 |_=>.j
theorem Ef{a:Type}(r:R V)(k:Nat->Hp->R a):(r.i λv H=>match v with|.aa i=>if 0<=i/\i<=bg then k i.toNat H else .j|_=>.j)=(r.i zP).i k:=by
 cases r with
 |ok v H=>cases v with
  |aa i=>
   show _=(if 0<=i/\i<=(bg:Int) then R.ok i.toNat H else .j).i k
   by_cases h:0<=i/\i<=(bg:Int)
   ·rw[aN h];exact aN h
   ·rw[a9 h];exact a9 h
  |_=>rfl
 |_=>rfl
noncomputable def LI(n:Nat)(t u v:qY):PO:={cls:=.type "range",data:=.fields #[.int 0 t,.int n u,.int 1 v]}
noncomputable def LJ(z:Zs)(n:Nat)(v:ak):Prop:=n<=bg/\∃a t u w,v=.ref a/\z.dZ a (LI n t u w)
section
variable{f:Fx}{p:Pt f}
theorem Eg{e:E}{j b:cJ}(k:gq cx.K ez "range"=O U)(l:iv f.bo.scope "range"=I)(c:fJ a=I)(m:bj f e a):Go LJ p ((az f.g.ag e f.l p.H).i zP) (kz (.Call (.Name "range" j) [a] [] b) f.bo):=λQ E T=>by
 have c:[a].all fJ=true:=by rw[List.all_cons,c];rfl
 refine xQ<|pV c▸DS p.st k (v:=.type "range") J (D J) f.aq f.jP f.hW (beq_iff_eq.mp l) (D J) (qT (D4 nofun)<|FI<|(m p).nx (λq v s le o T=>FH ⟨bl,?_⟩) T);refine dn λr=>?_
 induction v using V.casesOn with
 |aa i=>
  obtain⟨t,e⟩:=o;have T:=T;refine T.q λh T=>r ?_;obtain⟨n,d⟩:=xI h.1;rw[d] at T h;rw[e,d];exact call_range_1<|T.ok (q.i ((q.st.q (o:=LI n _ _ _) J).j _) Zs.le.i) _ _ J Zs.le.i ⟨sQ.mp h.2,_,_,_,_,J,.inl<|.head _⟩
 |_=>exact T.ne J
end
section
variable{g:Gx}{w:Wt g}{Q:kw->ay->Prop}{j:ak->ay->Prop}
theorem Ts.cg{r r':R<|Fl×Lc}(e:r=r')(T:Ts w r Q j):Ts w r' Q j:=e▸T
theorem LK{n k:Nat}{v:V}(h:((kl n).map λ(i:Nat)=>V.aa (i:Int))[k]? =O v):v=.aa k:=by
 rw[qb] at h;refine aB (fV.mp h) λj a e=>?_;have:=fK.mp a;obtain⟨_,a⟩:=this;rw[<-e,<-a,List.getElem_range]
theorem aaE{e:E}{B o y c:cJ}(F:g.A.handled=U)(r:gq cx.K ez "range"=O U)(G:iv g.c.aS.scope "range"=I)(L:fJ d=I)(M:∀(s:dA) (x:ak),u4 (.Call (.Name "range" y) [d] [] c) s x=pure x)(N:∀w:Wt g,bj w.f e d)(X:∀P Y,kh (g.wP P Y) m z)(Z:jn g.c.aS.scope g.ns i x=I):
  dj g (.jA i e m) (.For (.Name x B) (.Call (.Name "range" y) [d] [] c) z [] o):=by
 refineλw Q j T=>wpAny_For (Ts.nx (Ts.cg (Ef (az g.ag e w.l w.H) λn H=>dp (λv l H=>aZ g.ag m (l.set i<|O v) H) ((kl n).map λ(i:Nat)=>V.aa (i:Int)) w.l H) T) (Eg r G L<|N w) λq n rv le K T=>?_)<|M _;obtain⟨R,a,t,u,v,e,W⟩:=K;rw[e];refine aeL (q.st.i a W) (LG<|sQ.mpr R) ?_;have hlen:((kl n).map λ(i:Nat)=>V.aa (i:Int)).length=n:=by rw[c5,ad0]
 refine Ec (hP:=Ed g) (It:=λh b k=>k<=n/\Oy h b k ((n:Int)-k) 1) (val:=λk x=>∃t,x=.int k t) (src:=λA=>True) (hlen.symm▸LA F) X Z (λk pv v z' le r h2=>r.elim λt e=>by rw[e,LK h2];exact jS) (λA A=>trivial) .refl ((w.at q).S.j g.ok.jl J) ⟨dG _,?_⟩ T;have:=kv q.s.heap (o:={cls:=.type "range_iterator",data:=.fields #[ls 0,ls (N8 0 n 1),ls 1]}) J;rw[LH] at this⊢;rw[show(n:Int)-((0:Nat):Int)=n from ad1 _];exact this
end
section
variable{A:dN}{E:ak->ay->Prop}{s:ay}
theorem aaF{o r:ak}{Q:Unit->ay->Prop}(h:Q () s):bk MM A (FP b o r) Q E s:=by
 have g:bk MM A (FP (.JoinedStr [] default) o r) Q E s:=by
  induction o using sZ with
  |ref a=>exact bu<|mn<|aeH<|aeI entry_let_go<|dB<|dB h
  |_=>exact dB h
 have k:∀x,FP (.JoinedStr [] default) o r=x->bk MM A x Q E s:=λx e=>e▸g;clear g
 induction b using Expr.casesOn with
 |Name=>exact dB h
 |_=>refine k _ ?_;kernel_rfl
theorem uG{b a:aX}{o i:ak}{T l:String}{g:List ak}{Q:ak->ay->Prop}(m:xS a C o i=AT g (u5 o i))(j:s.TypeIs o T)(q:aem (.type T) "__getitem__"=pure (O<|.builtin l))(h:bk MM A (u5 o i) Q E s):
  bk MM A (AU b a o i) Q E s:=by
 unfold AU;refine bu ?_;rw[getitemInPython_of_ne j.not_modules];refine bu<|aeM j q ?_;have d:bk MM A (xS a C o i) (λr c=>bk MM A (FP b o r>>=λk=>pure r) Q E c) E s:=by
  rw[m];exact wpAny_operating<|mm h (λr c e=>bu<|aaF<|dB e) λk k x=>x
 first
  |exact dB<|bu d
  |exact bu<|dB<|bu d
  |exact bu d
theorem LL{b a:aX}{o i:ak}{c:List ak}{Q:ak->ay->Prop}(d:xS a C o i=AT c (u5 o i))(h:ItemOn MM A E o i Q s):bk MM A (AU b a o i) Q E s:=
 cV h λT id e g hg=>uG d g e hg
inductive LM(i:Int)(n j:Nat):Prop
 |mk (lo: -(2^63)<=i) (hi:i<2^63) (ix:Oz i n=some j) (lt:j<n) (lo': -(n:Int)<=i) (hi':i<n) (e:j=(if i<0 then i+n else i).toNat)
theorem LN{i:Int}(h:fP i n=O j)(c:n<=eI):LM i n j:=by
 rw[iz] at c;unfold fP at h
 by_cases a:0<=i
 ·rw[aN a] at h
  by_cases b:i<(n:Int)
  ·rw[aN b] at h
   cases h
   exact⟨by lia,by lia,by unfold Oz;rw[a9 (rb.mpr a)];exact aN<|ed.mpr ⟨dH a,dH b⟩,by lia,by lia,b,by rw[a9 (rb.mpr a)]⟩
  ·rw[a9 b] at h;exact ba h
 ·rw[a9 a] at h;have a:=E4.mp a
  by_cases b: -(n:Int)<=i
  ·rw[aN b] at h
   cases h
   exact⟨by lia,by lia,by unfold Oz;rw[aN a];exact aN<|ed.mpr ⟨dH (by lia),dH<|by lia⟩,by lia,b,by lia,by rw[aN a]⟩
  ·rw[a9 b] at h;exact ba h
theorem aaG{a:Array ak}{k:Int}{Q:ak->ay->Prop}(d:s.heap.IsList l a)(g:LM k a.size j)(e:a[j]? =O x)(h:Q x s):bk MM A (u5 (.ref l)<|.int k t) Q E s:=by
 obtain⟨i,m,q,r,o,u,b⟩:=g
 by_cases c:k<0
 ·rw[aN c] at b;exact wpAny_getItem_list_neg d c o i (b▸e) h
 ·rw[a9 c] at b;exact wpAny_getItem_list d (rb.mp c) m (b▸e) h
end
section
variable{f:Fx}{p:Pt f}
inductive Eh(v i:V)(H:Hp)(r:R V):Prop
 |j (k:Int) (u:V) (xs:List V) (j:Nat) (hi:i=.aa k) (hs:hS v H=some xs) (hj:fP k xs.length=some j) (hx:xs[j]? =some u) (e:r=.ok u H)
 |ah (k:Int) (x:List Nat) (ch j:Nat) (hi:i=.aa k) (hv:v=.ah x) (hj:fP k x.length=some j) (hx:x[j]? =some ch) (e:r=.ok (.ah [ch]) H)
 |dct (ds:List (V×V)) (u:V) (hv:v=.dct ds) (hf:nh i ds=some (some u)) (e:r=.ok u H)
theorem Ei{c:Type}{o:Option c}{H:Hp}{b:R c->Prop}(h:cG o H≠ .j)(k:∀a,o=O a->b (.ok a H)):b (cG o H):=by
 cases o with
 |none=>exact ax J h
 |some a=>exact k a J
theorem aaH{v i:V}{H:Hp}(h:f6 v i H≠ .j):Eh v i H (f6 v i H):=by
 have g:Bs v i H≠ .j->Eh v i H (Bs v i H):=λh=>by
  induction i using V.casesOn with
  |aa k=>
   have sq:cG ((hS v H).bind λa=>(fP k a.length).bind λj=>a[j]?) H≠ .j->Eh v (.aa k) H (cG ((hS v H).bind λa=>(fP k a.length).bind λj=>a[j]?) H):=λh=>
    Ei h λu b=>aB (oq.mp b) λa c h2=>aB (oq.mp h2) λj d h4=>.j k u a j J c d h4 J
   induction v using V.casesOn with
   |ah x=>exact Ei h λu b=>aB (oq.mp b) λj c h2=>aB (fV.mp h2) λl d e=>e▸ .ah k x l j J J c d J
   |_=>exact sq h
  |_=>exact ax J h
 induction v using V.casesOn with
 |dct m=>exact Ei h λu b=>aB (oq.mp b) λo c h2=>.dct m u J (c.trans<|bH O h2) J
 |_=>exact g h
theorem aaI{v i:V}{pv w:ak}{l c:aX}(d:xS c C pv w=AT [pv,w] (u5 pv w))(y:aA p.z v pv)(z:aA p.z i w):Go aA p (f6 v i p.H) (AU l c pv w):=λQ E T=>by
 refine dn λB=>?_
 rcases aaH T.ne with⟨k,u,xs,j,e1,K,G,H,e⟩|⟨k,x,X,j,e1,e2,G,H,e⟩|⟨ds,u,e2,R,e⟩<;>rw[e] at T
 ·rw[e1] at z;obtain⟨t,ei⟩:=z;refine B<|ek (p.j y K) λa vs n L ho hr S=>?_;rw[ei,L] at d⊢;have g:=LN (hr.j▸G) S;have m:=AG<|g.casesOn λ_ _ _ h _ _ _=>h;have q:=T.i<|hr.at m H
  rcases ho with ho|ho
  ·exact uG d (gm ho).typeIs slot_list_getitem.lookup<|aaG (gm ho) g m q
  ·obtain⟨M,N,P,W,Y,Z,g7⟩:=g;exact uG d (sx ho).typeIs slot_tuple_getitem.lookup<|getItem_tuple (sx ho) M N P m q
 ·rw[e1] at z;rw[e2] at y;obtain⟨t,ei⟩:=z;obtain⟨⟨u,ev⟩,hl⟩:=y.ah;rw[ei,ev] at d B;obtain⟨M,N,P,W,Y,Z,-⟩:=LN G hl;have hlen:=me x;refine B<|LL d<|SB.item (by unfold fitsSsize;rw[dT (rb.mpr M),dT (E4.mpr N)];rfl) (PyProof.Rows.charAt_isSome (by rw[hlen];exact Y) (by rw[hlen];exact Z)) ?_;have e2:Txt.item (sV x) k=sV [X]:=by
   unfold Txt.item Txt.charAt;rw[hlen,P];show(⟨#[((sV x).cps[j]?).getD 0]⟩:aw)=_;rw[show(sV x).cps[j]? =O X from H▸List.getElem?_toArray];rfl
  rw[e2];exact T.j (pT (show 1<=eI by rw[iz];decide)) _
 ·rw[e2] at y;refine B<|ek y λa es n L ha h rd=>?_;rw[L] at d⊢;have b:=p.st.i a ha
  rcases DY b h.1 rd z R with⟨k,t,F,ei,hM,pv,o,r⟩|⟨x,t,F,ei,hM,pv,o,r⟩<;>rw[ei] at d⊢
  ·exact uG d (aD _ b J) slot_dict_getitem.lookup<|aeN (AP cx.di cx.w k t) hM o<|T.j r _
  ·exact uG d (aD _ b J) slot_dict_getitem.lookup<|aeN (AQ cx.di cx.w x t) hM o<|T.j r _
theorem aaJ{e i:E}(d:∀o j,xS a C o j=AT [o,j] (u5 o j))(g:bj f e c)(h:bj f i a):bj f (.y e i) (.Subscript c a b):=
 λp Q E T=>Subscript_<|(g p).nx (λq v m le k=>(h q).nx λq j r le l=>aaI (d _ _) (aA.au le _ _ k) l Q E) T
end
inductive xj(xs:List V):Option Nat->Option Nat->List V->Prop
 |dW:xj xs none none xs
 |to (b:Nat):xj xs none (some b) (xs.take b)
 |i (a:Nat):xj xs (some a) none (xs.drop a)
inductive Ej(v lo hi:V)(H:Hp)(r:R V):Prop
 |ah (s:List Nat) (a b:Nat) (hv:v=.ah s) (hl:nj lo=some (some a)) (hh:nj hi=some (some b)) (hab:a<=b) (ha:a<=s.length) (e:r=.ok (.ah ((s.take b).drop a)) H)
 |af (a b:Option Nat) (xs ys:List V) (hl:nj lo=some a) (hh:nj hi=some b) (hx:vw v H=some xs) (y:xj xs a b ys) (e:r=.ok (.ae H.length) (H++[.af ys]))
theorem aaK(h:lI v d g H≠ .j):Ej v d g H (lI v d g H):=by
 unfold lI at h⊢
 cases i:nj d with
 |none=>rw[i] at h;exact ax J h
 |some a=>
  rw[i] at h
  cases hb:nj g with
  |none=>rw[hb] at h;exact ax J h
  |some b=>
   rw[hb] at h;have h:rE v a b H≠ .j:=h;show Ej v d g H (rE v a b H);have l:∀r,r=(match vw v H with|some j=>Bt j a b H|.none=>.j)->r≠ .j->Ej v d g H r:=λr e hr=>by
    cases k:vw v H with
    |none=>rw[k] at e;exact ax e hr
    |some j=>
     rw[k] at e
     induction a using gC with
     |none=>induction b using gC with
      |none=>exact .af U U j j i hb k .dW e
      |some b=>exact .af U (O b) j _ i hb k (.to b) e
     |some a=>induction b using gC with
      |none=>exact .af (O a) U j _ i hb k (.i a) e
      |some b=>exact ax e hr
   induction v using V.casesOn with
   |ah s=>
    induction a using gC with
    |none=>exact ax J h
    |some a=>induction b using gC with
     |none=>exact ax J h
     |some b=>
      have h:(if a<=b/\a<=s.length then R.ok (V.ah<|(s.take b).drop a) H else .j)≠ .j:=h;have c:=qQ h;exact .ah s a b J i hb c.1 c.2<|aN c
   |_=>exact l _ J h
theorem Ek{o:Option Nat}(r:aA z v pv)(h:nj v=O o):IsPart pv (o.map N9):=by
 refine dn λa=>?_
 induction v using V.casesOn with
 |none=>rw[show pv=.none from r] at a;exact a<|cT h▸ .none
 |aa i=>
  obtain⟨t,e⟩:=r;have h:(if 0<=i then O (O i.toNat) else .none)=O o:=h
  by_cases c:0<=i
  ·rw[aN c] at h;obtain⟨n,b⟩:=xI c;rw[b] at e h;rw[e] at a;exact a<|cT h▸ .int _ _
  ·rw[a9 c] at h;exact ba h
 |_=>exact ba h
theorem LO{a:Nat}(r:aA z v pv)(h:nj v=O (O a)):∃t,pv=.int a t:=by
 have:=Ek r h
 cases this;exact⟨_,J⟩
theorem aaL(x:List Nat){a b:Nat}(c:a<=b)(g:a<=x.length):Oa (sV x) (O (a:Int)) (O (b:Int))=sV ((x.take b).drop a):=by
 have d:(sV x).length=x.length:=me x;have e:Oa (sV x) (O (a:Int)) (O (b:Int))=ad2 (sV x) (O (a:Int)) (O ((min b x.length:Nat):Int)):=by
  unfold Oa ad2;rw[d];have:Ob (O (a:Int)) (O (b:Int)) 1 x.length=Ob (O (a:Int)) (O ((min b x.length:Nat):Int)) 1 x.length:=by
   unfold Ob;simp only[show(1:Int)>0 by decide,if_true,show¬((b:Int)<0) from rb.mpr (qa _),show¬(((min b x.length:Nat):Int)<0) from rb.mpr (qa _),if_false]
   congr 1
   lia
  rw[this]
 rw[e,StrLaws.sliceText_nat _ (Nat.le_min.mpr ⟨c,g⟩) (by rw[d];exact Nat.min_le_right ..)];show sV ((x.drop a).take<|min b x.length-a)=_;rw[List.drop_take];exact bH sV<|List.take_eq_take_iff.mpr (by rw[Ay];lia)
section
variable{f:Fx}{p:Pt f}
theorem Pt.af(p:Pt f)(g:aA p.z v pv)(h:vw v p.H=O c):∃a b n,pv=.ref a/\p.s.heap.get? a=O (c3 b n)/\aR p.z c b.toList/\b.size<=eI:=by
 refine dn λj=>?_
 induction v using V.casesOn with
 |af k=>exact ek g λa b n e d hs hr=>j<|f5 a b n e (p.st.i a d) (cT h▸hr) hs
 |ae i=>
  have h:(match p.H[i]? with|some (.af c)=>O c|_=>U)=O c:=h
  rcases e:p.H[i]? with _|⟨k|_|_⟩<;>rw[e] at h
  ·exact ba h
  ·obtain⟨a,b,n,d,l,r,hs,-⟩:=p.st.cX e;exact j<|f5 a b n (jR g d) l (cT h▸r) hs
  ·exact ba h
  ·exact ba h
 |_=>exact ba h
theorem aaM{e g:List V}{a b:Option Nat}{c:Array ak}(y:xj e a b g)(r:aR z e c.toList):∃d,slicePick c (a.map N9) (b.map N9) U=d.toArray/\aR z g d/\d.length<=c.size:=by
 cases y with
 |dW=>exact dg c.toList (slicePick_all c) r<|bF _
 |to b=>exact dg _ (slicePick_upto' c b) (r.fA b)<|Oc ..
 |i a=>exact dg _ (slicePick_from' c a) (r.y a) (by rw[Ay];exact adf ..)
theorem aaN{v A B:V}{pv o q:ak}{c F:aX}{Q E:ak->ay->Prop}(m:∀i,xS F C pv i=AT [i,pv] (u5 pv i))(s:aA p.z v pv)(G:aA p.z A o)(H:aA p.z B q)(T:Tk aA p (lI v A B p.H) Q E):
  bk MM f.g.A (AU c F pv<|.ref p.s.heap.objs.size) Q E {p.s with heap:=p.s.heap.push {cls:=.type "slice",data:=.fields #[o,q,.none]}}:=by
 rcases aaK T.ne with⟨x,a,b,ev,u,hb,w,z,e⟩|⟨a,b,W,ys,u,hb,N,y,e⟩<;>rw[e] at T
 ·rw[ev] at s;obtain⟨⟨t,e1⟩,d⟩:=s.ah;obtain⟨ta,e2⟩:=LO G u;obtain⟨tb,P⟩:=LO H hb;obtain⟨g,j,S⟩:=id p.st;rw[e1] at m⊢;rw[e2,P];refine LL (m _)<|SBH.sliceItem_ss keptFrN ⟨S.fr,S.nw⟩ (λh' t' k h=>?_) (by rw[me];exact d);rw[aaL x w z];exact T.ok (p.i ⟨g,j,S.DO (nw:=[]) h.1 h.2 (λξ h=>ax h eW) xH⟩ Zs.le.i) _ _ J Zs.le.i<|pT<|aE (by rw[Ay,List.length_take];lia) d
 ·refine ek (p.af s N) λl vs n X L r M=>cF (aaM y r) λY e1 Z K=>?_;rw[X] at m⊢;have R:(c3 Y.toArray 0).isFreed=false:=J;have S:=(p.st.q (o:={cls:=.type "slice",data:=.fields #[o,q,.none]}) J).Lj (n:=0) (aR.au .i _ _ Z) (by rw[N4];exact aE K M);refine uG (m _) (Heap.IsList.typeIs<|(gm L).push _) list_getitem_lookup
   (wpAny_getItem_list_slice ((gm L).push _) (Heap.IsSliceOf.new ..) (Ek G u) (Ek H hb) .none (by simp) ?_ M)
  rw[e1];refine T.ok (p.i S<|Zs.le.i.q .ce) _ _ J (Zs.le.i.q .ce)<|aD _ J ?_;obtain⟨g,j,S⟩:=p.st;rw[S.cX.bK];exact mU
noncomputable def zQ(f:Fx)(e:E)(a:Option aX):Prop:=match a with
 |none=>e=.c .none
 |some a=>bj f e a
theorem LP{e:E}(h:zQ f e a):Go aA p (az f.g.ag e f.l p.H) (evalPart a f.bo):=by
 cases a with
 |none=>exact(show e=.c .none from h)▸λQ E T=>dB<|T.i wZ
 |some a=>exact h p
theorem aaO{e g h:E}(o:bj f e j)(r:zQ f g k)(s:zQ f h l):bj f (.slc e g h) (.Subscript j (.Slice k l U m) d):=
 λp Q E T=>Subscript_<|(o p).nx (λq v x le t T=>wpAny_Slice<|(LP r).nx (λq a y le u=>(LP s).nx λq b z c w T=>by
  rw[evalPart_none];exact dB<|aaN (λi=>J) (aA.au (le.q c) _ _ t) (aA.au c _ _ u) w T) T) T
end
section
variable{A:dN}{s:ay}
theorem aaP{h l:aH}{a:Array ak}{E:ak->ay->Prop}(o:l≠h):∀(n i:Nat) (s:ay) (Q:List ak->ay->Prop),s.heap.IsListIter h l i->s.heap.IsList l a->i+n<=a.size->
  (∀p,p.IsListIter h l (i+n)->sY h s.heap p->Q ((a.toList.drop i).take n) {s with heap:=p})->bk (du cx.di cx.w) A (draw (.ref h) n) Q E s:=by
 intro n
 induction n with
 |zero=>
  intro i s Q e t t q;exact dB<|by simpa using q s.heap e (Heap.SameBut.refl ..)
 |succ n u=>
  intro i s Q e ht j q;have k:i<a.size:=(L1 j);show bk _ _ (AS (.ref h)>>=_) Q E s;refine bu<|aeK e ht (x:=a[i]) (by simp[k]) λr c b=>?_;refine bu<|mn<|u (i+1) _ _ c (ht.extBut b.extBut o) (L1 j) λm d f=>dB ?_;have hd:a.toList.drop i=a[i]::a.toList.drop (i+1):=by simp[N7,k]
  have:=q m (by rw[show i+(n+1)=i+1+n from(by simp+arith only)];exact d)<|b.trans f;rw[hd,List.take_succ_cons] at this;exact this
theorem aaQ{t:aH}{a:Array ak}{Q:List ak->ay->Prop}{E:ak->ay->Prop}(p:A.handled=U)(i:s.heap.IsList t a)
  (q:∀l,AF s.heap.objs.size s.heap l->Q a.toList {s with heap:=l}):bk (du cx.di cx.w) A (aeO (.ref t) a.size U) Q E s:=by
 have j:t≠s.heap.objs.size:=by refine aB i λo r u=>?_;exact fc<|m0 r
 unfold aeO;refine bu ?_
 ·unfold notIterableAtAll;refine bu<|aeM i.typeIs slot_list_iter.lookup ?_;refine dB ?_;simp only[mY,if_false];refine bu<|mn<|FO i ?_;refine bu<|mn<|aaP j a.size 0 _ _ (dg _ (kv _ J) J J) (i.push _) (by simp+arith only) λm d c=>?_;have hall:List.take a.size (List.drop 0 a.toList)=a.toList:=by
   rw[List.drop_zero];exact adl<|by simp
  rw[hall];rw[a9 (by simp)];have f:=(i.push _).extBut c.extBut j;refine bu<|mn<|wpAny_pyNext_list_end p d f (by simp) λk h=>?_;simp only[Option.isSome_none,mY,if_false];refine dB<|q k λb o hb e=>h b o hb<|c.extBut b o hb<|hJ _ e
end
noncomputable def pW(l:List<|aw×cJ):List aX:=l.map λq=>.Name q.1 q.2
theorem zR:∀(l:List<|aw×cJ),FR (pW l) a=l.map λq=>(C,Fh (.Name q.1 q.2) a)
 |[]=>rfl
 |_::l=>bH _<|zR l
noncomputable def xl(a:cY)(b:List aw):List Nat->List (aw×cJ)->Bool
 |[],[]=>I
 |i::is,q::l=>jn a b i q.1&&xl a b is l
 |_,_=>C
section
variable{g:Gx}{Q:kw->ay->Prop}{j:ak->ay->Prop}
noncomputable def sa(a:List Nat)(b:List V)(l:Lc)(H:Hp):R (Fl×Lc):=match lJ a b l with
 |some l=>.ok (.aU,l) H
 |.none=>.j
theorem aaR(c:List Nat):∀{tl:List<|aw×cJ} {b:List V} {a:List ak} {w:Wt g},xl g.c.aS.scope g.ns c tl=I->aR w.z b a->Ts w (sa c b w.l w.H) Q j->
  bk MM g.A (aeP (tl.map λq=>Fh (.Name q.1 q.2) g.c.aS) a) (λk=>Q .next) j w.s:=by
 induction c with
 |nil=>
  intro tl b a w h r T
  induction tl using aV with
  |cons _ _=>exact bc h
  |nil=>induction b using aV with
   |cons _ _=>exact(T.ne J).elim
   |nil=>induction a using aV with
    |nil=>exact dB<|T.i bl
    |cons _ _=>exact r.elim
 |cons i c d=>
  intro tl b a w h r T
  induction tl using aV with
  |nil=>exact bc h
  |cons t tl=>induction b using aV with
   |nil=>exact(T.ne J).elim
   |cons x b=>induction a using aV with
    |nil=>exact r.elim
    |cons l a=>
     refine ly (uE<|bL h) λk1 e f=>bu<|mn<|FM<|xe g.ok w.S r.1 k1 e f λs S=>?_;obtain⟨m,cs,cm,S,L,F⟩:=S;exact d (w:=⟨w.z,w.H,s,_,m,cs,cm,S,L,F⟩) (bR h) r.2<|T.to .refl
theorem aaS(b:List Nat):∀{a:List V} {l c:Lc},lJ b a l=some c->b.length=a.length:=by
 induction b with
 |nil=>
  intro a l c h
  induction a using aV with
  |nil=>rfl
  |cons _ _=>exact ba h
 |cons i b d=>
  intro a l c h
  induction a using aV with
  |nil=>exact ba h
  |cons x a=>exact congrArg (·+1) (d h)
theorem aaT(a:List Nat):∀{tl:List<|aw×cJ},xl b c a tl=I->a.length=tl.length:=by
 induction a with
 |nil=>
  intro tl h
  induction tl using aV with
  |nil=>rfl
  |cons _ _=>exact bc h
 |cons i a d=>
  intro tl h
  induction tl using aV with
  |nil=>exact bc h
  |cons _ _=>exact bH (·+1)<|d<|bR h
theorem aaU{e:E}{c f:cJ}(u:g.A.handled=U)(G:aeQ [.Tuple (pW tl) k c] p f.line g.c.aS=pure C)(H:aeR [.Tuple (pW tl) k c] p g.c.aS=pure U)
  (L:∀w:Wt g,bj w.f e p)(y:xl g.c.aS.scope g.ns d tl=I):dj g (.iW d e) (.Assign [.Tuple (pW tl) k c] p f):=by
 refineλw Q j T=>Assign_Tuple (T.nx (L w w.p) λq v P le M T=>?_) G H;have T:=T
 cases i:hS v q.H with
 |none=>rw[i] at T;exact(T.ne J).elim
 |some z=>
  rw[i] at T;have T:Ts (w.at q) (sa d z w.l q.H) Q j:=T;refine ek (q.j M i) λa B n N ho hr X=>?_;rw[N,arm_assign_Tuple];refine bu<|u0 ?_;have hlen:(FR (pW tl) g.c.aS).length=B.size:=by
   rw[zR,c5,<-aaT d y]
   cases F:lJ d z w.l with
   |none=>exact(T.ne (by unfold sa;rw[F])).elim
   |some l=>exact(aaS d F).trans hr.j
  have hstar:(FR (pW tl) g.c.aS).findIdx? (·.1)=none:=by
   rw[zR,List.findIdx?_eq_none_iff];exactλx t=>(ej.mp t).elim λq h=>h.2▸J
  unfold unpack;rw[hlen,hstar];have m:∀r,AF q.s.heap.objs.size q.s.heap r->bk MM g.A (aeP ((FR (pW tl) g.c.aS).map (·.2)) B.toList) (λY=>Q .next) j {q.s with heap:=r}:=λr t=>by
   have S:St g.c q.z q.H w.m w.cs {q.s with heap:=r}:=q.st.y [] (λb o e=>t b o (fc<|m0 e) e) (λq i=>ax i eW) xH;rw[zR,rf];exact aaR (w:=⟨q.z,q.H,_,w.l,w.m,w.cs,w.cm,S,q.lo,w.fx⟩) d y hr<|T.to .refl
  rcases ho with ho|ho
  ·exact bu<|mn<|aaQ u (gm ho) m
  ·exact bu<|mn<|wpAny_unpackItems_tuple u (sx ho) m
end
noncomputable def jo(a:List<|aw×aH):List (aw×xM)->List (aw×aH)->List (aw×aH)
 |[],b=>b
 |(n,k)::r,b=>if k== .free then jo a r ((n,(a.lookup n).getD 0)::b) else jo a r b
theorem LQ{a b:List<|aw×aH}{r:List<|aw×xM}:jo a ((n,k)::r) b=if(k== .free)=I then jo a r ((n,(a.lookup n).getD 0)::b) else jo a r b:=rfl
theorem aaV{scope:cY}{b:dA}(h:∀x∈scope.names,x.2=.free->(b.cells.lookup x.1).isSome=I):OA scope b=pure (jo b.cells scope.names []):=by
 unfold OA;have e:∀l (c:List<|aw×aH),(∀x∈l,x.2=.free->(b.cells.lookup x.1).isSome=I)->
   (forIn l c (λx r=>match x with
    |(name,kind)=>if(kind==xL)=I then do
      let a<-cellOf b name
      pure (ad3<|(name,a)::r)
     else pure (ad3 r)):Sem<|List<|aw×aH)=pure (jo b.cells l c):=by
  intro l
  induction l with
  |nil=>intro c _;rw[List.forIn_nil];rfl
  |cons x l j=>
   intro c g;obtain⟨n,k⟩:=x;rw[List.forIn_cons]
   cases d:k==xL with
   |false=>
    simp only[d,mY,if_false];rw[pure_bind];show forIn l c _=_;rw[j c λy i=>g y (.tail _ i)];simp only[jo,d,mY,if_false]
   |true=>
    have hs:=g (n,k) (.head _)<|by simpa using d
    obtain⟨a,m⟩:=AE.mp hs;have hc:cellOf b n=pure a:=by unfold cellOf;rw[m]
    simp only[d,if_true];rw[hc,pure_bind,pure_bind];show forIn l _ _=_;rw[j _ λy i=>g y (.tail _ i)];simp only[jo,d,if_true,m]
    rfl
 have:=e scope.names [] h;simp only[this]
 rfl
theorem aaW{b:List<|aw×aH}{x:aw}(e:b.lookup x=O a):∀{l:List<|aw×xM} {c:List<|aw×aH},c.lookup x=O a->(jo b l c).lookup x=O a:=by
 intro l
 induction l with
 |nil=>
  intro c;intro h;exact h
 |cons g l d=>
  obtain⟨n,k⟩:=g;intro c;intro h;rw[LQ];split
  ·refine d ?_;rw[ot]
   cases hb:x==n with
   |true=>rw[<-beq_iff_eq.mp hb,e];rfl
   |false=>exact h
  ·exact d h
theorem El{b:List<|aw×aH}{x:aw}(d:b.lookup x=O a):∀{l:List<|aw×xM} {c:List<|aw×aH},(x,xL)∈l->(jo b l c).lookup x=O a
 |(n,k)::l,c,h=>by
  rw[LQ]
  rcases d4.mp h with e|h
  ·cases e
   rw[aN (D rfl)];refine aaW d ?_;rw[ot,beq_self_eq_true,d];rfl
  ·split
   ·exact El d h
   ·exact El d h
noncomputable def ki(a scope:cY):cY:={scope with names:=scope.names.map λ(n,k)=>if(k== .free&&a.kind== .function&&a.names.lookup n==O .cell) then(n,.cell) else(n,k)}
noncomputable def pX(b scope:cY)(a:List aw)(x:Nat)(j:aw):Bool:=
 (scope.kind== .function)&&(b.kind== .function)&&scope.names.all (λy=>y.2 != .cell)&&scope.names.all (λy=>y.2 != .free||b.names.lookup y.1==O .cell)&&
 scope.names.all (λy=>y.2 != .local||(y.1==j||y.1==(".0":aw)))&&scope.names.all (λy=>y.2 != .local||scope.names.lookup y.1==O .local)&&(scope.names.lookup j==O .local)&&
 decide a.Nodup&&a.all (λy=>y !=(".0":aw))&&(dy a x==j)&&(j !=⟨#[]⟩)&&decide (x<a.length)
structure n7(sc scope:cY)(ns:List aw)(x:Nat)(j:aw):Prop where
 aq:scope.kind=.function
 aaX:sc.kind=.function
 En:∀y∈scope.names,y.2≠ .cell
 Eo:∀y∈scope.names,y.2=.free->sc.names.lookup y.1=some .cell
 jl:∀y∈scope.names,y.2=.local->y.1=j∨y.1=(".0":aw)
 zS:∀y∈scope.names,y.2=.local->scope.names.lookup y.1=some .local
 LR:scope.names.lookup j=some .local
 nd:ns.Nodup
 nz:∀y∈ns,y≠(".0":aw)
 aJ:dy ns x=j
 ne:j≠⟨#[]⟩
 lt:x<ns.length
theorem zT{g scope:cY}{x:Nat}{j:aw}(h:pX g scope i x j=I):n7 g scope i x j:=by
 unfold pX at h;simp only[ol,beq_iff_eq,lr,bne_iff_ne,uP,decide_eq_true_eq] at h;obtain⟨⟨⟨⟨⟨⟨⟨⟨⟨⟨⟨k,h2⟩,l⟩,h4⟩,m⟩,o⟩,p⟩,r⟩,s⟩,b⟩,c⟩,d⟩:=h;exact⟨k,h2,l,λy a e=>(h4 y a).resolve_left λq=>q e,λy a e=>(m y a).resolve_left λq=>q e,λy a e=>(o y a).resolve_left λq=>q e,p,r,s,b,c,d⟩
theorem xm{b:Type}{x:aw}{a:b}:∀{cs:List<|aw×b},cs.lookup x=O a->(x,a)∈cs:=by
 intro cs
 induction cs with
 |nil=>
  intro h;exact ba h
 |cons d cs e=>
  obtain⟨n,c⟩:=d;intro h;rw[ot] at h
  cases hb:x==n with
  |true=>rw[hb] at h;cases h;rw[beq_iff_eq.mp hb];exact .head _
  |false=>rw[hb] at h;exact .tail _<|e h
theorem aaY{a scope:cY}(d:a.kind=.function)(b:∀y∈scope.names,y.2=.free->a.names.lookup y.1=O .cell)(x:aw):(ki a scope).names.lookup x=(scope.names.lookup x).map λk=>if k== .free then .cell else k:=by
 show(scope.names.map _).lookup x=_;generalize scope.names=l at b
 induction l with
 |nil=>rfl
 |cons y l g=>
  obtain⟨n,k⟩:=y;have c:=g λy h=>b y<|.tail _ h;rw[iQ,ot];have e:(if(k==xL&&a.kind== .function&&a.names.lookup n==O .cell)=I then(n,ad4) else(n,k))=(n,if(k== .free)=I then .cell else k):=by
   cases hb:k==xL with
   |false=>simp
   |true=>
    have:=b (n,k) (.head _)<|by simpa using hb
    simp[d,this]
  show Fd x ((if(k==xL&&a.kind== .function&&a.names.lookup n==O .cell)=I then(n,ad4) else(n,k))::_)=_;rw[e,ot,ot]
  cases x==n with
  |true=>rfl
  |false=>exact c
section
variable{f:Fx}{scope:cY}{x:Nat}{j:aw}{B:aH}
noncomputable def Fx.jU(f:Fx)(scope:cY)(B:aH):dA:=compEnvC scope (jo f.bo.cells scope.names []) B f.bo
theorem zU(a:n7 f.bo.scope scope f.g.ns x j):OA scope f.bo=pure (jo f.bo.cells scope.names []):=
 aaV λy b e=>f.dZ _<|a.Eo y b e
theorem zV(a:n7 f.bo.scope scope f.g.ns x j)(y:aw):(f.jU scope B).kindOf y=(scope.names.lookup y).map λk=>if k== .free then .cell else k:=
 aaY a.aaX a.Eo y
theorem LS(b:n7 f.bo.scope scope f.g.ns x j){y:aw}(h:scope.names.lookup y=O .free):f.bo.kindOf y=O .cell/\∃a,f.bo.cells.lookup y=O a/\(jo f.bo.cells scope.names []).lookup y=O a:=by
 have c:=b.Eo (y,.free) (xm h) J;obtain⟨a,d⟩:=AE.mp<|f.dZ _ c;exact⟨c,a,d,El d<|xm h⟩
theorem aaZ(b:n7 f.bo.scope scope f.g.ns x j)(y:aw)(d:(f.jU scope B).kindOf y=some .cell):((f.jU scope B).cells.lookup y).isSome=true:=by
 rw[zV b] at d;refine aB (fV.mp d) λk c e=>?_
 by_cases g:k=.free
 ·rw[g] at c;obtain⟨_,a,_,h⟩:=LS b c;exact AE.mpr ⟨a,h⟩
 ·rw[beq_eq_false_iff_ne.mpr g] at e;exact ax e<|b.En (y,k)<|xm c
theorem Ep{a:List aw}(h:dy a i≠⟨#[]⟩):a[i]? =O (dy a i):=by
 unfold dy at h⊢;rw[Al] at h⊢
 cases e:a[i]? with
 |none=>rw[e] at h;exact ax J h
 |some x=>rfl
theorem aa0{P:aW}{d:PO}{c:Array eB}{m:Nat}{v:V}{pv:ak}{z:Zs}(b:n7 f.bo.scope scope f.g.ns x j)(w:∀q∈f.g.c.P,q∈P)(y:(B,d)∈P)(A:d.data=.dict c m)(F:Fw c)(G:Fj c j=O pv)(r:aA z v pv)
  (H:g9 (dy f.g.ns) f.g.c f.bo z f.m f.cs f.l):g9 (dy f.g.ns) (f.g.c.P' P) (f.jU scope B) z f.m f.cs (f.l.set x<|O v):=by
 intro i u e
 by_cases g:i=x
 ·rw[g] at e⊢;rw[oi (by have:=(fK.mp e).1;rwa [sM] at this)] at e;rw[<-cT (cT e)];refine aD pv r ?_;rw[b.aJ];unfold lZ;rw[zV b,b.LR];exact .inr<|f5 d c m y A F G
 ·rw[mT (eH g)] at e;refine aB (H i u e) λq L V=>aD q L ?_;unfold lZ at V⊢;rw[zV b]
  cases l:scope.names.lookup (dy f.g.ns i) with
  |none=>trivial
  |some k=>cases k with
   |free=>
    obtain⟨M,a,h2,N⟩:=LS b l;rw[M] at V;refine cV V λY o Q p X=>?_;rw[<-cT (h2.symm.trans Q)] at p;exact cL a o N ((eV.mp p).elim (λh=>fh _<|w _ h)<|dm _) X
   |«local»=>
    exfalso
    rcases b.jl _ (xm l) J with q|q
    ·have q:dy f.g.ns i=j:=q;have s:=Ep<|q▸b.ne;have t:=Ep<|b.aJ▸b.ne;rw[q,<-b.aJ,<-t] at s;exact g ((List.getElem?_inj (fK.mp t).1 b.nd).mp s.symm).symm
    ·have q:dy f.g.ns i=(".0":aw):=q;exact b.nz _ (mi<|Ep<|q▸by decide) q
   |cell=>exact absurd J<|b.En _<|xm l
   |_=>trivial
end
section
variable{A:dN}
variable{c:Fm}{z:Zs}{H:Hp}{m:aw->Option ak}{cs:aW}{s:ay}{g:cz}{i:List aW}
theorem bG.sE{P a:aW}(S:bG (c.P' P) z H m cs s g i)(h:a.Perm P):bG (c.P' a) z H m cs s g i:=by
 have hp:(bP (c.P' a) z cs i).Perm (bP (c.P' P) z cs i):=uV _ h;exact S.y (λq b=>hp.mem_iff.mp b) ((hp.map _).nodup_iff.mpr S.nd) S.cX
theorem bG.LU{P:aW}{b:Array ak}(S:bG (c.P'<|(a,c3 b n)::P) z H m cs s g i)(r:aR z d b.toList)(e:b.size<=eI):
  bG (c.P' P) ⟨z.Z,z.ad++[a]⟩ (H++[.af d]) m cs s g (i++[[(a,c3 b n)]]):=by
 have hp:(bP (c.P' P) ⟨z.Z,z.ad++[a]⟩ cs<|i++[[(a,c3 b n)]]).Perm (bP (c.P'<|(a,c3 b n)::P) z cs i):=by
  have:=Ky (c.P' P) z cs i [(a,c3 b n)] a;exact this
 exact S.y (λq f=>hp.mem_iff.mp f) ((hp.map _).nodup_iff.mpr S.nd)<|S.cX.q<|.af r e
theorem bG.q{P:aW}(S:bG (c.P' P) z H m cs s g i){q:aH×PO}(h:q∈P):s.heap.get? q.1=O q.2:=(S.nw q<|fh _ h).1
end
theorem aa1{r:R<|List V}:((r.i λa H=>R.ok (u::a) H).i λb H=>R.ok (a++b) H)=r.i λb H=>.ok (a++[u]++b) H:=by
 induction r using R.casesOn with
 |ok b H=>show R.ok (a++u::b) H=R.ok (a++[u]++b) H;rw[b6];rfl
 |q _=>rfl
 |j=>rfl
theorem aa2{r:R<|List V}:(r.i λa H=>R.ok ([]++a) H)=r:=by cases r<;>rfl
structure Tc(f:Fx)(P:aW)(a Cd:aH)(z₀:Zs)(r:R (List V))(K:ay->Prop):Prop where
 ne:r≠ .j
 ok:∀us z H s ys n oC mC,r=.ok us H->z₀.le z->St (f.g.c.P' ((Cd,oC)::(a,c3 ys n)::P)) z H f.m f.cs s->s.heap.Ns Cd mC->aR z us ys.toList->ys.size<=eI->K s
inductive aa3(f:Fx)(P:aW)(a Cd b:aH)(z₀ z₁:Zs)(It:cz->aH->Nat->Prop)(fb:V->Hp->R V)(xs:List V)(K:ay->Prop)(n:Nat)(s:ay):Prop
 |mk (k:Nat) (z:Zs) (H:Hp) (oI oC:PO) (mC:aw->Option ak) (us:List V) (ys:Array ak) (ny:Nat) (hn:n=xs.length-k) (hk:k<=xs.length) (le:z₁.le z) (S:St (f.g.c.P' ((b,oI)::(Cd,oC)::(a,c3 ys ny)::P)) z H f.m f.cs s) (hI:It s.heap b k) (hC:s.heap.Ns Cd mC) (hr:aR z us ys.toList) (hz:ys.size=k)
  (T:Tc f P a Cd z₀ ((eZ fb (xs.drop k) H).i λvs H=>.ok (us++vs) H) K)
theorem aa4{j:V->Hp->R V}{v:V}{r:List V}{H:Hp}{l:List V}{f:Fx}{P:aW}{d t:aH}{i:Zs}{K:ay->Prop}{w:Fx}{p:Pt w}{Q:ak->ay->Prop}{E:ak->ay->Prop}(T:Tc f P d t i ((eZ j (v::r) H).i λo H=>.ok (l++o) H) K)
  (k:∀(q:Pt w) a b,p.le q->aA q.z a b->Tc f P d t i ((eZ j r q.H).i λo H=>.ok (l++[a]++o) H) K->Q b q.s):Tk aA p (j v H) Q E:=by
 have e:∀{x},j v H=x->eZ j (v::r) H=match x with|.ok u H=>(eZ j r H).i λl H=>.ok (u::l) H|_=>.j:=λe=>e▸J
 exact⟨λq=>T.ne (by rw[e q];rfl),λq a b h le rl=>k q a b le rl (by rw[e h] at T;exact aa1▸T),λx s y B q=>ax (by rw[e q];rfl) T.ne⟩
theorem aa5{f:Fx}{P:aW}{p:cY}{x:Nat}{tn:aw}{It:cz->aH->Nat->Prop}{val:Nat->ak->Prop}{src:cz->Prop}{K:List V}{d j F:aH}{px:cJ}{e:E}{pe iter:aX}{pos:cJ}{oI oC:PO}{mC:aw->Option ak}{Rr:s7->ay->Prop}{z G:Zs}{H:Hp}{s:ay}(hP:∀q∈f.g.c.P,q∈P)
  (l:n7 f.bo.scope p f.g.ns x tn)(Ru:uF f.g.A It K.length val src)(he:∀f':Fx,(∃P hP,f'.g=f.g.wP P hP)->f'.bo.scope=ki f.bo.scope p->bj f' e pe)(hbig:K.length<=eI)
  (hv:∀k pv v z',z.le z'->val k pv->K[k]? =O v->aA z' v pv)(hs:∀{z' H m cs s h i o Q},z.le z'->bG (f.g.c.P'<|(d,o)::(Q++P)) z' H m cs s h i->src s.heap)
  (Lo:g9 (dy f.g.ns) f.g.c f.bo z f.m f.cs f.l)(le₀:G.le z)(S₀:St (f.g.c.P'<|(d,oI)::(F,oC)::(j,c3 #[] 0)::P) z H f.m f.cs s)(hI:It s.heap d 0)(hCd:s.heap.Ns F mC)
  (T:Tc f P j F G (eZ (λv H=>az f.g.ag e (f.l.set x<|O v) H) K H)<|Rr<|.ok .next):
  kA MM f.g.A (.compLoop (.ListComp pe [⟨.Name tn px,iter,[],0⟩] p pos) 0 (.ref d) (.ref j)<|f.jU p F) Rr s:=by
 refine codeAny_compLoop_list (aa3 f P j F d G z It (λv H=>az f.g.ag e (f.l.set x<|O v) H) K<|Rr<|.ok .next) ?_ K.length ⟨0,z,H,oI,oC,mC,[],#[],0,J,dG _,.refl,S₀,hI,hCd,aR.nil,J,aa2.symm▸T⟩;intro n s inv;obtain⟨k,L,H,oI,oC,mC,us,ys,ny,hn,hk,le,⟨h,i,S⟩,hI,hC,hr,hz,T⟩:=inv;have ndP:d≠F:=by
  have nd:=S.nd;simp only[bP,kS,iQ,iR,d4,not_or] at nd;exact nd.1.1
 have r:∀{a b c:aH×PO},∀q∈f.g.c.P,q∈a::b::c::P:=λq hq=>.tail _<|.tail _<|.tail _<|hP q hq
 by_cases w:k<K.length
 ·refine Ru.xi s d k _ _ hI (hs (Q:=[(F,oC),(j,c3 ys ny)]) le S) w λpv h' tk hval M hsb=>?_;obtain⟨y,B⟩:=Ru.gh _ _ _ M;have hkC:(f.jU p F).kindOf tn=O .local:=by rw[zV l,l.LR];rfl
  refine FM<|aeE hkC (hC.sameBut hsb<|eH ndP) (λh₃ hn₃ hs₃=>?_) (by show(p.kind==ScopeKind.class||(p.kind==ScopeKind.module&&_))=C;rw[l.aq];rfl);refine ek (id hn₃) λt es ep W N X Y=>?_;have S₃:=(((S.xh hsb B).sE<|ou _ _ _).xh (tk:=tk+1) hs₃ W).sE<|ou _ _ _;rw[N7 w] at T;have rel:=hv k pv K[k] L le hval (li w)
  let f':Fx:=⟨f.g.wP ((d,y)::(F,t)::(j,c3 ys ny)::P) r,f.jU p F,f.m,f.cs,f.l.set x<|O K[k],f.jP,f.hW,l.aq,aaZ l⟩
  refine he f' ⟨_,r,J⟩ J ⟨L,H,_,⟨h,i,S₃⟩,aa0 l r (.tail _<|.head _) N X ((Y tn).trans<|aN J) rel<|Lo.au le⟩ _ _<|aa4 T λq u py le' ru T=>?_;obtain⟨h₄,lvs₄,S₄⟩:=id q.st;refine append_at (hsz:=sU<|iP (hz▸w) hbig) (S₄.q<|.tail _<|.tail _<|.head _) λh₅ hsb₅ ho₅=>?_;have Z:=((S₄.sE<|(ou _ _ _).trans<|AC _<|ou _ _ _).xh (tk:=q.s.toks) hsb₅ ho₅).sE<|(AC (d,y)<|ou _ (F,t) _).trans<|ou _ _ _;exact⟨_,hn▸adZ w (sP k),k+1,q.z,q.H,y,t,_,us++[u],ys.push py,_,J,w,le.q le',⟨h₄,lvs₄,Z⟩,Ru.fy _ _ _ _ M<|(Z.q<|.head _).trans B.symm,f5 t es ep (Z.q<|.tail _<|.head _) N X Y,Lk (aR.au le' _ _ hr) ru,by rw[adQ,hz],T⟩
 ·obtain rfl:k=K.length:=Aw hk<|sO w;refine Ru.d9 s d _ _ (f.g.gR.at r S) (f.g.gR.ne (λq hq=>.tail _<|.tail _<|hP q hq) S) hI (hs (Q:=[(F,oC),(j,c3 ys ny)]) le S) λh' hx=>?_;rw[Ny] at T;exact T.ok us L H _ ys ny oC mC (by show R.ok (us++[]) H=_;rw[cN]) (le₀.q le) ⟨h,i,S.zO hx⟩ (hC.extBut hx<|eH ndP) hr<|hz▸hbig
section
variable{f:Fx}{P:aW}{scope:cY}{x:Nat}{j:aw}
theorem Er{It:cz->aH->Nat->Prop}{val:Nat->ak->Prop}{src:cz->Prop}{Z:List V}{a:aH}{px:cJ}{e:E}{pe r:aX}{F:cJ}{K:PO}{RR:ak->aH->s7->ay->Prop}{Ee:ak->ay->Prop}{z t:Zs}{H:Hp}{s:ay}(R:∀q∈f.g.c.P,q∈P)
  (c:n7 f.bo.scope scope f.g.ns x j)(Ru:uF f.g.A It Z.length val src)(he:∀S:Fx,(∃P R,S.g=f.g.wP P R)->S.bo.scope=ki f.bo.scope scope->bj S e pe)(G:Z.length<=eI)
  (hv:∀k pv v L,z.le L->val k pv->Z[k]? =O v->aA L v pv)(hs:∀{L H m cs s h w o Q},z.le L->bG (f.g.c.P'<|(a,o)::(Q++P)) L H m cs s h w->src s.heap)
  (Lo:g9 (dy f.g.ns) f.g.c f.bo z f.m f.cs f.l)(A:t.le z)(i:St (f.g.c.P'<|(a,K)::P) z H f.m f.cs s)(hI:It s.heap a 0)
  (B:∀k W (Q:ak->ay->Prop) (E:ak->ay->Prop),It W.heap a k->Q (.ref a) W->bk MM f.g.A (FN<|.ref a) Q E W)
  (T:∀d Cd,Tc f P d Cd t (eZ (λv H=>az f.g.ag e (f.l.set x<|O v) H) Z H)<|RR (.ref d) Cd<|.ok .next):
  bk MM f.g.A (AH []) (λM N=>bk MM f.g.A (OB scope f.bo.globals (jo f.bo.cells scope.names []) [] f.bo.qual U .none<|O f.bo) (λjU X=>kA MM f.g.A (.compStart (.ListComp pe [⟨.Name j px,r,[],0⟩] scope F) 0 (.ref a) M {jU with scope:=OC scope f.bo}) (RR M jU.locals) X) Ee N) Ee s:=by
 refine uY<|wpAny_newFunctionEnv c.En (by intro y hy;simp at hy) (λh₁ g l=>?_) c.aq
 dsimp only at g l⊢
 obtain⟨h,w,i⟩:=i;have Y:=i.j (tk:=s.toks) (λb o e=>hJ (c3 #[] 0) e) (kv _ J)<|bF _;refine ek (id g) λoC es ep hoC hdC hkC hfC=>?_;have u:=Y.j (tk:=s.toks+([]:List<|aw×ak).length) (λb o e=>l.extBut b o (fc<|m0 e)<|hJ _ e) hoC<|bF _;have p:=Ru.fy _ _ _ _ hI<|(u.q<|.tail _<|.tail _<|.head _).trans (i.q<|.head _).symm;have pm:((a,K)::((s.heap.push<|c3 #[] 0).objs.size,oC)::(s.heap.objs.size,c3 #[] 0)::P).Perm (((s.heap.push<|c3 #[] 0).objs.size,oC)::(s.heap.objs.size,c3 #[] 0)::(a,K)::P):=
  (ou _ _ _).trans<|AC _<|ou _ _ _
 have loop:=aa5 (iter:=r) (pos:=F) (px:=px) R c Ru he G hv hs Lo A ⟨h,w,u.sE pm⟩ p g<|T _ _;exact codeAny_compStart_list loop<|B 0 _ _ _ p loop
theorem LV{e:E}{N:ak->aH->s7->ay->Prop}{Z:ak->ay->Prop}{q:Pt f}(w:aA q.z v pv)
  (c:n7 f.bo.scope scope f.g.ns x j)(he:∀K:Fx,(∃P hP,K.g=f.g.wP P hP)->K.bo.scope=ki f.bo.scope scope->bj K e pe)
  (T:∀d o,Tc f f.g.c.P d o q.z (yh v q.H λm H=>eZ (λv H=>az f.g.ag e (f.l.set x<|O v) H) m H)<|N (.ref d) o<|.ok .next):
  bk MM f.g.A (FN pv) (λit A=>bk MM f.g.A (AH []) (λB F=>bk MM f.g.A (OB scope f.bo.globals (jo f.bo.cells scope.names []) [] f.bo.qual U .none<|O f.bo) (λjU G=>kA MM f.g.A (.compStart (.ListComp pe [⟨.Name j px,y,[],0⟩] scope Y) 0 it B {jU with scope:=OC scope f.bo}) (N B jU.locals) G) Z F) Z A) Z q.s:=by
 obtain⟨h,L,S⟩:=id q.st;have T:(∀m,v≠ .u m)/\∀d o,Tc f f.g.c.P d o q.z (rG v q.H λm H=>eZ (λv H=>az f.g.ag e (f.l.set x<|O v) H) m H) (N (.ref d) o<|.ok .next):=by
  refine dn λkk=>?_
  induction v using V.casesOn with
  |u m=>exact(T 0 0).ne J
  |_=>exact kk ⟨nofun,T⟩
 refine LF (λr=>∀d o,Tc f f.g.c.P d o q.z r<|N (.ref d) o<|.ok .next) T.2 (λT=>(T 0 0).ne J) (λm e _=>ax e<|T.1 m) (λm e T=>?_) λi m e ho T=>?_<;>rw[e] at w
 ·refine ek w λa X n ea M p hr=>?_;rw[ea];exact FO (gm<|q.st.i a M)<|Er (It:=λh g k=>h.IsListIter g a k) (λ_ h=>h) c ((show m.length=X.size from hr.j)▸Eb) he (by rw[hr.j];exact p) (λk pv v z' le R h2=>(aR.au le _ _ hr).at R h2) (λle S=>gm<|S.i a<|le.dZ M) q.lo .refl
   ⟨h,L,S.j (λb o' e=>hJ _ e) (kv _ J)<|bF _⟩ (dg _ (kv _ J) J J) (λk s' Q E W q=>aeS W q) T
 ·refine ek (bG.rG S ho) λa X n M hr p t=>?_;rw[jR w M];exact FO (gm<|(t.nw (a,c3 X n)<|.head _).1)<|Er (It:=λh g k=>h.IsListIter g a k) (λ_ h=>.tail _ h) c ((show m.length=X.size from hr.j)▸Eb) he (by rw[hr.j];exact p) (λk pv v z' le R h2=>(aR.au le _ _ hr).at R h2) (λle S=>gm<|S.q<|.tail _<|dm _<|.head _) q.lo .refl
   ⟨h,_,t.j (λb o' e=>hJ _ e) (kv _ J)<|bF _⟩ (dg _ (kv _ J) J J) (λk s' Q E W q=>aeS W q) λd o=>
    ⟨λe=>(T d o).ne (by rw[e];rfl),λus z H s ys n' oC mC e le ⟨h,L,S⟩ hC hr' hz=>(T d o).ok us z _ s ys n' oC mC (by rw[e];rfl) le (((S.sE<|(ou _ _ _).trans<|AC _<|ou _ _ _).ry (le.at M) (aR.au le _ _ hr) p).elim λl S=>⟨h,l,S⟩) hC hr' hz⟩
theorem LW{r:R<|List V}{Q E:ak->ay->Prop}{q:Pt f}(T:Tk aA q (r.i λd H=>.ok (.ae H.length)<|H++[.af d]) Q E)(a c:aH):Tc f f.g.c.P a c q.z r (aej MM f.g.A E U Q (.ref a) c<|.ok .next):=
 ⟨λe=>T.ne (by rw[e];rfl),λl z H s m n oC g e le ⟨h,i,S⟩ j hr k=>aD g j λo hs=>by
  rw[e] at T;have b:=(S.zO hs.extBut).LU hr k;exact T.ok (q.i ⟨h,_,b⟩<|le.q .ce) _ _ J (le.q .ce)<|aD a J (by rw[S.cX.bK];exact mU)⟩
theorem LX{e i:E}(m:∀(d:dA) (x:ak),u4 b d x=pure x)(a:pX f.bo.scope scope f.g.ns x j=I)(g:bj f i b)(o:∀h:Fx,(∃P r,h.g=f.g.wP P r)->h.bo.scope=ki f.bo.scope scope->bj h e k):
  bj f (.i e x i) (.ListComp k [⟨.Name j l,b,[],0⟩] scope c):=λp Q E T=>by
 rw[aeT];have a:=zT a;exact FS J (m f.bo) (zU a) a.aq a.zS<|(g p).nx (λq v t le s T=>LV s a o<|LW T) T
theorem Tk.cg{b c:Type}{a:Zs->b->c->Prop}{p:Pt f}{r r':R b}{Q:c->ay->Prop}{E:ak->ay->Prop}(e:r=r')(T:Tk a p r Q E):Tk a p r' Q E:=e▸T
theorem LY{A:ak}{e:E}{B l:aX}{F:ak->aH->s7->ay->Prop}{q:Pt f}(N:f.g.A.handled=U)(X:LJ q.z n A)
  (c:n7 f.bo.scope scope f.g.ns x j)(Y:∀y:Fx,(∃P Z,y.g=f.g.wP P Z)->y.bo.scope=ki f.bo.scope scope->bj y e B)
  (T:∀d G,Tc f f.g.c.P d G q.z (eZ (λv H=>az f.g.ag e (f.l.set x<|O v) H) ((kl n).map λ(i:Nat)=>V.aa (i:Int)) q.H)<|F (.ref d) G<|.ok .next):
  bk MM f.g.A (FN A) (λit m=>bk MM f.g.A (AH []) (λo p=>bk MM f.g.A (OB scope f.bo.globals (jo f.bo.cells scope.names []) [] f.bo.qual U .none<|O f.bo) (λjU r=>kA MM f.g.A (.compStart (.ListComp B [⟨.Name j M,l,[],0⟩] scope s) 0 it o {jU with scope:=OC scope f.bo}) (F o jU.locals) r) w p) w m) w q.s:=by
 obtain⟨L,a,t,u,v,e,K⟩:=X;rw[e];refine aeL (q.st.i a K) (LG<|sQ.mpr L) ?_;have hlen:((kl n).map λ(i:Nat)=>V.aa (i:Int)).length=n:=by rw[c5,ad0]
 obtain⟨h,z,S⟩:=id q.st;refine Er (It:=λh g k=>k<=n/\Oy h g k ((n:Int)-k) 1) (val:=λk x=>∃t,x=.int k t) (src:=λξ=>True) (λ_ h=>h) c (hlen.symm▸LA N) Y (by rw[hlen,iz];exact L) (λk pv v z' le R h2=>R.elim λt e=>by rw[e,LK h2];exact jS) (λ_ _=>bl) q.lo .refl
  ⟨h,z,S.j (λb o' e=>hJ _ e) (kv _ J)<|bF _⟩ ⟨dG _,?_⟩ (λk s' Q E W q=>wpAny_pyIter_rangeiter W.2 q) T
 have:=kv q.s.heap (o:={cls:=.type "range_iterator",data:=.fields #[ls 0,ls (N8 0 n 1),ls 1]}) J;rw[LH] at this⊢;rw[show(n:Int)-((0:Nat):Int)=n from ad1 _];exact this
theorem LZ{e d:E}{m b:aX}{r g o c:cJ}(s:f.g.A.handled=U)(t:gq cx.K ez "range"=O U)(u:iv f.bo.scope "range"=I)(w:fJ b=I)(y:∀(h:dA) (x:ak),u4 (.Call (.Name "range" o) [b] [] c) h x=pure x)
  (a:pX f.bo.scope scope f.g.ns x j=I)(k:bj f d b)(z:∀l:Fx,(∃P A,l.g=f.g.wP P A)->l.bo.scope=ki f.bo.scope scope->bj l e m):
  bj f (.lE e x d) (.ListComp m [⟨.Name j r,.Call (.Name "range" o) [b] [] c,[],0⟩] scope g):=λp Q E T=>by
 rw[aeT];have a:=zT a;exact FS J (y f.bo) (zU a) a.aq a.zS<|(Eg t u w k).nx (λq n G le B T=>LY s B a z<|LW T)
  (Tk.cg (Ef (az f.g.ag d f.l p.H) λn H=>(eZ (λv H=>az f.g.ag e (f.l.set x<|O v) H) ((kl n).map λ(i:Nat)=>V.aa (i:Int)) H).i λF H=>.ok (V.ae H.length)<|H++[.af F]) T)
end
theorem aa6{h a:cz}(b:h.Ns d m)(c:h.get? d=O o)(f:a.get? d=O o):a.Ns d m:=by
 refine ek b λr j k q hd l p=>?_;rw[c] at q;exact f5 o j k f (cT q▸hd) l p
section
variable{g:Gx}{Q:kw->ay->Prop}{F:ak->ay->Prop}{scope:cY}{x i:Nat}{B y:aw}{e it:E}{M j:aX}{G N u spos np cpos:cJ}
theorem L0{w:Wt g}{q:Pt w.f}{r:R<|List V}(T:Ts (w.at q) (r.i λG H=>.ok (.aU,w.l.set i<|O<|.ae H.length)<|H++[.af G]) Q F)(L:jn g.c.aS.scope g.ns i y=I)(a u:aH):
  Tc w.f g.c.P a u q.z r (aej MM g.A F (O<|Fh (.Name y N) g.c.aS) (λ_=>Q .next) (.ref a) u<|.ok .next):=
 ⟨λe=>T.ne (by rw[e];rfl),λus z H s ys n oC M e le ⟨h,P,S⟩ X hr Y=>by
  rw[e] at T;have k:=(S.sE<|ou _ _ _).LU hr Y;obtain⟨A,v,l⟩:=id q.st;have Z:∀q∈g.c.P,q∈(u,oC)::g.c.P:=λq K=>.tail _ K;refine ly (uE L) λW h2 h3=>FM<|xe (c:=g.c.P'<|(u,oC)::g.c.P) (v:=.ae H.length) (g.wP _ Z).ok ⟨w.m,w.cs,w.cm,⟨h,_,k⟩,(sD l w.fx g.ok.jl q.lo).au<|le.q .ce,sy.re w.fx⟩ (aD a J (by rw[S.cX.bK];exact mU)) W h2 h3 λB m=>?_;obtain⟨o,f,j,⟨p,c,b⟩,t,d⟩:=m;exact aD M (aa6 X (S.q<|.head _)<|b.q<|.head _) λh' hs=>T.st ⟨o,f,j,⟨p,c,b.zO hs.extBut⟩,sD b d.re g.ok.jl t,d.re⟩ (le.q .ce) bl⟩
theorem L5{pv:aX}{w:Wt g}(a:oy (.ListComp M [⟨.Name B G,j,[],0⟩] scope u) (O<|.Name y N) spos.line g.c.aS=pure I)
  (h:bk MM g.A (afh (.ListComp M [⟨.Name B G,j,[],0⟩] scope u) scope g.c.aS (firstIterPos [⟨.Name B G,j,[],0⟩] u) (AH []) (firstAsync [⟨.Name B G,j,[],0⟩]) (firstIter [⟨.Name B G,j,[],0⟩] g.c.aS)<|O<|Fh (.Name y N) g.c.aS) (λ_=>Q .next) F w.s):
  bk MM g.A (exec (.Assign [.Name y N] (.ListComp M [⟨.Name B G,j,[],0⟩] scope u) spos) g.c.aS) Q F w.s:=by
 rw[exec_Assign_Name_used _ _ _ _ a];refine bu<|u0<|bu ?_;exact bu<|mm h (λb d c=>dB<|dB c) λb b e=>e
theorem L6{r:R<|List V}{w:Wt g}(T:Ts w ((r.i λa H=>R.ok (V.ae H.length)<|H++[.af a]).i λv H=>.ok (.aU,w.l.set i<|O v) H) Q F):Ts w (r.i λa H=>.ok (.aU,w.l.set i<|O<|.ae H.length)<|H++[.af a]) Q F:=by
 cases r<;>exact T
theorem aa7(b:oy (.ListComp M [⟨.Name B G,j,[],0⟩] scope u) (O<|.Name y N) spos.line g.c.aS=pure I)(m:∀(c:dA) (x:ak),u4 j c x=pure x)(a:pX g.c.aS.scope scope g.ns x B=I)
  (d:∀w:Wt g,bj w.f it j)(o:∀f:Fx,(∃P p,f.g=g.wP P p)->f.bo.scope=ki g.c.aS.scope scope->bj f e M)(r:jn g.c.aS.scope g.ns i y=I):dj g (.i i<|.i e x it) (.Assign [.Name y N] (.ListComp M [⟨.Name B G,j,[],0⟩] scope u) spos):=λw Q F T=>by
 have a:=zT a;have T:Ts w ((az g.ag it w.l w.H).i λv H=>((yh v H λk H=>eZ (λv H=>az g.ag e (w.l.set x<|O v) H) k H).i λl H=>R.ok (V.ae H.length)<|H++[.af l]).i λv H=>.ok (.aU,w.l.set i<|O v) H) Q F:=by
  have T:Ts w (((az g.ag it w.l w.H).i λv H=>(yh v H λk H=>eZ (λv H=>az g.ag e (w.l.set x<|O v) H) k H).i λl H=>R.ok (V.ae H.length)<|H++[.af l]).i λv H=>.ok (.aU,w.l.set i<|O v) H) Q F:=T
  cases h:az g.ag it w.l w.H<;>rw[h] at T<;>exact T
 exact L5 (pv:=j) b<|FS J (m _) (zU (f:=w.f) a) a.aq a.zS<|T.nx (d w w.p) λq v t le s T=>LV s a o<|L0 (L6 T) r
theorem aa8(l:g.A.handled=U)(m:gq cx.K ez "range"=O U)(o:iv g.c.aS.scope "range"=I)(p:fJ j=I)
  (b:oy (.ListComp M [⟨.Name B G,.Call (.Name "range" np) [j] [] cpos,[],0⟩] scope u) (O<|.Name y N) spos.line g.c.aS=pure I)(s:∀(c:dA) (x:ak),u4 (.Call (.Name "range" np) [j] [] cpos) c x=pure x)(a:pX g.c.aS.scope scope g.ns x B=I)
  (d:∀w:Wt g,bj w.f it j)(t:∀f:Fx,(∃P z,f.g=g.wP P z)->f.bo.scope=ki g.c.aS.scope scope->bj f e M)(A:jn g.c.aS.scope g.ns i y=I):dj g (.i i<|.lE e x it) (.Assign [.Name y N] (.ListComp M [⟨.Name B G,.Call (.Name "range" np) [j] [] cpos,[],0⟩] scope u) spos):=λw Q F T=>by
 have a:=zT a;have T:Ts w (((az g.ag it w.l w.H).i zP).i λn H=>((eZ (λv H=>az g.ag e (w.l.set x<|O v) H) ((kl n).map λ(i:Nat)=>V.aa (i:Int)) H).i λk H=>R.ok (V.ae H.length)<|H++[.af k]).i λv H=>.ok (.aU,w.l.set i<|O v) H) Q F:=by
  have T:=Ts.cg (bH (λr:R V=>r.i λv H=>R.ok (Fl.aU,w.l.set i<|O v) H)<|Ef (az g.ag it w.l w.H) λn H=>(eZ (λv H=>az g.ag e (w.l.set x<|O v) H) ((kl n).map λ(i:Nat)=>V.aa (i:Int)) H).i λk H=>.ok (V.ae H.length)<|H++[.af k]) T
  cases h:(az g.ag it w.l w.H).i zP<;>rw[h] at T<;>exact T
 exact L5 (pv:=j) b<|FS J (s _) (zU (f:=w.f) a) a.aq a.zS<|T.nx (Eg m o p<|d w) λq n X le L T=>LY l L a t<|L0 (L6 T) A
end
theorem Zs.i{z:Zs}:z.le ⟨q::z.Z,z.ad⟩:=⟨λa h=>.tail _ h,[],(cN _).symm⟩
theorem aa9{M:Type}[DecidableEq M]:∀(more a:List<|M×ak),((a++more).map (·.1)).Nodup->FT a more=a++more:=by
 intro more
 induction more with
 |nil=>
  intro a k;simp[FT]
 |cons b more d=>
  intro a h;have i:a.any (λq=>decide (q.1=b.1))=false:=by
   rw[adN];intro q j e;rw[dz,mZ] at h;exact h.2.2 q.1 (om j) b.1 (by simp)<|D e
  have e1:stored a b.1 b.2=a++[b]:=by
   unfold stored;rw[i];rfl
  have e2:FT a (b::more)=FT (stored a b.1 b.2) more:=J;rw[e2,e1,d (a++[b]) (by simpa using h)];simp
section
variable{c:Fm}{z:Zs}{H:Hp}{m:aw->Option ak}{cs:aW}{s:ay}{g:cz}{G:List aW}
theorem bG.toZ{P:aW}(S:bG (c.P'<|(d,o)::P) z H m cs s g G):bG (c.P' P) ⟨(d,o)::z.Z,z.ad⟩ H m cs s g G:=by
 have hp:=Kx (c.P' P) z cs G [(d,o)];exact S.y (λq a=>hp.mem_iff.mp a) ((hp.map _).nodup_iff.mpr S.nd)<|S.cX.au λq h=>.tail _ h
theorem g9.j{P:aW}(L:g9 d (c.P' P) b z m cs l):g9 d (c.P'<|q::P) b z m cs l:=by
 intro j u e;refine(L j u e).elim λv h=>⟨v,h.1,?_⟩;have V:=h.2;exact V.u (λV=>V.imp_right λh=>h.elim λo h=>h.elim λi h=>h.elim λk h=>⟨o,i,k,.tail _ h.1,h.2⟩) λV=>V.elim λa h=>h.elim λo h=>⟨a,o,h.1,.tail _ h.2.1,h.2.2⟩
theorem Xs.i{P:aW}(X:Xs (c.P'<|q::P) z H m cs x s):Xs (c.P' P) z H m cs x s:=by
 obtain⟨e,G,d,a,h,k1,i,j,k,l,o,R,r,nd,b,sm⟩:=X;exact⟨e,G,d,a,h,k1,i,j,k,l,o,Ld R λq t=>.tail _ t,r,(iR.mp nd).2,b,sm⟩
end
noncomputable def L7(a:List V)(z:Zs)(b:List V)(ps:List<|ak×ak):Prop:=aR z a (ps.map (·.1))/\aR z b (ps.map (·.2))
noncomputable def zW:List V->Option (List<|List Nat)
 |[]=>O []
 |.ah x::r=>(zW r).map (x::·)
 |_=>U
noncomputable def zX:List V->Option (List Int)
 |[]=>O []
 |.aa x::r=>(zX r).map (x::·)
 |_=>U
theorem aba:∀{b:List<|List Nat},zW a=O b->a=b.map .ah:=by
 induction a with
 |nil=>exactλh=>by cases h;rfl
 |cons k a d=>
  intro b h
  induction k using V.casesOn with
  |ah x=>exact(fV.mp h).elim λe h=>h.2▸bH (V.ah x::·) (d h.1)
  |_=>exact ba h
theorem abb:∀{b:List Int},zX a=O b->a=b.map .aa:=by
 induction a with
 |nil=>exactλh=>by cases h;rfl
 |cons k a d=>
  intro b h
  induction k using V.casesOn with
  |aa x=>exact(fV.mp h).elim λe h=>h.2▸bH (V.aa x::·) (d h.1)
  |_=>exact ba h
section
variable{B M:Type}[DecidableEq M]{knd:KeyKind cx.di cx.w M}{F:B->V}{f:B->M}
theorem abc(d:∀z y v,aA z (F y) v->knd.is (f y) v=I)(a:List B):∀(ps:List<|ak×ak),aR z (a.map F) (ps.map (·.1))->Carries knd ps ((a.map f).zip (ps.map (·.2)))/\a.length=ps.length:=by
 induction a with
 |nil=>
  intro ps h
  induction ps using aV with
  |nil=>exact⟨bl,J⟩
  |cons _ _=>exact h.elim
 |cons y a b=>
  intro ps h
  induction ps using aV with
  |nil=>exact h.elim
  |cons p ps=>exact⟨⟨d _ _ _ h.1,J,(b ps h.2).1⟩,bH (·+1) (b ps h.2).2⟩
theorem abd(e:∀z y v u,aA z (F y) v->knd.is (f y) u=I->aA z (F y) u)(b:List B):∀(a:List V) (ps:List<|ak×ak) (d:List eB),L7 (b.map F) z a ps->Pairs knd d ((b.map f).zip (ps.map (·.2)))->kc z ((b.map F).zip a) d:=by
 induction b with
 |nil=>
  intro a ps d h q
  cases q
  exact bl
 |cons y b i=>
  intro a ps d h q
  induction ps using aV with
  |nil=>exact h.1.elim
  |cons p ps=>
  induction a using aV with
  |nil=>exact h.2.elim
  |cons u a=>
  cases q with
  |cons k1 j q=>exact⟨⟨e _ _ _ _ h.1.1 k1,j▸h.2.1⟩,i a ps _ ⟨h.1.2,h.2.2⟩ q⟩
end
theorem abe{H:Hp}(b:List V):cu a (b.map .c) l H=.ok b H:=by
 induction b with
 |nil=>rfl
 |cons k b d=>
  show(cu a (b.map .c) l H).i (λe H=>.ok (k::e) H)=_;rw[d]
  rfl
noncomputable def Es(b:List V):Bool:=match zW b with
 |some a=>decide (a.map sV).Nodup
 |none=>match zX b with
  |some a=>decide (a.map id).Nodup
  |none=>C
noncomputable def n8(f:Fx):List E->List aX->Prop
 |[],[]=>True
 |e::b,d::a=>bj f e d/\n8 f b a
 |_,_=>False
section
variable{f:Fx}{p:Pt f}
theorem n8.bK{b:List E}:∀{a:List aX},n8 f b a->b.length=a.length:=by
 induction b with
 |nil=>exactλ{a} h=>match a with|[]=>rfl|_::_=>h.elim
 |cons e b d=>exactλ{a} h=>match a with|[]=>h.elim|_::_=>bH (·+1)<|d h.2
theorem abf{i:List E}:∀{d:List aX} {ks:List V} {h:List aX} {p:Pt f},n8 f i d->ks.length=i.length->n8 f (ks.map .c) h->Go (L7 ks) p (cu f.g.ag i f.l p.H) (evalPairs<|pairTrees (h.map O) d f.bo t):=by
 induction i with
 |nil=>
  intro d ks h p j r l;refine dn λx=>?_
  induction d using aV with
  |cons _ _=>exact j
  |nil=>induction ks using aV with
   |cons _ _=>cases r
   |nil=>induction h using aV with
    |cons _ _=>exact l
    |nil=>exact x λQ E T=>evalPairs_nil<|T.i ⟨bl,bl⟩
 |cons v i A=>
  intro d ks h p j r l;refine dn λx=>?_
  induction d using aV with
  |nil=>exact j
  |cons M d=>induction ks using aV with
   |nil=>cases r
   |cons k ks=>induction h using aV with
    |nil=>exact l
    |cons N h=>exact x λQ E T=>evalPairs_cons<|(l.1 p).tG (r':=λP H=>(az f.g.ag v f.l H).i λu H=>(cu f.g.ag i f.l H).i λy H=>.ok (u::y) H) (λq a b e le F T=>have G:a=k:=by injection e with e _;exact e.symm
      bu ((j.1 q).nx (λq u X le L T=>bu<|u0<|dB<|(A j.2 (E5 r) l.2).nx (λq y so o rs T=>T.i ⟨aR.cons (aA.au (le.q o) _ _<|G▸F) rs.1,aR.cons (aA.au o _ _ L) rs.2⟩) T) T)) T
theorem L8{B M:Type}{dk:DecidableEq M}{knd:KeyKind cx.di cx.w M}{F:B->V}{t:B->M}{a:List B}{l:List E}{A L:List aX}{R:cJ}(hd:(a.map t).Nodup)(hi:∀z y v,aA z (F y) v->knd.is (t y) v=I)
  (ho:∀z y v u,aA z (F y) v->knd.is (t y) u=I->aA z (F y) u)(ok:∀N:Array eB,KeysOf knd N->DN cx.w N)(hl:(a.map F).length=l.length)(h0:(a.map F).length≠0)(W:(a.map F).length<=15)
  (i:∀d:Fx,(∃P r,d.g=f.g.wP P r)->d.bo.scope=f.bo.scope->n8 d ((a.map F).map .c) A)(j:∀d:Fx,(∃P r,d.g=f.g.wP P r)->d.bo.scope=f.bo.scope->n8 d l L):bj f (.dct ((a.map F).map .c) l) (.Dict (A.map O) L R):=λp Q E T=>by
 have T:Tk aA p ((cu f.g.ag ((a.map F).map .c) f.l p.H).i λks H=>(cu f.g.ag l f.l H).i λl H=>.ok (.dct<|ks.zip l) H) Q E:=T;rw[abe] at T;have T:Tk aA p ((cu f.g.ag l f.l p.H).i λK H=>.ok (.dct<|(a.map F).zip K) H) Q E:=T;obtain⟨g,G,S⟩:=id p.st;have low:=S.fr.notModules<|aeU S.fH.nolimit;have Y:=S.j (tk:=p.s.toks) (λb o e=>hJ (nZ #[] 0) e) (kv _ J)<|bF _;have r:∀q∈f.g.c.P,q∈(p.s.heap.objs.size,nZ #[] 0)::f.g.c.P:=λq hq=>.tail _ hq
 let d:Fx:=⟨f.g.wP _ r,f.bo,f.m,f.cs,f.l,f.jP,f.hW,f.aq,f.dZ⟩
 have i:=i d ⟨_,r,J⟩ J;have j:=j d ⟨_,r,J⟩ J;have n1:=i.bK.symm.trans<|c5 ..;have n2:=j.bK.symm.trans hl.symm;refine wpAny_Dict_walk (knd:=knd) (by rw[List.all_map];exact lr.mpr λ_ _=>J) (by rw[c5];exact n1.trans n2.symm) (λh=>h0<|n1.symm.trans<|bH NB<|adr.mp h) (by rw[c5,n1];exact W)
  ((abf (f:=d) (p:=⟨p.z,p.H,_,⟨g,G,Y⟩,g9.j (P:=f.g.c.P) p.lo⟩) j hl i) _ _ ⟨λh=>T.ne (by rw[h];rfl),λq K so e le pr=>?_,λx s z' H' e le X=>T.ex x s z' H' (by rw[e];rfl) le<|Xs.i X⟩)
 rw[show cu f.g.ag l f.l p.H=.ok K q.H from e] at T;obtain⟨h,G,S⟩:=id q.st;have ca:=abc hi a so pr.1;refine⟨_,ca.1,⟨_,#[],0,S.q<|.head _,⟨J,J,J⟩,J,(λe he=>by simp at he),.nil,.nil⟩,λh' Z hs=>?_⟩;have mf:((a.map t).zip (so.map (·.2))).map (·.1)=a.map t:=ad5 (by rw[c5,c5,ca.2];exact bF _);rw[aa9 _ _ (mf.symm▸hd),E2] at Z;obtain⟨o,N,ep,ho',⟨x1,x2,x3⟩,hdd,hkeys,k,_⟩:=Z;obtain⟨cl,dd,dt,sl⟩:=o
 cases x1;cases x2;cases x3;cases hdd
 exact T.ok (p.i ⟨h,G,(S.xh hs ho').toZ⟩<|le.q Zs.i) _ _ J (le.q Zs.i) ⟨p.s.heap.objs.size,N,ep,J,.inl<|.head _,⟨ok N hkeys,low⟩,kc.au Zs.i _ _<|abd ho a K so _ pr k⟩
theorem abg{a:List V}{A:List E}{j l:List aX}{F:cJ}(b:Es a=I)(Q:a.length=A.length)(X:a.length≠0)(o:a.length<=15)(r:∀d:Fx,(∃P G,d.g=f.g.wP P G)->d.bo.scope=f.bo.scope->n8 d (a.map .c) j)(x:∀d:Fx,(∃P G,d.g=f.g.wP P G)->d.bo.scope=f.bo.scope->n8 d A l):
  bj f (.dct (a.map .c) A) (.Dict (j.map O) l F):=by
 unfold Es at b
 cases L:zW a with
 |some Y=>
  rw[L] at b;obtain rfl:=aba L;exact L8 (D b) (λz y v h=>h.1.elim λt e=>e▸AQ cx.di cx.w (sV y) t) (λz y v u h q=>⟨ad6 q,h.2⟩)
   (λZ i=>.inr λe M=>(i e M).elim λk h=>(ad6 h.1).elim λt ht=>⟨k,t,ht,h.2⟩) Q X o r x
 |none=>
  rw[L] at b
  cases N:zX a with
  |none=>rw[N] at b;cases b
  |some Y=>
   rw[N] at b;obtain rfl:=abb N;exact L8 (D b) (λz y v h=>h.elim λt e=>e▸AP cx.di cx.w y t) (λz y v u h q=>ad7 q)
    (λZ i=>.inl λe M=>(i e M).elim λk h=>(ad7 h.1).elim λt ht=>⟨k,t,ht,h.2⟩) Q X o r x
theorem abh:bj f (.dct [] []) (.Dict [] [] a):=λp Q E T=>by
 obtain⟨g,G,S⟩:=id p.st;rw[eval_Dict_empty];refine bu<|u0 ?_;exact uY<|T.ok (p.i (p.st.q J) .i) _ _ J .i ⟨p.s.heap.objs.size,#[],0,J,.inl<|.head _,⟨.inl (λe b=>by simp at b),S.fr.notModules<|aeU S.fH.nolimit⟩,bl⟩
end
section
variable{z i:Zs}{o:bY}{a:aH}{g:aW}{k:Nat}
noncomputable def xn(k:Nat)(o:bY):Prop:=match o with
 |.af b=>∀x∈b,RL k x
 |.aQ _ d=>∀q∈d,RL k q.2
 |.i=>True
theorem g8.rl(x:g8 z o a g):xn z.ad.length o:=by
 induction x with
 |af r q=>exactλx b=>(r.i x b).elim λ_=>aA.rl x
 |aQ ok r=>exactλx b=>(r.i x b).elim λ_=>aA.rl x.2
 |i=>trivial
theorem g8.u(b:z.lk k i)(h:xn k o)(x:g8 z o a g):g8 i o a g:=by
 induction x with
 |af r q=>exact .af (r.u b h) q
 |aQ ok r=>exact .aQ ok<|r.u b h
 |i=>exact .i
theorem L9{Z d:aW}{b r:List aH}:Zs.lk b.length ⟨Z,b++r⟩ ⟨d++Z,b⟩:=
 ⟨λh=>h.elim (λh=>.inl<|dm _ h) .inr,λe h=>(p7 e).symm.trans h⟩
end
section
variable{c:Fm}{z:Zs}{H:Hp}{m:aw->Option ak}{cs:aW}{s:ay}
theorem St.bK(S:St c z H m cs s):H.length=z.ad.length:=S.casesOn λ_ _ S=>S.cX.bK
theorem St.rl(S:St c z H m cs s){i:Nat}{o:bY}(h:H[i]? =O o):xn z.ad.length o:=by
 obtain⟨g,b,S⟩:=S;exact cV (S.cX.cO h) λa d e hg L=>L.rl
theorem Ma{d:Type}{l:List d}{a b:d}(h:(l++[a])[n]? =O b)(e:n=l.length):a=b:=by
 rw[e,mU] at h;exact cT h
theorem abi{d:Type}{l:List d}(h:l.length=n+1):∃b a,l=b++[a]/\b.length=n:=by
 rcases Nm l with e|⟨b,a,e⟩
 ·rw[e] at h;cases h
 ·rw[e,Aq,bx] at h;exact⟨b,a,e.trans Aq,E5 h⟩
theorem St.abj{o:bY}{d:List aH}{Z:aW}(S:St c ⟨Z,d++[x]⟩ (H++[o]) m cs s)(j:H.length=d.length)(v:∀(i:Nat) (o:bY),H[i]? =O o->xn d.length o)(w:xn d.length o):
  ∃b,g8 ⟨b++Z,d⟩ o x b/\St c ⟨b++Z,d⟩ H m cs s:=by
 obtain⟨g,A,S⟩:=S;refine cV (S.cX.cO mU) λa b B hg L=>?_;have F:=Ma B j;refine eC (abi<|S.cX.qO.trans bx) λh y e l=>?_
 cases e
 have G:=Ma hg<|j.trans l.symm;rw[<-F] at L;rw[G] at S;refine⟨b,L.u L9 w,g,h,?_⟩;have hp:(bP c ⟨b++Z,d⟩ cs h).Perm (bP c ⟨Z,d++[x]⟩ cs<|h++[b]):=by
  show(c.P++(cs++((b++Z)++h.flatten))).Perm (c.P++(cs++(Z++(h++[b]).flatten)));rw[Kw];refine sW _<|sW _ ?_;rw[b6];refine sX.trans ?_;rw[b6]
 refine bG.y S (λq M=>hp.mem_iff.mp M) ((hp.map _).nodup_iff.mpr S.nd) ⟨j,l,λi t N P u h2 Q=>?_⟩;have r:=(fK.mp h2).1;exact(S.cX.dW i t N P ((p7<|j▸r).trans u) ((p7 r).trans h2)<|(p7<|l▸r).trans Q).u L9<|v i t u
end
section
variable{f:Fx}{p:Pt f}
theorem Zs.le.mr{z:Zs}{Z:aW}(h:∀q∈z.Z,q∈Z):z.le ⟨Z,z.ad⟩:=⟨h,[],(cN _).symm⟩
theorem abk(r:aA p.z v pv){d:Prop}(k:∀(Z:aW),(∀q∈p.z.Z,q∈Z)->St f.g.c ⟨Z,p.z.ad⟩ (o6 v p.H).2 f.m f.cs p.s->aA ⟨Z,p.z.ad⟩ (o6 v p.H).1 pv->d):d:=by
 refine dn λc=>?_;have keep:o6 v p.H=(v,p.H)->False:=λe=>c<|k p.z.Z (λ_ h=>h) (e▸p.st)<|e▸r
 induction v using V.casesOn with
 |ae a=>
  have e1:∀o,p.H[a]? =o->o6 (.ae a) p.H=match o with|some (.af i)=>(.af i,p.H.set a .i)|_=>(.ae a,p.H):=λo e=>e▸J
  rcases e:p.H[a]? with _|⟨i|_|_⟩
  ·exact keep<|e1 _ e
  ·obtain⟨g,j,S⟩:=p.st;refine cV (S.cX.cO e) λb u hb hg L=>?_;rw[e1 _ e,jR r hb] at k
   cases L with
   | @af _ _ l n t h2=>
   exact c<|k _ (λq h=>dm _ h) ⟨g,_,S.YG hg⟩<|f5 b l n J (.inl<|fh _<|.head _) h2<|aR.au .i _ _ t
  ·exact keep<|e1 _ e
  ·exact keep<|e1 _ e
 |_=>exact keep J
theorem abl:∀{d:List ak} {p:Pt f},aR p.z as d->∀{b:Prop},(∀(Z:aW),(∀q∈p.z.Z,q∈Z)->St f.g.c ⟨Z,p.z.ad⟩ (mv as p.H).2 f.m f.cs p.s->aR ⟨Z,p.z.ad⟩ (mv as p.H).1 d->b)->b:=by
 induction as with
 |nil=>exactλ{_ p} r _ k=>k p.z.Z (λ_ h=>h) p.st r
 |cons v as i=>
  intro d p r b k
  induction d using aV with
  |nil=>exact r.elim
  |cons w d=>
   exact abk r.1 λZ h S j=>i (p:=p.i S<|.mr h) (aR.au (.mr h) _ _ r.2) λl e t rs=>k l (λq u=>e q<|h q u) t<|aR.cons (aA.au (z:=⟨Z,p.z.ad⟩) (.mr e) _ _ j) rs
theorem abm:∀(as:List V) (H:Hp),(mv as H).1.length=as.length:=by
 intro as
 induction as with
 |nil=>exactλ_=>J
 |cons v as b=>exactλH=>bH (·+1)<|b _
end
section
variable{B:List (aw×ak)->(aw->Option ak)->aw->Option ak}{p:aw->Prop}[DecidablePred p](N:∀m,B [] m=m)(h1:∀n v r m,B ((n,v)::r) m=B r (if p n thenλy=>if y=n then some v else m y else m))
include N h1
theorem abn(a:List<|aw×ak):∀{m:aw->Option ak},x∉a.map (·.1)->B a m x=m x:=by
 induction a with
 |nil=>exactλd=>congrFun (N _) x
 |cons q r b=>
  intro m h;have h:=not_or.mp λq=>h<|d4.mpr q;refine(congrFun (h1 ..) x).trans<|(b h.2).trans ?_
  by_cases k:p q.1
  ·rw[aN k];exact a9 h.1
  ·rw[a9 k]
theorem Mb{v:ak}(d:p x)(a:List<|aw×ak):∀{m:aw->Option ak},(a.map (·.1)).Nodup->(x,v)∈a->B a m x=O v:=by
 induction a with
 |nil=>exactλi h=>ax h eW
 |cons q r g=>
  intro m b hm;have b:=iR.mp b;refine(congrFun (h1 ..) x).trans<|(d4.mp hm).elim (λe=>?_)<|g b.2;subst e;rw[abn N h1 r b.1,aN d];exact aN J
end
theorem Et{d:aw->Option xM}{v:ak}{a:List<|aw×ak}{m:aw->Option ak}(e:d x=O .local):(a.map (·.1)).Nodup->(x,v)∈a->xN d a m x=O v:=
 Mb (λb=>J) (λb b b b=>J) e a
theorem abo{d:aw->Option xM}{v:ak}{a:List<|aw×ak}{m:aw->Option ak}(g:d x=O .cell):(a.map (·.1)).Nodup->(x,v)∈a->bindC d a m x=O v:=
 Mb (λb=>J) (λb b b b=>bH _ (ite_not ..).symm) (λe=>nomatch g.symm.trans e) a
section
variable{c:Fm}{z:Zs}{H:Hp}{m:aw->Option ak}{cs:aW}{s:ay}
theorem Eu(c:Fm)(cs:aW)(z:Zs)(a:aW)(b:List aW):((c.P++cs)++(a++(z.Z++b.flatten))).Perm (a++bP c z cs b):=by
 have e:(c.P++cs)++(a++(z.Z++b.flatten))=((c.P++cs)++a)++(z.Z++b.flatten):=by simp
 have d:a++bP c z cs b=(a++(c.P++cs))++(z.Z++b.flatten):=by simp[bP]
 rw[e,d];exact uV _ sX
theorem Ev(c:Fm)(cs a:aW)(z:Zs)(b:List aW):∀q∈bP c z cs b,q∈(c.P++cs)++(a++(z.Z++b.flatten)):=λq d=>by
 rcases eV.mp d with h|h
 ·exact fh _<|fh _ h
 ·rcases eV.mp h with h|h
  ·exact fh _<|dm _ h
  ·exact dm _<|dm _ h
theorem Ew(c:Fm)(cs a:aW)(z:Zs)(b:List aW)(h:(((c.P++cs)++(a++(z.Z++b.flatten))).map (·.1)).Nodup):((bP c z cs b).map (·.1)).Nodup:=by
 have:=((Eu c cs z a b).map (·.1)).nodup_iff.mp h;rw[dz] at this;exact(mZ.mp this).2.1
inductive xo(K:cU)(fa:aH)(F:List cA)(sc:cY)(Bd:ow->Prop):Prop
 |mk (oc:ak) (od:Option aH) (osl:Array (Option ak)) (name qual:aw) (params:Arguments) (dV kV doc pm:ak) (an:Option aH) (cdv ct:ak) (ho:K.lookup fa=some ⟨oc,od,.func (fnOf name qual params F sc dV kV doc pm an cdv ct),osl⟩) (hc:codeIn K cdv qual=true)
  (hb:Bd (fnOf name qual params F sc dV kV doc pm an cdv ct))
theorem xo.u{K:cU}{fa:aH}{F:List cA}{sc:cY}{i b:ow->Prop}(h:xo K fa F sc i)(k:∀d e a f,K.lookup fa=O ⟨d,e,.func f,a⟩->i f->b f):xo K fa F sc b:=by
 cases h with
 |mk d e a name qual params l o doc pm q g t j hc hb=>exact .mk d e a name qual params l o doc pm q g t j hc<|k _ _ _ _ j hb
structure n9(K:cU)(fa:aH)(ps:List aw)(F:List cA)(sc:cY):Prop where
 ex:xo K fa F sc λf=>∀(s:ay) (M:List ak),K.In s.heap->M.length=ps.length->AM s f ⟨M,[]⟩ (ps.zip M)
 Mc:(ps.all λy=>sc.names.lookup y==some .local||sc.names.lookup y==some .cell)=true
 mR:((AN 0 sc.names []).map (·.1)).Nodup
 nd:ps.Nodup
 co:sc.isCoroutine=false
 Ex:sc.isGenerator=false
 aq:sc.kind=.function
theorem n9.kd{K:cU}{fa:aH}{F:List cA}{sc:cY}(a:n9 K fa ps F sc)(h:x∈ps):sc.names.lookup x=O .local∨sc.names.lookup x=O .cell:=
 (ju.mp<|lr.mp a.Mc x h).imp beq_iff_eq.mp beq_iff_eq.mp
theorem n9.i{K:cU}{fa:aH}{ps:List aw}{F:List cA}{sc:cY}(a:n9 K fa ps F sc)(M:List ak):((ps.zip M).all λy=>sc.names.lookup y.1==O .local||sc.names.lookup y.1==O .cell)=true:=
 lr.mpr λy b=>lr.mp a.Mc y.1 (ad8 b).1
theorem abp{ps:List aw}:∀{M:List ak},M.length=ps.length->(ps.zip M).map (·.1)=ps:=λh=>ad5<|b7 h.symm
noncomputable def sF(run:gS)(np nl:Nat)(body:List S)(as:List V)(H:Hp):R V:=if as.length=np then(aZ run body (as.map O++jq (nl-np) U) H).i λx H=>match x with
 |(.am v,_)=>.ok v H
 |(.aU,_)=>.ok .none H
 |_=>.j else .j
structure xq(np nl:Nat)(ns:List aw):Prop where
 np:np=(ns.take np).length
 nl:nl=ns.length
 nd:ns.Nodup
theorem abq{as:List V}{k i:Nat}{v:V}(h:(as.map O++jq k U)[i]? =O (O v)):as[i]? =O v:=by
 by_cases q:i<as.length
 ·rw[p7 ((c5 ..).symm▸q),qb] at h
  cases e:as[i]? with
  |none=>rw[e] at h;exact ba h
  |some u=>rw[e] at h;exact cT h
 ·rw[ra (sO<|(c5 ..).symm▸q)] at h;exact nomatch (List.mem_replicate.mp<|mi h).2
theorem aR.abr{a:List V}{b:List ak}(r:aR z a b){i:Nat}{x:V}(h:a[i]? =O x):∃v,b[i]? =O v/\aA z x v:=by
 rcases r.cO i with⟨e,_⟩|⟨g,v,e,d,r⟩
 ·exact nomatch e.symm.trans h
 ·exact aD v d<|cT (e.symm.trans h)▸r
theorem Ey{ns:List aw}(h:i<ns.length):dy ns i=ns[i]:=by
 unfold dy;rw[Al,li h];rfl
theorem Md{np nl:Nat}{ns:List aw}{fa:aH}{F:List cA}{sc:cY}{as:List V}{M:List ak}{b:aw}{d:ak}{L':aH}{c₂:Fm}{g:aW}(N:xq np nl ns)(A:n9 cx.K fa (ns.take np) F sc)
  (P:as.length=np)(k:aR z as M)(u:c₂.aS=jW b sc L' fa d)(R:c₂.L=L')(Y:s6 (bindC (jW b sc L' fa d).kindOf ((ns.take np).zip M) λT=>U) (AN (L'+1) sc.names []) g)
  (l:St c₂ z H (xN (jW b sc L' fa d).kindOf ((ns.take np).zip M) λT=>U) g s):jT (dy ns) c₂ z (as.map O++jq (nl-np) U) H s:=by
 have hlen:=k.j.symm.trans<|P.trans N.np;have mq:=(abp hlen).symm▸A.nd;have G:np<=ns.length:=N.np.symm▸Oc ..;have hlen':(as.map O++jq (nl-np) (U:Option V)).length=ns.length:=by
  rw[bx,c5,List.length_replicate,P,N.nl,Nat.add_sub_cancel' G]
 refine⟨_,_,_,l,λi v w=>?_,by rw[u];exact Y,λi j w X e=>?_,?_,λi h=>NT λq=>h ?_,by rw[u];exactλx hk=>FU sc.names (L'+1) []<|.inl hk⟩
 ·refine aB (k.abr<|abq w) λZ e2 r=>?_;have t:=hlen▸(fK.mp e2).1;have W:(ns.take np)[i]? =O (dy ns i):=by
   rw[Ey (iP t<|Oc ..),li t,List.getElem_take]
  have L:(dy ns i,Z)∈(ns.take np).zip M:=mi<|List.getElem?_zip_eq_some.mpr ⟨W,e2⟩;refine aD Z r ?_;rw[u];unfold lZ
  rcases A.kd (ad8 L).1 with hk|hk
  ·rw[show(jW b sc L' fa d).kindOf (dy ns i)=_ from hk];exact .inl ⟨R.symm,Et hk mq L⟩
  ·rw[show(jW b sc L' fa d).kindOf (dy ns i)=_ from hk];obtain⟨a,K⟩:=AE.mp<|FU sc.names (L'+1) []<|.inl hk;exact aB (D7 Y K) λo h1 h2=>cL a o K (dm _ h1)<|h2.trans<|bH _<|abo hk mq L
 ·rw[hlen'] at w X;rw[Ey w,Ey X] at e;exact(List.getElem_inj N.nd).mp e
 ·have:=A.mR;rw[Om sc.names 0 (L'+1) [] [] J] at this;rw[u];exact this
 ·rw[hlen'] at q;unfold dy;rw[Al,EU (sO q)];rfl
theorem zY{run:gS}{np nl:Nat}{body:List S}{as:List V}{H:Hp}(h:sF run np nl body as H≠ .j):as.length=np:=NT λq=>h<|a9 q
theorem zZ{run:gS}{np nl:Nat}{body:List S}{as:List V}{H:Hp}(a:as.length=np):sF run np nl body as H=(aZ run body (as.map O++jq (nl-np) U) H).i λx H=>match x with
  |(.am v,_)=>.ok v H
  |(.aU,_)=>.ok .none H
  |_=>.j:=aN a
end
set_option backward.match.sparseCases true in
noncomputable abbrev sG(Q:ak->ay->Prop)(E:ak->ay->Prop):s7->ay->Prop:=λr s=>match r with
 |.ok (.ret v)=>Q v s
 |.ok _=>False
 |.error e=>E e s
noncomputable abbrev Ez(c:Fm)(m:aw->Option ak)(g':cz):Prop:=∀j,mj (dF<|c.aS::c.ir) g' j->∃a,mj (dF c.ir) c.td a/\Fr a c.L j m/\lu c.A₀ c.lY c.ir a/\cx.K.In a/\oz cx.p cx.gl cx.lW cx.mg cx.mb a/\s8 (dF c.ir) a/\(∀b,j.get? b=U->a.get? b=U)
noncomputable def Fm.eA(c:Fm)(A:dN)(L:aH)(aS:dA)(g:cz)(cs:aW):Fm:={A₀:=A,lY:=c.lY,ir:=c.aS::c.ir,L:=L,aS:=aS,td:=g,P:=c.P++cs,eS:=c.eS}
section
variable{c:Fm}{z:Zs}{H:Hp}{m:aw->Option ak}{cs:aW}{s:ay}{A':dN}{L':aH}{G:dA}{g' j:cz}{m':aw->Option ak}{cs':aW}{lv:List aW}
theorem abt(w:Ez c m g')(a:bG (c.eA A' L' G g' cs) z H m' cs' s j lv):St c z H m cs s:=A5 (w j a.iu) λe g d h i k l t=>iU d.ns λx A F u hr=>⟨e,lv,g,⟨lz x A F (a.fr.keep _ _ u) hr,λb o q=>a.fr.keep b o<|d.keep b o q,d.above⟩,λq L=>have N:=a.nw q (Ev c cs cs' z lv q L)
   ⟨N.1,λM=>ba<|(M▸N.2.2).symm.trans u,t _ N.2.2⟩,h,i,k,l,Ew c cs cs' z lv a.nd,a.cX,a.fy⟩
theorem Me(F:Ez c m g')(g:mj (dF<|c.aS::c.ir) g' j)(h:qN c.lY j (c.aS::c.ir) a (bP (c.eA A' L' G g' cs) z cs' lv) x)(i:j.UpToSlots x)(d:((bP (c.eA A' L' G g' cs) z cs' lv).map (·.1)).Nodup)(k:kf z H lv)
  (b:s={c.eS with heap:=s.heap,toks:=s.toks}):Xs c z H m cs (.ref a) {s with heap:=x}:=
 A5 (F j g) λe l o q t u w A=>⟨a,j,e,lv,J,l,o,q,t,u,w,Ld h<|Ev c cs cs' z lv,i,Ew c cs cs' z lv d,k,by rw[b]⟩
end
section
variable{f:Fx}{p:Pt f}{A':dN}{run:gS}{np nl:Nat}{body:List S}{ns:List aw}{fa:aH}{F:List cA}{sc:cY}{as:List V}{args:Args}{M:List ak}{Q E:ak->ay->Prop}
noncomputable abbrev uH(run:gS)(ns:List aw)(A':dN)(sc:cY)(body:List S)(F:List cA):Prop:=∀g:Gx,g.ag=run->g.ns=ns->g.A=A'.deeper g.c.aS->g.c.aS.scope=sc->g.hd=C->kh g body F
theorem Mf(N:xq np nl ns)(l:n9 cx.K fa (ns.take np) F sc)(SB:uH run ns A' sc body F)(u:A'.frames=f.g.A.frames)(w:A'.handled=f.g.A.handled)(hun:A'.units+3<m1)(A:A'.depth<qd)
  (has:aR p.z as M)(X:xo cx.K fa F sc λg=>AM p.s g args<|(ns.take np).zip M)(T:Tk aA p (sF run np nl body as p.H) Q E):kA MM A' (.call (.ref fa) args) (sG Q E) p.s:=by
 have hl:=zY T.ne;rw[zZ hl] at T;obtain⟨oc,od,osl,name,qual,params,dV,kV,doc,pm,an,L,ct,ho,hcd,hbind⟩:=X;obtain⟨g,o,S⟩:=id p.st;refine Kv S.jm S.fr S.dv S.nw S.fH f.g.ok.XB f.g.ok.TB S.jQ S.iu (u.trans f.g.fr) f.g.ok.wW f.g.ok.aq ho hcd A hbind (l.i M) l.mR (λg' L' Z tk cells FG F' N' Y B' X' T' D' hlt hgt hcn K=>?_) l.co l.Ex l.aq;have K:Ez f.g.c f.m g':=K
 let b:Fm:=f.g.c.eA A' L' (jW qual sc L' fa L) g' f.cs
 have P:=Eu f.g.c f.cs p.z cells o;have W:bG b p.z p.H (xN (jW qual sc L' fa L).kindOf ((ns.take np).zip M) λξ=>U) cells {p.s with heap:=Z,toks:=tk} g' o:=
  ⟨.refl,F',λq hq=>N' q<|P.mem_iff.mp hq,B',X',T',D',(P.map _).nodup_iff.mpr<|zD S.nd hcn λq hq r hr=>uO (hlt r hr)<|hgt q hq,S.cX,by rw[S.fy];rfl⟩
 let g₂:Gx:=⟨run,ns,C,b,A'.deeper b.aS,bH (NY (b.aS::·))<|u.trans f.g.fr,⟨J,l.aq,J,J,f.g.ok.XB,f.g.ok.TB,J,λx hk=>FU sc.names (L'+1) []<|.inl hk⟩,f.g.gR.imp w.trans λ⟨e,oe,ws,h1,h2,h3⟩=>va e oe ws (w.trans h1) (fh _ h2) h3,hun⟩
 obtain⟨m,cs,cm,st,lo,fx⟩:=Md N l hl has J J Y ⟨g',o,W⟩;refine SB g₂ J J J J J ⟨p.z,p.H,_,_,m,cs,cm,st,lo,fx⟩ _ _ ⟨λe=>T.ne (bH (R.i · _) e),λv fl pfl e le fr=>?_,λx s₁ z' H' e le X=>?_,PassesOwn.leaving⟩
 ·obtain⟨j,lv,a⟩:=v.st;have St':=abt K a;rw[show aZ run body (as.map O++jq (nl-np) U) p.H=_ from e] at T;exact zN fr (λT=>T.ok (p.i St' le) _ _ J le wZ) (λT=>(T.ne J).elim) (λT=>(T.ne J).elim) (λ_ _ r T=>T.ok (p.i St' le) _ _ J le r) T
 ·have out:∀{x s},Xs f.g.c z' H' f.m f.cs x s->E x s:=T.ex _ _ _ _ (bH (R.i · _) e) le
  rcases X with⟨m',cs',X⟩|⟨_,X⟩
  ·obtain⟨e₁,G,j,lv,rfl,T₁,F₁,B₁,K₁,P₁,D₁,R₁,U₁,t,L₁,d⟩:=X;exact Zb B₁ F₁ R₁ rfl U₁ λh' i k=>out<|Me K T₁ i k t L₁ d
  ·obtain⟨e₁,h,m',cs',j,lv,rfl,hm,a⟩:=X;exact Zd a.jm hm a.fr a.nw J l.aq λh' i k=>out<|Me K a.iu i k a.nd a.cX<|bH (λs:ay=>{s with heap:=s₁.heap}) a.fy
theorem Mg(N:xq np nl ns)(j:n9 cx.K fa (ns.take np) F sc)(k:uH run ns A' sc body F)(e:A'.frames=f.g.A.frames)(g:A'.handled=f.g.A.handled)(i:A'.units+3<m1)(a:A'.depth<qd)
  (b:aR p.z as M)(T:Tk aA p (sF run np nl body as p.H) Q E):kA MM A' (.call (.ref fa) ⟨M,[]⟩) (sG Q E) p.s:=
 Mf N j k e g i a b (j.ex.u λd d d d d h=>h p.s M p.st.dv<|b.j.symm.trans<|(zY T.ne).trans N.np) T
end
noncomputable def EA:qf->E
 |.i i=>.l<|i+1
 |.j v=>.c v
noncomputable def qU(a:List<|At×qf):List S:=a.map λq=>.cQ (.l 0) q.1<|EA q.2
theorem abu{fs:List<|At×V}:a∉fs.map (·.1)->fB fs a v=fs++[(a,v)]:=by
 induction fs with
 |nil=>exactλ_=>J
 |cons q fs b=>
  intro h;have h:=not_or.mp λe=>h<|d4.mpr e;exact(a9 λe=>h.1 e.symm).trans (bH (q::·)<|b h.2)
theorem Mh{as:List V}{e:List<|At×qf}{b:Prop}(h:nk as ((a,d)::e)=O fs)(k:∀v c,nk as e=O c->fs=(a,v)::c->(∀run h H,az run (EA d) (h::as.map O) H=.ok v H)->(d=.j v∨v∈as)->b):b:=by
 cases d with
 |j v=>exact aB (fV.mp<|h) λc h2 g=>k v c h2 g.symm (λ_ _ _=>J)<|.inl J
 |i i=>exact aB (oq.mp<|h) λv l h4=>aB (fV.mp h4) λc h2 g=>k v c h2 g.symm (λrun h H=>show(match(as.map O)[i]? with|some (some v)=>R.ok v H|_=>.j)=_ by rw[qb,l];rfl)<|.inr<|mi l
theorem abv{cl:eJ}{as:List V}{a:List<|At×qf}:∀{d pre:List<|At×V} {H:Hp},nk as a=O d->((pre.map (·.1))++a.map (·.1)).Nodup->H[h]? =O (.aQ cl pre)->
  aZ b (qU a) (O (.ae h)::as.map O) H=.ok (.aU,O (.ae h)::as.map O) (H.set h<|.aQ cl<|pre++d):=by
 induction a with
 |nil=>
  intro d pre H j _ i
  cases j
  rw[cN];exact(fK.mp i).elim λk e=>bH (R.ok _)<|e▸(NE k).symm
 |cons q a o=>
  intro d pre H j r i;refine Mh j λv s h2 t u _=>?_;have g:=r;have w:jZ (.ae h) q.1 v H=.ok () (H.set h<|.aQ cl<|pre++[(q.1,v)]):=(show jZ (.ae h) q.1 v H=match H[h]? with|some (.aQ c d)=>.ok () (H.set h<|.aQ c<|fB d q.1 v)|_=>.j from J).trans
   (by rw[i,<-abu λm=>(mZ.mp g).2.2 _ m _ (.head _) J])
  show(((az b (EA q.2) (O (.ae h)::as.map O) H).i λv H=>(jZ (.ae h) q.1 v H).i λ_ H=>R.ok (Fl.aU,O (V.ae h)::as.map O) H).i λx H=>match x with|(.aU,l)=>aZ b (qU a) l H|x=>.ok x H)=_;rw[u];show((jZ (.ae h) q.1 v H).i λ_ H=>R.ok (Fl.aU,O (V.ae h)::as.map O) H).i _=_;rw[w,t];refine(o h2 (by rw[dz,b6];exact g)<|oi (fK.mp i).1).trans ?_;rw[oo,b6]
  rfl
theorem abw{as:List V}(c:∀x∈as,RL k x):∀{b:List<|At×V},(∀q∈a,∀v,q.2=.j v->RL k v)->nk as a=O b->∀q∈b,RL k q.2:=by
 induction a with
 |nil=>intro b _ h;cases h;exactλ_ h=>ax h eW
 |cons q a d=>exactλhc h=>Mh h λv g h2 i _ j x l=>(d4.mp<|i▸l).elim (λe=>by rw[e];exact j.elim (hc _ (.head _) v)<|c v)<|d (λq m=>hc q<|.tail _ m) h2 x
section
variable{f:Fx}{p:Pt f}{Q E:ak->ay->Prop}{cl:eJ}{j:aH}{as:List V}{i:List ak}
noncomputable abbrev Mi(A:dN)(a:aH)(i:List ak):dN:=A.under<|.builtin "type.__call__" ⟨.ref a::i,[]⟩
theorem abx(h:kA MM A a (sG (λv s=>v=.none/\Q (.ref x) s) E) s):kA MM A a (InitBack x<|sG Q E) s:=
 codeAny_mono h λr s h=>by rcases r with e|(v|_|_|_)<;>exact h
theorem z4{s:ay}{x b:aH}{a:aW}(d:∀r∈a,r.1<b)(g:b<x){o i:PO}:(∀q∈[(x,o),(b,i)],∀r∈a,r.1<q.1)/\([(x,o),(b,i)].map (·.1)).Nodup:=
 ⟨λq c r hr=>(d4.mp c).elim (λe=>e▸uO (d r hr) g) λc=>iw.mp c▸d r hr,iR.mpr ⟨λh=>ax g<|Nat.not_lt_of_le<|b7<|iw.mp h,Fb ..⟩⟩
theorem Mj(a:hD cx.K cl)(k:gE cx.K (.ref<|df cl) "__init__"=some (some<|.ref j))(l:xT cx.K (.ref j)=true)
  (h:∀x b (S:St f.g.c ⟨p.z.Z,p.z.ad++[x]⟩ (p.H++[.aQ cl []]) f.m f.cs {p.s with heap:=b}),aA ⟨p.z.Z,p.z.ad++[x]⟩ (.ae p.H.length) (.ref x)->kA MM (Mi f.g.A (df cl) i) (.call (.ref j) ⟨.ref x::i,[]⟩) (sG (λv s=>v=.none/\Q (.ref x) s) E) (p.i S .ce).s):
  bk MM f.g.A (ku (.ref<|df cl) i) Q E p.s:=by
 obtain⟨g,m,S⟩:=id p.st;exact call_cls S.fr S.dv S.nw a.K7 k l λx c b o q d e=>abx<|h x b ⟨g,_,S.DP (gr:=[(x,s0 (df cl) c),(c,nZ #[] 0)]) o q (z4 (s:=p.s) d e).1 (z4 (s:=p.s) d e).2<|.aQ lX.nil bl⟩
  (aD x rfl (by rw[p.st.bK];exact mU))
theorem aby{b:Type}{l a r:List b}(e:a=l++r)(h:a.length=l.length):a=l:=by
 rw[e,bx] at h;rw[e,xJ (Nat.add_left_cancel h),cN]
theorem abz{g:List<|At×qf}{F:List aw}{K:cY}(c:hD cx.K cl)(W:jB cl=O (n,g))(hi:gE cx.K (.ref<|df cl) "__init__"=O (O<|.ref j))(hf:xT cx.K (.ref j)=I)
  (G:(g.map (·.1)).Nodup)(u:∀q∈g,∀v,q.2=.j v->∀k,RL k v)(N:xq (n+1) (n+1) F)(FA:n9 cx.K j (F.take<|n+1) l K)(SB:∀A,uH m F A K (qU g) l)
  (H:f.g.A.units+4<m1)(w:f.g.A.depth+1<qd)(M:aR p.z as i):Go aA p (iZ m cl as p.H) (ku (.ref<|df cl) i):=λQ E T=>by
 unfold iZ at T;rw[W] at T;replace T:Tk aA p (if as.length=n then(match nk (mv as p.H).1 g with|some B=>.ok (.aQ cl B) (mv as p.H).2|none=>.j) else .j) Q E:=T;refine T.q λhl T=>abl M λZ h S rs=>?_;have P:=(abm as p.H).trans hl;generalize(mv as p.H).1=s at*;generalize(mv as p.H).2=t at*
 cases o:nk s g with
 |none=>rw[o] at T;exact(T.ne J).elim
 |some B=>
 rw[o] at T;refine Mj (p:=p.i S<|.mr h) c hi hf λx h' R rx=>?_;have hb:sF m (n+1) (n+1) (qU g) (.ae t.length::s) (t++[.aQ cl []])=.ok .none (t++[.aQ cl B]):=by
  rw[zZ (bH (·+1) P),p9];show(aZ m (qU g) (O (V.ae t.length)::(s.map O++[]))<|t++[.aQ cl []]).i _=_;rw[cN,abv (pre:=[]) o G mU,acZ _ _ (bF _),p9]
  rfl
 refine Mg N FA (SB _) J J H w (aR.cons rx<|aR.au .ce _ _ rs)<|hb▸⟨λh=>(nomatch h),λq a b e le r=>?_,λ_ _ _ _ h=>(nomatch h)⟩;obtain⟨⟨Z',X⟩,Hq,sq,st,lo⟩:=q
 cases e
 obtain⟨rr,er⟩:=le.ad;obtain rfl:X=p.z.ad++[x]:=aby er (st.bK.symm.trans (show(t++[bY.aQ cl B]).length=(p.z.ad++[x]).length by rw[bx,bx];exact bH (·+1) S.bK));have Y:=abw (λx hx=>(rs.i x hx).elim λ_=>aA.rl x) (λq y v e=>u q y v e _) o;refine⟨r,aB (st.abj S.bK (λ_ _=>S.rl) Y) λgr L z=>T.ok (p.i z<|.mr λq y=>dm _<|le.eA q<|h q y) _ _ J (.mr λq y=>dm _<|le.eA q<|h q y) ?_⟩
 cases L with
 | @aQ _ _ _ d es nn ok r=>exact Bb x d es nn J (.inl<|.head _) (.inl<|.tail _<|.head _) ok r
theorem abA(a:hD cx.K cl)(k:jB cl=none)(c:o4 cl=none)(l:gE cx.K (.ref<|df cl) "__init__"=some (some<|.builtin "object.__init__"))(d:aR p.z as i):Go aA p (iZ b cl as p.H) (ku (.ref<|df cl) i):=λQ E T=>by
 unfold iZ at T;rw[k,c] at T;replace T:Tk aA p (if as.length=0 then .ok (.aQ cl []) p.H else .j) Q E:=T;refine T.q λm T=>?_;obtain rfl:=xJ m
 induction i using aV with
 |cons _ _=>exact d.elim
 |nil=>
  obtain⟨g,e,S⟩:=id p.st;exact call_cls0 S.fr S.dv S.nw a.K7 l λx o s q r h j=>T.ok (p.i ⟨g,e,S.DO q r (z4 (s:=p.s) h j).1 (z4 (s:=p.s) h j).2⟩ .i) _ _ rfl .i
   (Bb x o (#[]) 0 rfl (.inl<|.head _) (.inl<|.tail _<|.head _) lX.nil bl)
theorem abB{g:gS}(c:hD cx.K cl)(t:jB cl=U)(m:o4 cl=O (h,d))(u:gE cx.K (.ref<|df cl) "__init__"=O (O<|.ref h))(w:xT cx.K (.ref h)=I)
  (j:∀as H v l,g h as H=.ok v l->v=.none)
  (k:∀(q:Pt f) x Q E,p.le q->aA q.z (.ae p.H.length) (.ref x)->Tk aA q (g h (.ae p.H.length::(as++if cl=.q/\as.length=0 then d else[])) q.H) Q E->kA MM (Mi f.g.A (df cl) i) (.call (.ref h) ⟨.ref x::i,[]⟩) (sG Q E) q.s):
  Go aA p (iZ g cl as p.H) (ku (.ref<|df cl) i):=λQ E T=>by
 unfold iZ at T;rw[t,m] at T;replace T:Tk aA p ((g h (.ae p.H.length::(as++if cl=.q/\as.length=0 then d else[]))<|p.H++[.aQ cl []]).i λ_ l=>.ok (.ae p.H.length) l) Q E:=T;exact Mj c u w λx z S o=>k (p.i S .ce) x _ _ .ce o ⟨λe=>T.ne (bH (R.i · _) e),λq a b e le r=>by
  obtain rfl:=j _ _ _ _ e;exact⟨r,T.ok (p.i q.st<|.q .ce le) _ _ (bH (R.i · _) e) (.q .ce le)<|aA.au le _ _ o⟩,λx s y l e le X=>T.ex x s y l (bH (R.i · _) e) (.q .ce le) X⟩
end
section
open PySem.Builtin.ObjectAttr
noncomputable abbrev z5:List ak:=[.ref 88,.type "Exception",.type "BaseException",.type "object"]
noncomputable abbrev xr:PO:=excClassObj "ParseStop" "ParseStop" b4 128 [.ref 88] z5 I [] [] C U U (O<|.ref 112) U (O<|.str "ParseStop" 392) (O<|.str "ParseStop" 400) (O<|.bool I) "Exception.__new__"
theorem abC:(uU b4::z5).contains (.type "Exception")=true:=by decide+kernel
theorem abD:(uU b4::z5).contains (.type "BaseException")=true:=by decide+kernel
theorem abE:(uU b4::z5).contains (.ref b4)=true:=by decide+kernel
section
variable{prog:ky}{w:ee}{A:dN}{E:ak->ay->Prop}{h:cz}{g:Array GenState}{d:Drawn}{t:Nat}{os:jv}
theorem abF{R:s7->ay->Prop}{a:List ak}(b:h.get? b4=O xr)
  (j:R (.ok<|.ret<|.ref<|h.objs.size+1) ⟨(h.push {cls:=.type "tuple",data:=.seq a.toArray}).push {cls:=.ref b4,data:=.fields #[.ref h.objs.size,.none,.none,.none,.bool C,.none]},g,d,t,os⟩)(c:a.length<=eI):
  kA (du prog w) A (.builtin "Exception.__new__" ⟨.ref b4::a,[]⟩) R ⟨h,g,d,t,os⟩:=by
 have F:=ad9;have e:=F.ends;refine codeAny_builtinAt F.entry ?_;unfold Builtin.«BaseException.__new__»;refine aea ?_;show PySem.wpAt _ _ _ (stack>>=_) _ _ _;refine aea (PySem.wpAt_stack λp below=>aeb ?_)
 wp_walk
 refine aeb ?_;rw[F.owner]
 repeat (first|with_reducible refine wpAny_madeHere_exc F.canon b ?_|with_reducible refine FV b ?_|(with_reducible refine OD b ?_;first|rw[abC]|rw[f]|rw[i])|wp_step)
 show R _ _;rw[adY];exact j
theorem abG{a:List ak}{u:PO}{Q:ak->ay->Prop}(j:uZ (du prog w) h (OE "Exception.__new__" ⟨.ref b4::a,[]⟩) ())
  (c:h.get? b4=O xr)
  (z:∀l,(∀b o,h.get? b=O o->l.get? b=O o)->uZ (du prog w) l (aem (.ref b4) "__init__") (O<|.ref m))(p:h.get? m=O u)(q:u.cls=.type "function")
  (B:∀l e,Heap.MadeExcOf h l e (.ref b4) a->bk (du prog w) (A.under<|.builtin "type.__call__" ⟨.ref b4::a,[]⟩) (call (.ref m)<|.ref e::a) (λr y=>r=.none/\Q (.ref e) y) E ⟨l,g,d,t,os⟩)(f:a.length<=eI):
  bk (du prog w) A (call (.ref b4) a) Q E ⟨h,g,d,t,os⟩:=by
 have F:=ad9;have L:=tc_lookup;have M:=tc_bind<|.ref b4;have N:(⟨h,g,d,t,os⟩:ay).TypeIs (.ref b4) "type":=aD _ c J;refine FW<|codeAny_of_tree ?_;show bk _ _ (callAny (.ref b4) _) _ _ _
 repeat (any_goals (first|assumption|with_reducible refine FV c ?_|wp_step))
 refine⟨J,?_⟩;refine codeAny_call_builtin_at (aec _<|by decide+kernel) entry_typeCall<|wpAny_check_type_call_sub c ?_
 repeat (first|with_reducible refine FV c ?_|with_reducible refine wpAny_madeBy_exc c ?_|wp_step)
 refine codeAny_call_builtin_code (aec _ F.quiet)<|j.here ?_;refine abF c ?_ f;have k:∀b o,h.get? b=O o->((h.push {cls:=.type "tuple",data:=.seq a.toArray}).push {cls:=.ref b4,data:=.fields #[.ref h.objs.size,.none,.none,.none,.bool C,.none]}).get? b=O o:=λb o e=>hJ _<|hJ _ e;have hget:((h.push {cls:=.type "tuple",data:=.seq a.toArray}).push {cls:=.ref b4,data:=.fields #[.ref h.objs.size,.none,.none,.none,.bool C,.none]}).get? (h.objs.size+1)=O
   {cls:=.ref b4,data:=.fields #[.ref h.objs.size,.none,.none,.none,.bool C,.none]}:=by heap_get
 have i:=k _ _ c;unfold OF
 repeat (first|with_reducible refine FV hget ?_|wp_step)
 refine OD i ?_;rw[abE]
 repeat wp_step
 refine(z _ k).here<|mn<|bu ?_;unfold bindSpecial;refine bu<|aeV (aD _ (k _ _ p) q) ?_;rw[aN (D J)];refine dB<|bu<|mm (B _ (h.objs.size+1) ⟨k,Od<|ey _,h.objs.size,hget,Od<|bF _,?_⟩) (λr y hr=>?_) λG G x=>x
 ·exact hJ _<|aed J J
 ·obtain⟨rfl,H⟩:=hr
  wp_walk
  exact H
end
noncomputable def abH(v:ak):Bool:=match v with
 |.ref _=>I
 |_=>C
noncomputable def EB(l:List ak):Bool:=l.rec C λa r b=>(a::r==[.type "Exception",.type "BaseException",.type "object"])||(abH a&&b)
theorem abI(self:ak)(l:List ak):EB l=I->refuseLoop self "__setattr__" l=pure ()/\l.contains (.type "object")=true:=by
 induction l with
 |nil=>exact bc
 |cons a r b=>
  refineλe=>(ju.mp e).elim (λe=>?_) λe=>?_
  ·rw[show a::r=_ from beq_iff_eq.mp e];exact⟨PySem.F.store_Exception.passes self,by decide⟩
  ·refine dn λf=>?_;have h:=b<|bR e
   induction a using sZ with
   |ref c=>
    refine f ⟨by rw[refuseLoop_ref];exact h.1,?_⟩;rw[Ao,h.2,uQ]
   |_=>exact bc<|bL e
inductive qV(h:cz)(x:aH)(j:Array ak)(i:aw->Option ak):Prop
 |mk:∀o,h.get? x=some o->o.cls=.ref b4->o.data=.fields j->((o.dict=none/\∀n,i n=none)∨∃d,o.dict=some d/\d≠x/\h.Ns1 d i)->qV h x j i
structure z6(K:cU):Prop where
 zJ:(clsIn K b4).any (λcd=>EB cd.mro&&cd.hasDict)=true
 D1:gE K (.ref b4) "__setattr__"=some (some (.builtin "object.__setattr__"))
section
variable{prog:ky}{w:ee}{A:dN}{E:ak->ay->Prop}{s:ay}{K:cU}{x:aH}{j:Array ak}{i:aw->Option ak}{ns:List aw}{name:aw}{tk:qY}{v:ak}
set_option backward.match.sparseCases true in
theorem abJ(X:K.In s.heap)(hp:z6 K)(a:qV s.heap x j i)(hw:Within i ns)(hsz:ns.length<=100){Q:Fin->ay->Prop}
  (hq:∀q P,qV q x j (λy=>if y=name then O v else i y)->(∀b o,b≠x->(∀c d,s.heap.get? x=O c->c.dict=O d->b≠d)->s.heap.get? b=O o->q.get? b=O o)->(∀k d,q.get? x=O k->k.dict=O d->s.heap.get? d=U∨∃c,s.heap.get? x=O c/\c.dict=O d)->Q (.done<|.ret .none) {s with heap:=q,toks:=P}):
  bk (du prog w) A (storeInOwnDict (.ref x) (.ref b4) (.str name tk) name v b) Q E s:=by
 refine aB (any_some hp.zJ) λcd hc ho=>?_;rw[ol] at ho;obtain⟨o,r,u,hd,hdict⟩:=a;obtain⟨h,g,d,t,os⟩:=s;refine bu<|dB<|bu<|bu<|aeW r ?_;rw[u];refine bu<|(aeX X hc).here ?_;rw[ho.2]
 rcases hdict with⟨Y,Z⟩|⟨dx,z,B,R⟩
 ·rw[Y];have l:(h.push {cls:=.type "dict",data:=.dict #[]}).get? x=some o:=hJ _ r;have F:x≠h.objs.size:=fc<|m0 r;rw[hd];refine bu<|wpAny_alloc'<|bu<|wpAny_update' l<|dB ?_;have S:((h.push {cls:=.type "dict",data:=.dict #[]}).update x λo=>{o with dict:=O h.objs.size}).get? h.objs.size=O {cls:=.type "dict",data:=.dict #[]}:=
   (aee _ _ _ _ F.symm).trans<|aed J J
  have mq:((h.push {cls:=.type "dict",data:=.dict #[]}).update x λo=>{o with dict:=O h.objs.size}).Ns h.objs.size (λT=>U):=
   (f5 _ (#[]) _ S J (λe he=>ax he<|by simp) λT=>J)
  unfold ael aeY;refine bu<|dB<|bu<|aeZ (Heap.Ns1.of_empty mq) λq m hs=>?_;refine te (m.count<|Oe name v Of) λoD V W G H L=>bu<|ae0 G (by rw[H];exact ae1<|aE L (by rw[gQ,lj,iz];exact by simp+arith only))<|dB ?_;have M:q.get? x=O {o with dict:=O h.objs.size}:=by
   refine(hs.2 x F).trans<|E7 _ l ?_;exact E8 hd
  refine hq q _ ⟨_,M,u,hd,.inr<|dg h.objs.size J F.symm ?_⟩ (λb ob hbx T hb=>?_) λk N f p=>?_
  ·exact x7 m λo' es ep e1 e2 e3 eu e4=>m3 o' es ep e1 e2 e3 eu (λy=>by rw[e4 y];by_cases hy:y=name<;>simp[hy,Z])
  ·exact(hs.2 b<|fc<|m0 hb).trans<|(aee _ _ _ _ hbx).trans<|hJ _ hb
  ·rw[M] at f;cases f;cases p;exact .inl<|Od<|bF _
 ·rw[z];refine dB ?_;unfold ael aeY;refine bu<|dB<|bu<|aeZ R λq m hs=>?_;refine te (m.count<|Oe name v hw) λoD V W G H L=>bu<|ae0 G (by rw[H];exact ae1<|aE L (by rw[gQ,iz];exact L1 hsz))<|dB ?_;exact hq q _ ⟨o,(hs.2 x B.symm).trans r,u,hd,.inr<|dg dx z B m⟩ (λb ob T hbd hb=>(hs.2 b<|hbd o dx r z).trans hb) λk N f p=>by
   rw[(hs.2 x B.symm).trans r] at f;cases f;exact .inr<|aD o r p
theorem abK{R:s7->ay->Prop}{F:Option PO}(X:K.In s.heap)(B:z6 K)(G:gE K (.ref b4) name=O U)(u:InstAt s.heap x o b4 F)(c:qV s.heap x j i)(H:Within i ns)(hsz:ns.length<=100)
  (L:∀m l,qV m x j (λy=>if y=name then O v else i y)->(∀b o,b≠x->(∀f d,s.heap.get? x=O f->f.dict=O d->b≠d)->s.heap.get? b=O o->m.get? b=O o)->(∀k d,m.get? x=O k->k.dict=O d->s.heap.get? d=U∨∃f,s.heap.get? x=O f/\f.dict=O d)->R (.ok<|.ret .none) {s with heap:=m,toks:=l}):
  kA (du prog w) A (.call (.builtin "object.__setattr__") ⟨[.ref x,.str name tk,v],[]⟩) R s:=by
 have p:=PySem.F.store_object;refine aB (any_some B.zJ) λz hc r=>?_;rw[ol] at r;have ne:z.mro.isEmpty=false:=by cases q:z.mro with|nil=>rw[q] at r;cases r.1|cons _ _=>rfl
 obtain⟨M,N⟩:=abI (.ref x) _ r.1;have sub:uZ (du prog w) s.heap (OF (.ref x)<|.type "object") true:=u.type.andThen<|looks_mroIn X (by unfold mroIn;rw[hc,E6,a9 (by rw[ne];decide),N]);refine codeAny_call_builtin p.slot.plain p.entry<|@check_slot (du prog w) _ _ s "object.__setattr__" "object" "__setattr__" (.ref x) [.str name tk,v] [] _ p.kind p.split sub (p.args (.ref x) (.str name tk) v) ?_;have hm:uZ (du prog w) s.heap (mroOf<|.ref b4) z.mro:=(aeX X hc).andThen .now;rw[osa_eq,refuse_eq];refine bu<|bu<|u.type.here<|bu<|hm.here ?_;rw[M];refine dB<|bu<|u.type.here<|bu<|(ae2 X G).here<|bu<|dB ?_;exact abJ X B c H hsz λm l a b e=>L m l a b e
theorem Mk(X:K.In s.heap)(B:z6 K)(H:gE K (.ref b4) name=O U)(c:qV s.heap x j i)(L:Within i ns)(hsz:ns.length<=100){Q:Unit->ay->Prop}
  (M:∀m l,qV m x j (λy=>if y=name then O v else i y)->(∀b o,b≠x->(∀f d,s.heap.get? x=O f->f.dict=O d->b≠d)->s.heap.get? b=O o->m.get? b=O o)->(∀k d,m.get? x=O k->k.dict=O d->s.heap.get? d=U∨∃f,s.heap.get? x=O f/\f.dict=O d)->Q () {s with heap:=m,toks:=l}):
  bk (du prog w) A (NZ (.ref x) name v) Q E s:=by
 obtain⟨o,F,p,hd,hdict⟩:=id c;have q:∃q,InstAt s.heap x o b4 q:=by
  rcases hdict with⟨r,_⟩|⟨Y,u,N,P,Z,R,z,_⟩
  ·exact⟨none,F,p,by unfold notCls;rw[hd],by rw[r];trivial⟩
  ·exact⟨some P,F,p,by unfold notCls;rw[hd],by rw[u];exact z⟩
 obtain⟨q,G⟩:=q;exact set_plain X G B.D1<|abK (s:={s with toks:=s.toks+1}) X B H G c L hsz λm l a b e=>M m l a b e
end
end
section
variable{A:dN}
variable{c:Fm}{z:Zs}{H:Hp}{m:aw->Option ak}{cs:aW}{s:ay}{g:cz}{i:List aW}
theorem bG.Ml(S:bG c z H m cs s g i){j:cz}{tk:Nat}(a:aH->Prop)(k:¬a c.L)(l:∀b o,g.get? b=O o->¬a b)(t:∀q∈bP c z cs i,¬a q.1)(d:∀b o,s.heap.get? b=O o->¬a b->j.get? b=O o):
  bG c z H m cs {s with heap:=j,toks:=tk} g i:=dn λu=>iU S.fr.ns λv w x y r=>u<|⟨S.iu,⟨lz v w x (d _ _ y k) r,λb o e=>d b o (S.fr.keep b o e)<|l b o e,S.fr.above⟩,λq h=>⟨d _ _ (S.nw q h).1<|t q h,(S.nw q h).2⟩,S.jm,S.dv,S.fH,S.jQ,S.nd,S.cX,by rw[S.fy]⟩
theorem bG.abL{P:aW}{j:cz}{tk:Nat}(S:bG (c.P' P) z H m cs s g i)(t:∀b o,s.heap.get? b=O o->j.get? b=O o)(v:j.get? d=O l)(a:s.heap.get? d=U):
  bG (c.P'<|(d,l)::P) z H m cs {s with heap:=j,toks:=tk} g i:=by
 refine⟨S.iu,S.fr.keeps t,λq k=>?_,S.jm,S.dv,S.fH,S.jQ,?_,S.cX,by rw[S.fy]⟩
 ·rcases d4.mp k with rfl|h
  ·refine⟨v,λe=>?_,?_⟩
   ·refine iU S.fr.ns λw x y u r=>?_
    dsimp only at e
    rw[e] at a;rw[show(c.P' P).L=c.L from rfl] at u;rw[u] at a;exact ve a
   ·cases e:g.get? d with
    |none=>rfl
    |some o=>have:=S.fr.keep _ _ e;rw[a] at this;exact ba this
  ·exact⟨t _ _ (S.nw q h).1,(S.nw q h).2⟩
 ·rw[iQ,iR];refine⟨λh=>?_,S.nd⟩;refine aB (ej.mp h) λq k e=>?_;have:=(S.nw q k).1;rw[e,a] at this;exact ba this
theorem bG.abM{P:aW}(S:bG (c.P'<|(d,a)::P) z H m cs s g i):bG (c.P' P) z H m cs s g i/\c.L≠d/\g.get? d=U/\∀q∈bP (c.P' P) z cs i,q.1≠d:=by
 have N:=S.nw (d,a)<|.head _;have nd:=S.nd;simp only[bP,kS,iQ,iR] at nd;exact⟨bG.Ea (Q:=[(d,a)]) S,eH N.2.1,N.2.2,λq b e=>nd.1 (by rw[<-e];exact om b)⟩
noncomputable def Mm:cA:=.Assign [.Attribute (.Name "self" ⟨65,8,65,12⟩) "number" ⟨65,8,65,19⟩] (.Constant (.int 0) 0 ⟨65,22,65,23⟩) ⟨65,8,65,23⟩
noncomputable def Mn:cA:=.Assign [.Attribute (.Name "self" ⟨66,8,66,12⟩) "text" ⟨66,8,66,17⟩] (.Name "text" ⟨66,20,66,24⟩) ⟨66,8,66,24⟩
structure uI(K:cU)(fI:aH)(sc:cY):Prop where
 chk:∀v,(λS=>xU K S (OE "Exception.__new__" ⟨[.ref b4,v],[]⟩))=λ_=>some ()
 ps:z6 K
 j3:K.lookup b4=some xr
 abN:gE K (.ref b4) "__init__"=some (some (.ref fI))
 kC:gE K (.ref b4) "number"=some none
 abO:gE K (.ref b4) "text"=some none
 fn:n9 K fI ["self","text"] [Mm,Mn] sc
 fnc:(K.lookup fI).map (·.cls)=some (.type "function")
 abP:sc.names.lookup ("self":aw)=some .local
 aP:sc.names.lookup ("text":aw)=some .local
inductive Mo(c:Fm)(z:Zs)(H:Hp)(e:aH)(s:ay):Prop
 |mk:∀h m cs g i,DI h s.heap e->bG c z H m cs {s with heap:=h} g i->Mo c z H e s
theorem Mp{h:cz}{e b:aH}(a:h.get? b=O o)(d:b≠e):(ml h [e]).get? b=O o:=FE _ a<|by simpa using d
end
section
variable{f:Fx}{p:Pt f}
theorem abQ{fI:aH}{sc:cY}{v:ak}{Q:ak->ay->Prop}{E:ak->ay->Prop}(u:uI cx.K fI sc)(hdep:f.g.A.depth+1<qd)
  (h:∀e s',Mo f.g.c p.z p.H e s'->cx.K.In s'.heap->Q (.ref e) s'):bk MM f.g.A (ku (.ref b4) [v]) Q E p.s:=by
 refine dn λF=>?_;obtain⟨g,i,S⟩:=id p.st;refine aB (fV.mp u.fnc) λoI hI hIc=>F ?_;have X:=S.dv.keeps S.fr.keep;refine abG (Looks.of_peek X<|congrFun (u.chk v) _) (g:=p.s.gens) (d:=p.s.drawn) (t:=p.s.toks) (os:=p.s.os) (X _ _ u.j3) (λh' k=>ae2 (X.keeps k) u.abN) (X _ _ hI) hIc (λh' e hm=>?_) (by rw[iz];simp);refine dn λF=>cF hm.there λt he htn ht=>?_;obtain⟨oe,G⟩:∃oe:PO,oe={cls:=.ref b4,data:=.fields #[.ref t,.none,.none,.none,.bool false,.none]}:=⟨_,J⟩;rw[<-G] at he;have a:=bG.abL (c:=f.g.c) (P:=f.g.c.P) (tk:=p.s.toks) S hm.keeps he hm.new;obtain⟨oc,od,osl,name,qual,params,dV,kV,doc,pm,an,cdv,ct,ho,hcd,hbind⟩:=u.fn.ex;refine F ?_;have hA:=f.g.fr;refine FW (Kv a.jm a.fr a.dv a.nw a.fH f.g.ok.XB f.g.ok.TB a.jQ a.iu hA f.g.ok.wW f.g.ok.aq ho hcd hdep (hbind _ [.ref e,v] (a.dv.keeps a.fr.keep) J) (u.fn.i [.ref e,v]) u.fn.mR (λg' L' w tk cells FG F' N' Y B' X' T' D' hlt hgt hcn UP=>?_) u.fn.co u.fn.Ex u.fn.aq)
 let c₂:Fm:={A₀:=f.g.A.under<|.builtin "type.__call__" ⟨.ref b4::[v],[]⟩,lY:=f.g.c.lY,ir:=f.g.c.aS::f.g.c.ir,L:=L',aS:=jW qual sc L' fI cdv,td:=g',P:=f.g.c.P++f.cs,eS:=f.g.c.eS}
 let M:aw->Option ak:=xN (jW qual sc L' fI cdv).kindOf [("self",.ref e),("text",v)] λξ=>U
 have R:bG (c₂.P'<|(e,oe)::(f.g.c.P++f.cs)) p.z p.H M cells {p.s with heap:=w,toks:=tk} g' i:=by
  have P:=Eu (f.g.c.P'<|(e,oe)::f.g.c.P) f.cs p.z cells i;refine⟨.refl,F',λq T=>N' q<|P.mem_iff.mp T,B',X',T',D',(P.map _).nodup_iff.mpr ?_,S.cX,by rw[S.fy]⟩;exact zD a.nd hcn λq T r hr=>uO (hlt r hr)<|hgt q T
 have Z:=(R.nw (e,oe)<|.head _).1;refine dn λF=>u9 R.abM λl hLe hge hle=>?_;have X₂:cx.K.In w:=l.dv.keeps l.fr.keep;have hks:=u.abP;have hkt:=u.aP;have nd2:=u.fn.nd;have hms:M "self"=O (.ref e):=Et hks nd2<|.head _;have hmt:M "text"=O v:=Et hkt nd2<|.tail _<|.head _;have kd:=u.fn.aq;refine F<|AR<|Ow (Op<|FF (AO kd hks l.fr.ns hms ?_)<|D J) J;have I₁:qV w e #[.ref t,.none,.none,.none,.bool C,.none] (λξ=>U):=⟨_,Z,by rw[G],by rw[G],.inl ⟨by rw[G],λξ=>J⟩⟩;refine Mk X₂ u.ps u.kC I₁ Of (by simp) λh₂ tk₂ V kp₂ dn₂=>?_;have hdn:∀j d,w.get? e=O j->j.dict=O d->False:=λj d h1 h2=>ba<|(bH aef<|G.symm.trans<|cT<|Z.symm.trans h1).trans h2;have gne:∀b o,g'.get? b=O o->b≠e:=λb o hb q=>ba<|hge.symm.trans<|q▸hb;have x:=l.Ml (tk:=tk₂) (λb=>b=e) hLe gne hle λb o hb hn=>kp₂ b o hn (λj d h1 h2=>(hdn j d h1 h2).elim) hb;have X₃:=x.dv.keeps x.fr.keep;refine AR<|Ow (FF (AO kd hkt x.fr.ns hmt ?_)<|D J) J;refine FF (AO kd hks x.fr.ns hms ?_)<|D J;refine Mk X₃ u.ps u.abO V (Oe _ _ Of) (by simp) λW tk₃ I₃ kp₃ dn₃=>?_;obtain⟨o₂,K,_,_,hd₂⟩:=V;have apart:∀b o,w.get? b=O o->b≠e->¬(b=e∨o₂.dict=O b):=λb o hb hn q=>q.elim hn λq=>(dn₂ _ _ K q).elim (λd1=>ba<|d1.symm.trans hb) λh=>h.elim λj d=>hdn j _ d.1 d.2;have y:=x.Ml (tk:=tk₃) (λb=>b=e∨o₂.dict=O b) (iU l.fr.ns λoL es ep hL ξ=>apart _ _ hL hLe) (λb o hb=>apart b o (l.fr.keep b o hb)<|gne b o hb) (λq T=>apart _ _ (l.nw q T).1<|hle q T)
  λb o hb hn=>kp₃ b o (λq=>hn<|.inl q) (λj d h1 h2 q=>hn<|.inr<|(bH aef<|cT<|K.symm.trans h1).trans<|h2.trans<|bH O q.symm) hb
 refine s9 ⟨J,?_⟩;refine dn λF=>A5 (UP g' .refl) λh₀' T₀ B B₀ K₀ P₀ D₀ n₀=>F<|h e _ ⟨ml W [e],f.m,f.cs,h₀',i,⟨λb o q=>Fv _ q,aev _<|.head _,?_⟩,?_⟩<|y.dv.keeps y.fr.keep
 ·obtain⟨o₃,ho₃,hc₃,hd₃,_⟩:=I₃;exact A7 o₃ _ ho₃ hc₃ hd₃ J J
 ·have gb:∀b o,g'.get? b=O o->(ml W [e]).get? b=O o:=λb o hb=>Mp (y.fr.keep b o hb) λq=>by subst q;rw[hge] at hb;exact ba hb
  refine⟨T₀,⟨?_,λb o q=>gb b o<|B.keep b o q,B.above⟩,λq T=>?_,B₀,K₀,P₀,D₀,Ew f.g.c f.cs cells p.z i y.nd,S.cX,by rw[S.fy]⟩
  ·exact dn λF=>iU B.ns λoL es ep hL r=>F<|lz oL es ep (gb _ _ hL) r
  ·have hq':=Ev f.g.c f.cs cells p.z i q T;have N:=y.nw q hq';refine⟨Mp N.1<|hle q hq',λq'=>?_,n₀ _ N.2.2⟩;refine dn λF=>iU B.ns λoL ξ ξ hL ξ=>F ?_;rw[q',hL] at N
   cases N.2.2
end
inductive Mq(E:ak->ay->Prop)(s:ay):ak->Prop
 |mk (e:aH) (oe:PO) (vs:Array ak) (hC:s.heap.get? b4=some xr) (he:s.heap.get? e=some oe) (hc:oe.cls=.ref b4) (hd:oe.data=.fields vs) (h1:vs[1]? =some .none) (hE:E (.ref e) s):Mq E s (.ref e)
theorem abR{M:uW}{A:dN}{j:dA}{x:Sem ak}{Q:kw->ay->Prop}{E:ak->ay->Prop}(p:A.handled=U)
  (h:bk M A x (λv a=>Mq E a v) E s):
  bk M A (raiseStmt j (O x) U) Q E s:=by
 unfold raiseStmt;refine bu<|mm h (λv a c=>?_) λq q x=>x;obtain⟨e,w,y,o,k,l,hd,r,t⟩:=c;have f:∀{b:Bool->ay->Prop},b C a->bk M A (isType<|.ref e) b E a:=by
  intro b m;simp only[isType,loadHead];refine bu<|aeW k ?_;rw[hd];exact dB m
 have i:∀{b:ak->ay->Prop},b (.ref b4) a->bk M A (typeOf<|.ref e) b E a:=by
  intro b m;simp only[typeOf];exact bu<|wpAny_load k<|dB<|l▸m
 have u:a.TypeIs (.ref b4) "type":=aD _ o J;refine bu<|dB ?_
 dsimp only
 refine bu<|mn ?_;unfold excFromValue isExcClass;refine bu<|bu<|f ?_;simp only[mY,if_false];refine dB ?_;simp only[mY,if_false];refine bu ?_;unfold OF;refine bu<|i ?_;obtain⟨hp,g,d,tk,os⟩:=a;refine OD o ?_;rw[abD];simp only[if_true];refine dB<|bu<|f ?_;simp only[mY,if_false];refine bu ?_;unfold raisedInstance;refine bu<|i ?_;refine bu<|aeV u ?_;rw[aN (D J)];refine dB<|bu ?_;unfold Fu;refine bu<|s5 k hd r ?_;rw[a9 (D J)];exact dB<|wpAny_raiseNew_none p t
section
variable{g:Gx}
theorem abS{e:E}(s:uI cx.K A l)(F:Av g.ag g.A)(hd:g.hd=C)
  (G:gq cx.K ez "ParseStop"=O (O<|.ref b4))(p:mo cx.K (.ref b4)=I)(H:iv g.c.aS.scope "ParseStop"=I)(L:gq cx.K ez "str"=O U)(M:iv g.c.aS.scope "str"=I)(N:fJ k=I)(X:∀w:Wt g,bj w.f e k):
  dj g (.ye e) (.Raise (O<|.Call (.Name "ParseStop" B) [.Call (.Name "str" m) [k] [] a] [] b) U o):=λw Q E T=>by
 rw[arm_exec_Raise];refine bu<|u0<|abR F.gR ?_;refine bu<|mm ?_ (λv u h=>bu<|u0<|dB h) λY Y x=>x;refine xQ ?_;rw[pV J];refine w.p.jP G H J<|qT (p:=w.p) (FJ p)<|FI<|xQ ?_;rw[pV (show[k].all fJ=I from(Bool.and_true _).trans N)];refine DS w.p.st L (v:=.type "str") J (D J) w.f.aq w.f.jP w.f.hW (beq_iff_eq.mp M) (D J)<|qT (D4 λ_ h=>nomatch h)<|FI<|T.nx (X w w.p) λq v pv le Z T=>?_;refine dn λK=>?_
 induction v using V.casesOn with
 |aa i=>
  have T:Ts (w.at q) (if 0<=i/\i<1000000 then .q q.H else .j) Q E:=T
  by_cases y:0<=i/\i<1000000
  ·rw[aN y] at T;refine K<|Z.elim λt e=>e▸FH ⟨bl,P.str_of_int ?_ (FH ⟨(q.tk _).st.dv,abQ (p:=q.tk _) s (F.sC []) λx z hm R=>hm.casesOn λc S r W d f j=>x6 f.Ku λoe vs a1 a2 a3 a4 a5=>⟨x,oe,vs,R _ _ s.j3,a1,a2,a3,a4,T.ex _ _ _ _ J .refl<|.inr ⟨hd,x,c,S,r,W,d,J,f,j⟩⟩⟩)⟩
   by_cases q:i.natAbs=0
   ·rw[q];decide
   ·exact(NW q).mpr<|iP (show i.natAbs<2^20 by lia)<|Nat.pow_le_pow_right (D J)<|D J
  ·rw[a9 y] at T;exact T.ne J
 |_=>exact T.ne J
end
section
variable{A₀:dN}{base g G B u:cz}{outer:List dA}{N:dA}{L:aH}{m:aw->Option ak}
theorem Mr(K:lu A₀ base outer g)(F:Fr g L G m)(j:N.frame=O L)(f:∀b o,G.get? b=O o->b∉dF (N::outer)->B.get? b=O o)(h:B.StaysIn u)(a:G.UpToSlots u):
  ∃i,mj (dF outer) g i/\Fr i L u m/\lu A₀ base outer i:=by
 obtain⟨T,S⟩:=aeq (fs:=dF outer)
  (λb hb=>by
   obtain⟨_,o,k,_⟩:=K.frames.mem hb;exact⟨o,k⟩)
  (λb o e nm=>h b o (f b o (F.keep b o e) (λhm=>by
   rcases sw j hm with z|z
   ·rw[z,AL F] at e;exact ba e
   ·exact nm z)))
  (λb o e hm=>by
   obtain⟨_,l,d,hd⟩:=K.frames.mem hm;rw[e] at d
   cases d
   exact a b o (F.keep b o e) hd)
 refine⟨_,T,⟨a.ns F.ns,S,by rw[T.size];exact F.above⟩,⟨K.stack,λb o e=>T.other b o (K.stays b o e) (λhm=>by
  rw[(K.frames.mem hm).1] at e;exact ba e),K.frames.of_keeps λb o e p=>?_⟩⟩
 obtain⟨q,hs⟩:=T.up e;exact aD _ hs J
theorem abT(F:Fr g L G m)(h:N.frame=O L)(a:∀b o,G.get? b=O o->b∉dF (N::outer)->B.get? b=O o)(hb:B.get? b=U)
  (d:∀o,g.get? b=O o->b∈dF outer->False):g.get? b=none:=by
 cases q:g.get? b with
 |none=>rfl
 |some o=>
  by_cases hm:b∈dF outer
  ·exact(d o q hm).elim
  ·have:=a b o (F.keep b o q) (λf=>by
    rcases sw h f with z|z
    ·rw[z,AL F] at q;exact ba q
    ·exact hm z)
   rw[hb] at this;exact ba this
end
noncomputable def Gx.mq(g:Gx)(e:aH)(a:PO){b:Array ak}(Y:a.data=.fields b)(d:b[2]? =O .none):Gx:=⟨g.ag,g.ns,I,g.c.P'<|(e,a)::g.c.P,g.A.mark<|O<|.ref e,g.fr,⟨g.ok.wW,g.ok.aq,g.ok.jP,g.ok.hW,g.ok.XB,g.ok.TB,g.ok.jl,g.ok.dZ⟩,.inr<|f5 e a b J (.head _) Y d,g.qS⟩
section
variable{g:Gx}{w:Wt g}{x:ak}{H:Hp}{z:Zs}{s:ay}{hb:List S}{j:cA}{suite:List cA}{np hpos tpos y:cJ}{Q:kw->ay->Prop}{E:ak->ay->Prop}
theorem Mt(Y:gq cx.K ez "ParseStop"=O (O<|.ref b4))(g1:iv g.c.aS.scope "ParseStop"=I)(hC:xV cx.K b4 "BaseException"=I)(M:∀i:Gx,i.hd=I->i.ag=g.ag->i.ns=g.ns->i.c.aS=g.c.aS->kh i hb (j::suite))
  (T:Ts w (kY<|aZ g.ag hb w.l H) Q E)(le:w.z.le z)(X:Xs g.c z H w.m w.cs x s):
  bk MM g.A (AK x g.c.aS) (λξ s₂=>bk MM g.A (Fu x U) (λξ s₃=>bk MM g.A (handleBy x g.c.aS [.ExceptHandler (O<|.Name "ParseStop" np) U (j::suite) hpos]) Q E s₃) E s₂) E s:=by
 obtain⟨e,G,gg,lvs,rfl,T0,F,K,X₀,P₀,a,⟨B,hB,R,hl,hfl⟩,hsm,nd,Lv,same⟩:=X;have hf:=g.ok.wW;have hL:B.get? g.c.L=none:=by
  refine ly hfl.2.2.1 ?_;rintro _ ⟨L',_,hf',hn',_⟩ _;obtain rfl:g.c.L=L':=cT<|hf.symm.trans hf';exact hn'
 refine Ks g.fr hf hfl λh₄ x₄ p=>zC x₄ λu f r=>cF (Mr K F hf R f.1<|hsm.trans<|p.trans r) λg₅ T₅ t y=>?_;have A:=g.ok.XB.keeps y.stays;have P₅:oz cx.p cx.gl cx.lW cx.mg cx.mb g₅:=g.ok.TB.keeps y.stays;obtain⟨nm,q',N,bs,bm,hdct,sn,sub,ab,col,dd,k0,k1,k2,k3,k5,newId,V,hbase,hbT⟩:=kts_cls (A.keeps t.keep) hC;obtain⟨_,_,_,oe₅,vs₅,T5,oT5,ts5,he5,hcl5,_⟩:=id f;refine wpAny_handleBy_cons (codeAny_handlers_test<|nameG_K t A (topRead_of P₅) Y ?_ g.ok.jP g.ok.aq (beq_iff_eq.mp g1)<|D J) (by intro q;cases q);refine wpAny_excMatches_sub_self V he5 hcl5 hbase<|codeAny_handlers_suite ?_;refine zC f λh₆ k u₆=>?_;have b:=hsm.trans<|p.trans<|r.trans u₆;refine cF (Mr K F hf R k.1 b) λP d Z l=>?_;obtain⟨_,hBe,_,oe,vs,T6,oT6,ts6,he,hcl,hd,hv1,hv2,_⟩:=id k;have W:=d.none_ _ (abT F hf R hBe λo ho m=>by
  obtain⟨_,o',ho',hd'⟩:=K.frames.mem m;rw[ho] at ho'
  cases ho'
  obtain⟨sl,hs⟩:=b _ _ (F.keep _ _ ho) hd';rw[he] at hs
  cases hs
  exact hd' _ hd)
 have S₆:bG (g.c.P'<|(e,oe)::g.c.P) z H w.m w.cs {s with heap:=h₆} P lvs:=by
  refine⟨T0.trans d,Z,λq hq=>?_,l,g.ok.XB.keeps l.stays,g.ok.TB.keeps l.stays,a.turn d,?_,Lv,by rw[same]⟩
  ·rcases d4.mp hq with rfl|hq
   ·refine⟨he,λq=>?_,W⟩;refine te Z.ns λoL es ep ho hdL ξ=>?_;have ho:=(q.symm)▸ho;rw[he] at ho
    cases ho
    rw[hd] at hdL;cases hdL
   ·exact⟨k.1 _ _ (hl q hq).1,λzz=>ba<|(zz▸hL).symm.trans (hl q hq).1,d.none_ _<|kts_none F.keep (hl q hq).2.1⟩
  ·rw[iQ,iR];exact⟨λh=>aB (ej.mp h) λq hq eq=>ba<|(show B.get? q.1=U from eq▸hBe).symm.trans (hl q hq).1,nd⟩
 let w':Wt (g.mq e oe hd hv2):=⟨z,H,_,w.l,w.m,w.cs,w.cm,⟨P,lvs,S₆⟩,g9.j<|w.lo.au le,w.fx.re⟩
 refine mm (M (g.mq e oe hd hv2) J J J J w' Q (λξ ξ=>False) ⟨λh=>T.ne<|bH kY h,λv fl pfl h le' fr=>?_,λ_ _ _ _ h _ _=>(T.ne<|bH kY h).elim,aeg⟩) (λ_ _ h=>h) λξ ξ h=>h.elim;obtain⟨i,lvs',S'⟩:=v.st;have h:aZ g.ag hb w.l H=.ok (fl,v.l) v.H:=h;rw[h] at T;exact T.st ⟨v.m,v.cs,v.cm,⟨i,lvs',bG.Ea (Q:=[(e,oe)]) S'⟩,sD S' v.fx.re g.ok.jl v.lo,v.fx.re⟩ (le.q le') fr
end
section
variable{g:Gx}{hb:List S}{j:cA}{suite:List cA}{np hpos tpos y:cJ}{e:E}{F:aX}(Y:gq cx.K ez "ParseStop"=some (some (.ref b4)))(g1:iv g.c.aS.scope "ParseStop"=true)(hC:xV cx.K b4 "BaseException"=true)(M:∀i:Gx,i.hd=true->i.ag=g.ag->i.ns=g.ns->i.c.aS=g.c.aS->kh i hb (j::suite))
include Y g1 hC M
theorem abU{i:Nat}{x:aw}(b:oy F (O<|.Name x a) y.line g.c.aS=pure C)(d:∀w:Wt g,bj w.f e F)(f:jn g.c.aS.scope g.ns i x=I):
  dj g (.m5 i e hb) (.Try [.Assign [.Name x a] F y] [.ExceptHandler (O<|.Name "ParseStop" np) U (j::suite) hpos] [] [] tpos):=λw Q E T=>by
 have T:Ts w (match az g.ag e w.l w.H with|.ok v H=>.ok (.aU,w.l.set i<|O v) H|.q H=>kY (aZ g.ag hb w.l H)|.j=>.j) Q E:=T;refine ly (uE f) λn1 n2 n3=>ae3<|AR<|aeF (d w w.p _ _ ⟨λh=>T.ne<|h▸J,λq v o h le k=>?_,λx s p l h le X=>?_⟩) b
 ·rw[show az g.ag e w.l w.H=.ok v q.H from h] at T;exact xe g.ok (w.at q).S k n1 n2 n3 λs S=>s9<|s9<|T.st S le bl
 ·rw[show az g.ag e w.l w.H=.q l from h] at T;exact Mt Y g1 hC M T le X
theorem abV(a:FL g.c.aS=C)(b:oy F U y.line g.c.aS=pure C)(d:∀w:Wt g,bj w.f e F):
  dj g (.nb e hb) (.Try [.Expr F y] [.ExceptHandler (O<|.Name "ParseStop" np) U (j::suite) hpos] [] [] tpos):=λw Q E T=>by
 have T:Ts w (match az g.ag e w.l w.H with|.ok v H=>.ok (.aU,w.l) H|.q H=>kY (aZ g.ag hb w.l H)|.j=>.j) Q E:=T;refine ae3<|AR<|aeD (d w w.p _ _ ⟨λh=>T.ne<|h▸J,λq v i h le k=>?_,λx s l f h le X=>?_⟩) a b
 ·rw[show az g.ag e w.l w.H=.ok v q.H from h] at T;exact s9<|s9<|T.st (w.at q).S le bl
 ·rw[show az g.ag e w.l w.H=.q f from h] at T;exact Mt Y g1 hC M T le X
end
noncomputable section
noncomputable def Sd{i:Type}(P:i->Prop)(o:Option i):Prop:=∀e,o=O e->P e
noncomputable def gd{i:Type}(b:Bool)(x:Option i):Option i:=cond b x U
section
variable{j i:Type}{P:i->Prop}
theorem gP:Sd P none:=λ_ h=>ba h
theorem c4{e:i}(h:P e):Sd P (O e):=λ_ q=>cT q▸h
theorem pY{o:Option j}{k:j->Option i}(h:∀a,o=O a->Sd P (k a)):Sd P (o.bind k):=by
 cases o with
 |none=>exact gP
 |some a=>exact h a J
theorem dL(h:b=I->Sd P x):Sd P (gd b x):=by
 cases b with
 |false=>exact gP
 |true=>exact h J
theorem Mu{o:Option i}(h:Sd P o)(b:P d):P (o.getD d):=by
 cases o with
 |none=>exact b
 |some a=>exact h a J
noncomputable def pZ(a:aX)(k:aw->cJ->Option i):Option i:=match a with
 |.Name x p=>k x p
 |_=>U
noncomputable def z7(b:aX)(k:aX->List aX->List Keyword->cJ->Option i):Option i:=match b with
 |.Call f a c p=>k f a c p
 |_=>U
noncomputable def mS(l:List j)(k:j->Option i):Option i:=match l with
 |[]=>U
 |a::r=>gd r.isEmpty<|k a
theorem qW{k:aw->cJ->Option i}{P:aX->i->Prop}(h:∀x p,Sd (P<|.Name x p)<|k x p):Sd (P a) (pZ a k):=by
 cases a<;>first|exact h _ _|exact gP
theorem EC{k:aX->List aX->List Keyword->cJ->Option i}{P:aX->i->Prop}(h:∀f a c p,Sd (P<|.Call f a c p)<|k f a c p):Sd (P b) (z7 b k):=by
 cases b<;>first|exact h _ _ _ _|exact gP
theorem og{k:j->Option i}{P:List j->i->Prop}(h:∀a,Sd (P [a])<|k a):Sd (P l) (mS l k):=by
 cases l with
 |nil=>exact gP
 |cons a r=>exact dL λe=>lq.mp e▸h a
end
noncomputable abbrev sH:=Bool->cY->aX->E
noncomputable def Mv(c:Const):Option E:=match c with
 |.int i=>O<|.c<|.aa i
 |.str y=>gd (decide (y.cps.toList.length<=1000))<|O<|.c<|.ah y.cps.toList
 |.bool b=>O<|.c<|.i b
 |.none=>O<|.c .none
 |_=>U
noncomputable def Mw(v:ak):V:=match v with
 |.bool b=>.i b
 |.int i _=>.aa i
 |.str x _=>.ah x.cps.toList
 |_=>.none
noncomputable def abW(K:cU)(a:aH):List ak:=match K.lookup a with
 |some ⟨_,_,.seq b _,_⟩=>b.toList
 |_=>[]
noncomputable def Mx(K:cU)(v:ak):V:=match v with
 |.ref a=>.u<|(abW K a).map Mw
 |v=>Mw v
noncomputable def ED(K:cU)(a:List aw)(c:cY)(x:aw):Option E:=
 match D3 c x&&(kP x&&(dy a (a.idxOf x)==x)) with
 |true=>O<|.l<|a.idxOf x
 |false=>((gq K ez x).bind id).bind λb=>gd (DW K (Mx K b) b&&(iv c x&&kP x))<|O<|.c<|Mx K b
noncomputable def xt(e:E):Option Int:=match e with
 |.c v=>(match v with
  |.aa i=>O i
  |_=>U)
 |_=>U
noncomputable def EE(a b:E):E:=(((xt a).bind λi=>(xt b).map λj=>E.c<|.aa<|i+j).getD<|.bJ .i a b)
noncomputable def abX:List f4:=[.eA,.j,.q,.y,.u,.rz]
noncomputable def abY:List qg:=[.eq,.ne,.lt,.gt,.ge,.le,.i,.q,.j,.u]
noncomputable def EF(o:Oh)(a b:E):Option E:=match decide (o=.Add) with
 |true=>O<|EE a b
 |false=>(abX.find? λop=>decide (o=ma op)).map λop=>.bJ op a b
noncomputable def My(a:aX):Option E:=match a with
 |.Constant c _ _=>(match c with
  |.int i=>gd (decide (i=(i.toNat:Int)))<|O<|.qj i.toNat
  |_=>U)
 |_=>U
noncomputable def Mz(r:aX->E)(a:aX)(d:List CmpOp)(e:List aX):Option E:=mS d λo=>mS e λb=>(abY.find? λc=>decide (o=qR c)).bind λc=>gd (!On (qR c) b)<|O<|.b9 c (r a)<|r b
noncomputable def MA(r:aX->E)(a:aX)(x:aw):Option E:=gd (decide (x.cps.toList∈iN)&&uC a)<|O<|.q (r a) x.cps.toList
noncomputable def oE(r:aX->E)(e:Option aX):E:=match e with
 |none=>.c .none
 |some e=>r e
noncomputable def MB(r:aX->E)(a i:aX):Option E:=match i with
 |.Slice lo b st _=>gd st.isNone<|O<|.slc (r a) (oE r lo)<|oE r b
 |i=>O<|.y (r a)<|r i
noncomputable def boM(c:aek)(a b:E):E:=match c with
 |.And=>.bN a b
 |.Or=>.or a b
noncomputable def MC(c:aek)(r:aX->E)(l:List aX):aX->E:=l.rec r λb _ d a=>boM c (r a)<|d b
noncomputable def p6:List eJ:=[.u,.j,.vl,.q,.i,.vm,.vn,.vo,.y,.tu,.tv,.tw]
noncomputable def MD(x:aw)(a:List E):Option E:=cond (decide (x="len")) (O<|.bi .bK a)<|cond (decide (x="int")) (O<|.bi .aa a)<|cond (decide (x="max")) (O<|.bi .i a)<|gd (decide (x="sum"))<|O<|.bi .j a
noncomputable def EG(K:cU)(a:aH)(b:List E):Option E:=match p6.find? λc=>df c==a with
 |some c=>O<|.ce c b
 |none=>gd ((lG.lookup a).isSome&&mo K (.ref a))<|O<|.ao a b
noncomputable def ME(K:cU)(c:cY)(r:aX->E)(pf:aX)(as:List aX)(b:cJ):Option E:=match pf with
 |.Name x _=>gd (iv c x&&kP x) ((gq K ez x).bind λo=>match o with
  |some d=>(match d with
   |.ref a=>EG K a<|as.map r
   |_=>U)
  |none=>MD x<|as.map r)
 |.Attribute o x ap=>gd (uC o&&(decide (as.length<30)&&(ap.endLine==b.line)))<|O<|.aO (r o) x.cps.toList<|as.map r
 |_=>U
noncomputable def z8(a:List E):Option (List V):=match a with
 |[]=>O []
 |e::r=>match e with
  |.c v=>(z8 r).map (v::·)
  |_=>U
noncomputable def z9(a:List<|Option aX):Option (List aX):=match a with
 |[]=>O []
 |e::r=>match e with
  |some e=>(z9 r).map (e::·)
  |none=>U
noncomputable def EH(r:aX->E)(c:List<|Option aX)(b:List aX):Option E:=match c.isEmpty with
 |true=>gd b.isEmpty<|O<|.dct [] []
 |false=>(z9 c).bind λps=>(z8<|ps.map r).bind λa=>gd (Es a&&(decide (a.length=(b.map r).length)&&(decide (a.length≠0)&&decide (a.length<=15))))<|O<|.dct (a.map .c)<|b.map r
noncomputable def xu(a:aX):Option aX:=z7 a λg as b _=>pZ g λx _=>gd (decide (x="range")&&b.isEmpty)<|mS as O
noncomputable def xv(K:cU)(a:cY)(x:aw):Bool:=(gq K ez x==O U)&&iv a x
noncomputable def Aa(a:aX):Bool:=a.ctorIdx !=7
noncomputable def EI(K:cU)(c:List aw)(f:Bool)(r:cY->aX->E)(b:cY)(e:aX)(h:List Oi)(a:cY):Option E:=mS h λg=>gd (g.ifs.isEmpty&&decide (g.is_async=0))<|pZ g.target λd _=>gd (pX b a c (c.idxOf d) d)<|match xu g.iter with
 |some n=>gd (!f&&(xv K b "range"&&fJ n))<|O<|.lE (r (ki b a) e) (c.idxOf d)<|r b n
 |none=>gd (Aa g.iter)<|O<|.i (r (ki b a) e) (c.idxOf d)<|r b g.iter
noncomputable def MF(K:cU)(g:List aw)(h:Bool)(r:sH)(d:cY)(i:aX):Option E:=match i with
 |.Constant c _ _=>Mv c
 |.IfExp t a b _=>O<|.bz (r I d t) (r C d a)<|r C d b
 |.Tuple f _ _=>gd (f.all fJ&&decide (f.length<=1000))<|O<|.u<|f.map<|r C d
 |.List f _=>gd (f.all fJ&&decide (f.length<=1000))<|O<|.af<|f.map<|r C d
 |.Dict ks j _=>EH (r C d) ks j
 |.ListComp e k scope _=>EI K g h (r C) d e k scope
 |_=>U
noncomputable def MG(K:cU)(e:List aw)(f:Bool)(r:sH)(t:Bool)(c:cY)(pe:aX):Option E:=match pe with
 |.BoolOp op l _=>(match l with
  |[]=>U
  |a::l=>O<|MC op (r t c) l a)
 |.UnaryOp o a _=>(match o with
  |.Not=>O<|.cB<|r t c a
  |.USub=>gd (!t)<|My a
  |_=>U)
 |.Compare a os h _=>Mz (r C c) a os h
 |.BinOp a o b _=>EF o (r C c a)<|r C c b
 |.Name x _=>ED K e c x
 |.Attribute a x _=>MA (r C c) a x
 |.Subscript a i _=>MB (r C c) a i
 |.Call g as j d=>gd (j.isEmpty&&(!f&&as.all fJ))<|ME K c (r C c) g as d
 |pe=>gd (!t)<|MF K e f r c pe
noncomputable def MH(K:cU)(a:List aw)(b:Bool)(n:Nat):sH:=n.rec (λ_ _ _=>.j) λ_ r t sc c=>(MG K a b r t sc c).getD .j
noncomputable def uJ(a:aX):Bool:=a.ctorIdx==8||(a.ctorIdx==9||a.ctorIdx==10)
noncomputable def MI(a:aX):Bool:=a.ctorIdx !=25
noncomputable def MJ(a:List aX):Option (List<|aw×cJ):=a.rec (O []) λt _ b=>pZ t λx p=>b.map ((x,p)::·)
noncomputable def abZ(K:cU)(a:List aw)(b:Bool)(r:cY->aX->E)(c:cY)(d:aX):Option E:=match d with
 |.ListComp e f scope _=>EI K a b r c e f scope
 |_=>U
noncomputable def EJ(K:cU)(c:List aw)(d:Bool)(r:cY->aX->E)(b:cY)(a:aX):Option E:=match uJ a with
 |true=>abZ K c d r b a
 |false=>O<|r b a
noncomputable def MK(K:cU)(a:List aw)(d:Bool)(r:cY->aX->E)(b:cY)(t c:aX):Option S:=match t with
 |.Name x _=>gd (jn b a (a.idxOf x) x)<|(EJ K a d r b c).map<|.i<|a.idxOf x
 |.Attribute o x _=>gd (decide (x.cps.toList∈iN))<|O<|.cQ (r b o) x.cps.toList<|r b c
 |.Tuple ts _ _=>gd (!d&&MI c) ((MJ ts).bind λtl=>gd (xl b a (tl.map λq=>a.idxOf q.1) tl)<|O<|.iW (tl.map λq=>a.idxOf q.1)<|r b c)
 |_=>U
noncomputable def ab0:List f4:=[.i,.eA]
noncomputable def ML(a:List aw)(r:aX->E)(d:cY)(t:aX)(o:Oh)(c:aX):Option S:=(ab0.find? λop=>decide (o=ma op)).bind λop=>match t with
 |.Name x _=>gd (jn d a (a.idxOf x) x&&kP x)<|O<|.de (a.idxOf x) op<|r c
 |.Attribute b x _=>gd (decide (x.cps.toList∈iN))<|O<|.oW (r b) x.cps.toList op<|r c
 |_=>U
noncomputable def MN(K:cU)(a:List aw)(e:Bool)(r:aX->E)(d:cY)(t c:aX)(b:List S):Option S:=pZ t λx _=>gd (!e&&jn d a (a.idxOf x) x)<|match xu c with
 |some n=>gd (xv K d "range"&&fJ n)<|O<|.jA (a.idxOf x) (r n) b
 |none=>gd (Aa c)<|O<|.y (a.idxOf x) (r c) b
noncomputable def EK(K:cU)(a:cY):Bool:=(gq K ez "ParseStop"==O (O<|.ref b4))&&iv a "ParseStop"
noncomputable def MO(K:cU)(f:Bool)(r:aX->E)(d:cY)(e c:Option aX):Option S:=gd (!f&&(c.isNone&&(EK K d&&xv K d "str")))<|e.bind λe=>z7 e λg as b _=>pZ g λx _=>mS as λa=>gd (decide (x="ParseStop")&&b.isEmpty)<|z7 a λg as b _=>pZ g λx _=>mS as λa=>gd (decide (x="str")&&(b.isEmpty&&fJ a))<|O<|.ye<|r a
noncomputable def MP(K:cU)(c:List aw)(r:aX->E)(e:List cA->List S)(d:cY)(b:List cA)(f:List ae4):Option S:=gd (EK K d)<|mS b λst=>mS f λh=>match h with
 |.ExceptHandler ht nm hb _=>ht.bind λht=>pZ ht λx _=>gd (decide (x="ParseStop")&&(nm.isNone&& !hb.isEmpty))<|match st with
  |.Assign ts a _=>mS ts λt=>pZ t λy _=>gd (!uJ a&&jn d c (c.idxOf y) y)<|O<|.m5 (c.idxOf y) (r a)<|e hb
  |.Expr a _=>gd ((d.kind== .function)&& !uJ a)<|O<|.nb (r a)<|e hb
  |_=>U
noncomputable def ab1(K:cU)(h:List aw)(d:Bool)(r:Bool->sH)(g:Bool->List cA->List S)(f:cY)(i:cA):Option S:=match i with
 |.Assign ts e _=>mS ts λt=>MK K h d (r d C) f t e
 |.AugAssign t o e _=>ML h (r d C f) f t o e
 |.Expr e _=>gd ((f.kind== .function)&& !uJ e)<|O<|.ex<|r d C f e
 |.If t a b _=>O<|.bQ (r d I f t) (g d a)<|g d b
 |.While t b o _=>gd o.isEmpty<|O<|.gH (r d I f t)<|g d b
 |.For t it b o _=>gd o.isEmpty<|MN K h d (r d C f) f t it<|g d b
 |.Return e _=>O<|.am<|oE (r d C f) e
 |.Raise e c _=>MO K d (r d C f) f e c
 |.Try b hs j k _=>gd (j.isEmpty&&k.isEmpty)<|MP K h (r d C f) (g I) f b hs
 |.Pass _=>O .Bj
 |.Break _=>O .u
 |.Continue _=>O .q
 |_=>U
noncomputable def uK(K:cU)(a:List aw)(n:Nat):Bool->cY->cA->S:=n.rec (λ_ _ _=>.j) λ_ b hd sc st=>(ab1 K a hd (λhd=>MH K a hd 60) (λhd l=>l.map<|b hd sc) sc st).getD .j
end
section
variable{B:Type}{P:B->Prop}
theorem MQ{b:Type}{o:Option b}{k:b->B}(h:∀a,o=O a->P (k a)):Sd P (o.map k):=by
 cases o with
 |none=>exact gP
 |some a=>exact c4<|h a J
theorem EL(h:b=I->Sd P x)(a:Sd P y):Sd P (cond b x y):=by
 cases b with
 |false=>exact a
 |true=>exact h J
end
noncomputable def Sm(t:Bool)(f:Fx)(e:E)(j:aX):Prop:=match t with
 |true=>iO f e j
 |false=>bj f e j
noncomputable def oh(ns:List aw)(hd:Bool)(f:Fx):Prop:=f.g.ns=ns/\(hd=C->Av f.g.ag f.g.A)
noncomputable abbrev RS(ns:List aw)(hd:Bool)(r:sH):Prop:=∀t (f:Fx),oh ns hd f->∀j,Sm t f (r t f.bo.scope j) j
section
variable{ns:List aw}{hd t:Bool}{r:sH}{q:aX->E}{f i:Fx}{p:cJ}
theorem oh.wP(ok:oh ns hd f)(h:∃P a,i.g=f.g.wP P a):oh ns hd i:=h.elim λP h=>h.elim λa e=>by unfold oh;rw[e];exact ok
theorem MR{j:aX}:Sm t f .j j:=by cases t<;>exactλp Q E T=>(T.ne J).elim
theorem xw{j:aX}(h:Sd (λe=>bj f e j) o)(b:∀a whole,isTrue j a whole=(do let v<-whole;Oo j.pos;holding [v]<|AD v)):Sd (λe=>Sm t f e j) o:=by
 cases t with
 |true=>exactλe q=>Zm b<|h e q
 |false=>exact h
theorem MS{j:aX}(h:Sd (λe=>bj f e j) o):Sd (λe=>Sm t f e j) (gd (!t) o):=by
 cases t with
 |true=>exact gP
 |false=>exact h
theorem ab2:Sd (λe=>bj f e<|.Constant c n p) (Mv c):=by
 cases c with
 |int i=>exact c4 Zw
 |str y=>exact dL λh=>c4<|Zx J<|dS h
 |bool b=>exact c4 Zy
 |none=>exact c4 Zz
 |_=>exact gP
theorem MT{b:Type}{o:Option<|Option b}{a:b}(h:o.bind id=O a):o=O (O a):=by
 cases o with
 |none=>exact ba h
 |some o=>exact bH O h
theorem ab3{x:aw}:Sd (λe=>bj f e<|.Name x p) (ED cx.K f.g.ns f.bo.scope x):=by
 unfold ED
 cases h:D3 f.bo.scope x&&(kP x&&(dy f.g.ns (f.g.ns.idxOf x)==x)) with
 |true=>exact c4<|ZB (beq_iff_eq.mp<|bR<|bR h) (bL h)<|bL<|bR h
 |false=>exact pY λa e=>dL λh=>c4<|ZA (MT e) (bL h) (bL<|bR h)<|bR<|bR h
theorem MU{e:E}{i:Int}(h:xt e=O i):e=.c (.aa i):=by
 induction e using E.casesOn with
 |c v=>induction v using V.casesOn with
  |aa j=>exact bH (λi=>E.c<|.aa i)<|cT h
  |_=>exact ba h
 |_=>exact ba h
theorem ab4(e:bj f a c)(g:bj f b d):bj f (EE a b) (.BinOp c .Add d p):=by
 have h:bj f (.bJ .i a b) (.BinOp c .Add d p):=Lg (op:=.i) e g;unfold EE
 cases k:xt a with
 |none=>exact h
 |some i=>cases h2:xt b with
  |none=>exact h
  |some j=>
   rw[MU k,MU h2] at h;exactλp Q E T=>h p Q E T
theorem ab5(g:bj f a c)(i:bj f b d):Sd (λe=>bj f e<|.BinOp c o d p) (EF o a b):=by
 unfold EF
 cases h:decide (o=.Add) with
 |true=>exact c4<|dS h▸ab4 g i
 |false=>exact MQ λop e=>by rw[dS (Fe (p:=λop=>decide (o=ma op)) e)];exact Lg g i
theorem ab6:Sd (λe=>bj f e<|.UnaryOp .USub a p) (My a):=by
 refine dn λb=>?_
 cases a with
 |Constant c n p=>cases c with
  |int i=>exact b (dL λh=>c4<|ZC<|dS h)
  |_=>exact b gP
 |_=>exact b gP
theorem Ab{x:aw}:x=ec x.cps.toList:=rfl
theorem Ac(h:Aa a=I)(b:dA)(x:ak):u4 a b x=pure x:=by
 cases a<;>first|rfl|exact bc h
theorem ab7(a:List E):∀{b:List V},z8 a=O b->a=b.map .c:=by
 induction a with
 |nil=>exactλh=>cT h▸J
 |cons k a d=>
  intro b h
  induction k using E.casesOn with
  |c v=>exact aB (fV.mp (show(z8 a).map (v::·)=O b from h)) λg e h2=>h2▸bH (E.c v::·) (d e)
  |_=>exact ba h
theorem ab8(ps:List<|Option aX):∀{a:List aX},z9 ps=O a->ps=a.map some:=by
 induction ps with
 |nil=>exactλh=>cT h▸J
 |cons k ks b=>
  intro c h
  induction k using gC with
  |none=>exact ba h
  |some v=>exact aB (fV.mp (show(z9 ks).map (v::·)=O c from h)) λe d h2=>h2▸bH (O v::·) (b d)
theorem MV:Sd (λn=>∃np b,d=.Call (.Name "range" np) [n] [] b) (xu d):=
 EC (P:=λd n=>∃np b,d=.Call (.Name "range" np) [n] [] b) λg as i b=>qW (P:=λg n=>∃np c,aeh g as i b=.Call (.Name "range" np) [n] [] c) λx np=>dL λh=>by
  rw[dS (bL h),lq.mp (bR h)];exact og (P:=λas n=>∃e c,aeh (.Name "range" np) as [] b=.Call (.Name "range" e) [n] [] c) λa=>c4 ⟨np,b,J⟩
theorem MW{M:List Oi->E->Prop}{r:cY->aX->E}{e:aX}(l:∀it b d,Aa it=I->pX c a ns (ns.idxOf b) b=I->M [⟨.Name b d,it,[],0⟩] (.i (r (ki c a) e) (ns.idxOf b)<|r c it))
  (m:∀n np i b d,hd=C->xv cx.K c "range"=I->fJ n=I->pX c a ns (ns.idxOf b) b=I->M [⟨.Name b d,.Call (.Name "range" np) [n] [] i,[],0⟩] (.lE (r (ki c a) e) (ns.idxOf b)<|r c n)):Sd (M k) (EI cx.K ns hd r c e k a):=
 og (P:=M) λg=>by
  obtain⟨t,it,j,o⟩:=g;refine dL λh=>?_;rw[show j=[] from lq.mp (bL h),show o=0 from dS (bR h)];refine qW (P:=λt e=>M [⟨t,it,[],0⟩] e) λb d=>dL λhc=>?_
  cases u:xu it with
  |none=>exact dL λh=>c4<|l it b d h hc
  |some n=>exact(MV n u).elim λnp h=>h.elim λi e=>dL λh=>c4<|e▸m n np i b d (kg<|bL h) (bL<|bR h) (bR<|bR h) hc
theorem xx{K:cU}(h:xv K a x=I):gq K ez x=O none:=beq_iff_eq.mp<|bL h
section
variable(u:∀j,bj f (q j) j)
include u
theorem ab9:Sd (λe=>Sm t f e<|.Compare a g d p) (Mz q a g d):=
 og (P:=λg e=>Sm t f e<|.Compare a g d p) λo=>og (P:=λd e=>Sm t f e<|.Compare a [o] d p) λb=>pY λc e=>dL λh=>c4<|by
  rw[dS (Fe (p:=λc=>decide (o=qR c)) e)]
  cases t with
  |true=>exact Zn (kg h) (u a)<|u b
  |false=>exact Zf (kg h) (u a)<|u b
theorem aca(b:∀cl,hD cx.K cl):Sd (λe=>bj f e<|.Attribute a x p) (MA q a x):=dL λh=>c4<|ZF b Ab (dS<|bL h) (bR h)<|u a
theorem MX{e:Option aX}:zQ f (oE q e) e:=by
 cases e with
 |none=>rfl
 |some e=>exact u e
theorem acb{a i:aX}:Sd (λe=>bj f e<|.Subscript a i p) (MB q a i):=by
 refine dn λb=>?_
 cases i with
 |Slice lo c st p=>cases st with
  |none=>exact b<|c4<|aaO (u a) (MX u)<|MX u
  |some _=>exact b gP
 |_=>exact b<|c4<|aaJ (λ_ _=>J) (u a)<|u _
theorem uL(l:List aX):n6 f (l.map q) l:=by
 induction l with
 |nil=>exact ZG
 |cons e l a=>exact ZH (u e) a
theorem MY(l:List aX):n8 f (l.map q) l:=by
 induction l with
 |nil=>trivial
 |cons e l a=>exact⟨u e,a⟩
theorem acd(F:Av f.g.ag f.g.A){as:List aX}{i:cJ}(b:gq cx.K ez x=O (O<|.ref a))(d:iv f.bo.scope x=I)(h4:kP x=I)(g:as.all fJ=I):Sd (λe=>bj f e<|.Call (.Name x i) as [] p) (EG cx.K a<|as.map q):=by
 unfold EG
 cases e:p6.find? λc=>df c==a with
 |some c=>exact c4<|ZJ F (beq_iff_eq.mp (Fe (p:=λc=>df c==a) e)▸b) d h4 g<|uL u as
 |none=>exact dL λh=>c4<|ZI F b d h4 g (bR h)<|uL u as
theorem ace(F:Av f.g.ag f.g.A){as:List aX}(b:gq cx.K ez x=O U)(c:iv f.bo.scope x=I)(h4:kP x=I)(d:as.all fJ=I):Sd (λe=>bj f e<|.Call (.Name x h) as [] p) (MD x<|as.map q):=
 have g:=uL u as
 EL (λe=>c4 (by cases dS e;exact zM (fv:=.builtin "len") b J (D J) nofun c h4 d (λp as a=>Z3) g))
 (EL (λe=>c4 (by cases dS e;exact zM (fv:=.type "int") b J (D J) nofun c h4 d (λp as a=>Z5) g)) (EL (λe=>c4 (by cases dS e;exact zM (fv:=.builtin "max") b J (D J) nofun c h4 d (λp as a=>Z4 F.gR) g)) (dL λe=>c4 (by cases dS e;exact zM (fv:=.builtin "sum") b J (D J) nofun c h4 d (λp as a=>Z7 F.gR) g))))
theorem acf(F:Av f.g.ag f.g.A){as:List aX}(c:as.all fJ=I):Sd (λe=>bj f e<|.Call pf as [] p) (ME cx.K f.bo.scope q pf as p):=by
 refine dn λb=>?_
 cases pf with
 |Name x np=>
  refine b<|dL λh=>pY λo e=>?_
  cases o with
  |none=>exact ace u F e (bL h) (bR h) c
  |some d=>
   refine dn λb=>?_
   induction d using sZ with
   |ref a=>exact b<|acd u F e (bL h) (bR h) c
   |_=>exact b gP
 |Attribute o x ap=>exact b (dL λh=>c4<|ZS F (λp v d=>Z2) Ab (bL h) c (dS<|bL<|bR h) (bR<|bR h) (u o)<|uL u as)
 |_=>exact b gP
end
variable(hr:RS ns hd r)(ok:oh ns hd f)
include hr
theorem acg(ok:oh ns hd f)(l:List aX):∀a,Sm t f (MC d (r t f.bo.scope) l a) (.BoolOp d (a::l) p):=by
 have h:=hr t f ok
 induction l with
 |nil=>
  intro a;have h:=h a
  cases t<;>cases d<;>first|exact Zg h|exact Zp h|exact Zq h
 |cons b l c=>
  intro a;have h:=h a;have c:=c b
  cases t<;>cases d<;>first|exact Zh h c|exact Zi h c|exact Zu h c|exact Zv h c
include ok
theorem Ad{e:aX}:∀i:Fx,(∃P b,i.g=f.g.wP P b)->i.bo.scope=ki f.bo.scope a->bj i (r C (ki f.bo.scope a) e) e:=λi h e=>e▸hr C i (ok.wP h) _
theorem ach:Sd (λe=>bj f e<|.Dict a b p) (EH (r C f.bo.scope) a b):=by
 unfold EH
 cases c:a.isEmpty with
 |true=>exact dL λd=>c4 (by rw[lq.mp c,lq.mp d];exact abh)
 |false=>
  refine pY λps e1=>pY λg e2=>dL λh=>c4 ?_;rw[ab8 _ e1];exact abg (bL h) (dS<|bL<|bR h) (dS<|bL<|bR<|bR h) (dS<|bR<|bR<|bR h) (λi h e=>ab7 _ e2▸e▸MY (hr C i<|ok.wP h) ps) λi h e=>e▸MY (hr C i<|ok.wP h) b
theorem aci{j:aX}:Sd (λe=>bj f e j) (MF cx.K ns hd r f.bo.scope j):=by
 have g:=hr C f ok;refine dn λd=>?_
 cases j with
 |Constant c n p=>exact d ab2
 |IfExp o a b p=>exact d<|c4<|Zl (hr I f ok o) (g a)<|g b
 |Tuple i k p=>exact d (dL λh=>c4<|ZN (bL h) ((c5 ..).symm▸dS (bR h))<|uL g i)
 |List i p=>exact d (dL λh=>c4<|ZO (bL h) ((c5 ..).symm▸dS (bR h))<|uL g i)
 |Dict ks x p=>exact d<|ach hr ok
 |ListComp e l scope p=>exact d (MW (M:=λl s=>bj f s<|.ListComp e l scope p) (λit u v h hc=>LX (Ac h) (ok.1.symm▸hc) (g it)<|Ad hr ok) λn np y u v w m h2 hc=>LZ (ok.2 w).gR (xx m) (bR m) h2 (λ_ _=>J) (ok.1.symm▸hc) (g n)<|Ad hr ok)
 |_=>exact d gP
theorem acj(k:∀cl,hD cx.K cl){j:aX}:Sd (λe=>Sm t f e j) (MG cx.K ns hd r t f.bo.scope j):=by
 have d:=hr false f ok
 refine dn λc=>?_
 cases j with
 |BoolOp op l p=>cases l with
  |nil=>exact c gP
  |cons a l=>exact c (c4 (acg hr ok l a))
 |UnaryOp o a p=>cases o with
  |Not=>
   have h:=hr t f ok a
   cases t with
   |true=>exact c (c4 (Zo h))
   |false=>exact c (c4 (Zk h))
  |USub=>exact c (MS ab6)
  |_=>exact c gP
 |Compare a os m p=>exact c (ab9 d)
 |BinOp a o b p=>exact c (xw (ab5 (d a) (d b)) λ_ _=>rfl)
 |Name x p=>exact c (xw (ok.1▸ab3) λ_ _=>rfl)
 |Attribute a x p=>exact c (xw (aca d k) λ_ _=>rfl)
 |Subscript a i p=>exact c (xw (acb d) λ_ _=>rfl)
 |Call g as s p=>exact c (xw (dL λh=>lq.mp (bL h)▸acf d (ok.2 (kg (bL (bR h)))) (bR (bR h))) λ_ _=>rfl)
 |_=>exact c (MS (aci hr ok))
end
theorem ack(a:∀cl,hD cx.K cl){ns:List aw}{hd:Bool}(n:Nat):RS ns hd (MH cx.K ns hd n):=by
 induction n with
 |zero=>exactλt f ok j=>MR
 |succ n b=>exactλt f ok j=>Mu (acj b ok a) MR
theorem Ae{q:aX}(h:uJ q=C)(t:Option aX)(a:Nat)(b:dA):oy q t a b=pure false:=by
 cases q<;>first|rfl|exact c6 h
theorem acl{q c:aX}{j:cJ}(a:Nat)(b:dA):oy q (O<|.Attribute c x j) a b=pure false:=by
 cases q<;>rfl
theorem acm{q:aX}{j:cJ}(a:Nat)(b:dA):aeQ [.Tuple c k j] q a b=pure false:=by
 cases q<;>rfl
theorem acn{q:aX}(h:MI q=I){j:cJ}(a:dA):aeR [.Tuple b k j] q a=pure none:=by
 cases q<;>first|rfl|exact bc h
noncomputable def EM(b a:cY)(x:aw)(p u:cJ):Bool:=(if b.kind.isAnnotationScope then ScopeKind.function else b.kind)== .function&&b.names.lookup x==O .local&&u.line==p.line&& !(a.names.any λ(n,k)=>n==x&&(k== .local||k== .cell))
theorem Af{g:List Oi}{p u:cJ}{d:dA}(e:Nat)(h:EM d.scope c x p u=b):oy (.ListComp a g c p) (O<|.Name x u) e d=pure b:=h▸J
theorem MZ{b c:Type}{P:c->Prop}{o:Option b}{k:b->c}(h:Sd (λa=>P<|k a) o):Sd P (o.map k):=MQ h
theorem aco(a:List aX):Sd (λtl=>a=pW tl) (MJ a):=by
 induction a with
 |nil=>exact c4 J
 |cons t a b=>exact qW (P:=λt tl=>t::a=pW tl) λx p=>MZ λe q=>bH (Expr.Name x p::·)<|b e q
noncomputable def uM(ns:List aw)(hd:Bool)(g:Gx):Prop:=g.ns=ns/\(hd=C->g.hd=C/\Av g.ag g.A)
section
variable{ns:List aw}{hd:Bool}{g:Gx}{r:sH}{u j p:cJ}{q:aX}
theorem M0{a:dA}(h:(a.scope.kind== .function)=I):FL a=false:=by
 unfold FL;rw[beq_iff_eq.mp h];rfl
theorem Ag{k:cA->S}(h:∀st,dj g (k st) st)(l:List cA):kh g (l.map k) l:=by
 induction l with
 |nil=>exact aaf
 |cons st l a=>exact aag (h st) a
theorem EN{K:cU}(h:EK K a=I):gq K ez "ParseStop"=O (O<|.ref b4):=beq_iff_eq.mp<|bL h
theorem uM.i(ok:uM ns hd g){a:Fx}(h:∃P b,a.g=g.wP P b):oh ns hd a:=h.elim λP h=>h.elim λb e=>by unfold oh;rw[e];exact⟨ok.1,λh=>(ok.2 h).2⟩
theorem uM.f(ok:uM ns hd g)(w:Wt g):oh ns hd w.f:=⟨ok.1,λh=>(ok.2 h).2⟩
variable(hr:RS ns hd r)(ok:uM ns hd g)
include hr ok
theorem sI(q:aX)(w:Wt g):bj w.f (r C g.c.aS.scope q) q:=hr C w.f (ok.f w) q
theorem acp(a:jn g.c.aS.scope g.ns i x=I):Sd (λs=>dj g s<|.Assign [.Name x u] q j) ((EJ cx.K ns hd (r C) g.c.aS.scope q).map<|.i i):=by
 have b:=sI hr ok;unfold EJ
 cases hc:uJ q with
 |false=>exact c4<|D9 (Ae hc _ _ _) (b _) a
 |true=>
  refine dn λl=>?_
  cases q with
  |ListComp e m scope p=>
   refine l<|MZ<|MW (M:=λm o=>dj g (.i i o)<|.Assign [.Name x u] (.ListComp e m scope p) j) (λit t d h hc=>?_) λn np y t d v c h2 hc=>?_
   ·cases hb:EM g.c.aS.scope scope x p u with
    |true=>exact aa7 (Af _ hb) (Ac h) (ok.1.symm▸hc) (b it) (λf k e=>e▸hr C f (ok.i k) _) a
    |false=>exact D9 (Af _ hb) (λw=>LX (Ac h) (ok.1.symm▸hc) (b it w)<|Ad hr<|ok.f w) a
   ·have F:=(ok.2 v).2.gR
    cases hb:EM g.c.aS.scope scope x p u with
    |true=>exact aa8 F (xx c) (bR c) h2 (Af _ hb) (λ_ _=>J) (ok.1.symm▸hc) (b n) (λf k e=>e▸hr C f (ok.i k) _) a
    |false=>exact D9 (Af _ hb) (λw=>LZ F (xx c) (bR c) h2 (λ_ _=>J) (ok.1.symm▸hc) (b n w)<|Ad hr<|ok.f w) a
  |_=>exact l gP
theorem acq(c:∀cl,hD cx.K cl):Sd (λs=>dj g s<|.Assign [t] q j) (MK cx.K ns hd (r C) g.c.aS.scope t q):=by
 have b:=sI hr ok;refine dn λa=>?_
 cases t with
 |Name x u=>exact a (dL λh=>acp hr ok<|ok.1.symm▸h)
 |Attribute o x u=>exact a (dL λh=>c4<|aar c (acl _ _) (b q) (b o) Ab<|dS h)
 |Tuple ts k u=>exact a (dL λh=>pY λtl e=>dL λht=>c4<|by
   rw[aco ts tl e];exact aaU (ok.2<|kg<|bL h).2.gR (acm _ _) (acn (bR h) _) (b q)<|ok.1.symm▸ht)
 |_=>exact a gP
theorem acr(f:∀cl,hD cx.K cl):Sd (λs=>dj g s<|.AugAssign t o q j) (ML ns (r C g.c.aS.scope) g.c.aS.scope t o q):=by
 have c:=sI hr ok;refine pY λop e=>?_;have a:xg op=true:=(d4.mp<|List.mem_of_find?_eq_some e).elim (λe=>e▸J) λh=>iw.mp h▸J;rw[dS (Fe (p:=λop=>decide (o=ma op)) e)];refine dn λd=>?_
 cases t with
 |Name x u=>exact d (dL λh=>c4<|aas a (c q) (ok.1.symm▸bL h)<|bR h)
 |Attribute b x u=>exact d (dL λh=>c4<|aat f a (c q) (c b) Ab<|dS h)
 |_=>exact d gP
theorem acs{b:List cA}(c:∀P f,kh (g.wP P f) (b.map k) b):Sd (λs=>dj g s<|.For t a b [] j) (MN cx.K ns hd (r C g.c.aS.scope) g.c.aS.scope t a<|b.map k):=
 qW (P:=λt s=>dj g s<|.For t a b [] j) λx u=>dL λh=>by
  have d:=sI hr ok;have F:=(ok.2<|kg<|bL h).2.gR
  cases i:xu a with
  |none=>exact dL λhs=>c4<|aaD F (Ac hs) (d a) c<|ok.1.symm▸bR h
  |some n=>exact(MV n i).elim λnp l=>l.elim λm e=>dL λh2=>c4<|e▸aaE F (xx<|bL h2) (bR<|bL h2) (bR h2) (λ_ _=>J) (d n) c (ok.1.symm▸bR h)
theorem act{u:aH}(v:uI cx.K u l)(m:mo cx.K (.ref b4)=I){e c:Option aX}:Sd (λs=>dj g s<|.Raise e c j) (MO cx.K hd (r C g.c.aS.scope) g.c.aS.scope e c):=
 dL λh=>pY λe w=>by
  have k:=bR<|bR h;rw[w,Fa.mp (bL<|bR h)];refine EC (P:=λe s=>dj g s<|.Raise (O e) U j) λf as b d=>qW (P:=λf s=>dj g s<|.Raise (O<|.Call f as b d) U j) λx i=>og (P:=λas s=>dj g s<|.Raise (O<|.Call (.Name x i) as b d) U j) λa=>dL λo=>?_;rw[dS (bL o),lq.mp (bR o)];refine EC (P:=λa s=>dj g s<|.Raise (O<|.Call (.Name "ParseStop" i) [a] [] d) U j) λf as b t=>qW (P:=λf s=>dj g s<|.Raise (O<|.Call (.Name "ParseStop" i) [.Call f as b t] [] d) U j) λx y=>og (P:=λas s=>dj g s<|.Raise (O<|.Call (.Name "ParseStop" i) [.Call (.Name x y) as b t] [] d) U j) λa=>dL λh2=>c4 ?_;rw[dS (bL h2),lq.mp (bL<|bR h2)];have q:=ok.2<|kg<|bL h;exact abS v q.2 q.1 (EN<|bL k) m (bR<|bL k) (xx<|bR k) (bR<|bR k) (bR<|bR h2)<|sI hr ok a
theorem acu(a:xV cx.K b4 "BaseException"=I){c:List ae4}(o:∀l,∀d:Gx,d.hd=I->d.ag=g.ag->d.ns=g.ns->d.c.aS=g.c.aS->kh d (l.map k) l):
  Sd (λs=>dj g s<|.Try b c [] [] j) (MP cx.K ns (r C g.c.aS.scope) (λl=>l.map k) g.c.aS.scope b c):=
 dL λh=>og (P:=λb s=>dj g s<|.Try b c [] [] j) λst=>og (P:=λc s=>dj g s<|.Try [st] c [] [] j) λf=>by
  obtain⟨ht,nm,hb,hp⟩:=f;refine pY λt e=>?_;rw[e];refine qW (P:=λt s=>dj g s<|.Try [st] [.ExceptHandler (O t) nm hb hp] [] [] j) λx u=>dL λi=>?_;rw[dS (bL i),Fa.mp (bL<|bR i)];have w:=bR<|bR i;refine dn λm=>?_
  induction hb using aV with
  |nil=>exact bc w
  |cons b0 suite=>
  have v:=sI hr ok
  cases st with
  |Assign ts q p=>exact m (og (P:=λts s=>dj g s<|.Try [.Assign ts q p] [.ExceptHandler (O<|.Name "ParseStop" u) U (b0::suite) hp] [] [] j) λt=>qW (P:=λt s=>dj g s<|.Try [.Assign [t] q p] [.ExceptHandler (O<|.Name "ParseStop" u) U (b0::suite) hp] [] [] j) λy z=>dL λh2=>c4 (abU (EN h) (bR h) a (o<|b0::suite) (Ae (kg<|bL h2) _ _ _) (v q)<|ok.1.symm▸bR h2))
  |Expr q p=>exact m (dL λh2=>c4<|abV (EN h) (bR h) a (o<|b0::suite) (M0<|bL h2) (Ae (kg<|bR h2) _ _ _)<|v q)
  |_=>exact m gP
end
theorem M1{g:Gx}:dj g .j a:=λw Q E T=>(T.ne J).elim
theorem acv(f:∀cl,hD cx.K cl)(i:xV cx.K b4 "BaseException"=I)(j:mo cx.K (.ref b4)=I)(y:uI cx.K x k){ns:List aw}(n:Nat):∀{hd:Bool} {g:Gx},uM ns hd g->∀st,dj g (uK cx.K ns n hd g.c.aS.scope st) st:=by
 induction n with
 |zero=>exactλ_ st=>M1
 |succ n m=>
  intro hd g ok st;have hr:=ack f (ns:=ns) (hd:=hd) 60;have u:=sI hr ok;have v:=λq w=>hr I w.f (ok.f w) q;have hs:=Ag<|m ok;refine Mu (P:=λs=>dj g s st) (dn λd=>?_) M1
  cases st with
  |Assign ts e p=>exact d (og (P:=λts s=>dj g s<|.Assign ts e p) λt=>acq hr ok f)
  |AugAssign t o e p=>exact d<|acr hr ok f
  |Expr e p=>exact d (dL λh=>c4<|aad (M0<|bL h) (Ae (kg<|bR h) _ _ _)<|u e)
  |If t a b p=>exact d<|c4<|aah (v t) (hs a)<|hs b
  |While t b o p=>exact d (dL λh=>c4<|lq.mp h▸aaw (v t) (hs b))
  |For t it b o p=>exact d (dL λh=>lq.mp h▸acs hr ok λP z=>Ag (m (g:=g.wP P z) ok) b)
  |Return e p=>cases e with
   |none=>exact d<|c4 aab
   |some e=>exact d<|c4<|aac<|u e
  |Raise e c p=>exact d<|act hr ok y j
  |Try b hs B F p=>
   refine d<|dL λh=>?_;rw[lq.mp (bL h),lq.mp (bR h)];refine acu hr ok i λl G _ H h2 A=>?_;rw[<-A];exact Ag (m ⟨h2.trans ok.1,λh=>c6 h⟩) l
  |Pass p=>exact d<|c4 Z8
  |Break p=>exact d<|c4 Z9
  |Continue p=>exact d<|c4 aaa
  |_=>exact d gP
noncomputable def acw{b:Type}(o:Option b)(f:b->Bool):Bool:=match o with
 |none=>C
 |some a=>f a
noncomputable def M2(f:ow):Bool:=decide (f.globals=ez)&&(f.closure.isEmpty&&decide (f.builtins=uX))
noncomputable def Ah(f:ow)(p:List cA->Bool):Bool:=match f.body with
 |.stmts a=>p a
 |.expr _=>C
noncomputable def EO(K:cU)(a:aH)(p:ow->List cA->Bool):Bool:=acw (K.lookup a) λo=>if h:o.data.ctorIdx=7 then Og o.data h λf=>Ah f (p f) else C
noncomputable def Ai(K:cU)(c:aH)(b:List aw)(a:Nat):Bool:=EO K c λf d=>M2 f&&(codeIn K f.code f.qualname&&((b.take a).all (λy=>f.scope.names.lookup y==O .local||f.scope.names.lookup y==O .cell)&&(decide ((AN 0 f.scope.names []).map (·.1)).Nodup&&(decide b.Nodup&&(decide (a=(b.take a).length)&&(decide (a<=7)&&(!f.scope.isCoroutine&&(!f.scope.isGenerator&&(f.scope.kind== .function)))))))))
theorem isE{a:Type}{l:List a}(h:l.isEmpty=I):l=[]:=lq.mp h
theorem acx{Q:Prop}{f:ow}{p:List cA->Bool}(h:Ah f p=I)(k:∀a,f.body=.stmts a->p a=I->Q):Q:=by
 unfold Ah at h
 cases hb:f.body with
 |stmts a=>rw[hb] at h;exact k a hb h
 |expr _=>rw[hb] at h;exact bc h
theorem acy{Q:Prop}{K:cU}{p:ow->List cA->Bool}(h:EO K b p=I)(k:∀c g a f i,K.lookup b=O ⟨c,g,.func f,a⟩->f.body=.stmts i->p f i=I->Q):Q:=by
 unfold EO at h
 cases e:K.lookup b with
 |none=>rw[e] at h;exact bc h
 |some o=>
  rw[e] at h;obtain⟨c,g,d,a⟩:=o;exact KD h λe1 h=>Og (motive:=λd=>∀e1:d.ctorIdx=7,Og d e1 (λf=>Ah f<|p f)=I->K.lookup b=O ⟨c,g,d,a⟩->Q) d e1 (λf j h e=>acx h λi hb h=>k c g a f i e hb h) e1 h e
theorem acz{f:ow}(b:f.body=.stmts a)(h:M2 f=I):f=fnOf f.name f.qualname f.params a f.scope f.defaults f.kwdefaults f.doc f.pyModule f.annotations f.code f.closureTuple:=by
 have c:=dS (bL h);have h2:=isE (bL<|bR h);have d:=dS<|bR<|bR h
 obtain⟨name,qual,params,body,scope,globals,closure,i,j,doc,pm,k,g,l,e⟩:=f;have c:globals=ez:=c;have h2:closure=[]:=h2;have d:e=uX:=d;have b:body=.stmts a:=b
 rw[c,h2,d,b]
noncomputable def kQ(K:cU)(a:aH):ow:=match K.lookup a with
 |some ⟨_,_,.func f,_⟩=>f
 |_=>default
theorem sJ{K:cU}(h:K.lookup a=O ⟨c,d,.func f,b⟩):kQ K a=f:=by
 unfold kQ;rw[h]
noncomputable def xy(K:cU)(c:aH)(d:List aw)(b:Nat)(a:List ak):Prop:=(λS=>xU K S<|FX (kQ K c) ⟨a.take b,[]⟩)=λ_=>O<|(d.take b).zip<|a.take b
theorem acA:∀{a:List ak},a.length<=7->([a.getD 0 d,a.getD 1 d,a.getD 2 d,a.getD 3 d,a.getD 4 d,a.getD 5 d,a.getD 6 d]).take a.length=a
 |[],_=>rfl
 |[_],_=>rfl
 |[_,_],_=>rfl
 |[_,_,_],_=>rfl
 |[_,_,_,_],_=>rfl
 |[_,_,_,_,_],_=>rfl
 |[_,_,_,_,_,_],_=>rfl
 |[_,_,_,_,_,_,_],_=>rfl
 |_::_::_::_::_::_::_::_::_,h=>ax h<|Nat.not_le_of_lt<|hG 8 _
theorem Aj{Q:Prop}{K:cU}{r:aH}{l:List aw}(h:Ai K r l t=I)(A:∀a b c d e f g,xy K r l t [a,b,c,d,e,f,g])(k:∀u v j f w,K.lookup r=O ⟨u,v,.func f,j⟩->f.body=.stmts w->n9 K r (l.take t) w f.scope->xq t l.length l->Q):Q:=
 acy h λu v j f w y m h=>by
  have k1:=bR<|bR<|bR h;have x:=bR<|bR k1;have z:=bR<|bR<|bR x;have nd:=dS<|bL<|bR k1;have o:=dS<|bL x;have e:=acz m<|bL h;refine k u v j f w y m ⟨⟨u,v,j,f.name,f.qualname,f.params,f.defaults,f.kwdefaults,f.doc,f.pyModule,f.annotations,f.code,f.closureTuple,e▸y,bL<|bR h,?_⟩,bL<|bR<|bR h,dS<|bL k1,nd.sublist<|List.take_sublist _ _,kg<|bL<|bR<|bR x,kg<|bL z,beq_iff_eq.mp<|bR z⟩ ⟨o,J,nd⟩;rw[<-e];refineλs i X p=>kp_binds X λS=>?_;have p:=p.trans o.symm;have q:=congrFun (A (i.getD 0 .none) (i.getD 1 .none) (i.getD 2 .none) (i.getD 3 .none) (i.getD 4 .none) (i.getD 5 .none)<|i.getD 6 .none) S;rw[sJ y,<-p,acA (p▸dS (bL<|bR x))] at q;rw[q,p]
noncomputable abbrev nr(f:Fn)(l:List aw)(r:List<|Fn×List aw):List (Fn×List aw):=(f,l)::r
noncomputable def acB:List (Fn×List aw):=nr .j ["script","nums","kinds","pick","tree","parts","types","tokens","own","node","other","fewer","n","i"]<|nr 1087 ["nums","stack","roots","n","pick","r","count","kids","height","i","node","kid","tall","row"]<|nr 1082 ["stack","roots","node","height"]<|nr 1075 ["r","kid","name","q","flags"]<|nr 1068 ["name","flags","r","kid","ds","rest","tparams","params","i"]<|nr 1063 ["d","flags","rest","kind"]<|nr 1056 ["ds","rest","out","lax","count","i","d","flags","name","kind"]<|nr 1049 ["d","name","rest","bound","last"]<|nr 1042 ["name"]<|nr 1021 ["node","kind","mark_text","text","name","one"]<|nr 1016 ["node","between","text","tparams","params","ret","body"]<|nr 1009 ["node","kinds","text"]<|nr 1002 ["nodes","between","one"]<|nr 997 ["name"]<|nr 1028 ["text","out","at","start","c","word","cooked"]<|nr 1035 ["tokens","way","out","fresh","i","token","bars","parted"]<|nr 1108 ["tokens","at","out","depth","token"]<|nr 1101 ["d","r","own","i"]<|nr 1094 ["parts","types","tokens","p","node"]<|nr 1113 ["parts","types","pick","tokens","fresh","word","p","words","numbers","kind","one"]<|nr .c7 ["kind","a","at"]<|nr .aK ["kind","a","kids","at"]<|nr .i ["kind","a","kids","flags","at"]<|nr 70 ["nodes","at"]<|nr 194 ["self","file"]<|nr 201 ["self","number","at","args"]<|nr 306 ["self","tokens","diags"]<|nr 313 ["self"]<|nr 320 ["self","n","place"]<|nr 327 ["self","token"]<|nr 334 ["self","text"]<|nr 341 ["self","text"]<|nr 348 ["self","text"]<|nr 355 ["self","text"]<|nr 362 ["self","text"]<|nr 369 ["self","text"]<|nr 376 ["self","text"]<|nr 390 ["self"]<|nr 397 ["self"]<|nr 404 ["self"]<|nr 411 ["self","number","args"]<|nr 418 ["self","number","at","args"]<|nr 425 ["self","token"]<|nr 432 ["self"]<|nr 439 ["self"]<|nr 446 ["self"]<|nr 453 ["self","n","node"]<|nr 509 ["p","count"]<|nr 516 ["p","root","stack","kid","node","level"]<|nr 502 ["token","kind","text"]<|nr 523 ["p","kind","text"]<|nr 530 ["token"]<|nr 537 ["token"]<|nr 551 ["p","name"]<|nr 558 ["p"]<|nr 565 ["token"]<|nr 572 ["p","token","behind","joined"]<|nr 609 ["self","p"]<|nr 621 ["p","node"]<|nr 628 ["p"]<|nr 635 ["p","check"]<|nr 642 ["p","no_cond","saved","node"]<|nr .gG ["p"]<|nr 656 ["p"]<|nr 663 ["p","node","parts"]<|nr 670 ["p","node","parts"]<|nr 677 ["p","token"]<|nr 684 ["p","saved","key","node","links","index"]<|nr 698 ["self","p","left","at","inner"]<|nr 717 ["self","p","left","token","name","args"]<|nr 729 ["p","behind"]<|nr 736 ["p","at","name","links"]<|nr 743 ["p","token","name"]<|nr 750 ["p","args"]<|nr 764 ["self","p","left","at"]<|nr 783 ["p","head"]<|nr 790 ["p","n","token"]<|nr 797 ["p","spot","found"]<|nr 812 ["self","p"]<|nr 824 ["p","at","members"]<|nr 831 ["p","at","flags"]<|nr 838 ["token"]<|nr 845 ["p","word","behind"]<|nr 852 ["p","word"]<|nr 859 ["p","flags","at","name"]<|nr 866 ["p","name","flags","at","tparams","params","ret"]<|nr 873 ["p"]<|nr 880 ["p","flags","at","name","key","value"]<|nr 894 ["self","p","left","at","flags","tparams","params","ret"]<|nr 913 ["self","p"]<|nr 925 ["token"]<|nr 932 ["p","token","behind","name","kind"]<|nr 939 ["p","at","rows"]<|nr 946 ["p","flags","at","name","bound","given"]<|nr 953 ["p","whole","at","allow_in","no_cond","rows"]<|nr 960 ["p","rows","seen","place","row"]<|nr 981 ["p","token"]<|nr 988 ["p","whole","flags","at","target","kind","init"]<|[]
noncomputable def kj(f:Fn):List aw:=(acB.lookup f).getD []
theorem xz{d e:Type}{r:R d}{f:d->Hp->R e}{b:e}{H:Hp}{P:Prop}(h:r.i f=.ok b H)(k:∀a c,r=.ok a c->f a c=.ok b H->P):P:=by
 refine dn λg=>?_
 induction r using R.casesOn with
 |ok a c=>exact g<|k a c J h
 |_=>cases h
noncomputable def EP:List S->Prop
 |[]=>True
 |st::r=>(∃o a e,st=.cQ o a e)/\EP r
theorem acC(b:List S):∀{l:Lc} {H f:Hp} {x:Fl×Lc},EP b->aZ d b l H=.ok x f->x.1=.aU:=by
 induction b with
 |nil=>intro l H f x _ h;cases h;rfl
 |cons st r g=>
  rintro l H f x ⟨⟨o,a,e,rfl⟩,hb⟩ h
  refine xz h λy H1 e1 h=>?_;refine xz e1 λc c c e1=>xz e1 λc c c e1=>xz e1 λc c c e1=>?_
  cases e1
  exact g hb h
theorem M3{b:gS}{c d:Nat}{a:List S}(f:EP a){as:List V}{H g:Hp}{v:V}(h:sF b c d a as H=.ok v g):v=.none:=by
 have h:=(zZ<|zY λe=>nomatch e.symm.trans h).symm.trans h;refine xz h λx H1 e h=>?_;obtain⟨fl,l⟩:=x;obtain rfl:fl=.aU:=acC a f e
 cases h;rfl
theorem acD:∀(n:Nat) (f:Fn),(f=194∨f=306)->∀as H v a,Mine.ag n f as H=.ok v a->v=.none:=by
 intro n f b as H v a h
 cases n with
 |zero=>cases h
 |succ n=>
  rcases b with rfl|rfl
  ·exact M3 (by repeat (first|exact bl|refine⟨⟨_,_,_,rfl⟩,?_⟩)) h
  ·exact M3 (by repeat (first|exact bl|refine⟨⟨_,_,_,rfl⟩,?_⟩)) h
noncomputable def sK(K:cU)(a:List aw)(b:Bool)(f:ow):List S:=match f.body with
 |.stmts c=>c.map<|uK K a 30 b f.scope
 |_=>[]
noncomputable def M4(K:cU)(b:Fn×Nat×Nat×List S):Bool:=decide (b.2.2.1=(kj b.1).length)&&Ai K b.1 (kj b.1) b.2.1
noncomputable def xB(K:cU)(a:eJ):Option ak:=(gE K (.ref<|df a) "__init__").bind id
noncomputable def qX(K:cU)(b:eJ):aH:=match xB K b with
 |some v=>(match v with
  |.ref a=>a
  |_=>0)
 |none=>0
noncomputable def sL(K:cU)(a:eJ):List aw:=(kQ K<|qX K a).params.args.map (·.arg)
noncomputable def Ak(K:cU)(a:eJ):Bool:=match jB a with
 |some r=>(xB K a==O (.ref<|qX K a))&&(xT K (.ref<|qX K a)&&(decide (r.2.map (·.1)).Nodup&&(decide (r.1+1=(sL K a).length)&&Ai K (qX K a) (sL K a) (r.1+1))))
 |none=>(match o4 a with
  |some r=>(xB K a==O (.ref r.1))&&xT K (.ref r.1)
  |none=>xB K a==O (.builtin "object.__init__"))
theorem EQ{K:cU}(h:xB K a=O v):gE K (.ref<|df a) "__init__"=O (O v):=MT h
structure M5(K:cU):Prop where
 j3:∀cl,hD K cl
 fn:∀b∈lG,M4 K b=true
 tr:∀b∈lG,sK K (kj b.1) false (kQ K b.1)=b.2.2.2
 aO:∀cl a f,gV cl a=some f->gE K (.ref (df cl)) (ec a)=some (some (.ref f))/\a∉iN/\adO K (.ref f)=true/\mo K (.ref f)=true
 zL:∀cl,mo K (.ref (df cl))=true
 M6:∀cl,Ak K cl=true
 M7:∀b∈lG,∀a0 a1 a2 a3 a4 a5 a6,xy K b.1 (kj b.1) b.2.1 [a0,a1,a2,a3,a4,a5,a6]
 acE:∀cl r,jB cl=some r->∀a0 a1 a2 a3 a4 a5 a6,xy K (qX K cl) (sL K cl) (r.1+1) [a0,a1,a2,a3,a4,a5,a6]
 trI:∀cl,(jB cl).map (λ_=>sK K (sL K cl) true (kQ K (qX K cl)))=(jB cl).map λr=>qU r.2
 dU:∀oc od osl f,K.lookup 194=some ⟨oc,od,.func f,osl⟩->∀(s:ay) (v:ak),K.In s.heap->AM s f ⟨[v],[]⟩ (((kj 194).take 2).zip [v,.str ⟨#[]⟩ 500])
 ps:∃fI sc,uI K fI sc
 acF:mo K (.ref b4)=true
 acG:xV K b4 "BaseException"=true
structure ER(n:Nat)(A:dN):Prop where
 gR:A.handled=none
 sC:A.depth+2*n+3<=qd
 qS:A.units+8*n+12<=m1
theorem xD(c:eJ):c∈p6:=by cases c<;>decide
noncomputable def M8(q:At×qf):Bool:=match q.2 with
 |.i _=>I
 |.j v=>(match v with
  |.aa _=>I
  |_=>C)
theorem M9:(p6.all λc=>((jB c).all λr=>r.2.all M8)&&(o4 c).all λr=>(jB c).isNone&&(decide (r.1=194)||decide (r.1=306)))=true:=rfl
theorem Na{q:Fn×List V}(h:o4 a=O q):jB a=U/\(q.1=194∨q.1=306):=by
 have k:=bR<|lr.mp M9 a<|xD a;rw[h] at k;exact⟨Fa.mp<|bL k,(ju.mp<|bR k).imp dS dS⟩
theorem uN(h:a+k*n+c<=m)(e:0<c)(b:d<c):a+d<m:=iP (by rw[kt];exact Nat.add_lt_add_left (iP b<|hG ..) _) h
theorem Nb{f g:Type}[BEq f][LawfulBEq f]{l:List<|f×g}{a:f}{b:g}(h:l.lookup a=O b):(a,b)∈l:=by
 induction l with
 |nil=>exact ba h
 |cons q l i=>
  obtain⟨c,d⟩:=q;rw[ot] at h
  cases e:a==c with
  |true=>rw[e] at h;cases h;rw[beq_iff_eq.mp e];exact .head _
  |false=>rw[e] at h;exact .tail _<|i h
section
variable(i:M5 cx.K)
include i
theorem ES{e:List aw}{f:dN}{b:List cA}(h:k=C->∀c,Av a<|f.deeper c):uH a e f j (b.map<|uK cx.K e 30 k j) b:=λg l h2 m h4 o=>by
 refine i.ps.elim λr d=>d.elim λp d=>?_;rw[<-h4];exact Ag (acv i.j3 i.acG i.acF d 30 ⟨h2,λq=>⟨o,by rw[l,m];exact h q _⟩⟩) b
theorem ET{n:Nat}(B:∀A,ER n A->Av (Mine.ag n) A){f:Fx}{p:Pt f}{a:Fn}{c:dN}{as:List V}{args:Args}{d:List ak}{Q E:ak->ay->Prop}(j:c.frames=f.g.A.frames)(F:c.handled=U)(k:c.handled=f.g.A.handled)
  (y:c.depth+2*n+4<=qd)(z:c.units+8*n+15<=m1)(l:aR p.z as d)(m:args=⟨d,[]⟩∨∀r s h g,cx.K.lookup a=O ⟨r,s,.func g,h⟩->AM p.s g args (((kj a).take (iX a).1).zip d))
  (T:Tk aA p (Mine.ag (n+1) a as p.H) Q E):kA MM c (.call (.ref a) args) (sG Q E) p.s:=by
 have T:Tk aA p (sF (Mine.ag n) (iX a).1 (iX a).2.1 (iX a).2.2 as p.H) Q E:=T;unfold iX at T m
 cases e:lG.lookup a with
 |none=>rw[e] at T;exact(T.ne<|by cases as<;>rfl).elim
 |some b=>
  rw[e] at T m;have hm:=Nb e;have ok:=i.fn _ hm;refine Aj (bR ok) (i.M7 _ hm) λt t t G H u v w N=>?_;rw[<-dS (bL ok)] at N;have x:=i.tr _ hm;unfold sK at x;rw[sJ u,v] at x;have SB:uH (Mine.ag n) (kj a) c G.scope b.2.2 H:=by
   rw[x.symm];exact ES i λ_ L=>B _ ⟨F,show c.depth+1+2*n+3<=_ from(L1 y),show c.units+3+8*n+12<=_ from(L1 z)⟩
  have o:=uN y (D J) (d:=0)<|D J;have q:c.units+3<m1:=uN z (D J)<|D J;exact m.elim (λe=>e▸Mg N w SB j k q o l T) λm=>Mf N w SB j k q o l (w.ex.u λr s h g u t=>m r s h g u) T
theorem Nc{g:gS}{f:Fx}{p:Pt f}(l:o4 a=U)(R:ER n f.g.A)(d:aR p.z as c):Go aA p (iZ g a as p.H) (ku (uU<|df a) c):=by
 have hc:=i.M6 a;have ht:=i.trI a;unfold Ak at hc
 cases b:jB a with
 |none=>
  rw[b,l] at hc;exact abA (i.j3 a) b l (EQ<|beq_iff_eq.mp hc) d
 |some r=>
  rw[b] at hc ht;have ht:=cT ht;refine Aj (bR<|bR<|bR<|bR hc) (i.acE a r b) λm m m o s t j u N=>?_;rw[<-dS (bL<|bR<|bR<|bR hc)] at N;unfold sK at ht;rw[sJ t,j] at ht;refine abz (i.j3 a) b (EQ<|beq_iff_eq.mp<|bL hc) (bL<|bR hc) (dS<|bL<|bR<|bR hc) (λq w v e k=>?_) N u (λA=>?_) (uN R.qS (D J)<|D J) (uN R.sC (D J)<|D J) d
  ·have h:=bL<|lr.mp M9 a<|xD a;rw[b] at h;have h:=lr.mp (h) q w;unfold M8 at h;rw[e] at h
   induction v using V.casesOn with
   |aa _=>exactλ_ _ _ _ r=>r
   |_=>exact bc h
  ·rw[<-show s.map (uK cx.K (sL cx.K a) 30 I o.scope)=qU r.2 from ht];exact ES i λh=>c6 h
theorem av(n:Nat):∀A,ER n A->Av (Mine.ag n) A:=by
 induction n with
 |zero=>
  refineλA R=>⟨R.gR,λ_=>uN R.sC (D J) (d:=1)<|D J,i.j3,λfn f e p as b a Q E T=>(T.ne J).elim,i.aO,λcl f e p as b a=>?_,i.zL⟩
  cases c:o4 cl with
  |none=>exact Nc i c (e▸R) a
  |some q=>
   refineλQ E T=>(T.ne ?_).elim;unfold iZ;rw[(Na c).1,c]
   rfl
 |succ n d=>
  refineλA R=>⟨R.gR,λ_=>uN R.sC (D J) (d:=1)<|D J,i.j3,λfn f e p as b a Q E T=>?_,i.aO,λcl f e p as b a=>?_,i.zL⟩
  ·subst e;exact FW<|ET i d J R.gR J (aE (by simp+arith only) R.sC) (aE (by simp+arith only) R.qS) a (.inl J) T
  ·subst e
   cases c:o4 cl with
   |none=>exact Nc i c R a
   |some q=>
    obtain⟨fn,afe⟩:=q;have h:=Na c;have hc:=i.M6 cl;unfold Ak at hc;rw[h.1,c] at hc;have hd:f.g.A.depth+1+2*n+4<=qd:=aE (by simp+arith only) R.sC;have l:f.g.A.units+1+8*n+15<=m1:=aE (by simp+arith only) R.qS;refine abB (i.j3 cl) h.1 c (EQ<|beq_iff_eq.mp<|bL hc) (bR hc) (acD (n+1) fn h.2) λq x Q E le m T=>?_;have has':=aR.au le _ _ a
    by_cases j:cl=.q/\as.length=0
    ·rw[aN j] at T;obtain⟨rfl,o⟩:=j
     induction as using aV with
     |cons _ _=>cases o
     |nil=>induction b using aV with
      |cons _ _=>exact a.elim
      |nil=>
       cases c
       exact ET i d J R.gR J hd l (aR.cons m<|aR.cons (pT<|dG _) aR.nil) (.inr λr s k g t=>i.dU r s k g t q.s (.ref x) q.st.dv) T
    ·rw[a9 j,cN] at T;exact ET i d J R.gR J hd l (aR.cons m has') (.inl J) T
end
theorem acH(P:bX)(q:aH×jV):(p6.all λc=>D0 (KX P q) c&&(mo (KX P q) (.ref<|df c)&&(Ak (KX P q) c&&(Gk c).all λm=>(gE (KX P q) (.ref<|df c) (ec m.1)==O (O<|.ref m.2))&&(!(iN.contains m.1)&&(xT (KX P q) (.ref m.2)&&mo (KX P q) (.ref m.2))))))=true:=by kernel_rfl
theorem acI(P:bX)(q:aH×jV):(lG.all<|M4<|KX P q)=true:=by kernel_rfl
theorem acJ(P:bX)(q:aH×jV):(lG.map λb=>sK (KX P q) (kj b.1) C<|kQ (KX P q) b.1)=lG.map λb=>b.2.2.2:=by kernel_rfl
theorem acK(P:bX)(q:aH×jV):(p6.map λc=>(jB c).map λ_=>sK (KX P q) (sL (KX P q) c) I<|kQ (KX P q)<|qX (KX P q) c)=p6.map λc=>(jB c).map λr=>qU r.2:=by kernel_rfl
theorem acL(P:bX)(q:aH×jV)(a c d e f g h:ak):(lG.map λb=>λS=>xU (KX P q) S<|FX (kQ (KX P q) b.1) ⟨[a,c,d,e,f,g,h].take b.2.1,[]⟩)=lG.map λb=>λ_=>O (((kj b.1).take b.2.1).zip<|[a,c,d,e,f,g,h].take b.2.1):=by kernel_rfl
theorem acM(P:bX)(q:aH×jV)(a b d e f g h:ak):(p6.map λc=>(jB c).map λr=>λS=>xU (KX P q) S<|FX (kQ (KX P q)<|qX (KX P q) c) ⟨[a,b,d,e,f,g,h].take<|r.1+1,[]⟩)=p6.map λc=>(jB c).map λr=>λ_=>O (((sL (KX P q) c).take<|r.1+1).zip<|[a,b,d,e,f,g,h].take<|r.1+1):=by kernel_rfl
theorem acN(P:bX)(q:aH×jV)(a b c d e f g:ak):xy (KX P q) 126 ["self","text"] 2 [a,b,c,d,e,f,g]:=by unfold xy;kernel_rfl
theorem acO(P:bX)(q:aH×jV)(v:ak):(λS=>xU (KX P q) S<|OE "Exception.__new__" ⟨[.ref b4,v],[]⟩)=λ_=>O ():=by kernel_rfl
theorem Nd(P:bX)(q:aH×jV):(mo (KX P q) (.ref b4)&&xV (KX P q) b4 "BaseException")=I/\gE (KX P q) (.ref b4) "__init__"=O (O<|.ref 126)/\gE (KX P q) (.ref b4) "number"=O U/\gE (KX P q) (.ref b4) "text"=O U/\
  (clsIn (KX P q) b4).any (λa=>EB a.mro&&a.hasDict)=I/\gE (KX P q) (.ref b4) "__setattr__"=O (O<|.builtin "object.__setattr__")/\(KX P q).lookup b4=O xr/\((KX P q).lookup 126).map (·.cls)=O (.type "function"):=by
 refine⟨?_,?_,?_,?_,?_,?_,?_,?_⟩<;>kernel_rfl
theorem acP(P:bX)(q:aH×jV):(kQ (KX P q) 126).body=.stmts [Mm,Mn]:=by kernel_rfl
theorem Ng(P:bX)(q:aH×jV):(Ai (KX P q) 126 ["self","text"] 2&&(((kQ (KX P q) 126).scope.names.lookup ("self":aw)==O .local)&&((kQ (KX P q) 126).scope.names.lookup ("text":aw)==O .local)))=true:=by kernel_rfl
theorem acQ(P:bX)(q:aH×jV)(v:ak):(λS=>xU (KX P q) S<|FX (kQ (KX P q) 194) ⟨[v],[]⟩)=λa=>O (((kj 194).take 2).zip [v,.str ⟨#[]⟩ 500]):=by kernel_rfl
theorem acR(P:bX)(q:aH×jV):∃sc,uI (KX P q) 126 sc:=by
 refine ON (Nd P q) λl b h2 c h4 d g i=>?_;have h:=bR<|Ng P q;refine Aj (bL<|Ng P q) (acN P q) λm o j f p a hb k N=>?_;rw[sJ a] at h;refine⟨f.scope,acO P q,⟨h4,d⟩,g,b,h2,c,?_,i,beq_iff_eq.mp<|bL h,beq_iff_eq.mp<|bR h⟩;have e:=acP P q;rw[sJ a,hb] at e;rw[<-FuncBody.stmts.inj e];exact k
theorem kOk(P:bX)(q:aH×jV):M5 (KX P q):=by
 have hc:=λcl:eJ=>lr.mp (acH P q) cl<|xD cl;have m:=(Nd P q).1;refine⟨λcl=>Y4<|bL<|hc cl,lr.mp<|acI P q,Ff.mp<|acJ P q,λcl a f e=>?_,λcl=>bL<|bR<|hc cl,λcl=>bL<|bR<|bR<|hc cl,λb hb c d g i j k l=>Ff.mp (acL P q c d g i j k l) b hb,λcl r o c d g i j k l=>?_,λcl=>Ff.mp (acK P q) cl<|xD cl,λu w p f t s v X=>?_,⟨126,acR P q⟩,bL m,bR m⟩
 ·have h:=lr.mp (bR<|bR<|bR<|hc cl) _<|Nb e;exact⟨beq_iff_eq.mp<|bL h,λhm=>c6<|(List.contains_iff_mem.mpr hm).symm.trans<|kg<|bL<|bR h,bL<|bR<|bR h,bR<|bR<|bR h⟩
 ·have h:=Ff.mp (acM P q c d g i j k l) cl<|xD cl;rw[o] at h;exact cT h
 ·rw[<-sJ t];exact kp_binds X λS=>congrFun (acQ P q v) S
theorem acS:∀(ts:List<|Int×qY),aR z (ts.map λp=>.aa p.1) (ts.map λp=>.int p.1 p.2):=by
 intro ts
 induction ts with
 |nil=>exact aR.nil
 |cons t ts a=>exact aR.cons jS a
set_option backward.match.sparseCases true in
theorem acT:wV cx:=λq a l vs n ts H' Q E hK X T B hz hO d h=>by
 have r:=hK▸kOk cx.w.params q;have t:aR ⟨[],[]⟩ [.af (ts.map λp=>.aa p.1)] [.ref l]:=aR.cons (f5 l vs n J (.inr B) hz<|hO▸acS ts) aR.nil;generalize hH:[V.af (ts.map λp=>.aa p.1)]=as at t d;have hm:(Fn.j,1,14,lF)∈lG:=.head _;refine Aj (bR<|r.fn _ hm) (r.M7 _ hm) λg g g k F G H j N=>?_;have M:=r.tr _ hm;unfold sK at M;rw[sJ G,H] at M;have SB:uH (Mine.ag 339) (kj .j) Fi k.scope (F.map<|uK cx.K (kj .j) 30 C k.scope) F:=ES r λ_ env=>av r 339 _ ⟨J,(by show callerA.depth+1+2*339+3<=qd;decide),(by show callerA.units+3+8*339+12<=m1;decide)⟩;rw[show F.map (uK cx.K (kj .j) 30 C k.scope)=lF from M] at SB;have d:=d;have S:=zY λe=>nomatch e.symm.trans d;have d:=(zZ S).symm.trans d;obtain⟨oc,od,osl,name,qual,params,dV,kV,doc,pm,an,u,ct,G,Z,hbind⟩:=j.ex;refine FW<|aer (D J) (X _ _ G) J j.co j.Ex J (codeRec_of X Z)<|hbind a [.ref l] X J _ _ _ _<|aes j.aq (kindsX (j.i [.ref l]) _) λenv' he W x=>?_;subst he;refine⟨T.nolimit.keeps x.toInCall.keep,aet ?_⟩;obtain⟨w,tk,rfl,_⟩:=x.done;obtain⟨cells,NC,Y⟩:=Cl.news (bF _) λn c hm=>⟨x.cell n c<|aeu (Om k.scope.names 0 (a.heap.objs.size+1) [] [] J▸j.mR) hm,x.above n c hm⟩;have K:(cells.map (·.1)).Nodup:=by rw[DK Y];exact adx.mpr x.apart
 let f:Fm:={A₀:=Fi,lY:=a.heap,ir:=[],L:=a.heap.objs.size,aS:=jW qual k.scope a.heap.objs.size Fn.j u,td:=a.heap,P:=[],eS:=a}
 have eL:bP f ⟨[],[]⟩ cells []=cells:=by show[]++(cells++([]++[]))=cells;rw[cN]
 have z:bG f ⟨[],[]⟩ [] (xN (jW qual k.scope a.heap.objs.size Fn.j u).kindOf (((kj .j).take 1).zip [.ref l]) λg=>U) cells {a with heap:=w,toks:=tk} a.heap []:=
  ⟨.refl,⟨x.toInCall.ns,x.toInCall.keep,bF _⟩,λp hp=>NC p<|eL▸hp,below_caller a.heap,X,T,nofun,by rw[eL];exact K,⟨J,J,λg g g g h=>nomatch h⟩,J⟩
 let A:Gx:=⟨Mine.ag 339,kj .j,C,f,callerA.deeper f.aS,J,⟨J,j.aq,J,J,X,T,J,λx hk=>FU k.scope.names (a.heap.objs.size+1) []<|.inl hk⟩,.inl J,(by show callerA.units+3<m1;decide)⟩
 obtain⟨m,cs,cm,st,lo,fx⟩:=Md ⟨J,J,N.nd⟩ j S t (c₂:=f) J J Y ⟨a.heap,[],z⟩;refine mm (SB A J J J J J ⟨_,_,_,_,m,cs,cm,st,lo,fx⟩ (λfl W=>Q (match fl with|.ret v=>v|_=>.none) W) (λg g=>False) ⟨λe=>?_,λv fl R e le fr=>?_,λx s z' H' e _ _=>?_,aeg⟩) (λ_ _ h=>h) λg g y=>y.elim
 ·have e:aZ (Mine.ag 339) lF (as.map O++jq (14-1) U) []=_:=e;rw[e] at d;cases d
 ·have e:aZ (Mine.ag 339) lF (as.map O++jq (14-1) U) []=_:=e;rw[e] at d;obtain⟨g₁,lv,i⟩:=v.st;refine dn λkk=>?_
  induction fl using Fl.casesOn with
  |am v=>
   cases d
   induction R using Flow.casesOn with
   |ret pv=>
    rw[fr] at kk;exact kk<|h _ (λb o hb=>i.fr.keep b o<|i.iu.other b o hb nofun) i.fy
   |_=>exact fr.elim
  |_=>cases d
 ·have e:aZ (Mine.ag 339) lF (as.map O++jq (14-1) U) []=_:=e;rw[e] at d;cases d
theorem acU{P:bX}:∀{is:List Int} {a:List ak},WellAll P h a (is.map .int)->∃ts:List (Int×qY),a=ts.map (λp=>.int p.1 p.2)/\is=ts.map (·.1):=by
 intro is
 induction is with
 |nil=>
  intro a;intro x
  cases x;exact⟨[],J,J⟩
 |cons i is b=>
  intro a;intro x;obtain⟨v,c,rfl,w,d⟩:=ae5 x
  cases w
  obtain⟨ts,e1,e2⟩:=b d;exact⟨(i,_)::ts,by rw[e1];rfl,by rw[e2];rfl⟩
theorem acV(P:bX):gq (KF P) ez "law"=O (O<|.ref 1118):=by kernel_rfl
theorem acW{P:bX}{h:cz}(d:(KF P).In h)(f:h.get? a=O o):(KX P (a,o)).In h/\(KX P (a,o)).lookup a=O o:=by
 unfold KX;refine⟨λb g hb=>?_,?_⟩
 ·rw[aei] at hb
  cases e:Fd b (KF P) with
  |some c=>rw[e] at hb;cases hb;exact d _ _ e
  |none=>
   rw[e] at hb;have hb:(if b==a then O o else U)=O g:=by rw[<-hb];rw[ot];cases b==a<;>rfl
   by_cases q:(b==a)=I
   ·rw[aN q] at hb;cases hb;rw[beq_iff_eq.mp q];exact f
   ·rw[a9 q] at hb;cases hb
 ·rw[aei]
  cases e:Fd a (KF P) with
  |some c=>exact(d _ _ e).symm.trans f
  |none=>show Fd a [(a,o)]=_;rw[ot,beq_self_eq_true]
theorem acX(t:∀is:List Int,is.length<=63->∃g,Mine.ag 340 .j [.af (is.map V.aa)] []=.ok (.i I) g):AB.Holds:=by
 refine Yx λd u hdef w eS e mg mb G Y a o pm X doc Z E K hd x y f h args vals as hpre hlay z c hsys=>?_;have r:=kIn_of Y;obtain⟨i,hlen⟩:=YH<|hpre;obtain⟨R,S,rfl,A,B⟩:=hasAllW_cons i;obtain rfl:=hasAllW_nil B;obtain⟨T,rfl,F⟩:=hasW_list A;obtain⟨is,rfl⟩:=items_int F;have j:is.length<=63:=by
  have h2:(WTm.and (.not<|.lt (.lit<|.int 63)<|.len<|.arg 0)<|.lit<|.bool I).holds [] {args:=[.list (is.map .int)]}=true:=hlen;have H:=condW_of h2<|by wtm_val
  have h4:=jw<|kg<|bL H;rw[c5] at h4;exact sQ.mp<|rb.mp h4
 obtain⟨v,L,rfl,M,N⟩:=ae5 c
 cases N
 cases M with
 | @list k l _ hget m=>
 obtain⟨g,b⟩:=t is j;have P:a=Fn.j:=by
  have e1:d.name="law":=defOf_name hdef;have e2:=mg_of r G.T.g<|acV w.params;rw[e1,e2] at f
  cases f;rfl
 subst P;obtain⟨p,q⟩:=acW r hget;obtain⟨ts,e1,rfl⟩:=acU m;refine YD acT ⟨_,w,KX w.params (k,c3 l.toArray 0),_,_,_,mg,mb⟩ (k,c3 l.toArray 0) e k l.toArray 0 ts g _ _ J p G.T q ?_ (by simpa using e1) (by rw[rf] at b;exact b) λW Q hs=>?_
 ·have:=bH NB e1;simp at this j;rw[iz];simp;exact L2 j<|b7 this
 ·refine GoodW.toG ⟨.inl<|m3 _ (.bool I) [] J (λs=>J) (ReadsW.bool I) (by kernel_rfl) λs=>⟨xH,λs hm=>ax hm eW⟩,Q,?_,?_⟩
  ·rw[hs]
  ·rw[hs];exact h
end
inductive T where
 |nd (kind:Int) (a:List Nat) (kids:List (Option T)) (flags:Int) (at_:Int)
namespace T
noncomputable def aq:T->Int|nd k _ _ _ _=>k
noncomputable def a:T->List Nat|nd _ a _ _ _=>a
noncomputable def bO:T->List (Option T)|nd _ _ ks _ _=>ks
noncomputable def cj:T->Int|nd _ _ _ f _=>f
noncomputable def aJ:T->Int|nd _ _ _ _ p=>p
end T
mutual
noncomputable def T.v:T->V
 |.nd k a ks f p=>.aQ .u [(.aq,.aa k),(.a_,.ah a),(.bO,.af<|fi ks),(.cj,.aa f),(.aJ,.aa p),(.yd,.aa 0)]
noncomputable def ov:Option T->V
 |none=>.none
 |some t=>t.v
noncomputable def fi:List (Option T)->List V
 |[]=>[]
 |o::r=>ov o::fi r
end
structure aj where
 aq:Int
 aP:List Nat
 kC:Int
 aJ:Int
 jz:Int
 cC:Bool
noncomputable def aj.v(t:aj):V:=.aQ .j [(.aq,.aa t.aq),(.aP,.ah t.aP),(.kC,.aa t.kC),(.aJ,.aa t.aJ),(.jz,.aa t.jz),(.m4,.i t.cC)]
noncomputable def kZ:aj:=⟨0,[],0,0,0,C⟩
structure Sg where
 ts:List aj
 ns:List Int
inductive PR(α:Type) where
 |ok (a:α) (s:Sg)
 |d9 (ns:List Int)
 |j
noncomputable def PR.bd{b c:Type}(r:PR b)(f:b->Sg->PR c):PR c:=match r with
 |.ok a s=>f a s
 |.d9 ns=>.d9 ns
 |.j=>.j
noncomputable def Sg.i(s:Sg):aj:=s.ts.headD kZ
noncomputable def Sg.u(s:Sg)(n:Nat):aj:=s.ts.getD n<|s.ts.getLastD kZ
noncomputable def Sg.j(s:Sg):Sg:=if s.i.aq=0 then s else⟨s.ts.tail,s.ns⟩
noncomputable def aj.is(t:aj)(k:Int)(x:List Nat):Bool:=decide (t.aq=k)&&decide (t.aP=x)
noncomputable def Sg.q(s:Sg)(x:List Nat):Bool:=s.i.is 5 x
noncomputable def Sg.Bw(s:Sg)(x:List Nat):Bool:=s.i.is 2 x
noncomputable def Sg.y(s:Sg)(x:List Nat):Bool:=s.i.is 1 x
noncomputable def cM{a:Type}(k:Int)(x:List Nat)(s:Sg)(f:Bool->Sg->PR a):PR a:=if s.i.is k x then f I s.j else f C s
noncomputable def b8{a:Type}(n:Int)(s:Sg):PR a:=if s.ns.length<1000 then .d9 (s.ns++[n]) else .j
noncomputable def lK{a:Type}(b:Bool)(n:Int)(s:Sg)(f:Sg->PR a):PR a:=if b then(if s.ns.length<1000 then f ⟨s.ts,s.ns++[n]⟩ else .j) else f s
noncomputable def c8{a:Type}(x:List Nat)(s:Sg)(f:Sg->PR a):PR a:=if s.i.is 5 x then f s.j else b8 1005 s
noncomputable def hV{a:Type}(s:Sg)(f:List Nat->Sg->PR a):PR a:=if s.i.aq=1 then f s.i.aP s.j else b8 1003 s
noncomputable def aj.i(t:aj):Bool:=decide (t.aq=1)||(decide (t.aq=2)||(decide (t.aq=4)||decide (t.aq=3)))
noncomputable def aj.j(t:aj):Bool:=t.i||t.is 5 [91]
noncomputable def aj.q(t:aj):Bool:=t.is 5 [40]||t.is 5 [60]
noncomputable def aj.u(t:aj):Bool:=decide (t.aq=1)||t.is 2 eX
noncomputable def Sg.rH(s:Sg):Bool:=(decide (s.i.aq=0)||s.i.cC)||(decide (s.i.aq=5)&&(decide (s.i.aP=[59])||decide (s.i.aP=[125])))
noncomputable def qo{a:Type}(s:Sg)(f:Sg->PR a):PR a:=cM 5 [59] s λb s=>if b then f s else if s.rH then f s else b8 1005 s
noncomputable def o8:List (List Nat):=[tc,FY,xZ,xX,kT,qe,FZ,xY]
noncomputable def rI:List (List Nat):=[x5,A4]
noncomputable def tA(s:Sg)(n:Nat):Bool:=
 let t:=s.u n
 if t.aq=5 then if t.aP=[58]∨t.aP=[44]∨t.aP=[63]∨t.aP=[61] then I else decide (t.aP=[41])&&(s.u<|n+1).is 5 fz else C
noncomputable def qp(s:Sg):Bool:=
 if s.q [60]||s.Bw bI then I else if !s.q [40] then C else
 let head:=s.u 1
 if head.is 5 [41]||head.is 5 hN then I else if decide (head.aq=1)||head.is 2 eX then tA s 2 else C
noncomputable abbrev bZ:=Nat->Sg->PR T
noncomputable def aK(k:Int)(a:List Nat)(b:List T)(p:Int):T:=.nd k a (b.map O) 0 p
noncomputable def c7(k:Int)(a:List Nat)(p:Int):T:=.nd k a [] 0 p
noncomputable def jC(x:List Nat)(a:Sg->PR T):Nat->List T->Sg->PR (List T)
 |0,_,_=>.j
 |n+1,b,s=>if s.q x then(a s.j).bd λt s=>jC x a n (b++[t]) s else .ok b s
theorem Qz{a:Sg->PR T}{s:Sg}:jC x a (n+1) b s=if s.q x=I then(a s.j).bd λt s=>jC x a n (b++[t]) s else .ok b s:=rfl
noncomputable def tB{a:Type}(s:Sg)(f:Sg->PR a):PR a:=if s.q rk then .j else c8 [62] s f
noncomputable def vx(a:bZ)(s:Sg):PR (List T):=
 c8 [60] s λs=>(a 1 s).bd λt s=>(jC [44] (a 1) (s.ts.length+1) [t] s).bd λl s=>tB s λs=>.ok l s
noncomputable def mw:Nat->List Nat->Sg->PR (List Nat)
 |0,_,s=>.j
 |n+1,a,s=>if s.q [46] then
   let s:=s.j
   if s.i.aq=1∨s.i.aq=2 then(if(a++[46]++s.i.aP).length<=1000 then mw n (a++[46]++s.i.aP) s.j else .j) else b8 1003 s
  else .ok a s
theorem QA{s:Sg}:mw (n+1) a s=if s.q [46]=I then(if s.j.i.aq=1∨s.j.i.aq=2 then(if(a++[46]++s.j.i.aP).length<=1000 then mw n (a++[46]++s.j.i.aP) s.j.j else .j) else b8 1003 s.j) else .ok a s:=rfl
noncomputable def Bx(b:bZ)(s:Sg):PR T:=
 let t:=s.i
 if o8.contains t.aP then .ok (c7 80 t.aP t.aJ) s.j else
 if t.aq=1/\rI.contains t.aP then .j else
 if t.is 1 OJ||t.is 1 OK then .j else
 (hV s λa s=>if a.length<=1000 then mw 2 a s else .j).bd λa s=>
 if s.q [60]&& !s.i.cC then(vx b s).bd λl s=>.ok (aK 81 a l t.aJ) s else .ok (aK 81 a [] t.aJ) s
noncomputable def By(a:bZ)(s:Sg):PR T:=
 let p:=s.i.aJ
 (a 1 s.j).bd λt s=>c8 [41] s λs=>.ok (aK 98 [] [t] p) s
noncomputable def Gm(a:bZ)(s:Sg):PR T:=
 let p:=s.i.aJ
 (a 9 s).bd λm s=>.ok (.nd 88 [] m.bO 0 p) s
noncomputable def fA(a:bZ)(s:Sg):PR T:=
 let t:=s.i
 if t.aq=1 then Bx a s
 else if t.aq=5∨t.aq=2 then
  if t.aP=[40] then By a s else if t.aP=[123] then Gm a s else if t.aP=u7∨t.aP=xW then .j else b8 1110 s
 else if t.aq=0∨t.aq=3∨t.aq=4 then b8 1110 s else .j
noncomputable def my(a:bZ):Nat->T->Sg->PR T
 |0,t,s=>if s.q [91]&& !s.i.cC then .j else .ok t s
 |n+1,t,s=>if s.q [91]&& !s.i.cC then
   cM 5 [93] s.j λb s=>if b then my a n (aK 85 [] [t] t.aJ) s else(a 1 s).bd λi s=>c8 [93] s λs=>my a n (aK 90 [] [t,i] t.aJ) s
  else .ok t s
theorem QC{s:Sg}:my a 0 t s=if(s.q [91]&& !s.i.cC)=I then .j else .ok t s:=rfl
theorem QD{t:T}{s:Sg}:my a (n+1) t s=if(s.q [91]&& !s.i.cC)=I then cM 5 [93] s.j λb s=>if b then my a n (aK 85 [] [t] t.aJ) s else(a 1 s).bd λi s=>c8 [93] s λs=>my a n (aK 90 [] [t,i] t.aJ) s else .ok t s:=rfl
noncomputable def mz(a:bZ)(s:Sg):PR T:=(fA a s).bd λt s=>my a 60 t s
noncomputable def j0(a:bZ)(s:Sg):PR T:=cM 5 [38] s λb s=>(mz a s).bd λt s=>
 if s.q [38] then(jC [38] (mz a) (s.ts.length+1) [t] s).bd λl s=>.ok (aK 84 [] l t.aJ) s else .ok t s
noncomputable def rJ(a:bZ)(s:Sg):PR T:=cM 5 [124] s λb s=>(j0 a s).bd λt s=>
 if s.q [124] then(jC [124] (j0 a) (s.ts.length+1) [t] s).bd λl s=>.ok (aK 83 [] l t.aJ) s else .ok t s
noncomputable def pa(d:bZ)(s:Sg):PR T:=
 if s.Bw [99,111,110,115,116] then b8 9002 s else
 cM 2 f2 s λb s=>
 let e:Int:=if b then 268435456 else 0
 let o:=s.y fd&&decide ((s.u 1).aq=1)
 let s:=if o then s.j else s
 let f:Int:=if o then e+536870912 else e
 let p:=s.i.aJ
 hV s λa s=>
 lK (o8.contains a||rI.contains a) 2368 s λs=>
 cM 2 iS s λb s=>
 let c:=λ(bound:Option T) (s:Sg)=>cM 5 [61] s λb s=>if b then(d 1 s).bd λg s=>.ok (T.nd 100 a [bound,O g] f p) s else PR.ok (T.nd 100 a [bound,U] f p) s
 if b then(d 1 s).bd λt s=>c (O t) s else c U s
noncomputable def lL(a:bZ):Nat->List T->Sg->PR (List T)
 |0,_,_=>.j
 |n+1,c,s=>cM 5 [44] s λb s=>if b&&(!s.q [62]&& !s.q rk) then(pa a s).bd λt s=>lL a n (c++[t]) s else .ok c s
noncomputable def k4(a:bZ)(s:Sg):PR (Option T):=
 let p:=s.i.aJ
 cM 5 [60] s λb s=>if b then(pa a s).bd λt s=>(lL a (s.ts.length+1) [t] s).bd λl s=>tB s λs=>.ok (O<|aK 71 [] l p) s else .ok U s
noncomputable def gG(a:bZ)(k:Nat)(s:Sg):PR (Option T):=cM 5 [58] s λb s=>if b then(a k s).bd λt s=>.ok (O t) s else .ok U s
noncomputable def pc(c:bZ)(s:Sg):PR T:=
 let p:=s.i.aJ
 cM 5 hN s λb s=>
 let a:Int:=if b then 8192 else 0
 let t:=s.i
 if t.u then
  let s:=s.j
  let q:= !b&&s.q [63]
  let s:=if q then s.j else s
  let d:Int:=if q then a+4096 else a
  (gG c 1 s).bd λk s=>.ok (.nd 28 [] [O (c7 8 t.aP t.aJ),k,U] d p) s
 else .j
noncomputable def rK(t:T):Bool:=decide (t.cj=8192)
noncomputable def rL(a:bZ):Nat->List T->Sg->PR (List T)
 |0,_,_=>.j
 |n+1,c,s=>if s.q [41] then .ok c s else(pc a s).bd λt s=>cM 5 [44] s λb s=>
   if b then lK (rK t) 1014 s λs=>rL a n (c++[t]) s else .ok (c++[t]) s
noncomputable def k7(t:T):Bool:=match t.bO with
 |some (.nd 8 a _ _ _)::_=>decide (a=eX)
 |_=>C
noncomputable def gW:Nat->Bool->List T->List Int
 |_,_,[]=>[]
 |i,seen,t::r=>(if 0<i/\k7 t then[2680] else[])++(if t.cj=4096 then gW (i+1) I r else(if seen&& !rK t then[1016] else[])++gW (i+1) seen r)
noncomputable def pd(a:bZ)(s:Sg):PR T:=
 let p:=s.i.aJ
 c8 [40] s λs=>(rL a (s.ts.length+1) [] s).bd λl s=>c8 [41] s λs=>if(s.ns++gW 0 C l).length<1000 then .ok (aK 71 [] l p) ⟨s.ts,s.ns++gW 0 C l⟩ else .j
noncomputable def f8(a:bZ)(name:List Nat)(b p:Int)(s:Sg):PR T:=
 (k4 a s).bd λc s=>(pd a s).bd λps s=>(gG a 11 s).bd λr s=>.ok (.nd 27 name [c,O ps,r,U] b p) s
noncomputable def rM(a:bZ)(s:Sg):PR T:=
 let p:=s.i.aJ
 cM 2 bI s λb s=>(k4 a s).bd λc s=>(pd a s).bd λps s=>c8 fz s λs=>(a 11 s).bd λr s=>
  .ok (.nd 27 [] [c,O ps,O r,U] (if b then 3072 else 2048) p) s
noncomputable def j1(a:bZ)(s:Sg):PR T:=if qp s then rM a s else rJ a s
noncomputable def am(a:bZ)(s:Sg):PR T:=
 let t:=s.i
 let b:=s.u 1
 if b.cC|| !t.u then a 1 s else
 if b.is 1 eY then(a 1 s.j.j).bd λk s=>.ok (.nd 96 t.aP [O k] 0 t.aJ) s else
 if !s.y dO|| !b.u then a 1 s else
 let s:=s.j
 let name:=s.i.aP
 let s:=s.j
 cM 1 eY s λi s=>if i then(a 1 s).bd λk s=>.ok (.nd 96 name [O k] 16777216 t.aJ) s else
 if s.q [38]||s.q [124] then b8 1228 s else .ok (.nd 96 name [U] 16777216 t.aJ) s
noncomputable def tC(b:bZ)(a:Int)(s:Sg):PR T:=
 let p:=s.i.aJ
 let t:=s.i
 if t.i then
  let s:=s.j
  let q:=s.q [63]
  let s:=if q then s.j else s
  let a:=if q then a+4096 else a
  if s.i.q&&decide (a<131072) then f8 b t.aP (a+32) p s else(gG b 1 s).bd λk s=>.ok (.nd 99 t.aP [k] a p) s
 else if t.is 5 [91] then .j else b8 1003 s
noncomputable def lM(b:bZ)(s:Sg):PR T:=
 let p:=s.i.aJ
 if s.q [40]||s.q [60] then f8 b [] 512 p s else
 if s.Bw bI&&(s.u 1).q then f8 b [] 1024 p s.j else
 let ro:=s.y fL&&((s.u 1).j&& !(s.u 1).cC)
 let s:=if ro then s.j else s
 let flags:Int:=if ro then 131072 else 0
 if s.q [91]&&(decide ((s.u 1).aq=1)&&(s.u 2).is 5 [58]) then
  c8 [91] s λs=>hV s λa s=>c8 [58] s λs=>(b 1 s).bd λk s=>c8 [93] s λs=>c8 [58] s λs=>(b 1 s).bd λv s=>.ok (.nd 63 a [O k,O v] flags p) s
 else if(s.y f3||s.y gs)&&(s.u 1).j then b8 9002 s
 else tC b flags s
noncomputable def nq(a:bZ):Nat->List T->Sg->PR (List T)
 |0,_,_=>.j
 |n+1,c,s=>if s.q [125] then .ok c s else(lM a s).bd λt s=>cM 5 [44] s λb s=>if b then nq a n (c++[t]) s else qo s λs=>nq a n (c++[t]) s
noncomputable def gI(a:bZ)(s:Sg):PR T:=
 let p:=s.i.aJ
 c8 [123] s λs=>(nq a (s.ts.length+1) [] s).bd λl s=>.ok (aK 71 [] l p) s.j
mutual
noncomputable def ht:T->Nat
 |.nd _ _ ks _ _=>hO ks+1
noncomputable def hO:List (Option T)->Nat
 |[]=>0
 |none::r=>hO r
 |some t::r=>max (ht t)<|hO r
end
mutual
noncomputable def sz:T->Nat
 |.nd _ _ ks _ _=>fj ks+1
noncomputable def fj:List (Option T)->Nat
 |[]=>0
 |none::r=>fj r+1
 |some t::r=>sz t+fj r
end
noncomputable def be:Nat->bZ
 |0,_,_=>.j
 |f+1,k,s=>(match k with
  |1=>j1 (be f) s
  |9=>gI (be f) s
  |11=>am (be f) s
  |_=>.j).bd λt s=>if ht t<=150/\sz t<=4000000 then .ok t s else .j
theorem ef{b d c:Type}(m:R b)(f:b->Hp->R c)(k:c->Hp->R d):(m.i f).i k=m.i λa H=>(f a H).i k:=by cases m<;>rfl
set_option genCtorIdx false in
inductive Kf where
 |q (a:At)|y (i:E)|tD (v:V)|slc (lo hi:E)|BA (v:V) (hi:E)|rE (v a:V)|bJ (o:f4) (b:E)|nt (o:f4) (x:V)|b9 (o:qg) (b:E)|tE (o:qg) (x:V)
 |bN (b:E)|or (b:E)|cB|bz (a b:E)
 |ao (f:Fn) (vs:List V) (es:List E)|ce (c:eJ) (vs:List V) (es:List E)|bi (b:Bi) (vs:List V) (es:List E)|u (vs:List V) (es:List E)|af (vs:List V) (es:List E)
 |dK (m:At) (es:List E)|hW (v:V) (m:At) (vs:List V) (es:List E)
 |i (i:Nat) (r:List S)|iW (is:List Nat) (r:List S)|cQ (o:E) (a:At) (r:List S)|tF (v:V) (a:At) (r:List S)|de (i:Nat) (o:f4) (x:V) (r:List S)
 |ex (r:List S)|bQ (a b r:List S)|am|j (r:List S)|vy (n:Nat) (t:E) (b r:List S)|lN (n:Nat) (t:E) (b r:List S)
set_option genCtorIdx false in
inductive Cf where
 |e (e:E) (K:List Kf) (l:Lc) (H:Hp)
 |v (v:V) (K:List Kf) (l:Lc) (H:Hp)
 |s (r:List S) (K:List Kf) (l:Lc) (H:Hp)
 |fl (y:Fl) (K:List Kf) (l:Lc) (H:Hp)
 |ao (f:Fn) (vs:List V) (K:List Kf) (l:Lc) (H:Hp)
 |lp (n:Nat) (t:E) (b r:List S) (K:List Kf) (l:Lc) (H:Hp)
section
variable(run:gS)
noncomputable def BB(t:E)(b:List S)(n:Nat)(l:Lc)(H:Hp):R (Fl×Lc):=qn (λl H=>(az run t l H).i λx H=>cG (dC x H) H) (λl H=>aZ run b l H) n l H
noncomputable def dq:List Kf->Fl×Lc->Hp->R (Fl×Lc)
 |[],y,H=>.ok y H
 |.j r::K,y,H=>match y with
  |(.aU,l)=>(aZ run r l H).i<|dq K
  |y=>dq K y H
 |.lN n t b r::K,y,H=>match y with
  |(.aU,l)=>(BB run t b n l H).i λy H=>match y with
   |(.aU,l)=>(aZ run r l H).i<|dq K
   |y=>dq K y H
  |(.q,l)=>(BB run t b n l H).i λy H=>match y with
   |(.aU,l)=>(aZ run r l H).i<|dq K
   |y=>dq K y H
  |(.u,l)=>(aZ run r l H).i<|dq K
  |(.am v,l)=>dq K (.am v,l) H
 |_::_,_,_=>.j
noncomputable def vz{d:Type}(o:Option Bool)(a b:R d):R d:=match o with
 |some c=>if c then a else b
 |.none=>.j
noncomputable def ap:List Kf->Lc->V->Hp->R (Fl×Lc)
 |[],_,_,_=>.j
 |f::K,l,v,H=>match f with
  |.q a=>(kE v a H).i<|ap K l
  |.y i=>(az run i l H).i λj H=>(f6 v j H).i<|ap K l
  |.tD u=>(f6 u v H).i<|ap K l
  |.slc lo h=>(az run lo l H).i λa H=>(az run h l H).i λb H=>(lI v a b H).i<|ap K l
  |.BA u h=>(az run h l H).i λb H=>(lI u v b H).i<|ap K l
  |.rE u a=>(lI u a v H).i<|ap K l
  |.bJ o b=>(az run b l H).i λy H=>(fO o v y H).i<|ap K l
  |.nt o x=>(fO o x v H).i<|ap K l
  |.b9 o b=>(az run b l H).i λy H=>(lH o v y H).i<|ap K l
  |.tE o x=>(lH o x v H).i<|ap K l
  |.bN b=>(vz (dC v H) (az run b l H)<|.ok v H).i<|ap K l
  |.or b=>(vz (dC v H) (.ok v H)<|az run b l H).i<|ap K l
  |.cB=>(cG ((dC v H).map λb=>V.i<|!b) H).i<|ap K l
  |.bz a b=>(vz (dC v H) (az run a l H)<|az run b l H).i<|ap K l
  |.ao f d e=>(cu run e l H).i λg H=>(run f (d++v::g) H).i<|ap K l
  |.ce c d e=>(cu run e l H).i λg H=>(iZ run c (d++v::g) H).i<|ap K l
  |.bi b d e=>(cu run e l H).i λg H=>(f7 b (d++v::g) H).i<|ap K l
  |.u d e=>(cu run e l H).i λg H=>ap K l (.u<|d++v::g) H
  |.af d e=>(cu run e l H).i λg H=>ap K l (.ae H.length)<|H++[.af (d++v::g)]
  |.dK m e=>(match qm v H with
   |some c=>match gV c m with
    |some f=>(cu run e l H).i λd H=>run f (v::d) H
    |.none=>.j
   |.none=>if o7 v m H=I then(cu run e l H).i λd H=>hT v m d H else .j).i<|ap K l
  |.hW u m d e=>(cu run e l H).i λg H=>(hT u m (d++v::g) H).i<|ap K l
  |.i i r=>(aZ run r (l.set i<|O v) H).i<|dq run K
  |.iW is r=>(match hS v H with
   |some k=>match lJ is k l with
    |some l=>aZ run r l H
    |.none=>.j
   |.none=>.j).i<|dq run K
  |.cQ o a r=>(az run o l H).i λx H=>(jZ x a v H).i λp H=>(aZ run r l H).i<|dq run K
  |.tF u a r=>(jZ v a u H).i λp H=>(aZ run r l H).i<|dq run K
  |.de i o x r=>(iY o x v H).i λv H=>(aZ run r (l.set i<|O v) H).i<|dq run K
  |.ex r=>(aZ run r l H).i<|dq run K
  |.bQ a b r=>(vz (dC v H) (aZ run a l H)<|aZ run b l H).i<|dq run<|.j r::K
  |.am=>dq run K (.am v,l) H
  |.vy n t b r=>(cG (dC v H) H).i λc H=>if c then(aZ run b l H).i (dq run<|.lN n t b r::K) else(aZ run r l H).i (dq run K)
  |_=>.j
noncomputable def d6:Cf->R (Fl×Lc)
 |.e e K l H=>(az run e l H).i<|ap run K l
 |.v v K l H=>ap run K l v H
 |.s r K l H=>(aZ run r l H).i<|dq run K
 |.fl y K l H=>dq run K (y,l) H
 |.ao f a K l H=>(run f a H).i<|ap run K l
 |.lp n t b r K l H=>(BB run t b n l H).i<|dq run<|.j r::K
end
noncomputable def tG(e:E)(K:List Kf)(l:Lc)(H:Hp):Cf:=match e with
 |.c v=>.v v K l H
 |.qj n=>.v (.aa<|-(n:Int)) K l H
 |.l i=>match l[i]? with
  |some (some v)=>.v v K l H
  |_=>.e (.l i) K l H
 |.q e a=>.e e (.q a::K) l H
 |.y e i=>.e e (.y i::K) l H
 |.slc e a b=>.e e (.slc a b::K) l H
 |.bJ o a b=>.e a (.bJ o b::K) l H
 |.b9 o a b=>.e a (.b9 o b::K) l H
 |.bN a b=>.e a (.bN b::K) l H
 |.or a b=>.e a (.or b::K) l H
 |.cB a=>.e a (.cB::K) l H
 |.bz t a b=>.e t (.bz a b::K) l H
 |.ao f []=>.ao f [] K l H
 |.ao f (e::d)=>.e e (.ao f [] d::K) l H
 |.ce c (e::d)=>.e e (.ce c [] d::K) l H
 |.bi b (e::d)=>.e e (.bi b [] d::K) l H
 |.u []=>.v (.u []) K l H
 |.u (e::d)=>.e e (.u [] d::K) l H
 |.af []=>.v (.ae H.length) K l<|H++[.af []]
 |.af (e::d)=>.e e (.af [] d::K) l H
 |.aO e m d=>.e e (.dK m d::K) l H
 |e=>.e e K l H
noncomputable def QE:f4->V->V->Option V
 |.i,.aa x,.aa y=>O<|.aa<|x+y
 |.eA,.aa x,.aa y=>O<|.aa<|x-y
 |_,_,_=>U
noncomputable def BC(v:V)(f:Kf)(K:List Kf)(l:Lc)(H:Hp):Cf:=match f with
 |.q a=>match v with
  |.aQ c h=>match fe h a with
   |some u=>.v u K l H
   |.none=>.v (.aQ c h) (.q a::K) l H
  |v=>.v v (.q a::K) l H
 |.y i=>.e i (.tD v::K) l H
 |.slc a b=>.e a (.BA v b::K) l H
 |.BA u b=>.e b (.rE u v::K) l H
 |.bJ o b=>.e b (.nt o v::K) l H
 |.nt o x=>match QE o x v with
  |some u=>.v u K l H
  |.none=>.v v (.nt o x::K) l H
 |.b9 o b=>.e b (.tE o v::K) l H
 |.tE o x=>match lH o x v H with
  |.ok u H=>.v u K l H
  |_=>.v v (.tE o x::K) l H
 |.cB=>match v with
  |.i b=>.v (.i !b) K l H
  |v=>.v v (.cB::K) l H
 |.ao f g []=>.ao f (g++[v]) K l H
 |.ao f g (e::d)=>.e e (.ao f (g++[v]) d::K) l H
 |.ce c g (e::d)=>.e e (.ce c (g++[v]) d::K) l H
 |.bi b g (e::d)=>.e e (.bi b (g++[v]) d::K) l H
 |.u g []=>.v (.u<|g++[v]) K l H
 |.u g (e::d)=>.e e (.u (g++[v]) d::K) l H
 |.af g []=>.v (.ae H.length) K l<|H++[.af (g++[v])]
 |.af g (e::d)=>.e e (.af (g++[v]) d::K) l H
 |.dK m d=>match v with
  |.aQ c h=>match gV c m,d with
   |some f,[]=>.ao f [.aQ c h] K l H
   |some f,e::d=>.e e (.ao f [.aQ c h] d::K) l H
   |.none,d=>.v (.aQ c h) (.dK m d::K) l H
  |v=>.v v (.dK m d::K) l H
 |.hW u m g (e::d)=>.e e (.hW u m (g++[v]) d::K) l H
 |.i i r=>.s r K (l.set i<|O v) H
 |.cQ o a r=>.e o (.tF v a r::K) l H
 |.ex r=>.s r K l H
 |.am=>.fl (.am v) K l H
 |f=>.v v (f::K) l H
noncomputable def BD(s:S)(r:List S)(K:List Kf)(l:Lc)(H:Hp):Cf:=match s with
 |.i i e=>.e e (.i i r::K) l H
 |.cQ o a e=>.e e (.cQ o a r::K) l H
 |.iW is e=>.e e (.iW is r::K) l H
 |.de i o e=>match l[i]? with
  |some (some x)=>.e e (.de i o x r::K) l H
  |_=>.s (.de i o e::r) K l H
 |.ex e=>.e e (.ex r::K) l H
 |.bQ t a b=>.e t (.bQ a b r::K) l H
 |.am e=>.e e (.am::K) l H
 |.u=>.fl .u K l H
 |.q=>.fl .q K l H
 |.gH t b=>.lp hU t b r K l H
 |s=>.s (s::r) K l H
noncomputable def Gn(y:Fl)(K:List Kf)(l:Lc)(H:Hp):Cf:=match K with
 |.j r::K=>match y with
  |.aU=>.s r K l H
  |y=>.fl y K l H
 |.lN n t b r::K=>match y with
  |.aU=>.lp n t b r K l H
  |.q=>.lp n t b r K l H
  |.u=>.s r K l H
  |.am v=>.fl (.am v) K l H
 |K=>.fl y K l H
noncomputable def nx:Cf->Cf
 |.e e K l H=>tG e K l H
 |.v v (f::K) l H=>BC v f K l H
 |.s [] K l H=>.fl .aU K l H
 |.s (s::r) K l H=>BD s r K l H
 |.fl y K l H=>Gn y K l H
 |.v v [] l H=>.v v [] l H
 |.ao f a K l H=>.ao f a K l H
 |.lp n t b r K l H=>.lp n t b r K l H
noncomputable def yi:Nat->Cf->Cf
 |0,c=>c
 |n+1,c=>yi n<|nx c
noncomputable abbrev go(c:Cf):Cf:=yi 60 c
section
variable{run:gS}
theorem lO{c:Type}(e:E)(b:List E)(l:Lc)(H:Hp)(g:List V->Hp->R c):(cu run (e::b) l H).i g=(az run e l H).i λa H=>(cu run b l H).i λd H=>g (a::d) H:=by
 rw[ef];congr 1;funext a H;rw[ef];rfl
theorem tH{f:Type}(c:List V)(v:V)(e:E)(d:List E)(l:Lc)(H:Hp)(g:List V->Hp->R f):(az run e l H).i (λa H=>(cu run d l H).i λb H=>g ((c++[v])++a::b) H)=(cu run (e::d) l H).i λb H=>g (c++v::b) H:=by
 rw[lO];simp only[b6];rfl
theorem i0{b c:Type}{m:R b}{f g:b->Hp->R c}(h:∀a H,f a H=g a H):m.i f=m.i g:=by cases m<;>first|rfl|exact h _ _
theorem jD{b c:Type}(a:b)(H:Hp)(f:b->Hp->R c):(R.ok a H).i f=f a H:=rfl
theorem Gp(e:E)(K:List Kf)(l:Lc)(H:Hp):d6 run (tG e K l H)=(az run e l H).i (ap run K l):=by
 induction e using E.casesOn with
 |l i=>
  show d6 run (match l[i]? with|some (some v)=>.v v K l H|_=>.e (.l i) K l H)=_
  rcases h:l[i]? with _|_|v
  ·rfl
  ·rfl
  ·show _=(match l[i]? with|some (some v)=>R.ok v H|_=>.j).i _;rw[h];rfl
 |ao f as=>induction as using aV with|nil=>rfl|cons e c=>exact(lO e c l H _).symm.trans (ef ..).symm
 |ce f as=>induction as using aV with|nil=>rfl|cons e c=>exact(lO e c l H _).symm.trans (ef ..).symm
 |bi f as=>induction as using aV with|nil=>rfl|cons e c=>exact(lO e c l H _).symm.trans (ef ..).symm
 |u as=>induction as using aV with|nil=>rfl|cons e c=>exact((lO e c l H λd H=>ap run K l (.u d) H).symm.trans (ef (cu run (e::c) l H) (λd H=>R.ok (V.u d) H) _).symm)
 |af as=>induction as using aV with|nil=>rfl|cons e c=>exact((lO e c l H λd H=>ap run K l (.ae H.length)<|H++[.af d]).symm.trans (ef (cu run (e::c) l H) (λd H=>R.ok (V.ae H.length)<|H++[bY.af d]) _).symm)
 |y e i=>exact(i0 λa H=>(ef ..).symm).trans (ef ..).symm
 |slc e a b=>exact(i0 λa H=>(i0 λa H=>(ef ..).symm).trans (ef ..).symm).trans (ef ..).symm
 |bJ o a b=>exact(i0 λa H=>(ef ..).symm).trans (ef ..).symm
 |b9 o a b=>exact(i0 λa H=>(ef ..).symm).trans (ef ..).symm
 |_=>first|rfl|exact(ef ..).symm
theorem Gq(v:V)(f:Kf)(K:List Kf)(l:Lc)(H:Hp):d6 run (BC v f K l H)=ap run (f::K) l v H:=by
 cases f with
 |q a=>
  induction v using V.casesOn with
  |aQ c j=>
   show d6 run (match fe j a with|some u=>.v u K l H|.none=>.v (.aQ c j) (.q a::K) l H)=_
   rcases h:fe j a with _|u
   ·rfl
   ·show _=(cG (fe j a) H).i _;rw[h];rfl
  |_=>rfl
 |nt o x=>
  induction o using f4.casesOn with
  |i=>cases x<;>first|rfl|(cases v<;>rfl)
  |eA=>cases x<;>first|rfl|(cases v<;>rfl)
  |_=>rfl
 |tE o x=>
  show d6 run (match lH o x v H with|.ok u H=>.v u K l H|_=>.v v (.tE o x::K) l H)=(lH o x v H).i _
  rcases h:lH o x v H with _|_|_<;>first|rfl|(show(lH o x v H).i _=_;rw[h])
 |cB=>cases v<;>rfl
 |ao f d as=>induction as using aV with|nil=>rfl|cons e b=>exact tH d v e b l H λg H=>(run f g H).i<|ap run K l
 |ce f d as=>induction as using aV with|nil=>rfl|cons e b=>exact tH d v e b l H λg H=>(iZ run f g H).i<|ap run K l
 |bi f d as=>induction as using aV with|nil=>rfl|cons e b=>exact tH d v e b l H λg H=>(f7 f g H).i<|ap run K l
 |u d as=>induction as using aV with|nil=>rfl|cons e b=>exact tH d v e b l H λg H=>ap run K l (.u g) H
 |af d as=>induction as using aV with|nil=>rfl|cons e b=>exact tH d v e b l H λg H=>ap run K l (.ae H.length)<|H++[.af g]
 |hW u m d as=>induction as using aV with|nil=>rfl|cons e b=>exact tH d v e b l H λg H=>(hT u m g H).i<|ap run K l
 |dK m b=>
  induction v using V.casesOn with
  |aQ c j=>
   show d6 run (match gV c m,b with|some f,[]=>.ao f [.aQ c j] K l H|some f,e::b=>.e e (.ao f [.aQ c j] b::K) l H|.none,b=>.v (.aQ c j) (.dK m b::K) l H)=(match gV c m with|some f=>(cu run b l H).i λd H=>run f (.aQ c j::d) H|.none=>.j).i (ap run K l)
   rcases h:gV c m with _|f
   ·show(match gV c m with|some f=>(cu run b l H).i λd H=>run f (.aQ c j::d) H|.none=>.j).i (ap run K l)=_;rw[h]
   ·induction b using aV with|nil=>rfl|cons e b=>exact(lO e b l H λg H=>(run f (V.aQ c j::g) H).i<|ap run K l).symm.trans (ef (cu run (e::b) l H) (λd H=>run f (V.aQ c j::d) H) _).symm
  |_=>rfl
 |cQ o a r=>rfl
 |_=>rfl
theorem Gs(s:S)(r:List S)(K:List Kf)(l:Lc)(H:Hp):d6 run (BD s r K l H)=(aZ run (s::r) l H).i (dq run K):=by
 have sc:∀(m:R<|Fl×Lc),(m.i λx H=>match x with|(.aU,l)=>aZ run r l H|x=>.ok x H).i (dq run K)=m.i (dq run<|.j r::K):=λm=>by
  rw[ef];congr 1;funext x H;obtain⟨f,g⟩:=x;cases f<;>rfl
 have c:=sc<|fY run s l H;refine .trans ?_ (sc<|fY run s l H).symm
 induction s using S.casesOn with
 |i i e=>exact(ef (az run e l H) (λv H=>R.ok (Fl.aU,l.set i<|O v) H)<|dq run<|.j r::K).symm
 |ex e=>exact(ef (az run e l H) (λv H=>R.ok (Fl.aU,l) H)<|dq run<|.j r::K).symm
 |am e=>exact(ef (az run e l H) (λv H=>R.ok (Fl.am v,l) H)<|dq run<|.j r::K).symm
 |bQ t a b=>exact(ef (az run t l H) (λx H=>vz (dC x H) (aZ run a l H)<|aZ run b l H)<|dq run<|.j r::K).symm
 |cQ o a e=>
  exact(i0 λv H=>(i0 λx H=>(ef (jZ x a v H) (λd H=>R.ok (Fl.aU,l) H)<|dq run<|.j r::K).symm).trans (ef (az run o l H) (λx H=>(jZ x a v H).i λd H=>R.ok (Fl.aU,l) H)<|dq run<|.j r::K).symm).trans (ef (az run e l H) (λv H=>(az run o l H).i λx H=>(jZ x a v H).i λd H=>R.ok (Fl.aU,l) H)<|dq run<|.j r::K).symm
 |iW is e=>
  refine .trans (i0 λv H=>?_) (ef (az run e l H) (λv H=>(match hS v H with|some xs=>(match lJ is xs l with|some l=>R.ok (Fl.aU,l) H|.none=>R.j)|.none=>R.j))<|dq run<|.j r::K).symm;show(match hS v H with|some xs=>(match lJ is xs l with|some l=>aZ run r l H|.none=>.j)|.none=>.j).i _=(match hS v H with|some xs=>(match lJ is xs l with|some l=>R.ok (Fl.aU,l) H|.none=>R.j)|.none=>R.j).i _
  rcases hS v H with _|xs
  ·rfl
  ·dsimp only;rcases lJ is xs l<;>rfl
 |de i o e=>
  show d6 run (match l[i]? with|some (some x)=>.e e (.de i o x r::K) l H|_=>.s (.de i o e::r) K l H)=R.i (match l[i]? with
   |some (some x)=>(az run e l H).i λy H=>(iY o x y H).i λv H=>R.ok (Fl.aU,l.set i<|O v) H
   |_=>R.j) (dq run<|.j r::K)
  rcases h:l[i]? with _|_|x
  ·refine c.trans ?_;show R.i (match l[i]? with|some (some x)=>(az run e l H).i λy H=>(iY o x y H).i λv H=>R.ok (Fl.aU,l.set i<|some v) H|_=>.j) _=_;rw[h]
  ·refine c.trans ?_;show R.i (match l[i]? with|some (some x)=>(az run e l H).i λy H=>(iY o x y H).i λv H=>R.ok (Fl.aU,l.set i<|O v) H|_=>.j) _=_;rw[h]
  ·exact(i0 λv H=>(ef (iY o x v H) (λv H=>R.ok (Fl.aU,l.set i<|O v) H)<|dq run<|.j r::K).symm).trans (ef (az run e l H) (λy H=>(iY o x y H).i λv H=>R.ok (Fl.aU,l.set i<|O v) H)<|dq run<|.j r::K).symm
 |u=>rfl
 |q=>rfl
 |gH t b=>rfl
 |_=>exact c
theorem Gu(c:Cf):d6 run (nx c)=d6 run c:=by
 induction c using Cf.casesOn with
 |e e K l H=>exact Gp ..
 |v v K l H=>induction K using aV with|nil=>rfl|cons f K=>exact Gq ..
 |s r K l H=>induction r using aV with|nil=>rfl|cons s r=>exact Gs ..
 |fl y K l H=>
  induction K using aV with
  |nil=>rfl
  |cons f K=>induction f using Kf.casesOn with
   |j r=>cases y<;>rfl
   |lN n t b r=>
    induction y using Fl.casesOn with
    |aU=>exact i0 λy H=>by obtain⟨y,l⟩:=y;cases y<;>rfl
    |q=>exact i0 λy H=>by obtain⟨y,l⟩:=y;cases y<;>rfl
    |_=>rfl
   |_=>rfl
 |ao f a K l H=>rfl
 |lp n t b r K l H=>rfl
theorem QF:∀(n:Nat) (c:Cf),d6 run (yi n c)=d6 run c:=by
 intro n
 induction n with
 |zero=>
  intro b;exact J
 |succ n a=>
  intro c;exact(a<|nx c).trans<|Gu c
end
structure PA where
 ap:Nat
 tl:Nat
 dl:Nat
 rl:Nat
 lb:Nat
 cv:Nat
 sp:Nat
 sv:Nat
structure Fg where
 bS:Int
 nc:Bool
 ai:Bool
noncomputable def gX:V:=.dct [(.aa 1,.aQ .vm []),(.aa 9,.aQ .vn []),(.aa 11,.aQ .vo [])]
noncomputable def i3:V:=.dct [(.ah u7,.aQ .y []),(.ah [40],.aQ .tu []),(.ah [123],.aQ .tv []),(.ah xW,.aQ .tw [])]
noncomputable def Gv(c:PA)(g:Fg)(k:Nat):List (At×V):=[(.iA,.ae c.tl),(.aJ,.aa k),(.dU,.ae c.dl),(.gT,gX),(.qh,.dct []),(.qi,.dct []),(.fW,i3),(.bS,.aa g.bS),(.rn,.u [.ah [],.aa 0,.aa 0]),(.lD,.i g.ai),(.rq,.aa 0),(.rt,.aa 0),(.tg,.aa 0),(.ti,.ae c.lb),(.hR,.i g.nc),(.tj,.i C),(.vg,.aa 0),(.vh,.ae c.cv),(.vi,.dct []),(.vj,.dct []),(.tm,.ae c.sp),(.x9,.ae c.sv)]
noncomputable abbrev vA(c:PA)(g:Fg)(k:Nat):bY:=.aQ .i<|Gv c g k
noncomputable abbrev yj(c:PA):bY:=.aQ .q [(.lC,.ae c.rl),(.rm,.ah [])]
noncomputable def yl(n:Int)(a:Int)(args:List V):V:=.aQ .vl [(.oG,.aa n),(.aJ,.aa a),(.Bh,.u args),(.rm,.ah [])]
class inductive nA:List V->List Int->Prop where
 |nil:nA [] []
 |eM {ds ns n p as}:nA ds ns->nA (ds++[yl n p as]) (ns++[n])
theorem nA.j{a:List V}{b:List Int}(h:nA a b):a.length=b.length:=by
 induction h with
 |nil=>rfl
 |eM _ d=>rw[bx,bx,d];rfl
structure Pl(c:PA)(F:List aj):Prop where
 QG:∃i e,F=i++[e]/\e.aq=0
 QH:F.length<4000000
 n1:c.ap≠c.tl
 n2:c.ap≠c.dl
 n3:c.ap≠c.rl
 n4:c.rl≠c.tl
 n5:c.rl≠c.dl
inductive PS(c:PA)(F:List aj)(g:Fg):Sg->Hp->Prop
 |mk (i r:List aj) (t:aj) (ds:List V) (ns:List Int) (H:Hp) (P:Pl c F) (e:F=i++t::r) (hp:H[c.ap]? =some (vA c g i.length)) (ht:H[c.tl]? =some (.af (F.map aj.v))) (hd:H[c.dl]? =some (yj c)) (hr:H[c.rl]? =some (.af ds)) (R:nA ds ns):PS c F g ⟨t::r,ns⟩ H
structure bT(c:PA)(H H':Hp):Prop where
 bK:H.length<=H'.length
 jE:∀i,i<H.length->i≠c.ap->i≠c.rl->H'[i]? =H[i]?
theorem bT.refl{c:PA}{H:Hp}:bT c H H:=⟨bF _,λa a a a=>J⟩
theorem bT.q{c:PA}{H H₁ d:Hp}(a:bT c H H₁)(b:bT c H₁ d):bT c H d:=
 ⟨aE a.bK b.bK,λi h x y=>(b.jE i (iP h a.bK) x y).trans<|a.jE i h x y⟩
theorem hX{H:Hp}(h:H[i]? =O o):i<H.length:=(fK.mp h).1
theorem fk{H:Hp}(h:H[i]? =O a):(H.set i o)[i]? =O o:=oi<|hX h
theorem fm{H:Hp}(n:i≠j)(h:H[j]? =O a):(H.set i o)[j]? =O a:=(mT n).trans h
theorem cR{H l:Hp}{i:Nat}{o:bY}(h:H[i]? =O o):(H++l)[i]? =O o:=(p7<|hX h).trans h
theorem cD{H:Hp}:(H++[o])[H.length]? =O o:=mU
theorem iB{H:Hp}:(H++[o]).set H.length a=H++[a]:=by rw[acZ _ _ (bF _),p9];rfl
section
variable{c:PA}{F:List aj}{g:Fg}{s:Sg}{H:Hp}
theorem bT.u:bT c H (H.set c.ap o):=⟨b7 (sM ..).symm,λi a x a=>mT<|eH x⟩
theorem bT.i:bT c H (H.set c.rl o):=⟨b7 (sM ..).symm,λi a a x=>mT<|eH x⟩
theorem bT.j:bT c H (H++l):=⟨by rw[bx];exact d8 ..,λi h a a=>p7 h⟩
theorem bT.y{H₀:Hp}(x:bT c H H₀)(b:H.length<=a):bT c H (H₀.set a o):=
 ⟨(sM ..).symm▸x.bK,λi h p q=>(mT<|mV<|iP h b).trans<|x.jE i h p q⟩
theorem bT.at{H₀:Hp}(x:bT c H H₀)(h:H[a]? =O o)(p:a≠c.ap)(q:a≠c.rl):H₀[a]? =O o:=(x.jE a (hX h) p q).trans h
theorem PS.u{i r:List aj}(P:Pl c F)(e:F=i++t::r)(d:H[c.ap]? =O (vA c g k))(f:H[c.tl]? =O (.af<|F.map aj.v))(h:H[c.dl]? =O (yj c))(j:H[c.rl]? =O (.af a))(R:nA a b):
  PS c F g' ⟨t::r,b⟩ (H.set c.ap<|vA c g' i.length):=.mk i r t a b _ P e (fk d) (fm P.n1 f) (fm P.n2 h) (fm P.n3 j) R
theorem PS.j(h:PS c F g s H)(l:Hp):PS c F g s (H++l):=by
 induction h with
 |mk i r t a ns H P e hp ht hd hr R=>exact .mk i r t a ns _ P e (cR hp) (cR ht) (cR hd) (cR hr) R
end
structure i4(c:PA)(B:Hp)(a:Nat):Prop where
 BE:B.length<=a
 ap:c.ap<B.length
 tl:c.tl<B.length
 dl:c.dl<B.length
 rl:c.rl<B.length
section
variable{c:PA}{F:List aj}{g:Fg}{s:Sg}{H:Hp}
theorem i4.ne{B:Hp}(o:i4 c B a)(h:x<B.length):a≠x:=mV<|iP h o.BE
theorem i4.ps(o:i4 c B a)(h:PS c F g s H):PS c F g s (H.set a b):=by
 induction h with
 |mk i r t d ns H P e hp ht hd hr R=>exact .mk i r t d ns _ P e (fm (o.ne o.ap) hp) (fm (o.ne o.tl) ht) (fm (o.ne o.dl) hd) (fm (o.ne o.rl) hr) R
theorem PS.kF(h:PS c F g s H):i4 c H H.length:=by
 induction h with
 |mk i r t a ns H P e hp ht hd hr R=>exact⟨bF _,hX hp,hX ht,hX hd,hX hr⟩
theorem i4.at{B H₀:Hp}(o:i4 c B a)(x:bT c H H₀)(h:H[a]? =O b):H₀[a]? =O b:=x.at h (o.ne o.ap) (o.ne o.rl)
noncomputable def NS(c:PA)(b:List Int)(H:Hp):Prop:=∃g k a,H[c.ap]? =O (vA c g k)/\H[c.dl]? =O (yj c)/\H[c.rl]? =O (.af a)/\nA a b
theorem PS.ns(h:PS c F g s H):NS c s.ns H:=by
 induction h with
 |mk i r t a ns H P e hp ht hd hr R=>exact f5 g i.length a hp hd hr R
end
noncomputable def RT:T->V->Hp->Prop:=λt v a=>v=t.v
inductive eN{α:Type}(c:PA)(F:List aj)(g:Fg)(H:Hp)(Rv:α->V->Hp->Prop):R V->PR α->Prop
 |ok {v H' a s}:Rv a v H'->PS c F g s H'->bT c H H'->eN c F g H Rv (.ok v H') (.ok a s)
 |d9 {H' ns}:NS c ns H'->bT c H H'->eN c F g H Rv (.q H') (.d9 ns)
 |j {r}:eN c F g H Rv r .j
noncomputable abbrev dD{a:Type}(c:PA)(F:List aj)(g:Fg)(H:Hp)(b:a->V->Hp->Prop)(r:R V)(p:PR a):Prop:=eN c F g H b r p
noncomputable def Jd(X:R (Fl×Lc)->Prop)(m:Nat)(c:Cf):Prop:=X<|d6 (ag m) c
noncomputable def eg(x:Fl×Lc)(H:Hp):R V:=match x with
 |(.am v,_)=>.ok v H
 |(.aU,_)=>.ok .none H
 |_=>.j
theorem kG(n:Nat){X:R (Fl×Lc)->Prop}{m:Nat}{c c':Cf}(e:yi n c=c')(h:Jd X m c'):Jd X m c:=by
 unfold Jd at h⊢;rw[<-QF n c];rw[<-e] at h;exact h
theorem bv{X:R (Fl×Lc)->Prop}{m:Nat}{c c':Cf}(e:go c=c')(h:Jd X m c'):Jd X m c:=kG 60 e h
theorem bf{X:R (Fl×Lc)->Prop}{m:Nat}{c c':Cf}(e:d6 (ag m) c=d6 (ag m) c')(h:Jd X m c'):Jd X m c:=by
 unfold Jd at h⊢;rw[e];exact h
theorem qq{as:List V}{H:Hp}(m:Nat)(e:iX f=(b,d,a))(g:as.length=b):ag (m+1) f as H=(d6 (ag m)<|.s a [] (as.map O++jq (d-b) U) H).i eg:=by
 show Bv (ag m) f as H=_;unfold Bv;rw[e]
 dsimp only
 rw[aN g];show _=R.i (R.i _<|dq (ag m) []) eg;rw[(λr=>by cases r<;>rfl:∀r:R<|Fl×Lc,r.i (dq (ag m) [])=r)];exact i0 λx H=>by obtain⟨y,l⟩:=x;cases y<;>rfl
section
variable{X:R (Fl×Lc)->Prop}{m:Nat}{c:Cf}{K:List Kf}{l:Lc}{H H':Hp}{u v w:V}
theorem bn(e:go c=.ao f a K l H)(h:ag m f a H=.ok v H')(q:Jd X m<|.v v K l H'):Jd X m c:=
 bv e (bf (by show(ag m f a H).i _=_;rw[h];rfl) q)
theorem cZ(e:go c=.v u (.q a::K) l H)(h:kE u a H=.ok v H)(q:Jd X m<|.v v K l H):Jd X m c:=
 bv e (bf (by show(kE u a H).i _=_;rw[h];rfl) q)
theorem f9(h:H[x]? =O (.aQ b fs))(e:fe fs a=O v):kE (.ae x) a H=.ok v H:=by
 show(match H[x]? with|some (.aQ _ fs)=>cG (fe fs a) H|_=>.j)=_;rw[h];show cG (fe fs a) H=_;rw[e];rfl
theorem b5(e:go c=.v w (.tD u::K) l H)(h:f6 u w H=.ok v H)(q:Jd X m<|.v v K l H):Jd X m c:=
 bv e (bf (by show(f6 u w H).i _=_;rw[h];rfl) q)
theorem ck(e:go c=.v w (.nt o u::K) l H)(h:fO o u w H=.ok v H')(q:Jd X m<|.v v K l H'):Jd X m c:=
 bv e (bf (by show(fO o u w H).i _=_;rw[h];rfl) q)
noncomputable def BF(f:Fn)(v:V)(a:List E)(K:List Kf)(l:Lc)(H:Hp):Cf:=match a with
 |[]=>.ao f [v] K l H
 |e::a=>.e e (.ao f [v] a::K) l H
theorem tI:d6 (ag m) (BF f v a K l H)=((cu (ag m) a l H).i λb H=>ag m f (v::b) H).i (ap (ag m) K l):=by
 induction a using aV with
 |nil=>rfl
 |cons e a=>exact(lO e a l H λd H=>(ag m f (v::d) H).i<|ap (ag m) K l).symm.trans (ef (cu (ag m) (e::a) l H) (λb H=>ag m f (v::b) H) _).symm
theorem vB{x:Nat}{a:At}{b:List E}{d:eJ}{fs:List (At×V)}{f:Fn}(e:go c=.v (.ae x) (.dK a b::K) l H)(h:H[x]? =some (.aQ d fs))(g:gV d a=some f)(q:Jd X m (BF f (.ae x) b K l H)):Jd X m c:=
 bv e (bf (by rw[tI];show R.i (match(match H[x]? with|some (.aQ c _)=>some c|_=>.none) with|some c=>(match gV c a with|some f=>(cu (ag m) b l H).i λi H=>ag m f (.ae x::i) H|.none=>.j)|.none=>_) _=_;rw[h];dsimp only;rw[g]) q)
theorem et{a d r:List S}(e:go c=.v (.i b) (.bQ a d r::K) l H)(f:b=I->Jd X m (.s a (.j r::K) l H))(g:b=C->Jd X m (.s d (.j r::K) l H)):Jd X m c:=by
 refine bv e ?_;clear e
 cases b
 ·exact g J
 ·exact f J
theorem k8(h:l[i]? =O (O v)):az (ag m) (.l i) l H=.ok v H:=by show(match l[i]? with|some (some v)=>R.ok v H|_=>.j)=_;rw[h]
theorem cy{a d r:List S}(e:go c=.v (.i b) (.bQ a d r::K) l H)(f:b=I)(q:Jd X m<|.s a (.j r::K) l H):Jd X m c:=et e (λg=>q) λh=>ax (f.symm.trans h) c6
theorem bh{a d r:List S}(e:go c=.v (.i b) (.bQ a d r::K) l H)(f:b=C)(q:Jd X m<|.s d (.j r::K) l H):Jd X m c:=et e (λh=>ax (f.symm.trans h) bc) λg=>q
theorem BH{r:List S}(e:go c=.s (.oW (.l i) a o (.c u)::r) K l H)(d:l[i]? =O (O<|.ae x))(h:H[x]? =O (.aQ b fs))(f:fe fs a=O w)(g:iY o w u H=.ok v H)(q:Jd X m<|.s r K l<|H.set x<|.aQ b<|fB fs a v):Jd X m c:=
 bv e (bf (by
  have e1:fY (ag m) (.oW (.l i) a o<|.c u) l H=.ok (.aU,l) (H.set x<|.aQ b<|fB fs a v):=by
   show R.i (az (ag m) (.l i) l H) _=_;rw[k8 d,jD,f9 h f,jD];show R.i (iY o w u H) _=_;rw[g,jD];show R.i (match H[x]? with|some (.aQ c fs)=>R.ok () (H.set x<|.aQ c<|fB fs a v)|_=>.j) _=_;rw[h];rfl
  show R.i (R.i (fY (ag m) (.oW (.l i) a o<|.c u) l H) _) _=_;rw[e1];rfl) q)
theorem j2(e:go c=.v (.i b) (.bz x y::K) l H)(a:b=I->Jd X m (.e x K l H))(d:b=C->Jd X m (.e y K l H)):Jd X m c:=by
 refine bv e ?_;clear e
 cases b
 ·exact d J
 ·exact a J
theorem eh(e:go c=.v (.i b) (.bN y::K) l H)(a:b=I->Jd X m (.e y K l H))(d:b=C->Jd X m (.v (.i C) K l H)):Jd X m c:=by
 refine bv e ?_;clear e
 cases b
 ·exact d J
 ·exact a J
theorem vC(e:go c=.v (.i b) (.or y::K) l H)(a:b=I->Jd X m (.v (.i I) K l H))(d:b=C->Jd X m (.e y K l H)):Jd X m c:=by
 refine bv e ?_;clear e
 cases b
 ·exact d J
 ·exact a J
theorem tJ(h:az (ag m) x l H=.ok v H)(d:cu (ag m) a l H=.ok b H):cu (ag m) (x::a) l H=.ok (v::b) H:=by
 show R.i (az (ag m) x l H) (λv H=>R.i (cu (ag m) a l H) _)=_;rw[h,jD,d];rfl
theorem gJ(h:az (ag m) x l H=.ok v H')(q:Jd X m<|.v v K l H'):Jd X m (.e x K l H):=
 bf (by show(az (ag m) x l H).i _=_;rw[h];rfl) q
theorem fC(e:go c=.v (.i b) (.bN y::K) l H)(h:az (ag m) y l H=.ok (.i b') H)(q:Jd X m<|.v (.i<|b&&b') K l H):Jd X m c:=by
 refine bv e ?_;clear e
 cases b
 ·exact q
 ·exact gJ h q
theorem dP(e:go c=.v (.i b) (.or y::K) l H)(h:az (ag m) y l H=.ok (.i b') H)(q:Jd X m<|.v (.i<|b||b') K l H):Jd X m c:=by
 refine bv e ?_;clear e
 cases b
 ·exact gJ h q
 ·exact q
theorem i5{b r:List S}(q:Jd X m<|.e t (.vy n t b r::K) l H):Jd X m (.lp (n+1) t b r K l H):=by
 refine bf ?_ q;show R.i (R.i (R.i _ _) _) _=R.i _ _;rw[ef,ef];refine i0 λx H=>i0 λd H=>?_
 cases d
 ·rfl
 ·rw[ef];refine i0 λy H=>?_;obtain⟨y,l⟩:=y
  induction y using Fl.casesOn with
  |aU=>exact i0 λy H=>by obtain⟨y,l⟩:=y;cases y<;>rfl
  |q=>exact i0 λy H=>by obtain⟨y,l⟩:=y;cases y<;>rfl
  |_=>rfl
theorem gz{b r:List S}(e:go c=.v (.i d) (.vy n t b r::K) l H)(a:d=I->Jd X m (.s b (.lN n t b r::K) l H))(f:d=C->Jd X m (.s r K l H)):Jd X m c:=by
 refine bv e ?_;clear e
 cases d
 ·exact f J
 ·exact a J
theorem fZ(e:go c=.v (.ae a) (.dK .q [b]::K) l H)(h:H[a]? =O (.af f))(q:Jd X m<|.e b (.hW (.ae a) .q [] []::K) l H):Jd X m c:=
 bv e (bf (by
  show R.i (match(match H[a]? with|some (.aQ c _)=>O c|_=>.none) with
   |some c=>_
   |.none=>if(match H[a]? with|some (.af _)=>I|_=>C)=I then(cu (ag m) [b] l H).i λd H=>hT (.ae a) .q d H else .j) _=_
  rw[h];rw[aN J];exact(ef (cu (ag m) [b] l H) (λd H=>hT (.ae a) .q d H) _).trans<|lO b [] l H λg H=>(hT (.ae a) .q g H).i<|ap (ag m) K l) q)
theorem i6{b:List V}(e:go c=.v u (.hW (.ae a) .q [] []::K) l H)(h:H[a]? =O (.af b))(d:b.length<bg)(q:Jd X m<|.v .none K l<|H.set a<|.af<|b++[u]):Jd X m c:=
 bv e (bf (by
  show R.i (match H[a]? with|some (.af b)=>if b.length<bg then R.ok V.none (H.set a<|.af<|b++[u]) else .j|_=>.j) _=_;rw[h];dsimp only;rw[aN d];rfl) q)
theorem rN{r:List S}(e:go c=.v (.ae x) (.tF u a r::K) l H)(h:H[x]? =O (.aQ b fs))(q:Jd X m<|.s r K l<|H.set x<|.aQ b<|fB fs a u):Jd X m c:=
 bv e (bf (by
  show R.i (match H[x]? with|some (.aQ c fs)=>R.ok () (H.set x<|.aQ c<|fB fs a u)|_=>.j) _=_;rw[h];rfl) q)
theorem aL(e:go c=.fl y [] l H)(h:X<|.ok (y,l) H):Jd X m c:=bv e h
end
theorem cS{as:List V}{H H':Hp}{v:V}{m:Nat}(e:iX f=(b,d,a))(g:as.length=b)(q:Jd (λr=>r.i eg=.ok v H') m<|.s a [] (as.map O++jq (d-b) U) H):ag (m+1) f as H=.ok v H':=(qq m e g).trans q
section
variable{c:PA}{y:List aj}{g:Fg}{s:Sg}{H:Hp}{m:Nat}
theorem i7(t:aj)(k:Int)(x:List Nat)(H:Hp):ag (m+1) 502 [t.v,.aa k,.ah x] H=.ok (.i<|t.is k x) H:=by
 refine cS J J<|eh J (λh=>?_) λh=>?_
 ·refine aL J ?_;unfold aj.is;rw[h];rfl
 ·refine aL J ?_;unfold aj.is;rw[h];rfl
theorem ym{i r:List aj}{t:aj}(e:y=i++t::r):(y.map aj.v)[i.length]? =O t.v:=by
 subst e;simp
theorem Gw{a:List V}{i:Nat}{H:Hp}(e:a[i]? =O v):cG ((fP (i:Int) a.length).bind λj=>a[j]?) H=.ok v H:=by
 have:fP (i:Int) a.length=O i:=by
  unfold fP;rw[aN (qa i),aN (sN.mpr<|(fK.mp e).1)];rfl
 rw[this];exact bH (cG · H) e
theorem hY{b:List V}{i:Nat}{v:V}{a:Nat}(h:H[a]? =O (.af b))(e:b[i]? =O v):f6 (.ae a) (.aa i) H=.ok v H:=by
 show cG ((match H[a]? with|some (.af b)=>O b|_=>U).bind λb=>(fP i b.length).bind λj=>b[j]?) H=_;rw[h];exact Gw e
theorem QI(h:PS c y g s H):ag (m+1) 313 [.ae c.ap] H=.ok s.i.v H:=by
 induction h with
 |mk i r t a ns H P e hp ht hd hr R=>
 refine cS rfl rfl<|cZ rfl (f9 hp rfl)<|cZ rfl (f9 hp rfl)<|b5 rfl (hY ht<|ym e)<|aL rfl rfl
theorem Gy{i r:List aj}(e:y=i++t::r){u:aj}(h:(t::r)[j]? =O u):(y.map aj.v)[i.length+j]? =O u.v:=by
 subst e;rw[dz,ra (by rw[c5];exact d8 ..),c5,Ni,qb,h];rfl
theorem Gz(h:H[c.tl]? =O (.af<|y.map aj.v)){i r:List aj}(e:y=i++t::r):f7 .bK [.ae c.tl] H=.ok (.aa ((i.length+(r.length+1):Nat):Int)) H:=by
 show cG ((match H[c.tl]? with|some (.af a)=>O a|_=>U).map λ(a:List V)=>V.aa a.length) H=_;rw[h];show R.ok (V.aa ((y.map aj.v).length:Nat)) H=_;rw[c5,e,bx,gQ]
theorem fD{X:R (Fl×Lc)->Prop}{K:List Kf}(e:go d=.v u (.bi b a []::K) l H)(h:f7 b (a++[u]) H=.ok v H)(q:Jd X m<|.v v K l H):Jd X m d:=
 bv e (bf (by show(f7 b (a++[u]) H).i _=_;rw[h];rfl) q)
theorem QJ{r:List aj}(q:j<r.length+1):(t::r)[j]? =O ((Sg.mk (t::r) a).u j):=by
 show _=O ((t::r).getD j _);rw[Al,li (q)];rfl
theorem QK{r:List aj}(q:¬j<r.length+1):(t::r)[r.length]? =O ((Sg.mk (t::r) a).u j):=by
 show _=O ((t::r).getD j _);rw[Al,EU (show(t::r).length<=j from sO q),Option.getD_none,ac0,List.getLast?_eq_getElem?,gQ,ac1,li (sP r.length)];rfl
theorem BI(h:PS c y g s H)(j:Nat):ag (m+1) 320 [.ae c.ap,.aa j] H=.ok (s.u j).v H:=by
 induction h with
 |mk i r t a ns H P e hp ht hd hr R=>
 refine cS J J<|cZ J (f9 hp J)<|cZ J (f9 hp J)<|fD J (Gz ht e)<|et J (λq=>?_) λq=>?_
 ·have q:¬j<r.length+1:=by have:=of_decide_eq_true q;lia
  refine cZ J (f9 hp J)<|fD J (Gz ht e)<|cZ J (f9 hp J)<|b5 J ?_ (aL J J);rw[show((i.length+(r.length+1):Nat):Int)-1=((i.length+r.length:Nat):Int) by lia];exact hY ht<|Gy e<|QK q
 ·have q:j<r.length+1:=by have:=of_decide_eq_false q;lia
  exact cZ J (f9 hp J)<|b5 J (hY ht<|Gy e<|QJ q)<|aL J J
theorem tK(h:PS c y g s H):∃a,ag (m+1) 327 [.ae c.ap] H=.ok s.i.v a/\PS c y g s.j a/\bT c H a:=by
 induction h with
 |mk i r t b ns H P e hp ht hd hr R=>
 by_cases q:t.aq=0
 ·refine dg H (cS J J<|cZ J (f9 hp J)<|cZ J (f9 hp J)<|b5 J (hY ht<|ym e)<|bh J (by rw[decide_eq_true q];rfl)<|aL J J) ?_ .refl;show PS c y g (if t.aq=0 then _ else _) H;rw[if_pos q];exact .mk i r t b ns H P e hp ht hd hr R
 ·refine dn λd=>eC P.QG λk l f j=>d ?_
  induction r using aV with
  |nil=>exact absurd (mW (List.append_inj' (e.symm.trans f) J).2).1 λw=>q<|w▸j
  |cons o p=>
   refine dg _ (cS J J<|cZ J (f9 hp J)<|cZ J (f9 hp J)<|b5 J (hY ht<|ym e)<|cy J (by rw[decide_eq_false q];rfl)<|BH J J hp J J<|aL J J) ?_ (.u);show PS c y g (if t.aq=0 then _ else _) _;rw[if_neg q];have:=PS.u (g':=g) P (e.trans<|kR ..) hp ht hd hr R;rw[bx] at this;exact this
end
section
variable{c:PA}{B:List aj}{g:Fg}{s:Sg}{H:Hp}{m:Nat}{X:R (Fl×Lc)->Prop}{i:Cf}{K:List Kf}{l:Lc}
theorem PS.j3(h:PS c B g s H):∃k,H[c.ap]? =O (vA c g k):=by
 induction h with
 |mk i r t a ns H P e hp ht hd hr R=>exact⟨_,hp⟩
theorem vD(e:go i=.v (.ae c.ap) (.dK a b::K) l H)(h:PS c B g s H)(d:gV .i a=O f)(q:Jd X m<|BF f (.ae c.ap) b K l H):Jd X m i:=let⟨_,hp⟩:=h.j3;vB e hp d q
theorem dM{u:Hp}(e:go i=.v (.ae c.ap) (.dK a b::K) l H)(h:PS c B g s H)(j:gV .i a=O f)(k:cu (ag m) b l H=.ok d H)(o:ag m f (.ae c.ap::d) H=.ok v u)(q:Jd X m<|.v v K l u):Jd X m i:=
 vD e h j (bf (by rw[tI,k,jD,o];rfl) q)
theorem dQ(e:go i=.v (.ae c.ap) (.dK .i []::K) l H)(h:PS c B g s H)(q:Jd X (m+1)<|.v s.i.v K l H):Jd X (m+1) i:=dM e h J J (QI h) q
theorem pg{j:Nat}(e:go i=.v (.ae c.ap) (.dK .u [.c (.aa j)]::K) l H)(h:PS c B g s H)(q:Jd X (m+1)<|.v (s.u j).v K l H):Jd X (m+1) i:=dM e h J J (BI h j) q
theorem mA(e:go i=.v (.ae c.ap) (.dK .j []::K) l H)(h:PS c B g s H)(q:∀u,PS c B g s.j u->bT c H u->Jd X (m+1) (.v s.i.v K l u)):Jd X (m+1) i:=dn λa=>cF (tK (m:=m) h) λu b p x=>a<|dM e h J J b<|q u p x
theorem BJ{k:Int}(a:iX f=(2,2,[.am (.ao 502 [.y (.q (.l 0) .iA) (.q (.l 0) .aJ),.c (.aa k),.l 1])]))(h:PS c B g s H):ag (m+2) f [.ae c.ap,.ah x] H=.ok (.i<|s.i.is k x) H:=by
 induction h with
 |mk i r t b ns H P e hp ht hd hr R=>
 exact cS a J<|cZ J (f9 hp J)<|cZ J (f9 hp J)<|b5 J (hY ht<|ym e)<|bn J (i7 t k x H)<|aL J J
theorem QM(h:PS c B g s H)(x:List Nat):ag (m+2) 334 [.ae c.ap,.ah x] H=.ok (.i<|s.i.is 5 x) H:=BJ J h
theorem QN(h:PS c B g s H)(x:List Nat):ag (m+2) 341 [.ae c.ap,.ah x] H=.ok (.i<|s.i.is 2 x) H:=BJ J h
theorem BK(h:PS c B g s H)(x:List Nat):ag (m+2) 348 [.ae c.ap,.ah x] H=.ok (.i<|s.i.is 1 x) H:=BJ J h
theorem jF(e:go i=.v (.ae c.ap) (.dK .fX [.c (.ah x)]::K) l H)(h:PS c B g s H)(q:Jd X (m+2)<|.v (.i<|s.i.is 5 x) K l H):Jd X (m+2) i:=dM e h J J (QM h x) q
theorem yn(e:go i=.v (.ae c.ap) (.dK .tq [.c (.ah x)]::K) l H)(h:PS c B g s H)(q:Jd X (m+2)<|.v (.i<|s.i.is 2 x) K l H):Jd X (m+2) i:=dM e h J J (QN h x) q
theorem tL(e:go i=.v (.ae c.ap) (.dK .ms [.c (.ah x)]::K) l H)(h:PS c B g s H)(q:Jd X (m+2)<|.v (.i<|s.i.is 1 x) K l H):Jd X (m+2) i:=dM e h J J (BK h x) q
theorem BL(h:PS c B g s H)(k:Int)(x:List Nat):∃u,ag (m+2) 523 [.ae c.ap,.aa k,.ah x] H=.ok (.i<|s.i.is k x) u/\(s.i.is k x=I->PS c B g s.j u/\bT c H u)/\(s.i.is k x=C->u=H):=by
 refine dn λa=>cF (tK (m:=m) h) λu b p y=>a ?_
 cases q:s.i.is k x with
 |true=>exact dg u (cS J J<|dQ J h<|bn J (i7 s.i k x H)<|bh J (by rw[q];rfl)<|dM J h J J b<|aL J J) (λd=>⟨p,y⟩) c6
 |false=>exact dg H (cS J J<|dQ J h<|bn J (i7 s.i k x H)<|cy J (by rw[q];rfl)<|aL J J) bc λd=>J
theorem rO{k:Int}(a:iX f=(2,2,[.am (.ao 523 [.l 0,.c (.aa k),.l 1])]))(h:PS c B g s H)(x:List Nat):∃u,ag (m+3) f [.ae c.ap,.ah x] H=.ok (.i<|s.i.is k x) u/\(s.i.is k x=I->PS c B g s.j u/\bT c H u)/\(s.i.is k x=C->u=H):=dn λb=>aB (BL (m:=m) h k x) λu d p=>b<|aD u (cS a J<|bn J d<|aL J J) p
theorem yo(h:PS c B g s H)(x p:Int)(as:List V)(a:s.ns.length<1000):∃u,ag (m+1) 201 [.ae c.dl,.aa x,.aa p,.u as] H=.ok .none u/\PS c B g ⟨s.ts,s.ns++[x]⟩ u/\bT c H u:=by
 induction h with
 |mk i r t b ns H P e hp ht hd hr R=>
 refine dg _ (cS J J<|cZ J (f9 hd J)<|fZ J hr<|cZ J (f9 hd J) ?_) (.mk i r t (b++[yl x p as]) _ _ P e (fm P.n3.symm hp) (fm P.n4 ht) (fm P.n5 hd) (fk hr) R.eM) .i;exact bf (c':=.v (yl x p as) [.hW (.ae c.rl) .q [] [],.ex []] _ H) J<|i6 J hr (R.j▸uO a (D J))<|aL J J
theorem vG(h:PS c B g s H):kE (.ae c.ap) .dU H=.ok (.ae c.dl) H:=by
 obtain⟨_,hp⟩:=h.j3;exact f9 hp J
theorem PS.y(h:PS c B g s H):H[c.dl]? =O (yj c):=by
 induction h with
 |mk i r t a ns H P e hp ht hd hr R=>exact hd
theorem GA{x p:Int}(e:go i=.v (.ae c.ap) (.q .dU:: .dK .gw a::K) l H)(h:PS c B g s H)(b:cu (ag<|m+1) a l H=.ok [.aa x,.aa p,.u as] H)(d:s.ns.length<1000)(q:∀u,PS c B g ⟨s.ts,s.ns++[x]⟩ u->bT c H u->Jd X (m+1) (.v .none K l u)):Jd X (m+1) i:=cF (yo (m:=m) h x p as d) λu f j y=>cZ e (vG h)<|vB J h.y J<|bf (by rw[tI,b,jD,f];rfl)<|q u j y
theorem nB{as:List V}{H u:Hp}{m:Nat}(e:iX f=(b,d,a))(h:as.length=b)(q:Jd (λr=>r=.q u) m<|.s a [] (as.map O++jq (d-b) U) H):ag (m+1) f as H=.q u:=(qq m e h).trans (by rw[q];rfl)
theorem QO(h:PS c B g s H){x:Int}(a:0<=x/\x<1000000)(p:Int)(as:List V)(b:s.ns.length<1000):∃u,ag (m+2) 418 [.ae c.ap,.aa x,.aa p,.u as] H=.q u/\NS c (s.ns++[x]) u/\bT c H u:=by
 refine dn λd=>cF (yo (m:=m) h x p as b) λu e f y=>d<|dg u (nB J J<|cZ J (vG h)<|vB J h.y J<|bn J e ?_) f.ns y;exact bv J (show R.i (R.i (if 0<=x/\x<1000000 then R.q u else .j) _) _=_ by rw[aN a];rfl)
theorem vH{u:Hp}(e:go i=.ao f a K l H)(h:ag m f a H=.q u)(q:X<|.q u):Jd X m i:=
 bv e (show X (R.i (ag m f a H) _) by rw[h];exact q)
theorem tM(h:PS c B g s H){x:Int}(a:0<=x/\x<1000000)(as:List V)(b:s.ns.length<1000):∃u,ag (m+3) 411 [.ae c.ap,.aa x,.u as] H=.q u/\NS c (s.ns++[x]) u/\bT c H u:=dn λd=>cF (QO (m:=m) h a s.i.aJ as b) λu e n y=>d<|dg u (nB J J<|vD J h J<|dQ J h<|vH J e J) n y
end
structure fo(F:Type) where
 c:PA
 dW:List aj
 g:Fg
 H:Hp
 Rv:F->V->Hp->Prop
noncomputable def OX{F:Type}(A:fo F)(p:PR F)(r:R<|Fl×Lc):Prop:=dD A.c A.dW A.g A.H A.Rv (r.i eg) p
structure Sx{F:Type}(A:fo F)(g:Fg)(s:Sg)(H:Hp):Prop where
 ps:PS A.c A.dW g s H
 ex:bT A.c A.H H
theorem eO{F:Type}{A:fo F}{p:PR F}{m:Nat}{as:List V}(e:iX f=(b,d,a))(h:as.length=b)(q:Jd (OX A p) m<|.s a [] (as.map O++jq (d-b) U) A.H):dD A.c A.dW A.g A.H A.Rv (ag (m+1) f as A.H) p:=by
 rw[qq m e h];exact q
section
variable{F q:Type}{A:fo F}{p:PR F}{M:PR q}{Q:q->Sg->PR F}{G:Fg}{s:Sg}{H u:Hp}{m:Nat}{i:Cf}{K:List Kf}{l:Lc}{N:q->V->Hp->Prop}
theorem Sx.go(h:Sx A G s H)(p:PS A.c A.dW b d a)(x:bT A.c H a):Sx A b d a:=⟨p,h.ex.q x⟩
theorem Sx.j(h:Sx A G s H)(l:Hp):Sx A G s (H++l):=⟨h.ps.j l,h.ex.q .j⟩
theorem eD(e:go i=.fl (.am v) [] l H)(b:A.Rv a v H)(h:Sx A A.g s H):Jd (OX A<|.ok a s) m i:=aL e<|eN.ok b h.ps h.ex
theorem GB(e:go i=.ao f b K l H)(x:bT A.c A.H H)(h:dD A.c A.dW G H N (ag m f b H) M)(q:∀a s v u,M=.ok a s->N a v u->Sx A G s u->bT A.c H u->Jd (OX A<|Q a s) m (.v v K l u)):Jd (OX A<|M.bd Q) m i:=by
 refine bv e ?_;show OX A _ (R.i (ag m f b H) _);generalize ag m f b H=r at h
 induction h with
 |ok d p y=>exact q _ _ _ _ J d ⟨p,x.q y⟩ y
 |d9 n y=>exact .d9 n<|x.q y
 |j=>exact .j
theorem fE(e:go i=.ao f b K l H)(x:bT A.c A.H H)(h:dD A.c A.dW G H N (ag m f b H) M)(q:∀a s v u,N a v u->Sx A G s u->bT A.c H u->Jd (OX A<|Q a s) m (.v v K l u)):Jd (OX A<|M.bd Q) m i:=GB e x h λa s v u d=>q a s v u
theorem k9(e:go i=.ao f b K l H)(d:∀v H,go (.v v K l H)=.fl (.am v) [] l H)(x:bT A.c A.H H)(h:dD A.c A.dW A.g H A.Rv (ag m f b H) p):Jd (OX A p) m i:=by
 refine bv e ?_;show OX A _ (R.i (ag m f b H) _);generalize ag m f b H=r at h
 induction h with
 | @ok v u a s k p y=>exact(aL (d v u) (eN.ok k p<|x.q y):Jd (OX A<|.ok a s) m<|.v v K l u)
 |d9 n y=>exact .d9 n<|x.q y
 |j=>exact .j
theorem QP(e:go i=.v (.ae A.c.ap) (.dK a d::K) l H)(h:Sx A G s H)(j:gV .i a=O f)(k:cu (ag m) d l H=.ok b H)(o:dD A.c A.dW G H N (ag m f (.ae A.c.ap::b) H) M)(q:∀a s v u,N a v u->Sx A G s u->bT A.c H u->Jd (OX A<|Q a s) m (.v v K l u)):Jd (OX A<|M.bd Q) m i:=
 vD e h.ps j (bf (c':=.ao f (.ae A.c.ap::b) K l H) (by rw[tI,k,jD];rfl)<|fE J h.ex o q)
theorem yq{x:Int}(e:go i=.v (.ae A.c.ap) (.dK .b8 b::K) l H)(h:Sx A G s H)(d:0<=x/\x<1000000)(f:cu (ag<|m+3) b l H=.ok [.aa x,.u a] H):Jd (OX A<|b8 x s) (m+3) i:=by
 refine vD e h.ps J<|bf (c':=.ao 411 [.ae A.c.ap,.aa x,.u a] K l H) (by rw[tI,f,jD];rfl) ?_;unfold b8;split
 ·rename_i j
  exact dn λk=>cF (tM (m:=m) h.ps d a j) λu o n y=>k<|vH J o<|.d9 n<|h.ex.q y
 ·exact eN.j
theorem BM{k:Int}{pf:Bool->Sg->PR F}(e:go i=.v (.ae A.c.ap) (.dK a [.c (.ah x)]::K) l H)(d:gV .i a=O f)(j:iX f=(2,2,[.am (.ao 523 [.l 0,.c (.aa k),.l 1])]))(h:Sx A G s H)
  (o:s.i.is k x=I->∀u,Sx A G s.j u->bT A.c H u->Jd (OX A<|pf I s.j) (m+3) (.v (.i I) K l u))(r:s.i.is k x=C->Jd (OX A<|pf C s) (m+3) (.v (.i C) K l H)):Jd (OX A<|cM k x s pf) (m+3) i:=by
 refine dn λt=>cF (rO (m:=m) j h.ps x) λu b M v=>t ?_;unfold cM
 cases q:s.i.is k x with
 |true=>rw[q] at b;obtain⟨p,y⟩:=M q;exact dM e h.ps d J b<|o q u (h.go p y) y
 |false=>rw[q] at b;cases v q;exact dM e h.ps d J b<|r q
theorem ph{pf:Bool->Sg->PR F}(e:go i=.v (.ae A.c.ap) (.dK .y [.c (.ah x)]::K) l H)(h:Sx A G s H)
  (a:s.i.is 5 x=I->∀u,Sx A G s.j u->bT A.c H u->Jd (OX A<|pf I s.j) (m+3) (.v (.i I) K l u))(b:s.i.is 5 x=C->Jd (OX A<|pf C s) (m+3) (.v (.i C) K l H)):Jd (OX A<|cM 5 x s pf) (m+3) i:=BM e J J h a b
theorem BN{pf:Bool->Sg->PR F}(e:go i=.v (.ae A.c.ap) (.dK .tt [.c (.ah x)]::K) l H)(h:Sx A G s H)
  (a:s.i.is 2 x=I->∀u,Sx A G s.j u->bT A.c H u->Jd (OX A<|pf I s.j) (m+3) (.v (.i I) K l u))(b:s.i.is 2 x=C->Jd (OX A<|pf C s) (m+3) (.v (.i C) K l H)):Jd (OX A<|cM 2 x s pf) (m+3) i:=BM e J J h a b
theorem QQ{pf:Bool->Sg->PR F}(e:go i=.v (.ae A.c.ap) (.dK .Bg [.c (.ah x)]::K) l H)(h:Sx A G s H)
  (a:s.i.is 1 x=I->∀u,Sx A G s.j u->bT A.c H u->Jd (OX A<|pf I s.j) (m+3) (.v (.i I) K l u))(b:s.i.is 1 x=C->Jd (OX A<|pf C s) (m+3) (.v (.i C) K l H)):Jd (OX A<|cM 1 x s pf) (m+3) i:=BM e J J h a b
theorem kH{a d r:List S}(e:go i=.v (.i b) (.bQ a d r::K) l H)(h:b=I->Jd (OX A p) m (.s a (.j r::K) l H))(j:b=C->Jd (OX A f) m (.s d (.j r::K) l H)):Jd (OX A<|if b=I then p else f) m i:=by
 refine bv e ?_;clear e
 cases b
 ·exact j J
 ·exact h J
theorem QR{a d r:List S}(e:go i=.v (.i<|!b) (.bQ a d r::K) l H)(h:b=I->Jd (OX A p) m (.s d (.j r::K) l H))(j:b=C->Jd (OX A f) m (.s a (.j r::K) l H)):Jd (OX A<|if b=I then p else f) m i:=by
 refine bv e ?_;clear e
 cases b
 ·exact j J
 ·exact h J
theorem QS{a f r:List S}(e:go i=.v (.i b) (.bQ a f r::K) l H)(j:b=d)(k:d=I->Jd (OX A p) m (.s a (.j r::K) l H))(o:d=C->Jd (OX A h) m (.s f (.j r::K) l H)):Jd (OX A<|if d=I then p else h) m i:=by
 subst j;exact kH e k o
end
section
variable{c:PA}{u:List aj}{g:Fg}{s:Sg}{H:Hp}{m:Nat}{X:R (Fl×Lc)->Prop}{i:Cf}{K:List Kf}{l:Lc}
theorem c9(q:Jd (λr=>r=.ok (.am v,l) b) m<|.e x [.am] l H):az (ag m) x l H=.ok v b:=by
 have q:(az (ag m) x l H).i (ap (ag m) [.am] l)=.ok (.am v,l) b:=q;generalize az (ag m) x l H=r at q
 induction r using R.casesOn with
 |ok a H=>cases q;rfl
 |q H=>cases q
 |j=>cases q
theorem mB(e:go i=.v (.ae c.ap) (.dK a b::K) l H)(h:PS c u g s H)(k:gV .i a=O f)(o:cu (ag m) b l H=.ok d H)(p:ag m f (.ae c.ap::d) H=.q j)(q:X<|.q j):Jd X m i:=
 vD e h k (show X _ by rw[tI,o,jD,p];exact q)
theorem GC(h:PS c u g s H)(q:s.i.is 5 x=I):∃a,ag (m+4) 376 [.ae c.ap,.ah x] H=.ok .none a/\PS c u g s.j a/\bT c H a:=dn λb=>cF (BL (m:=m+1) h 5 x) λa e p d=>b<|aD a (cS J J<|bn J e<|bh J (by rw[q];rfl)<|aL J J)<|p q
theorem GD(h:PS c u g s H)(q:s.i.is 5 x=C)(b:s.ns.length<1000):∃a,ag (m+4) 376 [.ae c.ap,.ah x] H=.q a/\NS c (s.ns++[1005]) a/\bT c H a:=by
 refine cF (BL (m:=m+1) h 5 x) λa e d p=>?_;clear d
 cases p q
 exact cF (tM (m:=m) h (x:=1005) (D J) [.ah x] b) λa f n y=>dg a (nB J J<|bn J e<|cy J (by rw[q];rfl)<|mB J h J J f J) n y
theorem QT(h:PS c u g s H)(q:s.i.aq=1):∃a,ag (m+4) 390 [.ae c.ap] H=.ok (.ah s.i.aP) a/\PS c u g s.j a/\bT c H a:=dn λb=>cF (tK (m:=m+2) h) λa e p y=>b<|dg a (cS J J<|dQ J h<|bh J (by rw[dH q];rfl)<|dM J h J J e<|aL J J) p y
theorem QU(h:PS c u g s H)(q:¬s.i.aq=1)(b:s.ns.length<1000):∃a,ag (m+4) 390 [.ae c.ap] H=.q a/\NS c (s.ns++[1003]) a/\bT c H a:=dn λd=>cF (tM (m:=m) h (x:=1003) (D J) [] b) λa e n y=>d<|dg a (nB J J<|dQ J h<|cy J (by rw[dT q];rfl)<|mB J h J J e J) n y
theorem GF(h:PS c u g s H):ag (m+2) 425 [.ae c.ap] H=.ok (.i s.rH) H:=by
 refine cS J J<|dQ J h<|dP J J ?_;unfold Sg.rH;refine et J (λq=>aL J ?_) λq=>?_
 ·rw[q];rfl
 ·rw[q];refine fC J ?_ (aL J J);exact c9<|dP J J<|aL J J
theorem QV(h:PS c u g s H)(q:s.i.is 5 [59]=I):∃a,ag (m+4) 432 [.ae c.ap] H=.ok .none a/\PS c u g s.j a/\bT c H a:=dn λb=>cF (rO (m:=m) (f:=355) J h [59]) λa e p d=>b<|aD a (cS J J<|dM J h J J e<|eh J (λz=>ax (q▸z) λh=>ax h<|D J) λd=>bh J J<|aL J J)<|p q
theorem QW(h:PS c u g s H)(q:s.i.is 5 [59]=C)(a:s.rH=I):ag (m+4) 432 [.ae c.ap] H=.ok .none H:=by
 refine dn λb=>cF (rO (m:=m) (f:=355) J h [59]) λf e d p=>b ?_;clear d
 cases p q
 exact cS J J<|dM J h J J e<|fC J (c9<|dM J h J J (GF h) (by rw[a];exact aL J J))<|bh J (mX _)<|aL J J
theorem QX(h:PS c u g s H)(q:s.i.is 5 [59]=C)(b:s.rH=C)(d:s.ns.length<1000):∃a,ag (m+4) 432 [.ae c.ap] H=.q a/\NS c (s.ns++[1005]) a/\bT c H a:=by
 refine cF (rO (m:=m) (f:=355) J h [59]) λa e f p=>?_;clear f
 cases p q
 exact cF (tM (m:=m) h (x:=1005) (D J) [.ah [59]] d) λa i n y=>dg a (nB J J<|dM J h J J e<|fC J (c9<|dM J h J J (GF h) (by rw[b];exact aL J J))<|cy J (by rw[q];rfl)<|mB J h J J i J) n y
theorem pi(a b:Int):decide (a=b)=decide (b=a):=by by_cases h:a=b<;>simp[h,eq_comm]
theorem nD(a b:List Nat):decide (a=b)=decide (b=a):=by by_cases h:a=b<;>simp[h,eq_comm]
theorem BO(t:aj):ag (m+1) 530 [t.v] H=.ok (.i t.i) H:=by
 have e:t.i=(decide (1=t.aq)||(decide (2=t.aq)||(decide (4=t.aq)||(decide (3=t.aq)||C)))):=by
  rw[oj,pi 1,pi 2,pi 4,pi 3];rfl
 rw[e];exact cS J J<|aL J J
theorem GG(t:aj):ag (m+2) 537 [t.v] H=.ok (.i t.j) H:=
 cS J J (bn J (BO t)<|dP J (c9<|bn J (i7 t 5 [91] H)<|aL J J)<|aL J J)
theorem GH(t:aj):ag (m+2) 838 [t.v] H=.ok (.i t.q) H:=
 cS J J (bn J (i7 t 5 [40] H)<|dP J (c9<|bn J (i7 t 5 [60] H)<|aL J J)<|aL J J)
theorem BP(t:aj):ag (m+2) 925 [t.v] H=.ok (.i t.u) H:=
 cS J J (dP (b:=decide (t.aq=1)) J (c9<|bn J (i7 t 2 _ H)<|aL J J)<|aL J J)
theorem QY(h:PS c u g s H)(d:g.bS<40):∃a,ag (m+1) 439 [.ae c.ap] H=.ok .none a/\PS c u {g with bS:=g.bS+1} s a/\bT c H a:=by
 induction h with
 |mk i r t f ns H P e hp ht b hr R=>
 exact dg _ (cS J J<|BH J J hp J J<|cZ J (f9 (fk hp) J)<|bh J (dT<|by lia)<|aL J J) (.u P e hp ht b hr R)<|.u
theorem QZ(h:PS c u g s H):∃a,ag (m+1) 446 [.ae c.ap] H=.ok .none a/\PS c u {g with bS:=g.bS-1} s a/\bT c H a:=by
 induction h with
 |mk i r t d ns H P e hp ht b hr R=>
 exact dg _ (cS J J<|BH J J hp J J<|aL J J) (.u P e hp ht b hr R)<|.u
theorem Q0(h:PS c u g s H)(x:List Nat):ag (m+3) 845 [.ae c.ap,.ah x] H=.ok (.i<|s.y x&&((s.u 1).j&& !(s.u 1).cC)) H:=
 cS J J (pg J h<|dM J h J J (BK h x)<|fC J (c9<|bn J (GG _)<|fC J J<|aL J J)<|aL J J)
theorem GI(h:PS c u g s H)(x:List Nat):ag (m+3) 852 [.ae c.ap,.ah x] H=.ok (.i<|s.y x&&(s.u 1).j) H:=
 cS J J (dM J h J J (BK h x)<|fC J (c9<|pg J h<|bn J (GG _)<|aL J J)<|aL J J)
theorem Q4(h:PS c u g s H):ag (m+3) 873 [.ae c.ap] H=.ok (.i<|s.q [91]&&(decide ((s.u 1).aq=1)&&(s.u 2).is 5 [58])) H:=by
 refine cS J J<|jF J h<|dP (b':= !decide ((s.u 1).aq=1)) J (c9<|pg J h<|aL J J)<|et J (λq=>aL J ?_) λq=>pg J h<|bn J (i7 _ 5 [58] H)<|aL J ?_
 ·rw[<-ac2,show(s.q [91]&&decide ((s.u 1).aq=1))=C by rw[<-ac3] at q;exact Am _▸q];rfl
 ·rw[<-ac2,show(s.q [91]&&decide ((s.u 1).aq=1))=I by rw[<-ac3] at q;exact ac4 .. ▸q];rfl
theorem Q5(x a b e d:List Nat):(decide (a=x)||(decide (b=x)||(decide (e=x)||(decide (d=x)||C))))=I↔x=a∨x=b∨x=e∨x=d:=by
 rw[nD a,nD b,nD e,nD d,oj];simp only[uP,decide_eq_true_eq]
theorem Q6(h:PS c u g s H)(j:Nat):ag (m+2) 790 [.ae c.ap,.aa j] H=.ok (.i<|tA s j) H:=by
 have a:=Q5 (s.u j).aP [58] [44] [63] [61];unfold tA;refine cS J J<|dM J h J J (BI h j)<|et J (λq=>aL J ?_) λq=>?_
 ·rw[a9 (jw<|Am _▸q)];rfl
 ·rw[aN (D<|ac4 _▸q)];refine et J (λq=>aL J ?_) λq=>?_
  ·rw[aN (a.mp q)];rfl
  ·rw[a9 λz=>qc.mp q (a.mpr z)];refine fC J (c9<|dM J h J J (BI h<|j+1)<|bn J (i7 _ 5 fz H)<|aL J J)<|aL J J
theorem Q7(h:PS c u g s H):ag (m+3) 783 [.ae c.ap] H=.ok (.i<|qp s) H:=by
 unfold qp;refine cS J J<|jF J h<|dP J (c9<|yn J h<|aL J J)<|et J (λq=>aL J ?_) λq=>?_
 ·rw[q];rfl
 ·rw[q];refine jF J h<|et J (λq=>aL J ?_) λq=>?_
  ·rw[q];rfl
  ·rw[q];refine pg J h<|bn J (i7 _ 5 [41] H)<|dP J (c9<|bn J (i7 _ 5 hN H)<|aL J J)<|et J (λq=>aL J ?_) λq=>?_
   ·dsimp only;rw[q];rfl
   ·dsimp only;rw[q]
    refine dP J (c9<|bn J (i7 _ 2 _ H)<|aL J J)<|et J (λq=>bn J (Q6 h 2)<|aL J ?_) λq=>?_
    ·rw[q];rfl
    ·rw[q];refine bn J (i7 _ 5 [123] H)<|dP J (c9<|bn J (i7 _ 5 [91] H)<|aL J J)<|et J (λq=>bn (v:=.i C) J ?_ (aL J J)) λq=>aL J J
     induction h with
     |mk i r t b ns H P e hp ht a hr R=>exact cS J J<|cZ J (f9 hp J)<|cy J J<|aL J J
end
section
variable{c:PA}{y:List aj}{g:Fg}{s:Sg}{H:Hp}{m:Nat}{X:R (Fl×Lc)->Prop}{j:Cf}{K:List Kf}{l:Lc}
theorem yr{u b d:Type}(p:PR u)(f:u->Sg->PR b)(g:b->Sg->PR d):(p.bd f).bd g=p.bd λa s=>(f a s).bd g:=by cases p<;>rfl
theorem pj(a:List T):fi (a.map O)=a.map T.v:=by
 induction a with
 |nil=>rfl
 |cons t r b=>show t.v::fi (r.map O)=_;rw[b];rfl
theorem yt(h:H[a]? =O (.af b)):o6 (.ae a) H=(.af b,H.set a .i):=by
 show(match H[a]? with|some (.af b)=>(V.af b,H.set a .i)|_=>_)=_;rw[h]
theorem vJ{k f p:Int}{u:V}{i:Hp}(h:o6 u H=(.af<|fi b,i)):iZ a .u [.aa k,.ah x,u,.aa f,.aa p] H=.ok (T.nd k x b f p).v i:=by
 have e:mv [.aa k,.ah x,u,.aa f,.aa p] H=([.aa k,.ah x,.af (fi b),.aa f,.aa p],i):=by
  show(V.aa k::V.ah x::(o6 u H).1::V.aa f::V.aa p::[],(o6 u H).2)=_;rw[h]
 have j:iZ a .u [.aa k,.ah x,u,.aa f,.aa p] H=match mv [.aa k,.ah x,u,.aa f,.aa p] H with
  |(d,i)=>match nk d [(.aq,.i 0),(.a_,.i 1),(.bO,.i 2),(.cj,.i 3),(.aJ,.i 4),(.yd,.j<|.aa 0)] with
   |some o=>.ok (.aQ .u o) i
   |.none=>.j:=J
 rw[j,e];rfl
theorem lP{u v:V}{i:Hp}(e:go j=.v u (.ce a b []::K) l H)(h:iZ (ag m) a (b++[u]) H=.ok v i)(q:Jd X m<|.v v K l i):Jd X m j:=
 bv e (bf (by show(iZ (ag m) a (b++[u]) H).i _=_;rw[h];rfl) q)
theorem vK(b:H[a]? =O (.af<|fi ks))(k:Int)(x:List Nat)(p:Int):ag (m+1) .aK [.aa k,.ah x,.ae a,.aa p] H=.ok (T.nd k x ks 0 p).v (H.set a .i):=
 cS J J (lP J (vJ<|yt b)<|aL J J)
theorem GJ(a:List<|Option T)(k:Int)(x:List Nat)(p:Int):ag (m+1) .aK [.aa k,.ah x,.af (fi a),.aa p] H=.ok (T.nd k x a 0 p).v H:=
 cS J J (lP J (vJ J)<|aL J J)
theorem rP(k:Int)(x:List Nat)(p:Int):ag (m+1) .c7 [.aa k,.ah x,.aa p] H=.ok (c7 k x p).v (H++[.i]):=
 cS J J (lP J (vJ<|(yt cD).trans (by rw[iB];rfl))<|aL J J)
theorem Q8(d:H[a]? =O (.af<|fi b))(k:Int)(x:List Nat)(f p:Int):ag (m+1) .i [.aa k,.ah x,.ae a,.aa f,.aa p] H=.ok (T.nd k x b f p).v (H.set a .i):=
 cS J J (lP J (vJ<|yt d)<|aL J J)
theorem qr(b:H[a]? =O (.af<|fi ks))(p:Int):ag (m+1) 70 [.ae a,.aa p] H=.ok (T.nd 71 [] ks 0 p).v (H.set a .i):=
 cS J J (lP J (vJ<|yt b)<|aL J J)
theorem gY{k f p:Int}(a:List<|Option T)(e:go j=.ao .i [.aa k,.ah x,.ae H.length,.aa f,.aa p] K l (H++[.af (fi a)]))(q:Jd X (m+1)<|.v (T.nd k x a f p).v K l<|H++[.i]):Jd X (m+1) j:=
 bn e (Q8 cD k x f p) (by rw[iB];exact q)
theorem qs{k p:Int}(a:List<|Option T)(e:go j=.ao .aK [.aa k,.ah x,.ae H.length,.aa p] K l (H++[.af (fi a)]))(q:Jd X (m+1)<|.v (T.nd k x a 0 p).v K l<|H++[.i]):Jd X (m+1) j:=
 bn e (vK cD k x p) (by rw[iB];exact q)
end
section
variable{u q:Type}{A:fo u}{p:PR u}{G:PR q}{M:q->Sg->PR u}{B:Fg}{s:Sg}{H i:Hp}{m:Nat}{j:Cf}{K:List Kf}{l:Lc}{F:q->V->Hp->Prop}
theorem tN{x:Int}(h:Sx A B s H)(q:s.ns.length<1000->∃i,d6 (ag m) j=.q i/\NS A.c (s.ns++[x]) i/\bT A.c H i):Jd (OX A<|b8 x s) m j:=by
 unfold b8 Jd;split
 ·rename_i a
  refine dn λb=>cF (q a) λi e n y=>b ?_;rw[e];exact .d9 n<|h.ex.q y
 ·exact eN.j
theorem tP{c:Cf}(q:Jd (λr=>r=.q i) m c):d6 (ag m) c=.q i:=q
theorem mD{f:Sg->PR u}(e:go j=.v (.ae A.c.ap) (.dK .iV [.c (.ah x)]::K) l H)(h:Sx A B s H)(q:s.i.is 5 x=I->∀i,Sx A B s.j i->bT A.c H i->Jd (OX A<|f s.j) (m+4) (.v .none K l i)):Jd (OX A<|c8 x s f) (m+4) j:=by
 unfold c8
 cases z:s.i.is 5 x with
 |true=>
  exact dn λa=>cF (GC (m:=m) h.ps z) λi b p y=>a<|dM e h.ps J J b<|q z i (h.go p y) y
 |false=>
  exact tN h λd=>dn λa=>cF (GD (m:=m) h.ps z d) λi b n y=>a<|dg i (tP<|mB e h.ps J J b J) n y
theorem BQ{f:List Nat->Sg->PR u}(e:go j=.v (.ae A.c.ap) (.dK .vk []::K) l H)(h:Sx A B s H)(q:s.i.aq=1->∀i,Sx A B s.j i->bT A.c H i->Jd (OX A<|f s.i.aP s.j) (m+4) (.v (.ah s.i.aP) K l i)):Jd (OX A<|hV s f) (m+4) j:=by
 unfold hV
 by_cases z:s.i.aq=1
 ·refine dn λb=>cF (QT (m:=m) h.ps z) λi a p y=>b ?_;rw[aN z];exact dM e h.ps J J a<|q z i (h.go p y) y
 ·rw[a9 z];exact tN h λd=>cF (QU (m:=m) h.ps z d) λi a n y=>dg i (tP<|mB e h.ps J J a J) n y
theorem Q9{f:Sg->PR u}(e:go j=.v (.ae A.c.ap) (.dK .yc []::K) l H)(h:Sx A B s H)(q:∀b i,Sx A B b i->bT A.c H i->Jd (OX A<|f b) (m+4) (.v .none K l i)):Jd (OX A<|qo s f) (m+4) j:=by
 unfold qo cM
 cases z:s.i.is 5 [59] with
 |true=>
  exact cF (QV (m:=m) h.ps z) λi a p y=>dM e h.ps J J a<|q _ i (h.go p y) y
 |false=>
  show Jd (OX A<|if s.rH=I then f s else b8 1005 s) _ _
  cases w:s.rH with
  |true=>exact dM e h.ps J J (QW h.ps z w)<|q _ H h .refl
  |false=>
   exact tN h λd=>cF (QX (m:=m) h.ps z w d) λi a n y=>dg i (tP<|mB e h.ps J J a J) n y
theorem Ra{x a:Int}{f:Sg->PR u}{k r:List S}(e:go j=.v (.i b) (.bQ [.ex (.aO (.q (.l 0) .dU) .gw d)] k r::K) l H)(v:k=[])(h:Sx A B s H)(w:l[0]? =O (O<|.ae A.c.ap))(z:cu (ag<|m+1) d l H=.ok [.aa x,.aa a,.u t] H)
  (q:∀o i,Sx A B o i->bT A.c H i->Jd (OX A<|f o) (m+1) (.s r K l i)):Jd (OX A<|lK b x s f) (m+1) j:=by
 refine dn λF=>?_;subst v;refine F<|kH e (λG=>?_) λG=>bf J<|q s H h .refl;split
 ·rename_i hs
  exact kG 3 J<|gJ (k8 w)<|GA J h.ps z hs λi p y=>bf J<|q _ i (h.go p y) y
 ·exact eN.j
end
section
variable{F q:Type}{A:fo F}{p:PR F}{u:Fg}{c:PA}{j:List aj}{g:Fg}{s:Sg}{H i:Hp}{m:Nat}{B:Cf}{K:List Kf}{l:Lc}{X:R (Fl×Lc)->Prop}
theorem Rb{P:PR F}(e:go B=.v (.ae A.c.ap) (.dK .Bf []::K) l H)(h:Sx A u s H)(q:s.i.i=I->∀i,Sx A u s.j i->bT A.c H i->Jd (OX A P) (m+6) (.v (.ah s.i.aP) K l i)):Jd (OX A<|if s.i.i=I then P else if s.i.is 5 [91]=I then .j else b8 1003 s) (m+6) B:=by
 cases z:s.i.i with
 |true=>
  exact dn λa=>cF (tK (m:=m+3) h.ps) λi b p y=>a<|dM e h.ps J J (cS J J<|bn J (cS J J<|dQ J h.ps<|bn J (BO s.i)<|cy J z<|dM J h.ps J J b<|aL J J)<|aL J J)<|q z i (h.go p y) y
 |false=>
  cases w:s.i.is 5 [91] with
  |true=>exact eN.j
  |false=>
   exact tN h λd=>dn λa=>cF (tM (m:=m+1) h.ps (x:=1003) (D J) [] d) λi b n y=>a<|dg i (tP<|mB e h.ps J J (nB J J<|vH J (nB J J<|dQ J h.ps<|bn J (BO s.i)<|bh J z<|jF J h.ps<|cy J (by rw[w];rfl)<|mB J h.ps J J b J) J) J) n y
theorem Rc(h:PS c j g s H)(q:s.i.aq=1∨s.i.aq=2):∃i,ag (m+5) 404 [.ae c.ap] H=.ok (.ah s.i.aP) i/\PS c j g s.j i/\bT c H i:=by
 refine dn λa=>cF (tK (m:=m+2) h) λi b p y=>a<|dg i (cS J J<|bn J (cS J J<|dQ J h<|fC J (c9<|dQ J h<|aL J J)<|bh J ?_ (dM J h J J b<|aL J J))<|aL J J) p y
 rcases q with q|q<;>rw[dH q]
 ·rfl
 ·exact mX _
theorem Re(h:PS c j g s H)(q:¬(s.i.aq=1∨s.i.aq=2))(a:s.ns.length<1000):∃i,ag (m+5) 404 [.ae c.ap] H=.q i/\NS c (s.ns++[1003]) i/\bT c H i:=by
 refine dn λb=>cF (tM (m:=m) h (x:=1003) (D J) [] a) λi d n y=>b<|dg i (nB J J<|vH J (nB J J<|dQ J h<|fC J (c9<|dQ J h<|aL J J)<|cy J ?_ (mB J h J J d J)) J) n y;rw[dT λz=>q<|.inl z,dT λz=>q (.inr z)];rfl
noncomputable def rQ(t:aj):List Nat:=if t.aq=5∨t.aq=2 then t.aP else if t.aq=1 then u7 else if t.aq=3 then[35,110,117,109] else if t.aq=4 then[35,115,116,114] else if t.aq=6∨t.aq=7 then[35,116,112,108] else[]
theorem GK{a b:Prop}[Decidable a][Decidable b]:(decide a||decide b)=I↔a∨b:=by rw[uP,decide_eq_true_eq,decide_eq_true_eq]
theorem vL{P:Prop}[Decidable P]{a d r:List S}(e:go B=.v (.i b) (.bQ a d r::K) l H)(f:b=I↔P)(h:P->Jd X m (.s a (.j r::K) l H))(i:¬P->Jd X m (.s d (.j r::K) l H)):Jd X m B:=et e (λz=>h<|f.mp z) λz=>i λw=>qc.mp z<|f.mpr w
theorem Rf(t:aj):ag (m+1) 565 [t.v] H=.ok (.ah<|rQ t) H:=by
 unfold rQ;refine cS J J<|dP J J<|vL J GK (λq=>aL J (by rw[aN q];rfl)) λq=>?_;rw[a9 q];refine vL J decide_eq_true_iff (λq=>aL J (by rw[aN q];rfl)) λq=>?_;rw[a9 q];refine vL J decide_eq_true_iff (λq=>aL J (by rw[aN q];rfl)) λq=>?_;rw[a9 q];refine vL J decide_eq_true_iff (λq=>aL J (by rw[aN q];rfl)) λq=>?_;rw[a9 q];refine dP J J<|vL J GK (λq=>aL J (by rw[aN q];rfl)) λq=>aL J (by rw[a9 q];rfl)
theorem GL{f:Sg->PR F}(e:go B=.ao 572 [.ae A.c.ap] K l H)(h:Sx A u s H)(q:∀i,Sx A u s.j i->bT A.c H i->Jd (OX A<|f s.j) (m+5) (.v .none K l i)):Jd (OX A<|tB s f) (m+5) B:=by
 unfold tB
 cases w:s.q rk with
 |true=>exact eN.j
 |false=>
  unfold c8;have w:s.i.is 5 rk=false:=w
  cases z:s.i.is 5 [62] with
  |true=>
   exact dn λa=>cF (GC (m:=m) h.ps z) λi b p y=>a<|bn e (cS J J<|dQ J h.ps<|bn J (i7 s.i 5 rk H)<|cy J (by rw[w];rfl)<|dM J h.ps J J b<|aL J J)<|q i (h.go p y) y
  |false=>
   exact tN h λd=>dn λa=>cF (GD (m:=m) h.ps z d) λi b n y=>a<|dg i (tP<|vH e (nB J J<|dQ J h.ps<|bn J (i7 s.i 5 rk H)<|cy J (by rw[w];rfl)<|mB J h.ps J J b J) J) n y
theorem yu(h:(x++y).length<=bg):fO .i (.ah x) (.ah y) H=.ok (.ah<|x++y) H:=aN h
noncomputable def Rg:E:=.aO (.l 0) .y [.c (.ah [46])]
noncomputable def Rh:List S:=[.i 2 (.bJ .i (.bJ .i (.l 2)<|.c<|.ah [46])<|.aO (.l 0) .Bc []),.de 3 .i (.c<|.aa 1)]
noncomputable def Ri:List S:=[.bQ (.b9 .gt (.l 3)<|.c<|.aa 1) [.ex (.aO (.q (.l 0) .dU) .gw [.c (.aa 9002),.l 1,.u [.c (.ah ae6)]])] [],.am (.l 2)]
theorem fQ{i:Nat}{u v w:V}{r:List S}(e:go B=.v u (.de i o w r::K) l H)(h:iY o w u H=.ok v H)(q:Jd X m<|.s r K (l.set i<|O v) H):Jd X m B:=
 bv e (bf (by show(iY o w u H).i _=_;rw[h];rfl) q)
theorem Rj{B:fo<|List Nat}(t:∀a H,B.Rv a (.ah a) H){u:V}:∀(k n:Nat) (s:Sg) (H:Hp) (a:List Nat) (x:Int),k<=n->x+k<=2->a.length<=1000->Sx B B.g s H->Jd (OX B<|mw k a s) (m+5) (.lp n Rg Rh Ri [] [O (.ae B.c.ap),O u,O (.ah a),O (.aa x)] H):=by
 intro k
 induction k with
 |zero=>
  intro b b b b b b b b b;exact eN.j
 |succ k v=>
  intro n s H a x w M F h
  induction n using fU with
  |zero=>exact ax ‹_+1<=0› (km _)
  |succ n=>
  rw[QA];refine i5<|dn λe=>cF (rO (m:=m+2) (f:=355) J h.ps [46]) λi f G L=>e ?_
  cases z:s.i.is 5 [46] with
  |false=>
   rw[z] at f;cases L z;rw[a9 (qc.mp z)];exact dM J h.ps J J f (gz J bc λb=>bh J (dT<|by lia)<|eD J (t _ _) h)
  |true=>
   rw[z] at f;obtain⟨p,y⟩:=G z;have d:=h.go p y;rw[aN (z)];refine dM J h.ps J J f<|gz J (λb=>?_) c6;have o:(a++[46]).length<=1001:=by rw[bx];exact gp F
   refine ck J (yu<|aE o<|D J) ?_
   by_cases q:s.j.i.aq=1∨s.j.i.aq=2
   ·rw[aN q];refine dn λe=>cF (Rc (m:=m) d.ps q) λH2 e2 p r=>e<|dM J d.ps J J e2 ?_;split
    ·rename_i j
     exact ck J (yu<|aE j<|D J)<|fQ J J<|bv J<|v n _ _ _ _ (jr w) (by lia) j<|d.go p r
    ·exact eN.j
   ·rw[a9 q];exact tN d λj=>dn λe=>cF (Re (m:=m) d.ps q j) λH2 e2 n2 r=>e<|dg H2 (tP<|mB J d.ps J J e2 J) n2 r
theorem Rk(h:PS c j g s H):dD c j g H (λ(a:List Nat) v _=>v=.ah a) (ag (m+6) 736 [.ae c.ap] H) (hV s λa s=>if a.length<=1000 then mw 2 a s else .j):=by
 refine eO (A:=⟨c,j,g,H,λa v b=>v=.ah a⟩) J J<|dQ J h<|BQ J ⟨h,.refl⟩ λb H1 d f=>?_;split
 ·rename_i e
  exact bv J<|Rj (λb b=>J) 2 hU _ _ _ _ (D J) (D J) e d
 ·exact eN.j
end
section
variable{F q:Type}{A:fo F}{p:PR F}{g':Fg}{c:PA}{j:List aj}{g:Fg}{s:Sg}{H u:Hp}{m n:Nat}{B:Cf}{K:List Kf}{l:Lc}{X:R (Fl×Lc)->Prop}{part:bZ}
theorem eP{n m:Nat}(k:Nat)(h:n<=m):n<=m+k:=Nat.le_add_right_of_le h
theorem yv(x w:List Nat):(x==w)=decide (x=w):=by rw[An,beq_iff_eq,decide_eq_true_eq]
theorem GN(x:List Nat):vt (.ah x) (.u [.ah tc,.ah FY,.ah xZ,.ah xX,.ah kT,.ah qe,.ah FZ,.ah xY])=O (o8.contains x):=by
 have f:∀a:List (List Nat),rD (.ah x) (a.map V.ah)=O (a.contains x):=λa=>by
  induction a with
  |nil=>rfl
  |cons w r d=>
   show ac5 (O<|decide (w=x)) (λb=>(rD (.ah x)<|r.map V.ah).map (b||·))=_;rw[d,nD,Ao,yv];rfl
 exact f o8
theorem GO(a:List Nat):rI.contains a=(decide (a=x5)||decide (a=A4)):=by
 rw[Ao,Ao,List.contains_nil,yv,yv,oj]
theorem Rl(h:PS c j g s H)(a:¬(s.i.aq=1/\rI.contains s.i.aP=I))(b:(s.i.is 1 OJ||s.i.is 1 OK)=C):ag (m+3) 729 [.ae c.ap] H=.ok .none H:=by
 refine dn λd=>?_;obtain⟨e,h4⟩:=kn.mp b;refine d ?_;have f:(s.i.is 1 x5||s.i.is 1 A4)=false:=by
  rw[GO] at a;rw[<-Bool.and_or_distrib_left]
  cases q:decide (s.i.aq=1) with
  |false=>rfl
  |true=>exact qc.mpr λz=>a ⟨D q,z⟩
 refine cS J J<|pg J h<|tL J h<|dP J (c9<|tL J h<|aL J J)<|bh J f<|tL J h<|eh J (λz=>ax (e.symm.trans z) bc) λi=>bh J J<|tL J h<|eh J (λz=>ax (h4.symm.trans z) bc) λi=>bh J J<|aL J J
noncomputable def dX(c:PA)(j:List aj)(n:Nat)(part:bZ)(d:Int):Prop:=∀(m:Nat),n<=m->∀(k:Nat) (g:Fg) (s:Sg) (H:Hp),g.bS=d->PS c j g s H->dD c j g H RT (ag m 453 [.ae c.ap,.aa k] H) (part k s)
theorem mE{k:Nat}{a:T->Sg->PR F}(b:dX A.c A.dW n part g'.bS)(d:n<=m)(e:go B=.v (.ae A.c.ap) (.dK .be [.c (.aa k)]::K) l H)(h:Sx A g' s H)(q:∀t s u,Sx A g' s u->bT A.c H u->Jd (OX A<|a t s) m (.v t.v K l u)):Jd (OX A<|(part k s).bd a) m B:=
 QP e h J J (b m d k g' s H J h.ps) λt s v u f i y=>by rw[f];exact q t s u i y
theorem BR(p:PR F):(p.bd λa s=>.ok a s)=p:=by cases p<;>rfl
theorem PS.i(h:PS c j g s H)(e:∀k,fe (Gv c g k) a=O v):kE (.ae c.ap) a H=.ok v H:=let⟨k,hp⟩:=h.j3;f9 hp<|e k
theorem tQ{r:List S}(e:go B=.v (.ae A.c.ap) (.tF (.i b) .hR r::K) l H)(h:Sx A g' s H)(q:∀u,Sx A {g' with nc:=b} s u->bT A.c H u->Jd (OX A p) m (.s r K l u)):Jd (OX A p) m B:=by
 obtain⟨a,d⟩:=h;generalize hc:A.c=c at*;generalize f:A.dW=j at*
 induction a with
 |mk i r t k ns H P e1 hp ht hd hr R=>
  subst hc f;exact rN e hp<|q _ ⟨.u P e1 hp ht hd hr R,d.q<|.u⟩<|.u
theorem GP{r:List S}(e:go B=.v (.ae A.c.ap) (.tF (.i b) .lD r::K) l H)(h:Sx A g' s H)(q:∀u,Sx A {g' with ai:=b} s u->bT A.c H u->Jd (OX A p) m (.s r K l u)):Jd (OX A p) m B:=by
 obtain⟨a,d⟩:=h;generalize hc:A.c=c at*;generalize f:A.dW=j at*
 induction a with
 |mk i r t k ns H P e1 hp ht hd hr R=>
  subst hc f;exact rN e hp<|q _ ⟨.u P e1 hp ht hd hr R,d.q<|.u⟩<|.u
theorem yw(a:dX c j n part g.bS)(b:n<=m)(h:PS c j g s H):dD c j g H RT (ag (m+1) 642 [.ae c.ap,.i false] H) (part 1 s):=by
 refine eO (A:=⟨c,j,g,H,RT⟩) rfl rfl<|cZ rfl (h.i λf=>rfl)<|tQ rfl ⟨h,.refl⟩ λH1 d i=>?_;rw[<-BR (part 1 s)];exact mE (g':={g with nc:=false}) a b rfl d λt s H2 h2 k=>tQ rfl h2 λo e q=>eD rfl rfl e
theorem GQ{k:Nat}{f:Fn}(b:iX f=(1,1,[.bQ (.cB<|.aO (.l 0) .y [.c (.ah [58])]) [.am (.c .none)] [],.am (.aO (.l 0) .be [.c (.aa k)])]))(d:dX c j n part g.bS)(e:n<=m)(h:PS c j g s H):dD c j g H (λo v a=>v=ov o) (ag (m+4) f [.ae c.ap] H) (gG part k s):=by
 refine eO (A:=⟨c,j,g,H,λo v a=>v=ov o⟩) b J<|ph J ⟨h,.refl⟩ (λa H1 i q=>bh J J ?_) λa=>cy J J<|eD J J ⟨h,.refl⟩;exact mE d (eP 3 e) J i λt s H2 h2 r=>eD J J h2
theorem GR(a:dX c j n part g.bS)(b:n<=m)(h:PS c j g s H):dD c j g H (λo v d=>v=ov o) (ag (m+4) .gG [.ae c.ap] H) (gG part 1 s):=GQ J a b h
theorem Rm(a:dX c j n part g.bS)(b:n<=m)(h:PS c j g s H):dD c j g H (λo v d=>v=ov o) (ag (m+4) 656 [.ae c.ap] H) (gG part 11 s):=GQ J a b h
theorem Rn(a:dX c j n part g.bS)(b:n<=m)(h:PS c j g s H):dD c j g H RT (ag (m+5) 698 [.aQ .tu [],.ae c.ap,.none] H) (By part s):=
 eO (A:=⟨c,j,g,H,RT⟩) J J (mA J h λH1 d e=>mE a (eP 4 b) J ⟨d,e⟩ λt s H2 h2 i=>mD J h2 λk o f q=>qs [O t] J (eD J J<|f.j _))
theorem Ro(b:dX c j n part g.bS)(d:n<=m)(h:PS c j g s H):dD c j g H RT (ag (m+2) 764 [.aQ .tv [],.ae c.ap,.none] H) (Gm part s):=
 eO (A:=⟨c,j,g,H,RT⟩) rfl rfl (cZ rfl (h.i λe=>rfl)<|eh rfl bc λe=>bh rfl rfl<|dQ rfl h (mE b (eP 1 d) rfl ⟨h,.refl⟩ λt s H2 h2 i=>by
  obtain⟨k,a,ks,f,p⟩:=t;exact bn rfl (GJ ks 88 [] _)<|eD rfl rfl h2))
end
section
variable{F i:Type}{A:fo F}{p:PR F}{u:Fg}{c:PA}{B:List aj}{g:Fg}{s:Sg}{H j:Hp}{m n:Nat}{G:Cf}{K:List Kf}{l:Lc}{X:R (Fl×Lc)->Prop}{part:bZ}
theorem vM(a:PS c B g s H)(x:bT c H j):i4 c H j.length:=⟨x.bK,a.kF.ap,a.kF.tl,a.kF.dl,a.kF.rl⟩
theorem Sx.y(h:Sx A u s H)(o:i4 A.c A.H a):Sx A u s (H.set a b):=⟨o.ps h.ps,h.ex.y o.BE⟩
theorem PS.q(h:PS c B g s H):s.ts.length<4000000:=by
 induction h with
 |mk i r t a ns H P e hp ht hd hr R=>
  have:=P.QH;rw[e,bx] at this;exact jt (hG ..) this
theorem GS{a i:Nat}{G:E}{R:List S}{e:Sg->PR T}{q:List T->Sg->PR F}(Q:∀K H,go (.e G K l H)=.ao f L K l H)(Y:∀s H,Sx A u s H->dD A.c A.dW u H RT (ag (m+3) f L H) (e s))(o:i4 A.c A.H a)(Z:l[0]? =O (O<|.ae A.c.ap))(B:l[i]? =O (O<|.ae a))
  (W:∀ts M j,Sx A u M j->j[a]? =O (.af<|ts.map T.v)->Jd (OX A<|q ts M) (m+3) (.s R K l j)):∀(k n:Nat) (s:Sg) (H:Hp) (b:List T),k<=n->b.length+k<=bg->Sx A u s H->H[a]? =O (.af<|b.map T.v)->
  Jd (OX A<|(jC x e k b s).bd q) (m+3) (.lp n (.aO (.l 0) .y [.c (.ah x)]) [.ex (.aO (.l i) .q [G])] R K l H):=by
 intro k
 induction k with
 |zero=>
  intro d d d d d d d d;exact eN.j
 |succ k ih=>
  intro n s H b hk hb h r
  induction n using fU with
  |zero=>exact ax ‹_+1<=0› (km _)
  |succ n=>
  rw[Qz];refine i5<|kG 1 J<|gJ (k8 Z) ?_;refine dn λkk=>cF (rO (m:=m) (f:=355) J h.ps x) λj w p1 p2=>kk ?_
  cases z:s.i.is 5 x with
  |false=>
   rw[z] at w;cases p2 z;rw[a9 (qc.mp z)];exact dM J h.ps J J w (gz J bc λd=>W b s H h r)
  |true=>
   rw[z] at w;obtain⟨p,y⟩:=p1 z;have N:=h.go p y;rw[aN (z),yr];refine dM J h.ps J J w<|gz J (λd=>kG 2 J<|gJ (k8 B)<|fZ J (o.at y r) ?_) c6;refine fE (Q _ _) N.ex (Y _ _ N) λt s2 v H2 hv h2 P=>?_;rw[hv];refine i6 J (o.at P (o.at y r)) (by rw[c5];exact L1 hb)<|bv J<|ih n s2 _ (b++[t]) (jr hk) (by rw[bx];simp only[gQ,lj];exact L1 hb) (h2.y o) ?_;rw[dz];exact fk<|o.at P (o.at y r)
end
section
variable{c:PA}{i:List aj}{g:Fg}{s:Sg}{H j:Hp}{m n:Nat}{part:bZ}
noncomputable def GU(x:List Nat)(k:Int)(f:Fn):List S:=[.bQ (.cB<|.aO (.l 0) .fX [.c (.ah x)]) [.am (.l 1)] [],.i 2 (.af [.l 1]),.gH (.aO (.l 0) .y [.c (.ah x)]) [.ex (.aO (.l 2) .q [.ao f [.l 0]])],.am (.ao .aK [.c (.aa k),.c (.ah []),.l 2,.q (.l 1) .aJ])]
noncomputable def Rp(x:List Nat)(k:Int)(a:Sg->PR T)(s:Sg):PR T:=cM 5 x s λb s=>(a s).bd λt s=>
 if s.q x then(jC x a (s.ts.length+1) [t] s).bd λl s=>.ok (aK k [] l t.aJ) s else .ok t s
theorem GV{F f:Fn}{k:Int}{a:Sg->PR T}(B:iX F=(1,3,.ex (.aO (.l 0) .y [.c (.ah x)]):: .i 1 (.ao f [.l 0])::GU x k f))(y:∀s H,PS c i g s H->dD c i g H RT (ag (m+3) f [.ae c.ap] H) (a s))(h:PS c i g s H):
  dD c i g H RT (ag (m+4) F [.ae c.ap] H) (Rp x k a s):=by
 let A:fo T:=⟨c,i,g,H,RT⟩
 have rest:∀r b H1,go r=.ao f [.ae c.ap] [.i 1 (GU x k f)] [O (.ae c.ap),U,U] H1->Sx A g b H1->Jd (OX A<|(a b).bd λt s=>if s.q x then(jC x a (s.ts.length+1) [t] s).bd λl s=>.ok (aK k [] l t.aJ) s else .ok t s) (m+3) r:=by
  intro r b H1 e d;refine fE e d.ex (y b H1 d.ps) λt u v H2 G h2 p=>?_;obtain rfl:v=t.v:=G;obtain⟨L,M,w,N,P⟩:=t;refine jF J h2.ps<|QR J (λq=>?_) λq=>eD J J h2;have z:=h2.ps.q;have o:=vM h h2.ex;refine bv J<|GS (λp p=>J) (λs H h=>y s H h.ps) o J J (λts Y j Q X=>?_) (u.ts.length+1) hU u _ [.nd L M w N P] ?_ ?_ (h2.j _) cD
  ·exact(bn J (vK (by rw[pj];exact X) k [] _)<|eD J J<|Q.y o)
  ·exact aE z<|D J
  ·show 1+(u.ts.length+1)<=bg;unfold bg;exact L1 z
 exact eO B J<|ph J ⟨h,.refl⟩ (λp H1 d Z=>rest _ _ _ J d) λp=>rest _ _ _ J ⟨h,.refl⟩
theorem Rq(a:∀s H,PS c i g s H->dD c i g H RT (ag (m+3) 670 [.ae c.ap] H) (j0 part s))(h:PS c i g s H):dD c i g H RT (ag (m+4) 663 [.ae c.ap] H) (rJ part s):=GV J a h
theorem Rt(a:∀s H,PS c i g s H->dD c i g H RT (ag (m+3) 677 [.ae c.ap] H) (mz part s))(h:PS c i g s H):dD c i g H RT (ag (m+4) 670 [.ae c.ap] H) (j0 part s):=GV J a h
end
section
variable{c:PA}{i:List aj}{g:Fg}{s:Sg}{H j:Hp}{m n:Nat}{part:bZ}
theorem Rw(b:∀s H,PS c i g s H->dD c i g H RT (ag (m+3) 684 [.ae c.ap] H) (mz part s))(h:PS c i g s H):dD c i g H RT (ag (m+4) 677 [.ae c.ap] H) (mz part s):=by
 refine eO (A:=⟨c,i,g,H,RT⟩) J J<|dQ J h<|eh J (λa=>eh J (λq=>?_) λa=>?_) λa=>?_
 ·refine cZ J (h.i λa=>J)<|bh J ?_ (k9 J (λa a=>J) .refl<|b s H h);have q:(decide ([107,101,121,111,102]=s.i.aP)||(decide (fL=s.i.aP)||(decide ([105,110,102,101,114]=s.i.aP)||C)))=true:=q;rw[oj,uP,uP,decide_eq_true_eq,decide_eq_true_eq,decide_eq_true_eq] at q
  rcases q with q|q|q<;>rw[<-q]<;>rfl
 ·exact bh J J<|k9 J (λa a=>J) .refl<|b s H h
 ·exact bh J J<|k9 J (λa a=>J) .refl<|b s H h
theorem Ry{B:Hp}(d:dX c i n part g.bS)(e:n<=m)(h:PS c i g s H):dD c i g H (λ(ts:List T) v j=>∃a,v=.ae a/\j[a]? =O (.af<|ts.map T.v)/\i4 c H a) (ag (m+6) 750 [.ae c.ap] H) (vx part s):=by
 refine eO (A:=⟨c,i,g,H,λ(ts:List T) v j=>∃a,v=.ae a/\j[a]? =O (.af<|ts.map T.v)/\i4 c H a⟩) J J<|mD J ⟨h,.refl⟩ λf H1 k x=>fE J k.ex (yw d (eP 4 e) k.ps) λt b v H2 p h2 y=>?_;obtain rfl:v=t.v:=p;have l:=h2.ps.q;have o:=vM h h2.ex;refine bv J<|GS (λf f=>J) (λs H h=>yw d (eP 4 e) h.ps) o J J (λts z j q r=>?_) (b.ts.length+1) hU b _ [t] ?_ ?_ (h2.j _) cD
 ·exact GL J q λA u w=>eD J (dg _ J (o.at w r) o) u
 ·exact aE l<|D J
 ·show 1+(b.ts.length+1)<=bg;unfold bg;exact L1 l
theorem Rz(k:dX c i n part g.bS)(l:n<=m)(h:PS c i g s H):dD c i g H RT (ag (m+8) 717 [.aQ .y [],.ae c.ap,.none] H) (Bx part s):=by
 refine eO (A:=⟨c,i,g,H,RT⟩) J J<|dQ J h ?_;refine QS J (cT<|GN s.i.aP) (λe=>?_) λe=>?_
 ·exact mA J h λH1 b f=>bn J (rP 80 _ _)<|eD J J ⟨b.j _,f.q .j⟩
 ·split
  ·exact eN.j
  ·rename_i o
   split
   ·exact eN.j
   ·rename_i p
    refine bn J (Rl h o<|qc.mpr p)<|fE J .refl (Rk h) λa r v H1 d b f=>?_;obtain rfl:v=.ah a:=d;refine jF J (b.ps.j _)<|fC J (c9<|dQ J (b.ps.j _)<|aL J J)<|kH J (λe=>?_) λe=>?_
    ·refine fE J (b.j _).ex (Ry (B:=H) k (eP 1 l) (b.j _).ps) λts t v H2 d h2 u=>cF d ?_;clear d;rintro w rfl q j;exact bn J (vK (by rw[pj];exact q) 81 _ _)<|eD J J ⟨j.ps h2.ps,h2.ex.y<|aE (b.j _).ex.bK j.BE⟩
    ·exact qs [] J<|eD J J<|b.j _
end
section
variable{c:PA}{i:List aj}{g j:Fg}{s:Sg}{H q:Hp}{m n:Nat}{part:bZ}{A:fo T}{X:R (Fl×Lc)->Prop}
theorem yx{t:aj}(h:rQ t=x):ag (m+1) 565 [t.v] H=.ok (.ah x) H:=h▸Rf t
theorem BS{t:aj}(h:t.aq=5∨t.aq=2):rQ t=t.aP:=aN h
theorem yy{t:aj}(h:t.aq=0/\x=[]∨t.aq=1/\x=u7∨t.aq=3/\x=[35,110,117,109]∨t.aq=4/\x=[35,115,116,114]):rQ t=x:=by
 unfold rQ
 rcases h with⟨h,rfl⟩|⟨h,rfl⟩|⟨h,rfl⟩|⟨h,rfl⟩<;>rw[h]<;>rfl
noncomputable def GW:List S:=[.bQ (.b9 .q (.l 2)<|.q (.l 0) .fW) [.ex (.aO (.l 0) .b8 [.c (.aa 1110),.u []])] [],.i 3 (.aO (.y (.q (.l 0) .fW)<|.l 2) .fA [.l 0,.c .none])]
noncomputable def GY:E:=.bN (.aO (.l 0) .fX [.c (.ah [91])])<|.cB<|.q (.aO (.l 0) .i []) .m4
noncomputable def GZ:List S:=[.ex (.aO (.l 0) .j []),.de 4 .i (.c<|.aa 1),.ex (.ao 509 [.l 0,.l 4]),.bQ (.aO (.l 0) .y [.c (.ah [93])]) [.i 3 (.ao .aK [.c (.aa 85),.c (.ah []),.af [.l 3],.q (.l 3) .aJ])] [.i 5 (.aO (.l 0) .be [.c (.aa 1)]),.ex (.aO (.l 0) .iV [.c (.ah [93])]),.i 3 (.ao .aK [.c (.aa 90),.c (.ah []),.af [.l 3,.l 5],.q (.l 3) .aJ])]]
noncomputable def BU:List S:=[.cQ (.l 0) .hR (.l 1),.am (.l 3)]
noncomputable def BV:List S:=.i 4 (.c<|.aa 0):: .gH GY GZ::BU
theorem RA{l:T->Sg->PR T}(y:dX A.c A.dW n part j.bS)(z:n<=m)(h:Sx A j s H){B:V}(q:∀t s H2 x,Sx A j s H2->Jd (OX A<|l t s) (m+8) (.v t.v [.i 3 BV] [O (.ae A.c.ap),O B,O (.ah x),U,U,U] H2)):
  Jd (OX A<|(fA part s).bd l) (m+8) (.ao 565 [s.i.v] [.i 2 (GW++BV)] [O (.ae A.c.ap),O B,U,U,U,U] H):=by
 have b:∀x,rQ s.i=x->vt (.ah x) i3=O C->Jd (OX A<|(b8 1110 s:PR T).bd l) (m+8) (.ao 565 [s.i.v] [.i 2 (GW++BV)] [O (.ae A.c.ap),O B,U,U,U,U] H):=λx e hs=>by
  have G:(b8 1110 s:PR T).bd l=b8 1110 s:=by unfold b8;split<;>rfl
  rw[G];exact bn J (yx e)<|cZ J (h.ps.i λd=>J)<|cy J (bH (λo=> !Option.getD o C) hs)<|yq J h (D J) J
 unfold fA
 by_cases F:s.i.aq=1
 ·rw[aN F];exact bn J (yx<|yy<|.inr<|.inl ⟨F,J⟩)<|cZ J (h.ps.i λd=>J)<|bh J J<|cZ J (h.ps.i λd=>J)<|b5 J J (fE J h.ex (Rz y z h.ps) λt f v H2 i h2 d=>by
   rw[i];exact q t f H2 _ h2)
 ·rw[a9 F]
  by_cases k:s.i.aq=5∨s.i.aq=2
  ·rw[aN k]
   by_cases p:s.i.aP=[40]
   ·rw[aN p];exact bn J (yx<|(BS k).trans p)<|cZ J (h.ps.i λd=>J)<|bh J J<|cZ J (h.ps.i λd=>J)<|b5 J J (fE J h.ex (Rn y (eP 3 z) h.ps) λt f v H2 i h2 d=>by
     rw[i];exact q t f H2 _ h2)
   ·rw[a9 p]
    by_cases r:s.i.aP=[123]
    ·rw[aN r];exact bn J (yx<|(BS k).trans r)<|cZ J (h.ps.i λd=>J)<|bh J J<|cZ J (h.ps.i λd=>J)<|b5 J J (fE J h.ex (Ro y (eP 6 z) h.ps) λt f v H2 i h2 d=>by
      rw[i];exact q t f H2 _ h2)
    ·rw[a9 r]
     by_cases u:s.i.aP=u7∨s.i.aP=xW
     ·rw[aN u];exact eN.j
     ·rw[a9 u];refine b _ (BS k) ?_;have n:∀{a:List Nat},s.i.aP≠a->decide (a=s.i.aP)=false:=λw=>dT w.symm;show O (Option.isSome<|if decide (_=s.i.aP)=I then _ else if decide (_=s.i.aP)=I then _ else if decide (_=s.i.aP)=I then _ else if decide (_=s.i.aP)=I then _ else U)=_;rw[n p,n r,n λw=>u<|.inl w,n λw=>u (.inr w)];rfl
  ·rw[a9 k];split
   ·rename_i h0
    rcases h0 with h0|h0|h0
    ·exact b _ (yy<|.inl ⟨h0,rfl⟩) rfl
    ·exact b _ (yy<|.inr<|.inr<|.inl ⟨h0,rfl⟩) rfl
    ·exact b _ (yy<|.inr<|.inr<|.inr ⟨h0,J⟩) J
   ·exact eN.j
theorem G0{t:T}{x:Int}(d:A.Rv=RT)(h:Sx A {A.g with nc:=C} s H):Jd (OX A<|.ok t s) m (.s BU [] [O (.ae A.c.ap),O (.i A.g.nc),O (.ah a),O t.v,O (.aa x),b] H):=
 tQ J h λH1 e f=>eD J (by rw[d];rfl) e
theorem RB{x:Int}(a:x<=60):ag (m+1) 509 [v,.aa x] H=.ok .none H:=cS J J<|bh J (dT<|rb.mpr a)<|aL J J
theorem RC(o:A.Rv=RT)(B:dX A.c A.dW n part A.g.bS)(F:n<=m){e:List Nat}:∀(k f:Nat) (s:Sg) (H:Hp) (t:T) (x:Int) (d:Option V),k<=f->x+k<=60->Sx A {A.g with nc:=C} s H->
  Jd (OX A<|my part k t s) (m+8) (.lp (f+1) GY GZ BU [] [O (.ae A.c.ap),O (.i A.g.nc),O (.ah e),O t.v,O (.aa x),d] H):=by
 intro k
 induction k with
 |zero=>
  intro f s H t x d l G h;rw[QC];refine i5<|jF J h.ps<|fC J (c9<|dQ J h.ps<|aL J J) ?_;split
  ·exact eN.j
  ·rename_i q;exact gz J (λz=>ax z q) λa=>G0 o h
 |succ k p=>
  intro f s H t x d l G h
  induction f using fU with
  |zero=>exact ax ‹_+1<=0› (km _)
  |succ f=>
  rw[QD];refine i5<|jF J h.ps<|fC J (c9<|dQ J h.ps<|aL J J) ?_;split
  ·rename_i q
   refine gz J (λa=>mA J h.ps λH1 L M=>fQ J J<|bn J (RB<|by lia) ?_) λz=>ax q (by rw[z];nofun);have r:=h.go L M;obtain⟨u,v,b,w,y⟩:=t;refine ph J r (λa H2 h2 a=>cy J J ?_) λa=>bh J J ?_
   ·refine qs [O (.nd u v b w y)] J<|bv J<|p f _ _ (aK 85 [] [_] _) (x+1) d (jr l) (by lia)<|h2.j _
   ·refine mE (g':={A.g with nc:=C}) B (eP 8 F) J r λi P H2 h2 a=>mD J h2 λa Q N a=>qs [O (.nd u v b w y),O i] J<|bv J<|p f _ _ (aK 90 [] [_,i] _) (x+1) (O i.v) (jr l) (by lia)<|N.j _
  ·rename_i q;exact gz J (λz=>ax z q) λa=>G0 o h
theorem RD(a:dX c i n part g.bS)(b:n<=m)(h:PS c i g s H):dD c i g H RT (ag (m+9) 684 [.ae c.ap] H) (mz part s):=by
 refine eO (A:=⟨c,i,g,H,RT⟩) J J<|cZ J (h.i λe=>J)<|tQ J ⟨h,.refl⟩ λH1 d e=>dQ J d.ps ?_;exact bv J<|RA a b d λt f H2 x h2=>bv J<|RC J a b 60 _ _ _ _ 0 U (hG ..) (D J) h2
end
section
variable{j:Type}{A:fo j}{p:PR j}{c:PA}{i:List aj}{g y:Fg}{s:Sg}{H u:Hp}{m n:Nat}{q:Cf}{K:List Kf}{l:Lc}{part:bZ}
theorem G1{a d r:List S}{pf:Int->Sg->PR j}{x f:Int}{s h:Sg}(e:go q=.v (.i b) (.bQ a d r::K) l H)(i:b=I->Jd (OX A<|pf x s) m (.s a (.j r::K) l H))(k:b=C->Jd (OX A<|pf f h) m (.s d (.j r::K) l H)):Jd (OX A<|pf (if b=I then x else f)<|if b=I then s else h) m q:=by
 refine bv e ?_;clear e
 cases b
 ·exact k J
 ·exact i J
theorem j4{a b:Type}{c:Prop}[Decidable c](p q:PR a)(f:a->Sg->PR b):(if c then p else q).bd f=if c then p.bd f else q.bd f:=by split<;>rfl
theorem BW{a b:Type}(n:Int)(s:Sg)(f:a->Sg->PR b):(b8 n s:PR a).bd f=b8 n s:=by rw[j4];rfl
theorem RE{d:Type}(s:Sg)(b:List Nat->Bool)(x:Int)(f:List Nat->Sg->PR d):(hV s λa s=>lK (b a) x s<|f a)=(hV s λa s=>lK (b a) x s λs=>.ok a s).bd f:=by
 rw[j4,BW];rw[j4,j4];rfl
theorem RF(h:PS c i g s H):dD c i g H (λ(a:List Nat) v _=>v=.ah a) (ag (m+5) 743 [.ae c.ap] H) (hV s λa s=>lK (o8.contains a||rI.contains a) 2368 s λs=>.ok a s):=by
 refine eO (A:=⟨c,i,g,H,λ(a:List Nat) v _=>v=.ah a⟩) J J<|dQ J h<|BQ J ⟨h,.refl⟩ λb H1 d b=>dP J (c9<|dP J J<|aL J J) ?_;rw[<-cT (GN s.i.aP),GO];exact Ra J J d J J λf u e b=>eD J J e
noncomputable def BY(part:bZ)(a:List Nat)(e p:Int)(d:Option T)(s:Sg):PR T:=cM 5 [61] s λb s=>if b then(part 1 s).bd λg s=>.ok (T.nd 100 a [d,O g] e p) s else PR.ok (T.nd 100 a [d,U] e p) s
noncomputable def BZ(part:bZ)(d:Int)(s:Sg):PR T:=
 let p:=s.i.aJ
 hV s λa s=>
 lK (o8.contains a||rI.contains a) 2368 s λs=>
 cM 2 iS s λb s=>if b then(part 1 s).bd λt s=>BY part a d p (O t) s else BY part a d p U s
noncomputable def RG(part:bZ)(a:Int)(s:Sg):PR T:=BZ part (if s.y fd&&decide ((s.u 1).aq=1) then a+536870912 else a)<|if s.y fd&&decide ((s.u 1).aq=1) then s.j else s
noncomputable def G2:List S:=[.bQ (.aO (.l 0) .y [.c (.ah [61])]) [.i 5 (.ao 642 [.l 0,.c (.i C)])] [],.am (.ao .i [.c (.aa 100),.l 3,.af [.l 4,.l 5],.l 1,.l 2])]
theorem G3{A:fo T}(e:A.Rv=RT)(j:dX A.c A.dW n part A.g.bS)(k:n<=m){b p:Int}(h:Sx A A.g s H):Jd (OX A<|BY part a b p o s) (m+5) (.s G2 [] [O (.ae A.c.ap),O (.aa b),O (.aa p),O (.ah a),O (ov o),O .none] H):=
 ph J h (λd H1 f d=>cy J J<|fE J f.ex (yw j (eP 4 k) f.ps) λi r v H2 q h2 d=>by
  rw[q];exact gY [o,O i] J<|eD J (by rw[e];rfl)<|h2.j _) λd=>bh J J<|gY [o,U] J<|eD J (by rw[e];rfl)<|h.j _
noncomputable def G4:List S:=[.i 2 (.q (.aO (.l 0) .i []) .aJ),.i 3 (.ao 743 [.l 0]),.i 4 (.c .none),.i 5 (.c .none),.bQ (.aO (.l 0) .tt [.c (.ah iS)]) [.i 4 (.ao 642 [.l 0,.c (.i C)])] []]++G2
theorem G5{A:fo T}(j:A.Rv=RT)(e:dX A.c A.dW n part A.g.bS)(f:n<=m){b:Int}(h:Sx A A.g s H):Jd (OX A<|BZ part b s) (m+5) (.s G4 [] [O (.ae A.c.ap),O (.aa b),U,U,U,U] H):=by
 unfold BZ;rw[RE s (λa=>o8.contains a||rI.contains a)];refine dQ J h.ps<|fE J h.ex (RF h.ps) λa q v H1 i k d=>?_;obtain rfl:v=.ah a:=i;refine BN J k (λd H2 h2 d=>cy J J<|fE J h2.ex (yw e (eP 4 f) h2.ps) λt r v u i o d=>?_) λd=>bh J J<|bf J<|G3 j e f k;obtain rfl:v=t.v:=i;exact bf J<|G3 j e f o
noncomputable def RH:List S:=.bQ (.bN (.aO (.l 0) .ms [.c (.ah fd)])<|.b9 .eq (.q (.aO (.l 0) .u [.c (.aa 1)]) .aq)<|.c<|.aa 1) [.ex (.aO (.l 0) .j []),.de 1 .i (.c<|.aa 536870912)] []::G4
theorem G6{A:fo T}(b:A.Rv=RT)(d:dX A.c A.dW n part A.g.bS)(e:n<=m){a:Int}(h:Sx A A.g s H):Jd (OX A<|RG part a s) (m+5) (.s RH [] [O (.ae A.c.ap),O (.aa a),U,U,U,U] H):=
 tL J h.ps (fC J (c9<|pg J h.ps<|aL J J)<|G1 J (λf=>mA J h.ps λH1 i j=>fQ J J<|bf J<|G5 b d e<|h.go i j) λf=>bf J<|G5 b d e h)
theorem G7(b:dX c i n part g.bS)(d:n<=m)(h:PS c i g s H):dD c i g H RT (ag (m+6) 946 [.ae c.ap] H) (pa part s):=by
 refine eO (A:=⟨c,i,g,H,RT⟩) J J<|yn J h<|kH J (λa=>yq J ⟨h,.refl⟩ (D J) J) λa=>BN J ⟨h,.refl⟩ (λa H1 e a=>cy J J ?_) λa=>bh J J ?_
 ·exact bf J<|G6 J b d e
 ·exact bf J<|G6 J b d ⟨h,.refl⟩
end
section
variable{F:Type}{A:fo F}{p:PR F}{c:PA}{i:List aj}{g B:Fg}{s:Sg}{H j:Hp}{m n:Nat}{u:Cf}{K:List Kf}{l:Lc}{part:bZ}{X:R (Fl×Lc)->Prop}
theorem RI{n:Nat}{b r:List S}(e:go u=.v (.i d) (.vy n t b r::K) l H)(f:d=I->Jd (OX A p) m (.s b (.lN n t b r::K) l H))(h:d=C->Jd (OX A a) m (.s r K l H)):Jd (OX A<|if d=I then p else a) m u:=by
 refine bv e ?_;clear e
 cases d
 ·exact h J
 ·exact f J
noncomputable def RJ:E:=.bN (.aO (.l 0) .y [.c (.ah [44])])<|.bN (.cB<|.aO (.l 0) .fX [.c (.ah [62])])<|.cB<|.aO (.l 0) .fX [.c (.ah rk)]
noncomputable def RK:List S:=[.ex (.aO (.l 2) .q [.ao 946 [.l 0]])]
noncomputable def G8:List S:=[.ex (.ao 572 [.l 0]),.am (.ao 70 [.l 2,.l 1])]
theorem RM{e:List T->Sg->PR F}(L:dX A.c A.dW n part B.bS)(M:n<=m)(o:i4 A.c A.H a)
  (y:∀ts z j,Sx A B z j->j[a]? =O (.af<|ts.map T.v)->Jd (OX A<|e ts z) (m+6) (.s G8 [] [O (.ae A.c.ap),O x,O (.ae a)] j)):∀(k f:Nat) (s:Sg) (H:Hp) (d:List T),k<=f->d.length+k<=bg->Sx A B s H->H[a]? =O (.af<|d.map T.v)->
  Jd (OX A<|(lL part k d s).bd e) (m+6) (.lp f RJ RK G8 [] [O (.ae A.c.ap),O x,O (.ae a)] H):=by
 intro k
 induction k with
 |zero=>
  intro i i i i i i i i;exact eN.j
 |succ k N=>
  intro f s H d P hb h q
  induction f using fU with
  |zero=>exact ax ‹_+1<=0› (km _)
  |succ f=>
  rw[show∀{w:Bool->Sg->PR (List T)},(cM 5 [44] s w).bd e=cM 5 [44] s λb s=>(w b s).bd e fromλ{w}=>j4 ..];refine i5<|ph J h (λi H1 r u=>eh J (λi=>jF J r.ps<|fC J (c9<|jF J r.ps<|aL J J) ?_) c6) λi=>eh J bc λi=>gz J bc λi=>y d s H h q;rw[j4,yr];refine RI J (λi=>fZ J (o.at u q)<|fE J r.ex (G7 L M r.ps) λt Q v H2 Y h2 G=>?_) λi=>y d _ H1 r<|o.at u q;obtain rfl:v=t.v:=Y;refine i6 J (o.at G (o.at u q)) (by rw[c5];exact L1 hb)<|bv J<|N f Q _ (d++[t]) (jr P) (by rw[bx];simp only[gQ,lj];exact L1 hb) (h2.y o) ?_;rw[dz];exact fk<|o.at G (o.at u q)
theorem G9(d:dX c i n part g.bS)(e:n<=m)(h:PS c i g s H):dD c i g H (λo v a=>v=ov o) (ag (m+7) 939 [.ae c.ap] H) (k4 part s):=by
 unfold k4;refine eO (A:=⟨c,i,g,H,λo v a=>v=ov o⟩) J J<|dQ J h<|ph J ⟨h,.refl⟩ (λa H1 f y=>bh J J<|fE J f.ex (G7 d e f.ps) λt b v H2 q h2 z=>?_) λa=>cy J J<|eD J J ⟨h,.refl⟩;obtain rfl:v=t.v:=q;have k:=h2.ps.q;have o:=vM h h2.ex;refine bv J<|RM d e o (λts B j r u=>?_) (b.ts.length+1) hU b _ [t] ?_ ?_ (h2.j _) cD
 ·exact GL J r λF w x=>bn J (qr (ks:=ts.map O) (by rw[pj];exact o.at x u) _)<|eD J J<|w.y o
 ·exact aE k<|D J
 ·show 1+(b.ts.length+1)<=bg;unfold bg;exact L1 k
theorem Ha(h:PS c i g s H)(a:s.i.u=I):∃j,ag (m+3) 981 [.ae c.ap] H=.ok (c7 8 s.i.aP s.i.aJ).v j/\PS c i g s.j j/\bT c H j:=dn λb=>cF (tK (m:=m+1) h) λj d p y=>b<|dg _ (cS J J<|dQ J h<|bn J (BP s.i)<|cy J a<|dM J h J J d<|bn J (rP 8 _ _)<|aL J J) (p.j [.i])<|y.q .j
theorem Hb{pf:Int->Sg->PR F}{y b:Int}(e:go u=.v (.ae A.c.ap) (.dK .y [.c (.ah x)]::K) l H)(h:Sx A B s H)
  (d:s.i.is 5 x=I->∀j,Sx A B s.j j->bT A.c H j->Jd (OX A<|pf y s.j) (m+3) (.v (.i I) K l j))(f:s.i.is 5 x=C->Jd (OX A<|pf b s) (m+3) (.v (.i C) K l H)):Jd (OX A<|pf (if s.i.is 5 x=I then y else b)<|if s.i.is 5 x=I then s.j else s) (m+3) u:=by
 refine dn λi=>cF (rO (m:=m) (f:=355) J h.ps x) λj a k o=>i ?_
 cases q:s.i.is 5 x with
 |true=>rw[q] at a;obtain⟨p,y⟩:=k q;exact dM e h.ps J J a<|d q j (h.go p y) y
 |false=>rw[q] at a;cases o q;exact dM e h.ps J J a<|f q
theorem yz{z:Int}(e:go u=.v (.aa z) (.cB::K) l H)(q:Jd X m<|.v (.i<|!(z !=0)) K l H):Jd X m u:=bv e<|bf J q
theorem rR{z:Int}{a b r:List S}(e:go u=.v (.aa z) (.bQ a b r::K) l H)(q:Jd X m<|.v (.i<|z !=0) (.bQ a b r::K) l H):Jd X m u:=bv e<|bf J q
noncomputable def RN:List S:=[.i 5 (.ao .gG [.l 0]),.i 6 (.c .none),.bQ (.bN (.l 1)<|.bN (.cB<|.bJ .u (.l 2)<|.bJ .i (.c<|.aa 8192)<|.c<|.aa 4096)<|.aO (.l 0) .y [.c (.ah [61])]) [.i 6 (.aO (.l 0) .be [.c (.aa 2)])] [],.am (.ao .i [.c (.aa 28),.c (.ah []),.af [.l 4,.l 5,.l 6],.l 2,.l 3])]
noncomputable def yA(part:bZ)(x:List Nat)(a p f:Int)(s:Sg):PR T:=(gG part 1 s).bd λk s=>.ok (.nd 28 [] [O (c7 8 x a),k,U] f p) s
theorem B0{A:fo T}(b:A.Rv=RT)(d:dX A.c A.dW n part A.g.bS)(e:n<=m){a p f:Int}(h:Sx A A.g s H):Jd (OX A<|yA part x a p f s) (m+4) (.s RN [] [O (.ae A.c.ap),O (.i C),O (.aa f),O (.aa p),O (c7 8 x a).v,U,U] H):=
 fE J h.ex (GR d e h.ps) λk o v H2 i h2 j=>by
  obtain rfl:v=ov k:=i;exact eh J bc λj=>bh J J<|gY [O (c7 8 x a),k,U] J<|eD J (by rw[b];rfl)<|h2.j _
theorem RO(e:dX c i n part g.bS)(f:n<=m)(h:PS c i g s H):dD c i g H RT (ag (m+5) 988 [.ae c.ap,.i C] H) (pc part s):=by
 unfold pc;refine eO (A:=⟨c,i,g,H,RT⟩) J J<|bh J J<|dQ J h<|ph J ⟨h,.refl⟩ (λa H1 o a=>cy J J<|fQ J J ?_) λa=>bh J J ?_
 ·dsimp only
  split
  ·rename_i j
   exact dn λk=>cF (Ha (m:=m+1) o.ps j) λH2 e2 b d=>k<|bn J e2<|ck (v:=.aa 8192) J J<|yz J<|eh J bc λa=>bh J J<|bf J<|B0 J e f<|o.go b d
  ·exact eN.j
 ·dsimp only
  split
  ·rename_i j
   refine dn λk=>cF (Ha (m:=m+1) h j) λH2 e2 b d=>k<|bn J e2<|ck (v:=.aa 0) J J<|yz J<|eh J (λa=>?_) c6;exact Hb (pf:=yA part s.i.aP s.i.aJ s.i.aJ) J ⟨b,d⟩ (λa r q a=>cy J J<|fQ J J<|bf J<|B0 J e f q) λa=>bh J J<|bf J<|B0 J e f ⟨b,d⟩
  ·exact eN.j
end
section
variable{i:Type}{A:fo i}{p:PR i}{c:PA}{u:List aj}{g q:Fg}{s:Sg}{H j:Hp}{m n:Nat}{y:Cf}{K:List Kf}{l:Lc}{part:bZ}{X:R (Fl×Lc)->Prop}
inductive po:T->Prop where
 |mk (x:List Nat) (p0:Int) (k:Option T) (f p:Int):f=0∨f=4096∨f=8192->po (.nd 28 [] [some (c7 8 x p0),k,none] f p)
theorem qt{r:List S}{y:Fl}(q:Jd (λr=>r=.ok (y,b) j) m<|.s r [] l H):aZ (ag m) r l H=.ok (y,b) j:=by
 have q:(aZ (ag m) r l H).i (dq (ag m) [])=.ok (y,b) j:=q;generalize aZ (ag m) r l H=r at q
 induction r using R.casesOn with
 |ok a H=>cases q;rfl
 |q H=>cases q
 |j=>cases q
noncomputable def tR:List S:=[.i 4 (.y (.l 1)<|.l 3),.bQ (.bN (.b9 .gt (.l 3)<|.c<|.aa 0)<|.bN (.b9 .eq (.q (.y (.q (.l 4) .bO)<|.c<|.aa 0) .aq)<|.c<|.aa 8)<|.b9 .eq (.q (.y (.q (.l 4) .bO)<|.c<|.aa 0) .a_)<|.c<|.ah eX) [.ex (.aO (.q (.l 0) .dU) .gw [.c (.aa 2680),.q (.l 4) .aJ,.u []])] [],.bQ (.bJ .u (.q (.l 4) .cj)<|.c<|.aa 4096) [.i 2 (.c<|.i I)] [.bQ (.bN (.l 2)<|.bN (.cB<|.bJ .u (.q (.l 4) .cj)<|.c<|.aa 8192)<|.b9 .j (.y (.q (.l 4) .bO)<|.c<|.aa 2)<|.c .none) [.ex (.aO (.q (.l 0) .dU) .gw [.c (.aa 1016),.q (.l 4) .aJ,.u []])] []]]
noncomputable def tS(i:Nat)(t:T):List Int:=if 0<i/\k7 t then[2680] else[]
noncomputable def tT(a:Bool)(t:T):List Int:=if t.cj=4096 then[] else if a&& !rK t then[1016] else[]
theorem RP(i:Nat)(a:Bool)(t:T)(r:List T):gW i a (t::r)=tS i t++tT a t++gW (i+1) (if t.cj=4096 then I else a) r:=by
 show tS i t++(if t.cj=4096 then gW (i+1) I r else(if(a&& !rK t)=I then[1016] else[])++gW (i+1) a r)=_;unfold tT;split
 ·rw[cN]
 ·rw[b6]
noncomputable abbrev yB(c:PA)(a:Nat)(b:Bool)(i:Nat)(v:V):Lc:=[O (.ae c.ap),O (.ae a),O (.i b),O (.aa i),O v]
theorem RQ{a i:Nat}{W:List T}{t:T}(h:PS c u g s H)(ha:H[a]? =O (.af<|W.map T.v))(ht:W[i]? =O t)(hp:po t)(y:(s.ns++(tS i t++tT b t)).length<1000):
  ∃j,aZ (ag<|m+1) tR [O (.ae c.ap),O (.ae a),O (.i b),O (.aa i),l4] H=.ok (.aU,yB c a (if t.cj=4096 then I else b) i t.v) j/\PS c u g ⟨s.ts,s.ns++(tS i t++tT b t)⟩ j/\bT c H j:=by
 obtain⟨x,d,k,f,p,hf⟩:=hp;have B:∀o H1,PS c u g o H1->bT c H H1->(o.ns++tT b (.nd 28 [] [O (c7 8 x d),k,U] f p)).length<1000->∃j,Jd (λr=>r=.ok (.aU,yB c a (if f=4096 then I else b) i (T.nd 28 [] [O (c7 8 x d),k,U] f p).v) j) (m+1) (.s (tR.drop 2) [] (yB c a b i (T.nd 28 [] [O (c7 8 x d),k,U] f p).v) H1)/\PS c u g ⟨o.ts,o.ns++tT b (.nd 28 [] [O (c7 8 x d),k,U] f p)⟩ j/\bT c H j:=by
  intro o H1 M N F;have nil:∀{n:List Int},n=[]->PS c u g ⟨o.ts,o.ns++n⟩ H1:=λe=>by rw[e,cN];exact M
  rcases hf with rfl|rfl|rfl
  ·induction b using xE with
   |false=>exact dg H1 (ck (v:=.aa 0) rfl rfl<|rR rfl<|bh rfl rfl<|eh rfl bc λG=>bh rfl rfl<|aL rfl rfl) (nil rfl) N
   |true=>
    exact dn λv=>cF (yo (m:=m) M 1016 p []<|jt (by rw[bx];exact d8 ..) F) λH2 e2 P Q=>v<|dg H2 (ck (v:=.aa 0) J J<|rR J<|bh J J<|eh J (λG=>ck J J<|yz J<|eh J (λG=>b5 J J<|cy J J<|cZ J (vG M)<|vB J M.y J<|bn J e2<|aL J J) c6) c6) P<|N.q Q
  ·exact dg H1 (ck J J<|rR J<|cy J J<|aL J J) (nil J) N
  ·refine dg H1 (ck J J<|rR J<|bh J J ?_) (nil<|by cases b<;>rfl) N;clear F
   induction b using xE with
   |false=>exact eh J bc λG=>bh J J<|aL J J
   |true=>exact eh J (λG=>ck J J<|yz J<|eh J bc λG=>bh J J<|aL J J) c6
 have L:∀X,(Jd X (m+1)<|.v (.i<|decide (0<(i:Int))&&(I&&decide (x=eX))) [.bQ [.ex (.aO (.q (.l 0) .dU) .gw [.c (.aa 2680),.q (.l 4) .aJ,.u []])] [] (tR.drop 2)] (yB c a b i (T.nd 28 [] [O (c7 8 x d),k,U] f p).v) H)->Jd X (m+1) (.s tR [] [O (.ae c.ap),O (.ae a),O (.i b),O (.aa i),l4] H):=λX q=>
  b5 J (hY ha (by rw[qb,ht];rfl)) (fC J (c9<|b5 J J<|fC J (c9<|b5 J J<|aL J J)<|aL J J) q)
 by_cases q:0<i/\x=eX
 ·have e1:tS i (.nd 28 [] [O (c7 8 x d),k,U] f p)=[2680]:=aN ⟨q.1,dH q.2⟩;have e2:(decide (0<(i:Int))&&(I&&decide (x=eX)))=true:=by rw[dH (show 0<(i:Int) by lia),dH q.2];rfl
  rw[e1] at y⊢;refine dn λv=>cF (yo (m:=m) h 2680 p []<|jt (by rw[bx];exact d8 ..) y) λH2 e3 P Q=>v ?_;rw[<-b6] at y⊢;exact dn λv=>cF (B _ H2 P Q y) λY Z E S=>v<|dg Y (qt<|L _<|cy J e2<|cZ J (vG h)<|vB J h.y J<|bn J e3<|bf J Z) E S
 ·have e1:tS i (.nd 28 [] [O (c7 8 x d),k,U] f p)=[]:=a9 λz=>q ⟨z.1,D z.2⟩;have e2:(decide (0<(i:Int))&&(I&&decide (x=eX)))=false:=by
   cases z:decide (0<(i:Int)) with
   |false=>rfl
   |true=>rw[dT λw=>q ⟨by have:=D z;lia,w⟩];rfl
  rw[e1] at y⊢;exact dn λv=>cF (B _ H h .refl y) λY Z E S=>v<|dg Y (qt<|L _<|bh J e2<|bf J Z) E S
theorem RU{d:List T}(o:i4 c B a)(k:∀t∈d,po t):∀(rest pre:List T) (seen:Bool) (s:Sg) (H:Hp) (q b:Option V),d=pre++rest->PS c u g s H->H[a]? =O (.af<|d.map T.v)->(s.ns++gW pre.length seen rest).length<1000->
  ∃j w,dp (λv l H=>aZ (ag<|m+1) tR (l.set 3<|O v) H) ((ll pre.length rest.length).map λ(i:Nat)=>V.aa (i:Int)) [O (.ae c.ap),O (.ae a),O (.i seen),q,b] H=.ok (.aU,O (.ae c.ap)::O (.ae a)::w) j/\PS c u g ⟨s.ts,s.ns++gW pre.length seen rest⟩ j/\bT c H j:=by
 intro r
 induction r with
 |nil=>
  intro pre seen s H q b e h x f;exact cL H _ J (by rw[show gW pre.length seen []=[] from J,cN];exact h) .refl
 |cons t r z=>
  intro pre seen s H q b e h x f;rw[RP,<-b6] at f⊢;have ht:d[pre.length]? =O t:=by rw[e,ra (bF _),p9];rfl
  refine dn λF=>cF (RQ (m:=m) (l4:=b) h x ht (k t<|mi ht)<|jt (by rw[bx (as:=s.ns++_)];exact d8 ..) f) λH1 e1 G y=>?_;have:=z (pre++[t]) _ _ H1 (O<|.aa pre.length) (O t.v) (e.trans<|kR ..) G (o.at y x) (by rw[bx (as:=pre)];exact f);rw[bx] at this;refine cV this λH2 w e2 L M=>F<|cL H2 w ?_ L<|y.q M;show(match aZ (ag<|m+1) tR [O (.ae c.ap),O (.ae a),O (.i seen),O (.aa pre.length),b] H with|.ok (.aU,l) H=>_|.ok (.q,l) H=>_|.ok (.u,l) H=>_|.ok (.am v,l) H=>_|_=>_)=_;rw[e1];exact e2
theorem vO{i n:Nat}{b r:List S}(e:go y=.s (.jA i x b::r) K l H)(a:az (ag m) x l H=.ok (.aa n) H)(d:n<=bg)(f:dp (λv l H=>aZ (ag m) b (l.set i<|O v) H) ((kl n).map λ(i:Nat)=>V.aa (i:Int)) l H=.ok (.aU,l') j)(q:Jd X m<|.s r K l' j):Jd X m y:=
 bv e (bf (c':=.s r K l' j) (by
  have e1:fY (ag m) (.jA i x b) l H=.ok (.aU,l') j:=by
   show R.i (az (ag m) x l H) _=_;rw[a,jD];exact(aN ⟨qa n,sQ.mpr d⟩).trans f
  show R.i (R.i (fY (ag m) (.jA i x b) l H) _) _=_;rw[e1];rfl) q)
theorem RV{b:List T}(o:i4 c B a)(d:∀t∈b,po t)(h:PS c u g s H)(i:H[a]? =O (.af<|b.map T.v))(k:b.length<=bg)(q:(s.ns++gW 0 C b).length<1000):
  ∃j,ag (m+2) 960 [.ae c.ap,.ae a] H=.ok .none j/\PS c u g ⟨s.ts,s.ns++gW 0 C b⟩ j/\bT c H j:=by
 refine dn λr=>cV (RU (m:=m) o d b [] C s H U U J h i q) λj v e p y=>r<|dg j (cS J J<|vO J (c9<|fD J ?_ (aL J J)) k (by rw[xF];exact e)<|aL J J) p y;show cG ((match H[a]? with|some (.af f)=>O f|_=>U).map λ(f:List V)=>V.aa f.length) H=_;rw[i];show R.ok (V.aa ((b.map T.v).length:Nat)) H=_;rw[c5]
end
section
variable{q:Type}{A:fo q}{p:PR q}{c:PA}{i:List aj}{g g':Fg}{s:Sg}{H j:Hp}{m n:Nat}{u:Cf}{K:List Kf}{l:Lc}{part:bZ}{X:R (Fl×Lc)->Prop}
theorem RW{part:bZ}{s i:Sg}(h:pc part s=.ok t i):po t:=by
 have a:∀{x o f p d},f=0∨f=4096∨f=8192->yA part x o p f d=.ok t i->po t:=λ{x o f p d} r e=>by
  unfold yA at e
  cases q:gG part 1 d with
  |ok k u=>rw[q] at e;cases e;exact .mk _ _ _ _ _ r
  |d9 _=>rw[q] at e;cases e
  |j=>rw[q] at e;cases e
 unfold pc cM at h
 by_cases b:s.i.is 5 hN=I
 ·rw[aN b] at h
  dsimp only at h
  split at h
  ·exact a (.inr<|.inr J) h
  ·cases h
 ·rw[a9 b] at h
  dsimp only at h
  split at h
  ·cases q:s.j.q [63] with
   |true=>rw[q] at h;exact a (.inr<|.inl J) h
   |false=>rw[q] at h;exact a (.inl J) h
  ·cases h
noncomputable def Hc:E:=.cB<|.aO (.l 0) .fX [.c (.ah [41])]
noncomputable def Hd:List S:=[.ex (.aO (.l 5) .q [.ao 988 [.l 0,.l 1]]),.bQ (.cB<|.aO (.l 0) .y [.c (.ah [44])]) [.u] [],.bQ (.bJ .u (.q (.y (.l 5)<|.qj 1) .cj)<|.c<|.aa 8192) [.ex (.aO (.q (.l 0) .dU) .gw [.c (.aa 1014),.q (.y (.l 5)<|.qj 1) .aJ,.u []])] []]
noncomputable def B3:List S:=[.ex (.aO (.l 0) .iV [.c (.ah [41])]),.cQ (.l 0) .lD (.l 3),.cQ (.l 0) .hR (.l 4),.ex (.ao 960 [.l 0,.l 5]),.am (.ao 70 [.l 5,.l 2])]
theorem He{t:T}(h:H[a]? =O (.af<|(b++[t]).map T.v)):f6 (.ae a) (.aa<|-(1:Nat)) H=.ok t.v H:=by
 have e:fP (-1) (b.length+1)=O b.length:=by
  unfold fP;rw[a9 (D J),aN (by lia)];exact bH O<|by lia
 show cG ((match H[a]? with|some (.af d)=>O d|_=>U).bind λd=>(fP (-1) d.length).bind λj=>d[j]?) H=_;rw[h];show cG ((fP (-1) ((b++[t]).map T.v).length).bind λj=>((b++[t]).map T.v)[j]?) H=_;rw[c5,bx,List.length_singleton,e];show cG (((b++[t]).map T.v)[b.length]?) H=_;rw[dz,ra (by rw[c5];exact bF _),c5,p9];rfl
theorem RX{Q Y Z:V}{e:List T->Sg->PR q}(hP:dX A.c A.dW n part g'.bS)(hm:n<=m)(o:i4 A.c A.H a)
  (hq:∀ts s' j,ts.length<=bg->(∀t∈ts,po t)->Sx A g' s' j->j[a]? =O (.af<|ts.map T.v)->Jd (OX A<|e ts s') (m+5) (.s B3 [] [O (.ae A.c.ap),O (.i C),O Q,O Y,O Z,O (.ae a)] j)):∀(k f:Nat) (s:Sg) (H:Hp) (d:List T),k<=f->d.length+k<=bg->(∀t∈d,po t)->Sx A g' s H->H[a]? =O (.af<|d.map T.v)->
  Jd (OX A<|(rL part k d s).bd e) (m+5) (.lp f Hc Hd B3 [] [O (.ae A.c.ap),O (.i C),O Q,O Y,O Z,O (.ae a)] H):=by
 intro k
 induction k with
 |zero=>
  intro i i i i i i i i i;exact eN.j
 |succ k ih=>
  intro f s H d hk hb L h M
  induction f using fU with
  |zero=>exact ax ‹_+1<=0› (km _)
  |succ f=>
  rw[j4];refine i5<|jF J h.ps ?_
  cases z:s.i.is 5 [41] with
  |true=>rw[aN (z)];exact gz J bc λi=>hq d s H (L1 hb) L h M
  |false=>
   rw[a9 (qc.mp<|z),yr];refine gz J (λi=>fZ J M<|GB J h.ex (RO hP hm h.ps) λt G v H2 ht hv h2 y2=>?_) c6;obtain rfl:v=t.v:=hv;have hp:=RW ht;have r:∀u∈d++[t],po u:=λu E=>(eV.mp E).elim (L u) λE=>iw.mp E▸hp;have w:(d++[t]).length=d.length+1:=by rw[bx];rfl
   have y:(H2.set a<|.af<|(d++[t]).map T.v)[a]? =O (.af<|(d++[t]).map T.v):=fk<|o.at y2 M;rw[show∀S:Bool->Sg->PR (List T),(cM 5 [44] G S).bd e=cM 5 [44] G λb s=>(S b s).bd e fromλS=>j4 ..];refine i6 J (o.at y2 M) (by rw[c5];exact L1 hb) ?_;rw[show d.map T.v++[t.v]=(d++[t]).map T.v by rw[dz];rfl];refine ph J (h2.y o) (λi W h4 y4=>bh J J ?_) λi=>cy J J<|bf J<|hq _ G _ (L2 hb<|b7 w) r (h2.y o) y;have B:=o.at y4 y;clear y4 ht y;obtain⟨x,p0,kk,ff,pp,hf⟩:=hp;refine b5 J (He B) ?_;have nx:∀N F,Sx A g' N F->bT A.c W F->Jd (OX A<|(rL part k (d++[.nd 28 [] [O (c7 8 x p0),kk,U] ff pp]) N).bd e) (m+5) (.s [] [.lN f Hc Hd B3] [O (.ae A.c.ap),O (.i C),O Q,O Y,O Z,O (.ae a)] F):=λN F h5 P=>
    bv J (ih f N F _ (jr hk) (L2 hb<|b7 w) r h5<|o.at P B)
   clear r w
   rcases hf with rfl|rfl|rfl
   ·exact ck (v:=.aa 0) rfl rfl<|rR rfl<|bh rfl rfl<|bf rfl<|nx _ W h4 .refl
   ·exact ck (v:=.aa 0) J J<|rR J<|bh J J<|bf J<|nx _ W h4 .refl
   ·refine ck J J<|rR J<|cy J J ?_;show Jd (OX A<|PR.bd (if G.j.ns.length<1000 then rL part k _ ⟨G.j.ts,G.j.ns++[1014]⟩ else .j) e) _ _;split
    ·rename_i hl
     refine GA J h4.ps (tJ J<|tJ (c9<|b5 J (He B)<|aL J J) J) hl λF p5 P=>bf J<|nx _ F (h4.go p5 P) P
    ·exact eN.j
theorem Hf(t:dX c i n part g.bS)(u:n<=m)(h:PS c i g s H):dD c i g H RT (ag (m+6) 953 [.ae c.ap,.i C] H) (pd part s):=by
 unfold pd;refine eO (A:=⟨c,i,g,H,RT⟩) J J<|dQ J h<|mD J ⟨h,.refl⟩ λa H1 d a=>cZ J (d.ps.i λa=>J)<|cZ J (d.ps.i λa=>J)<|GP J d λH2 h2 a=>tQ J h2 λP e a=>?_;have k:=e.ps.q;have o:=vM h e.ex;refine bv J<|RX (g':={g with ai:=I,nc:=C}) t u o (λts Q j hlen f v w=>?_) (s.j.ts.length+1) hU _ _ [] ?_ ?_ (λa z=>ax z eW) (e.j _) cD
 ·refine mD J v λa Y h4 x=>GP J h4 λZ y B=>tQ J y λE q F=>?_;have b:=o.at F (o.at B (o.at x w));split
  ·rename_i G
   exact dn λL=>cF (RV (m:=m+3) o f q.ps b hlen G) λS M N r=>L<|bn J M<|bn J (qr (by rw[pj];exact o.at r b) _)<|eD J J<|(q.go N r).y o
  ·exact eN.j
 ·exact aE k<|D J
 ·show 0+(s.j.ts.length+1)<=bg;unfold bg;exact L1 k
end
section
variable{j:Type}{A:fo j}{p:PR j}{c:PA}{i:List aj}{g q:Fg}{s:Sg}{H y:Hp}{m n:Nat}{u:Cf}{K:List Kf}{l:Lc}{part:bZ}{X:R (Fl×Lc)->Prop}
theorem B4(b:dX c i n part g.bS)(d:n<=m)(h:PS c i g s H)(name:List Nat)(fl p:Int):dD c i g H RT (ag (m+8) 866 [.ae c.ap,.ah name,.aa fl,.aa p] H) (f8 part name fl p s):=
 eO (A:=⟨c,i,g,H,RT⟩) J J (fE J .refl (G9 b d h) λe o v H1 a f j=>by
  obtain rfl:v=ov e:=a;refine fE J f.ex (Hf b (eP 1 d) f.ps) λps q v H2 a h2 j=>?_;obtain rfl:v=ps.v:=a;refine fE J h2.ex (Rm b (eP 3 d) h2.ps) λr t v u a k j=>?_;obtain rfl:v=ov r:=a;exact gY [e,O ps,r,U] J<|eD J J<|k.j _)
theorem RY(d:dX c i n part g.bS)(e:n<=m)(h:PS c i g s H)(fl p:Int):dD c i g H RT (ag (m+6) 880 [.ae c.ap,.aa fl,.aa p] H)
  (c8 [91] s λs=>hV s λa s=>c8 [58] s λs=>(part 1 s).bd λk s=>c8 [93] s λs=>c8 [58] s λs=>(part 1 s).bd λv s=>.ok (.nd 63 a [O k,O v] fl p) s):=
 eO (A:=⟨c,i,g,H,RT⟩) J J (mD J ⟨h,.refl⟩ λb H1 f b=>BQ J f λb H2 h2 b=>mD J h2 λb t j b=>mE d (eP 5 e) J j λk u w h4 b=>mD J h4 λb x o b=>mD J o λb y q b=>mE d (eP 5 e) J q λv z B r b=>gY [O k,O v] J<|eD J J<|r.j _)
noncomputable def RZ:List S:=[.bQ (.bN (.ao 838 [.aO (.l 0) .i []])<|.b9 .lt (.l 1)<|.c<|.aa 131072) [.am (.ao 866 [.l 0,.l 3,.bJ .i (.l 1) (.c<|.aa 32),.l 2])] [],.am (.ao .i [.c (.aa 99),.l 3,.af [.ao .gG [.l 0]],.l 1,.l 2])]
noncomputable def Hh(part:bZ)(a:List Nat)(p b:Int)(s:Sg):PR T:=
 if s.i.q&&decide (b<131072) then f8 part a (b+32) p s else(gG part 1 s).bd λk s=>.ok (.nd 99 a [k] b p) s
theorem Hi{A:fo T}(d:A.Rv=RT)(e:dX A.c A.dW n part A.g.bS)(f:n<=m){p fl:Int}(h:Sx A A.g s H):Jd (OX A<|Hh part a p fl s) (m+9) (.s RZ [] [O (.ae A.c.ap),O (.aa fl),O (.aa p),O (.ah a)] H):=by
 refine dQ J h.ps<|bn J (GH s.i)<|fC J J<|kH J (λb=>?_) λb=>?_
 ·exact k9 J (λb b=>J) h.ex (by rw[d];exact B4 e (eP 1 f) h.ps a (fl+32) p)
 ·refine fE J h.ex (GR e (eP 5 f) h.ps) λk j v H2 i h2 b=>?_;obtain rfl:v=ov k:=i;exact gY [k] J<|eD J (by rw[d];rfl)<|h2.j _
theorem R0(b:dX c i n part g.bS)(d:n<=m)(h:PS c i g s H)(fl:Int):dD c i g H RT (ag (m+10) 859 [.ae c.ap,.aa fl] H) (tC part fl s):=
 eO (A:=⟨c,i,g,H,RT⟩) J J (dQ J h<|Rb J ⟨h,.refl⟩ λa H1 e a=>Hb (pf:=Hh part s.i.aP s.i.aJ) J e (λa H2 h2 a=>cy J J<|fQ J J<|bf J<|Hi J b d h2) λa=>bh J J<|bf J<|Hi J b d e)
noncomputable def Hj:List S:=[.bQ (.ao 873 [.l 0]) [.am (.ao 880 [.l 0,.l 2,.l 1])] [],.bQ (.or (.ao 852 [.l 0,.c (.ah f3)])<|.ao 852 [.l 0,.c (.ah gs)]) [.ex (.aO (.l 0) .b8 [.c (.aa 9002),.u [.c (.ah ae7)]])] [],.am (.ao 859 [.l 0,.l 2])]
noncomputable def Hk(part:bZ)(p b:Int)(s:Sg):PR T:=
 if s.q [91]&&(decide ((s.u 1).aq=1)&&(s.u 2).is 5 [58]) then
  c8 [91] s λs=>hV s λa s=>c8 [58] s λs=>(part 1 s).bd λk s=>c8 [93] s λs=>c8 [58] s λs=>(part 1 s).bd λv s=>.ok (.nd 63 a [O k,O v] b p) s
 else if(s.y f3||s.y gs)&&(s.u 1).j then b8 9002 s
 else tC part b s
theorem Hl{A:fo T}(b:A.Rv=RT)(d:dX A.c A.dW n part A.g.bS)(e:n<=m){p fl:Int}(h:Sx A A.g s H):Jd (OX A<|Hk part p fl s) (m+10) (.s Hj [] [O (.ae A.c.ap),O (.aa p),O (.aa fl)] H):=by
 unfold Hk;rw[Bool.and_or_distrib_right];exact bn J (Q4 h.ps)<|kH J (λa=>k9 J (λa a=>J) h.ex (by rw[b];exact RY d (eP 4 e) h.ps fl p)) λa=>bn J (GI h.ps _)<|dP J (c9<|bn J (GI h.ps _)<|aL J J)<|kH J (λa=>yq J h (D J) J) λa=>k9 J (λa a=>J) h.ex (by rw[b];exact R0 d e h.ps fl)
theorem R1(b:dX c i n part g.bS)(d:n<=m)(h:PS c i g s H):dD c i g H RT (ag (m+11) 831 [.ae c.ap] H) (lM part s):=
 eO J J (dQ J h<|jF J h<|dP J (c9<|jF J h<|aL J J)<|kH J (λa=>k9 J (λa a=>J) .refl<|B4 b (eP 2 d) h [] 512 _) λa=>yn J h (fC J (c9<|pg J h<|bn J (GH _)<|aL J J)<|kH J (λa=>mA J h λH1 e f=>k9 J (λa a=>J) f<|B4 b (eP 2 d) e [] 1024 _) λa=>bn J (Q0 h _) (G1 J (λa=>mA J h λH1 e f=>bf J<|Hl J b d ⟨e,f⟩) λa=>bf (c':=.s Hj [] _ H) J<|Hl (A:=⟨c,i,g,H,RT⟩) J b d ⟨h,.refl⟩)))
end
section
variable{u:Type}{A:fo u}{p:PR u}{c:PA}{i:List aj}{g q:Fg}{s:Sg}{H j:Hp}{m n:Nat}{F:Cf}{K:List Kf}{l:Lc}{part:bZ}{X:R (Fl×Lc)->Prop}
theorem Hm{B:fo T}{k:Nat}(a:B.Rv=RT)(b:dX B.c B.dW n part B.g.bS)(d:n<=m)(e:go F=.v (.ae B.c.ap) (.dK .be [.c (.aa k)]::K) l H)(f:∀v H,go (.v v K l H)=.fl (.am v) [] l H)(h:Sx B B.g s H):Jd (OX B<|part k s) m F:=by
 rw[<-BR (part k s)];exact mE b d e h λt s j i y=>eD (f _ _) (by rw[a];rfl) i
theorem R2(d:dX c i n part g.bS)(e:n<=m)(h:PS c i g s H):dD c i g H RT (ag (m+6) 932 [.ae c.ap] H) (am part s):=by
 refine eO (A:=⟨c,i,g,H,RT⟩) J J<|dQ J h<|pg J h<|dP J (c9<|bn J (BP s.i)<|aL J J)<|kH J (λa=>Hm J d (eP 5 e) J (λa a=>J) ⟨h,.refl⟩) λa=>bn J (i7 (s.u 1) 1 _ H)<|kH J (λa=>?_) λa=>?_
 ·exact mA J h λH1 o f=>mA J o λH2 b j=>mE d (eP 5 e) J ⟨b,f.q j⟩ λk t r q a=>qs [O k] J<|eD J J<|q.j _
 ·refine tL J h<|dP J (c9<|bn J (BP _)<|aL J J)<|kH J (λa=>Hm J d (eP 5 e) J (λa a=>J) ⟨h,.refl⟩) λa=>mA J h λH1 o f=>mA J o λH2 b j=>QQ J ⟨b,f.q j⟩ (λa r q a=>cy J J ?_) λa=>bh J J ?_
  ·exact mE d (eP 5 e) J q λk u v h4 a=>gY [O k] J<|eD J J<|h4.j _
  ·show Jd (OX _<|if(s.j.j.q [38]||s.j.j.q [124])=I then b8 1228 s.j.j else .ok _ s.j.j) _ _;have h2:Sx (⟨c,i,g,H,RT⟩:fo T) g s.j.j H2:=⟨b,f.q j⟩;exact jF J b<|dP J (c9<|jF J b<|aL J J)<|kH J (λa=>yq J h2 (D J) J) λa=>gY [U] J<|eD J J<|h2.j _
noncomputable def R3:List S:=[.i 5 (.ao 939 [.l 1]),.i 6 (.ao 953 [.l 1,.c (.i C)]),.ex (.aO (.l 1) .iV [.c (.ah fz)]),.i 7 (.aO (.l 1) .be [.c (.aa 11)]),.am (.ao .i [.c (.aa 27),.c (.ah []),.af [.l 5,.l 6,.l 7,.c .none],.l 4,.l 3])]
theorem Hn{A:fo T}(j:A.Rv=RT)(d:dX A.c A.dW n part A.g.bS)(e:n<=m){p fl:Int}(h:Sx A A.g s H):Jd (OX A<|(k4 part s).bd λa s=>(pd part s).bd λps s=>c8 fz s λs=>(part 11 s).bd λr s=>.ok (.nd 27 [] [a,O ps,O r,U] fl p) s) (m+7) (.s R3 [] [O k,O (.ae A.c.ap),O .none,O (.aa p),O (.aa fl),U,U,U] H):=
 fE J h.ex (G9 d e h.ps) λa q v H1 f i b=>by
  obtain rfl:v=ov a:=f;refine fE J i.ex (Hf d (eP 1 e) i.ps) λps t v H2 f h2 b=>?_;obtain rfl:v=ps.v:=f;exact mD J h2 λb u o b=>mE d (eP 7 e) J o λr w x h4 b=>gY [a,O ps,O r,U] J<|eD J (by rw[j];rfl)<|h4.j _
theorem R4(a:dX c i n part g.bS)(b:n<=m)(h:PS c i g s H):dD c i g H RT (ag (m+8) 894 [.aQ .tw [],.ae c.ap,.none] H) (rM part s):=by
 unfold rM;exact eO (A:=⟨c,i,g,H,RT⟩) J J<|dQ J h<|BN J ⟨h,.refl⟩ (λd H1 e d=>cy J J<|bf J<|Hn J a b e) λd=>bh J J<|bf J<|Hn J a b ⟨h,.refl⟩
noncomputable def Ho:E:=.cB<|.aO (.l 0) .fX [.c (.ah [125])]
noncomputable def Hr:List S:=[.ex (.aO (.l 2) .q [.ao 831 [.l 0]]),.bQ (.cB<|.aO (.l 0) .y [.c (.ah [44])]) [.ex (.aO (.l 0) .yc [])] []]
noncomputable def B5:List S:=[.ex (.aO (.l 0) .j []),.am (.ao 70 [.l 2,.l 1])]
theorem R5{a b:Type}(s:Sg)(pf:Sg->PR a)(f:a->Sg->PR b):(qo s pf).bd f=qo s λs=>(pf s).bd f:=by
 unfold qo cM;rw[j4];rw[j4,j4,j4,j4,BW,BW]
theorem R6{e:List T->Sg->PR u}(Q:dX A.c A.dW n part q.bS)(Y:n<=m)(o:i4 A.c A.H a)
  (Z:∀ts M j,Sx A q M j->j[a]? =O (.af<|ts.map T.v)->Jd (OX A<|e ts M) (m+11) (.s B5 [] [O (.ae A.c.ap),O y,O (.ae a)] j)):∀(k f:Nat) (s:Sg) (H:Hp) (d:List T),k<=f->d.length+k<=bg->Sx A q s H->H[a]? =O (.af<|d.map T.v)->
  Jd (OX A<|(nq part k d s).bd e) (m+11) (.lp f Ho Hr B5 [] [O (.ae A.c.ap),O y,O (.ae a)] H):=by
 intro k
 induction k with
 |zero=>
  intro i i i i i i i i;exact eN.j
 |succ k E=>
  intro f s H d S hb h x
  induction f using fU with
  |zero=>exact ax ‹_+1<=0› (km _)
  |succ f=>
  rw[j4];refine i5<|jF J h.ps ?_
  cases z:s.i.is 5 [125] with
  |true=>rw[aN (show s.q [125]=I from z)];exact gz J bc λi=>Z d s H h x
  |false=>
   rw[a9 (qc.mp<|z),yr];refine gz J (λi=>fZ J x<|fE J h.ex (R1 Q Y h.ps) λt N v H2 W h2 P=>?_) c6;obtain rfl:v=t.v:=W;have B:(H2.set a<|.af<|(d++[t]).map T.v)[a]? =O (.af<|(d++[t]).map T.v):=fk<|o.at P x;have nx:∀w r,Sx A q w r->bT A.c (H2.set a<|.af<|(d++[t]).map T.v) r->Jd (OX A<|(nq part k (d++[t]) w).bd e) (m+11) (.s [] [.lN f Ho Hr B5] [O (.ae A.c.ap),O y,O (.ae a)] r):=λw r F G=>
    bv J (E f w r _ (jr S) (by rw[bx];simp only[gQ,lj];exact L1 hb) F<|o.at G B)
   rw[show∀L:Bool->Sg->PR (List T),(cM 5 [44] N L).bd e=cM 5 [44] N λb s=>(L b s).bd e fromλL=>j4 ..];refine i6 J (o.at P x) (by rw[c5];exact L1 hb) ?_;rw[show d.map T.v++[t.v]=(d++[t]).map T.v by rw[dz];rfl];refine ph J (h2.y o) (λi H4 h4 y4=>bh J J<|bf J<|nx _ H4 h4 y4) λi=>cy J J ?_;rw[R5];exact Q9 J (h2.y o) λw r F G=>bf J<|nx _ r F G
theorem Hs(f:dX c i n part g.bS)(k:n<=m)(h:PS c i g s H):dD c i g H RT (ag (m+12) 824 [.ae c.ap] H) (gI part s):=by
 unfold gI;refine eO (A:=⟨c,i,g,H,RT⟩) J J<|dQ J h<|mD J ⟨h,.refl⟩ λq H1 a q=>?_;have b:=a.ps.q;have o:=vM h a.ex;refine bv J<|R6 f k o (λts u j d r=>?_) (s.j.ts.length+1) hU _ _ [] ?_ ?_ (a.j _) cD
 ·exact mA J d.ps λv t e=>bn J (qr (by rw[pj];exact o.at e r) _)<|eD J J<|(d.go t e).y o
 ·exact aE b<|D J
 ·show 0+(s.j.ts.length+1)<=bg;unfold bg;exact L1 b
theorem R7(b:dX c i n part g.bS)(d:n<=m)(h:PS c i g s H):dD c i g H RT (ag (m+13) 628 [.ae c.ap] H) (j1 part s):=
 eO (A:=⟨c,i,g,H,RT⟩) J J (cZ J (h.i λa=>J)<|eh J (λa=>bn J (Q7 h)<|kH J (λa=>cZ J (h.i λa=>J)<|b5 J J<|k9 J (λa a=>J) .refl<|R4 b (eP 4 d) h) λa=>k9 J (λa a=>J) .refl (Rq (λs H h=>Rt (λs H h=>Rw (λs H h=>RD b d h) h) h) h)) c6)
theorem R8(h:PS c i g s H)(t:T):∃b,ag (m+3) 635 [.ae c.ap,t.v] H=.ok (.i b) H:=by
 obtain⟨k,a,ks,f,p⟩:=t
 cases q:decide (k=27)||s.i.cC with
 |true=>exact⟨C,cS J J<|dP J (c9<|dQ J h<|aL J J)<|cy J q<|aL J J⟩
 |false=>exact⟨_,cS J J<|dP J (c9<|dQ J h<|aL J J)<|bh J q<|yn J h<|aL J J⟩
theorem R9(f:dX c i n part g.bS)(j:n<=m)(h:PS c i g s H):dD c i g H RT (ag (m+14) 621 [.ae c.ap] H) (j1 part s):=by
 rw[<-BR (j1 part s)];refine eO (A:=⟨c,i,g,H,RT⟩) J J<|fE J .refl (R7 f j h) λt o v H1 k a d=>?_;obtain rfl:v=t.v:=k;obtain⟨b,e⟩:=R8 a.ps t;refine cZ J (a.ps.i λd=>J)<|dP J (c9<|bn J e<|dP J (c9<|cZ J (a.ps.i λd=>J)<|aL J J)<|aL J J)<|cy J ?_ (eD J J a);rw[uQ,uQ]
end
noncomputable def rT:Option T->Nat
 |none=>1
 |some t=>sz t
noncomputable def yC:Option T->Nat
 |none=>0
 |some t=>ht t
theorem Ht(t:T):1<=sz t:=by cases t;exact hG ..
theorem Hu:∀o:Option T,1<=rT o
 |none=>bF _
 |some t=>Ht t
theorem Sb(o:Option T)(r:List<|Option T):fj (o::r)=rT o+fj r:=by cases o;exact kq ..;rfl
theorem Sc(o:Option T)(r:List<|Option T):hO (o::r)=max (yC o) (hO r):=by cases o;exact(EV _).symm;rfl
theorem Hv:∀{ks:List<|Option T},o∈ks->yC o<=hO ks
 |p::r,h=>by
  rw[Sc]
  rcases d4.mp h with rfl|h
  ·exact Nj ..
  ·exact aE (Hv h)<|ac6 ..
noncomputable def tU(e:Option T×Nat):V:=.u [ov e.1,.aa (e.2:Int)]
noncomputable def la:List (Option T×Nat)->Nat
 |[]=>0
 |e::a=>rT e.1+la a
theorem B6:∀a b:List (Option T×Nat),la (a++b)=la a+la b
 |[],b=>(da _).symm
 |e::a,b=>by show rT e.1+la (a++b)=_;rw[B6 a b,<-kt];rfl
theorem Hw(a:Nat):∀ks:List (Option T),la (ks.map λo=>(o,a))=fj ks
 |[]=>rfl
 |o::r=>by rw[Sb,<-Hw a r];rfl
theorem Hx:∀a:List (Option T×Nat),a.length<=la a
 |[]=>bF _
 |e::a=>by rw[gQ,kq];exact gn (Hu e.1)<|Hx a
section
variable{m:Nat}{y:Cf}{K:List Kf}{l:Lc}{H F:Hp}{X:R (Fl×Lc)->Prop}{u v:V}
theorem Se{b r:List S}(e:go y=.v (.ae a) (.vy n t b r::K) l H)(h:H[a]? =O (.af c))(d:c≠[]->Jd X m (.s b (.lN n t b r::K) l H))(f:c=[]->Jd X m (.s r K l H)):Jd X m y:=by
 refine bv e ?_;have ht:dC (.ae a) H=O (!c.isEmpty):=by show(match H[a]? with|some (.af c)=>O (!c.isEmpty)|_=>U)=_;rw[h]
 induction c using aV with
 |nil=>exact bf (by show R.i (cG (dC (.ae a) H) H) _=_;rw[ht];rfl)<|f J
 |cons x c=>exact bf (by show R.i (cG (dC (.ae a) H) H) _=_;rw[ht];rfl)<|d jy
theorem vP{r:List S}(e:go y=.v v (.iW b r::K) l H)(d:hS v H=O a)(h:lJ b a l=O c)(q:Jd X m<|.s r K c H):Jd X m y:=
 bv e (bf (by
  show R.i (match hS v H with|some a=>(match lJ b a l with|some l=>aZ (ag m) r l H|.none=>.j)|.none=>.j) _=_;rw[d];dsimp only;rw[h];rfl) q)
theorem yD(e:go y=.v (.ae a) (.dK .hQ []::K) l H)(h:H[a]? =O (.af<|b++[u]))(q:Jd X m<|.v u K l<|H.set a<|.af b):Jd X m y:=
 bv e (bf (by
  have hp:hT (.ae a) .hQ [] H=.ok u (H.set a<|.af b):=by
   show(match H[a]? with|some (.af b)=>(match b.getLast? with|some u=>R.ok u (H.set a<|.af b.dropLast)|.none=>.j)|_=>.j)=_;rw[h];dsimp only;rw[List.getLast?_concat,ac7]
  show R.i (match(match H[a]? with|some (.aQ c _)=>O c|_=>.none) with
   |some c=>_
   |.none=>if(match H[a]? with|some (.af _)=>I|_=>C)=I then hT (.ae a) .hQ [] H else .j) _=_
  rw[h];rw[aN J,hp];rfl) q)
theorem Sf{i:Nat}{b r:List S}(e:go y=.s (.y i x b::r) K l H)(d:az (ag m) x l H=.ok (.af c) H)(f:dp (λv l H=>aZ (ag m) b (l.set i<|O v) H) c l H=.ok (.aU,a) F)(q:Jd X m<|.s r K a F):Jd X m y:=
 bv e (bf (by
  have e1:fY (ag m) (.y i x b) l H=.ok (.aU,a) F:=by
   show R.i (az (ag m) x l H) _=_;rw[d];exact f
  show R.i (R.i (fY (ag m) (.y i x b) l H) _) _=_;rw[e1];rfl) q)
noncomputable def yE:List S:=[.ex (.aO (.l 2) .q [.u [.l 3,.bJ .i (.l 5) (.c<|.aa 1)]])]
noncomputable def Si:List S:=[.iW [4,5] (.aO (.l 2) .hQ []),.bQ (.b9 .j (.l 4)<|.c .none) [.q] [],.bQ (.b9 .gt (.l 5)<|.c<|.aa 160) [.ex (.aO (.q (.l 0) .dU) .gw [.c (.aa 9001),.q (.l 4) .aJ,.u []]),.j] [],.y 3 (.q (.l 4) .bO) yE]
variable{j q B:V}{i:Hp}
theorem Sj{lv:Nat}:∀(ks:List<|Option T) (a:List<|Option T×Nat) (c:Option V),a.length+ks.length<=bg->
  ∃b,dp (λv l H=>aZ (ag m) yE (l.set 3<|O v) H) (fi ks) [O j,O q,O (.ae i.length),c,O B,O (.aa lv)] (i++[.af (a.map tU)])=.ok (.aU,[O j,O q,O (.ae i.length),b,O B,O (.aa lv)]) (i++[.af ((a++ks.map λo=>(o,lv+1)).map tU)]):=by
 intro ks
 induction ks with
 |nil=>
  intro a c h;exact⟨c,by rw[List.map_nil,cN];rfl⟩
 |cons o ks g=>
  intro a c d;rw[gQ] at d;have f:aZ (ag m) yE [O j,O q,O (.ae i.length),O (ov o),O B,O (.aa lv)] (i++[.af (a.map tU)])=.ok (.aU,[O j,O q,O (.ae i.length),O (ov o),O B,O (.aa lv)]) (i++[.af ((a++[(o,lv+1)]).map tU)]):=
   qt (fZ J cD<|i6 J cD (by rw[c5];exact L1 d) (by rw[iB];exact aL J (by rw[dz];rfl)))
  obtain⟨b,e⟩:=g (a++[(o,lv+1)]) (O<|ov o) (by rw[bx];simp only[gQ,lj];exact L1 d);refine⟨b,?_⟩;show(match aZ (ag m) yE [O j,O q,O (.ae i.length),O (ov o),O B,O (.aa lv)] (i++[.af (a.map tU)]) with|.ok (.aU,l) H=>_|.ok (.q,l) H=>_|.ok (.u,l) H=>_|.ok (.am v,l) H=>_|_=>_)=_;rw[f];refine e.trans ?_;rw[b6];rfl
theorem Sl(G:∀l o,X<|.ok (.aU,l)<|i++[o]):∀(k:Nat) (d:List<|Option T×Nat) (g y z:Option V),la d<k->la d<=bg->(∀e∈d,e.2+yC e.1<=161)->Jd X m (.lp k (.l 2) Si [] [] [O j,O q,O (.ae i.length),g,y,z]<|i++[.af (d.map tU)]):=by
 intro k
 induction k with
 |zero=>exactλ_ _ _ _ b=>absurd b<|Nk _
 |succ k A=>
  intro d g y z b hb p;refine i5<|Se J cD (λh=>?_) λh=>aL J<|G _ _
  rcases Nm d with rfl|⟨a,⟨o,f⟩,rfl⟩
  ·exact absurd rfl h
  ·rw[Aq] at*;have r:=p (o,f)<|dm _<|iw.mpr rfl;rw[B6] at b hb;have hpos:=Hu o;have b:la a+rT o<k+1:=b;have hb:la a+rT o<=bg:=hb;refine yD J (by rw[dz];exact cD)<|vP J J J ?_;rw[iB]
   induction o using gC with
   |none=>exact cy J J<|bv J<|A a g (O .none) (O<|.aa f) (L2 hpos b) (L1 hb) λe he=>p e<|fh _ he
   |some t=>
    obtain⟨kd,B,ks,F,q0⟩:=t;have c:rT (O<|.nd kd B ks F q0)=fj ks+1:=J;have s:yC (O<|.nd kd B ks F q0)=hO ks+1:=J;have w:la (a++ks.map λo=>(o,f+1))=la a+fj ks:=by rw[B6,Hw]
    have hlen:=Hx<|a++ks.map λo=>(o,f+1);rw[bx,c5] at hlen;obtain⟨x,L⟩:=Sj (lv:=f) ks a g<|L4 hb (b7 c.symm) (b7 w) hlen;refine bh J J<|bh (b:=decide (160<(f:Int))) J (decide_eq_false<|by lia)<|Sf J J L<|bv J<|A _ x _ _ (L3 b (b7 c.symm)<|b7 w) (L3 hb (b7 c.symm)<|b7 w) λe he=>?_
    rcases eV.mp he with he|he
    ·exact p e<|fh _ he
    ·refine aB (ej.mp he) ?_;rintro o M rfl;exact L3 r (b7 s.symm)<|Hv M
theorem Sn{t:T}(a:ht t<=150)(hsz:sz t<=4000000)(H:Hp)(j:V):∃o,ag (m+1) 516 [j,t.v] H=.ok .none (H++[o]):=by
 have q:Jd (λr=>∃o,r.i eg=.ok .none (H++[o])) m (.s Gj [] [O j,O t.v,U,U,U,U] H):=
  bv J (Sl (λl o=>⟨o,J⟩) hU [(O t,1)] U U U (by show sz t+0<hU;unfold hU;exact L1 hsz) (by show sz t+0<=bg;unfold bg;exact L1 hsz) λe b=>by rw[iw.mp b];show 1+ht t<=161;exact L1 a)
 rw[qq m J J];exact q
end
section
variable{c:PA}{i:List aj}{g:Fg}{s:Sg}{H:Hp}{m n:Nat}
noncomputable def Hy:List S:=[.bQ (.b9 .eq (.q (.l 0) .bS)<|.c<|.aa 1) [.ex (.ao 516 [.l 0,.l 2])] [],.ex (.aO (.l 0) .up []),.am (.l 2)]
theorem B7{A:fo T}{t:T}(l:A.Rv=RT)(h:Sx A {A.g with bS:=A.g.bS+1} s H):Jd (OX A<|if ht t<=150/\sz t<=4000000 then .ok t s else .j) (m+1) (.v t.v [.i 2 Hy] [O (.ae A.c.ap),O (.aa k),j] H):=by
 split
 ·rename_i f
  have a:∀H1,Sx A {A.g with bS:=A.g.bS+1} s H1->Jd (OX A<|.ok t s) (m+1) (.s (Hy.drop 1) [] [O (.ae A.c.ap),O (.aa k),O t.v] H1):=λH1 b=>by
   refine dn λd=>cF (QZ (m:=m) b.ps) λH2 e2 p q=>d<|dM J b.ps J J e2<|eD J (by rw[l];rfl) ⟨?_,b.ex.q q⟩;rw[show A.g={bS:=A.g.bS+1-1,nc:=A.g.nc,ai:=A.g.ai} by rw[Int.add_sub_cancel]];exact p
  refine cZ J (h.ps.i λi=>J)<|et J (λi=>?_) λi=>bf J<|a H h;refine dn λd=>?_;obtain⟨o,e⟩:=Sn f.1 f.2 H<|.ae A.c.ap;exact d<|bn J e<|bf J<|a _<|h.j _
 ·exact eN.j
theorem So:∀(f:Nat) (d:Int),0<=d->d+f<=40->dX c i (20*f) (be f) d:=by
 intro f
 induction f with
 |zero=>
  intro a a a;exactλm a k g s H a a=>eN.j
 |succ f j=>
  intro d u hd;intro m hm k g s H hg h;refine dn λr=>?_;subst hg;obtain⟨o,rfl,b⟩:∃o,m=o+20/\20*f<=o:=aD (m-20) (by lia)<|by lia
  have j:=j (g.bS+1) (by lia)<|by lia
  refine cF (QY (m:=o+18) h<|by lia) λH1 e1 e p=>r ?_;unfold Mine.be;split
  ·exact eO (A:=⟨c,i,g,H,RT⟩) J J<|cZ J (h.i λa=>J)<|bh J J<|dM J h J J e1<|bh J J<|cZ J (e.i λa=>J)<|b5 J J (fE J p (eO (A:=⟨c,i,{g with bS:=g.bS+1},H1,RT⟩) J J<|k9 J (λa a=>J) .refl<|R9 j (eP 4 b) e) λt q v H2 l h2 a=>by
    rw[l];exact B7 J h2)
  ·exact eO (A:=⟨c,i,g,H,RT⟩) J J<|cZ J (h.i λa=>J)<|bh J J<|dM J h J J e1<|bh J J<|cZ J (e.i λa=>J)<|b5 J J (fE J p (eO (A:=⟨c,i,{g with bS:=g.bS+1},H1,RT⟩) J J<|k9 J (λa a=>J) .refl<|Hs j (eP 6 b) e) λt q v H2 l h2 a=>by
    rw[l];exact B7 J h2)
  ·exact eO (A:=⟨c,i,g,H,RT⟩) J J<|cZ J (h.i λa=>J)<|bh J J<|dM J h J J e1<|bh J J<|cZ J (e.i λa=>J)<|b5 J J (fE J p (eO (A:=⟨c,i,{g with bS:=g.bS+1},H1,RT⟩) J J<|k9 J (λa a=>J) .refl<|R2 j (eP 12 b) e) λt q v H2 l h2 a=>by
    rw[l];exact B7 J h2)
  ·exact eN.j
theorem HA(b:f<=16)(a:20*f<=m)(d:g.bS=0)(h:PS c i g s H):dD c i g H RT (ag (m+12) 824 [.ae c.ap] H) (gI (Mine.be f) s):=
 Hs (So f g.bS (by lia)<|by lia) a h
end
noncomputable def nE:List E->Option (List V)
 |[]=>O []
 |.c v::r=>(nE r).map (v::·)
 |_=>U
noncomputable def vQ(v:V)(a b d:Cf):Cf:=match v with
 |.i true=>a
 |.i false=>b
 |_=>d
noncomputable def yF(r:R V)(K:List Kf)(l:Lc)(d:Cf):Cf:=match r with
 |.ok w H=>.v w K l H
 |_=>d
noncomputable def Sp(o:f4)(x y:V)(H:Hp):R V:=match x,y with
 |.aa i,.aa j=>fO o (.aa i) (.aa j) H
 |_,_=>.j
noncomputable def HB(v:V)(f:Kf)(K:List Kf)(l:Lc)(H:Hp):Cf:=match f with
 |.bQ a b r=>vQ v (.s a (.j r::K) l H) (.s b (.j r::K) l H)<|.v v (.bQ a b r::K) l H
 |.bz a b=>vQ v (.e a K l H) (.e b K l H)<|.v v (.bz a b::K) l H
 |.bN b=>vQ v (.e b K l H) (.v (.i C) K l H)<|.v v (.bN b::K) l H
 |.or b=>vQ v (.v (.i I) K l H) (.e b K l H)<|.v v (.or b::K) l H
 |.bi b c []=>yF (f7 b (c++[v]) H) K l<|.v v (.bi b c []::K) l H
 |.tD u=>yF (f6 u v H) K l<|.v v (.tD u::K) l H
 |.nt o x=>yF (Sp o x v H) K l<|.v v (.nt o x::K) l H
 |f=>BC v f K l H
noncomputable def B8(c:Cf):Cf:=match c with
 |.v v (f::K) l H=>HB v f K l H
 |.v v [] l H=>.v v [] l H
 |.e (.dct ks d) K l H=>match nE ks,nE d with
  |some a,O b=>.v (.dct<|a.zip b) K l H
  |_,_=>.e (.dct ks d) K l H
 |.e e K l H=>tG e K l H
 |.s [] K l H=>.fl .aU K l H
 |.s (s::r) K l H=>BD s r K l H
 |.fl y K l H=>Gn y K l H
 |.ao f d K l H=>.ao f d K l H
 |.lp n t b r K l H=>.lp n t b r K l H
noncomputable def vR:Nat->Cf->Cf
 |0,c=>c
 |n+1,c=>vR n<|B8 c
section
variable{run:gS}
theorem B9{r r':R V}{K:List Kf}(h:d6 run d=r'.i (ap run K l))(e:∀w H,r=.ok w H->r'=.ok w H):d6 run (yF r K l d)=d6 run d:=by
 induction r using R.casesOn with
 |ok w H=>rw[h,e w H J];rfl
 |q H=>rfl
 |j=>rfl
theorem yG(c:v=.i I->d6 run d=d6 run a)(e:v=.i C->d6 run d=d6 run b):d6 run (vQ v a b d)=d6 run d:=by
 induction v using V.casesOn with
 |i x=>cases x;exact(e J).symm;exact(c J).symm
 |_=>rfl
theorem Sr(v:V)(f:Kf)(K:List Kf)(l:Lc)(H:Hp):d6 run (HB v f K l H)=d6 run (.v v (f::K) l H):=by
 have d:=Gq (run:=run) v f K l H
 induction f using Kf.casesOn with
 |bQ a b r=>exact yG (λh=>by rw[h];rfl) λh=>by rw[h];rfl
 |bz a b=>exact yG (λh=>by rw[h];rfl) λh=>by rw[h];rfl
 |bN b=>exact yG (λh=>by rw[h];rfl) λh=>by rw[h];rfl
 |or b=>exact yG (λh=>by rw[h];rfl) λh=>by rw[h];rfl
 |bi b k g=>induction g using aV with
  |nil=>exact B9 J λc c h=>h
  |cons e g=>exact d
 |tD u=>exact B9 J λc c h=>h
 |nt o x=>
  refine B9 J λw m h=>?_
  induction x using V.casesOn with
  |aa i=>induction v using V.casesOn with
   |aa j=>exact h
   |_=>cases h
  |_=>cases h
 |_=>exact d
theorem HC:∀{b:List E} {a:List V},nE b=O a->cu run b l H=.ok a H:=by
 intro r
 induction r with
 |nil=>
  intro a;intro h
  cases h;rfl
 |cons e r d=>
  intro a;intro h
  induction e using E.casesOn with
  |c v=>
   have h:(nE r).map (v::·)=O a:=h
   cases q:nE r with
   |none=>rw[q] at h;exact ba h
   |some f=>
    rw[q] at h;cases h;show R.i (cu run r l H) _=_;rw[d q];rfl
  |_=>exact ba h
theorem Ss(c:Cf):d6 run (B8 c)=d6 run c:=by
 induction c using Cf.casesOn with
 |v v K l H=>induction K using aV with|nil=>rfl|cons f K=>exact Sr v f K l H
 |s r K l H=>induction r using aV with|nil=>rfl|cons s r=>exact Gs s r K l H
 |fl y K l H=>exact Gu<|.fl y K l H
 |e e K l H=>
  have g:=Gp (run:=run) e K l H
  cases e with
  |dct ks d=>
   show d6 run (match nE ks,nE d with|some a,O b=>.v (.dct<|a.zip b) K l H|_,_=>.e (.dct ks d) K l H)=_
   cases h:nE ks with
   |none=>rfl
   |some a=>cases h2:nE d with
    |none=>rfl
    |some b=>
     show _=R.i (R.i (cu run ks l H) λks H=>R.i (cu run d l H) λd H=>R.ok (V.dct<|ks.zip d) H) (ap run K l);rw[HC h];show _=R.i (R.i (cu run d l H) λd H=>R.ok (V.dct<|a.zip d) H) (ap run K l);rw[HC h2];rfl
  |_=>exact g
 |_=>rfl
theorem Su:∀(n:Nat) (c:Cf),d6 run (vR n c)=d6 run c:=by
 intro n
 induction n with
 |zero=>
  intro b;exact J
 |succ n a=>
  intro c;exact(a<|B8 c).trans<|Ss c
end
theorem cp(n:Nat){X:R (Fl×Lc)->Prop}(e:vR n c=a)(h:Jd X m a):Jd X m c:=by
 unfold Jd at h⊢;rw[<-Su n c];rw[<-e] at h;exact h
noncomputable def Po{B:Type}(p:PR B)(Q:B->Sg->Prop):Prop:=match p with
 |.ok a s=>Q a s
 |_=>True
section
variable{B G:Type}{Q:B->Sg->Prop}{F:G->Sg->Prop}{s:Sg}{k:Int}{x:List Nat}
theorem Po.bd{p:PR B}{q:B->Sg->PR G}(h:Po p Q)(b:∀a s,Q a s->Po (q a s) F):Po (p.bd q) F:=by
 induction p using PR.casesOn with
 |ok a s=>exact b a s h
 |d9 ns=>exact dr
 |j=>exact dr
theorem Po.au{p:PR B}{b:B->Sg->Prop}(h:Po p Q)(e:∀a s,Q a s->b a s):Po p b:=by
 induction p using PR.casesOn with
 |ok a s=>exact e a s h
 |d9 ns=>exact dr
 |j=>exact dr
theorem Po.cM{f:Bool->Sg->PR B}(b:s.i.is k x=I->Po (f I s.j) Q)(e:Po (f C s) Q):Po (cM k x s f) Q:=by
 unfold Mine.cM;split
 ·exact b<|by assumption
 ·exact e
theorem Po.c8{f:Sg->PR B}(b:s.i.is 5 x=I->Po (f s.j) Q):Po (c8 x s f) Q:=by
 unfold Mine.c8 b8;split
 ·exact b<|by assumption
 ·split<;>exact dr
theorem Po.hV{f:List Nat->Sg->PR B}(b:s.i.aq=1->Po (f s.i.aP s.j) Q):Po (hV s f) Q:=by
 unfold Mine.hV b8;split
 ·exact b<|by assumption
 ·split<;>exact dr
theorem Po.b8{n:Int}:Po (b8 n s:PR B) Q:=by
 unfold Mine.b8;split<;>exact dr
theorem Po.lK{n:Int}{f:Sg->PR B}(h:∀ns,Po (f ⟨s.ts,ns⟩) Q):Po (lK b n s f) Q:=by
 unfold Mine.lK;split
 ·split
  ·exact h _
  ·exact dr
 ·exact h s.ns
theorem Po.bz{c:Prop}[Decidable c]{p q:PR B}(b:c->Po p Q)(e:¬c->Po q Q):Po (if c then p else q) Q:=by
 split
 ·exact b<|by assumption
 ·exact e<|by assumption
end
noncomputable def rU(t:aj):Bool:=decide (t.aP=[40])&&(decide (t.aq=5)||decide (t.aq=2))
noncomputable def qu(t:aj):Bool:=t.is 5 [91]
noncomputable def cl(b:List aj):Nat:=b.countP rU
noncomputable def cb(b:List aj):Nat:=b.countP qu
structure Le(s u:Sg):Prop where
 l:cl u.ts<=cl s.ts
 b:cb u.ts<=cb s.ts
 n:u.ts.length<=s.ts.length
theorem yH(t:aj)(r:List aj):cl (t::r)=cl r+if rU t then 1 else 0:=Ar
theorem rV(t:aj)(r:List aj):cb (t::r)=cb r+if qu t then 1 else 0:=Ar
section
variable{s u:Sg}{k:Int}{x:List Nat}
theorem Le.refl:Le s s:=⟨bF _,bF _,bF _⟩
theorem Le.q{y:Sg}(a:Le s u)(b:Le u y):Le s y:=⟨aE b.l a.l,aE b.b a.b,aE b.n a.n⟩
structure Sv(s:Sg):Prop where
 n:s.j.ts.length+1=s.ts.length
 l:cl s.j.ts+(if rU s.i then 1 else 0)=cl s.ts
 b:cb s.j.ts+(if qu s.i then 1 else 0)=cb s.ts
theorem yI(h:s.i.aq≠0):Sv s:=by
 obtain⟨ts,ns⟩:=s
 induction ts using aV with
 |nil=>exact ax J h
 |cons t r=>
  have e:Sg.j ⟨t::r,ns⟩=⟨r,ns⟩:=a9 h;exact⟨bH (λs:Sg=>s.ts.length+1) e,vf e (yH t r).symm,vf e (rV t r).symm⟩
theorem pq{t:aj}(h:t.is k x=I):t.aq=k/\t.aP=x:=⟨D (ed.mp h).1,D (ed.mp h).2⟩
theorem eR:Le s s.j:=by
 by_cases h:s.i.aq=0
 ·rw[show s.j=s from aN h];exact .refl
 ·have:=yI h;exact⟨Nn<|b7 this.l,Nn<|b7 this.b,Nn<|b7 this.n⟩
theorem Le.bz{c:Prop}[Decidable c]:Le s (if c then s.j else s):=iteInduction (λb=>eR) λb=>.refl
theorem Po.i{B:Type}{Q:B->Sg->Prop}{F:Bool->Sg->PR B}(e:∀b g,Le s g->Po (F b g) Q):Po (Mine.cM k x s F) Q:=Po.cM (λi=>e _ _ eR) (e _ _ .refl)
theorem ne{j k:Int}{b:Prop}(h:j=k)(e:(j==k)=C):b:=by
 rw[h,beq_self_eq_true] at e;exact c6 e
theorem qw(h:s.i.is k x=I)(b:(k==0)=C):s.i.aq≠0:=λe=>by
 rw[(pq h).1.symm.trans e] at b;exact c6 b
theorem HD(h:s.i.aq=1):s.i.aq≠0:=λe=>ne (h.symm.trans e) J
end
mutual
noncomputable def pn:T->Nat
 |.nd k _ ks _ _=>mF ks+if k=27∨k=98 then 1 else 0
noncomputable def mF:List (Option T)->Nat
 |[]=>0
 |none::r=>mF r
 |some t::r=>pn t+mF r
end
noncomputable def nF(t:T):Prop:=t.aq≠27/\t.aq≠83
noncomputable def lf(t:T):Prop:=t.aq≠27/\t.aq≠83/\t.aq≠84
noncomputable def yJ(k:Int):Nat:=if k=27 then 1 else if k=83 then 2 else if k=84 then 3 else if k=85 then 4 else if k=98 then 5 else 0
theorem rW{k:Int}{a:List Nat}{ks:List<|Option T}{f p:Int}(h:(yJ k==0||Nat.ble 4 (yJ k))=I):lf (.nd k a ks f p):=⟨λe=>by rw[show k=27 from e] at h;exact bc h,λe=>by rw[show k=83 from e] at h;exact bc h,λe=>by rw[show k=84 from e] at h;exact bc h⟩
theorem Sw{t:T}(h:lf t):nF t:=⟨h.1,h.2.1⟩
noncomputable def Ca(k:Int)(ks:List<|Option T):Prop:=(k=83->∀o∈ks,∀t,o=O t->nF t)/\(k=84∨k=85->∀o∈ks,∀t,o=O t->lf t)/\(k=98->∃t,ks=[O t])
mutual
noncomputable def tV:T->Prop
 |.nd k _ ks _ _=>nG ks/\Ca k ks
noncomputable def nG:List (Option T)->Prop
 |[]=>True
 |none::r=>nG r
 |some t::r=>tV t/\nG r
end
structure In(h:Nat)(s:Sg)(t:T)(u:Sg):Prop where
 l:pn t+cl u.ts<=cl s.ts
 b:ht t+cb u.ts<=h+cb s.ts
 n:sz t+1+5*u.ts.length<=5*s.ts.length
 m:cb u.ts<=cb s.ts
 p:tV t
structure Ik(h d c:Nat)(s:Sg)(ks:List (Option T))(u:Sg):Prop where
 l:mF ks+(d+cl u.ts)<=cl s.ts
 b:hO ks+cb u.ts<=h+cb s.ts
 n:fj ks+(c+5*u.ts.length)<=9+5*s.ts.length
 m:cb u.ts<=cb s.ts
 p:nG ks
theorem eM{B:Type}{M:List (Option T)->B}{e:B->B->B}(as:∀a b c,e (e a b) c=e a (e b c))(g:∀o r,M (o::r)=e (M [o]) (M r))(z:∀a,a=e (M []) a)(o:Option T)(ks:List<|Option T):M (ks++[o])=e (M ks) (M [o]):=by
 induction ks with
 |nil=>exact z _
 |cons q r i=>exact(g q _).trans<|(bH (e<|M [q]) i).trans<|(as ..).symm.trans<|bH (λx=>e x<|M [o]) (g q r).symm
theorem Cb(o:Option T)(r:List<|Option T):mF (o::r)=mF [o]+mF r:=o.casesOn (da _).symm λt=>J
theorem HE(o:Option T)(r:List<|Option T):fj (o::r)=fj [o]+fj r:=o.casesOn (kq _ 1) λt=>J
theorem HG(o:Option T)(r:List<|Option T):hO (o::r)=max (hO [o]) (hO r):=o.casesOn (EV _).symm λt=>bH (max · _) (No _).symm
theorem Cc(o:Option T)(r:List<|Option T):nG (o::r)↔nG [o]/\nG r:=o.casesOn ⟨λh=>⟨bl,h⟩,λh=>h.2⟩ λt=>⟨λh=>⟨⟨h.1,bl⟩,h.2⟩,λh=>⟨h.1.1,h.2⟩⟩
section
variable{h d c:Nat}{s u y:Sg}{ks:List (Option T)}{t:T}{k f p:Int}{a:List Nat}
theorem In.au{b:Nat}(a:In h s t u)(e:h<=b):In b s t u:=⟨a.l,aE a.b (sR e _),a.n,a.m,a.p⟩
theorem In.i(e:Le s u)(a:In h u t y):In h s t y:=⟨aE a.l e.l,aE a.b (jp e.b _),aE a.n (ac8 _ e.n),aE a.m e.b,a.p⟩
theorem Ik.nil:Ik h 0 9 s [] s:=⟨b7<|(da _).trans<|da _,sR (dG h) _,b7<|da _,bF _,bl⟩
theorem Ik.le(a:Ik h d c s ks u)(e:Le u y):Ik h d c s ks y:=⟨aE (jp (jp e.l _) _) a.l,aE (jp e.b _) a.b,aE (jp (jp (ac8 _ e.n) _) _) a.n,aE e.b a.m,a.p⟩
theorem Ik.j(a:Ik h d c s ks u){b:Nat}(e:Nat.ble b c=true):Ik h d b s ks u:=⟨a.l,a.b,aE (jp (sR (Nat.le_of_ble_eq_true e) _) _) a.n,a.m,a.p⟩
theorem Ik.Ce(e:u.i.aq≠0)(n:fj ks+(c+5*u.ts.length)<=9+5*s.ts.length):fj ks+(c+5+5*u.j.ts.length)<=9+5*s.ts.length:=by
 rw[<-(yI e).n] at n;exact L1 n
theorem Ik.i(a:Ik h d c s ks u)(e:u.i.aq≠0):Ik h d (c+5) s ks u.j:=
 have b:=a.le eR
 ⟨b.l,b.b,Ce e a.n,b.m,b.p⟩
theorem Ik.lp(a:Ik h d c s ks u)(e:u.i.aq≠0)(q:rU u.i=I):Ik h (d+1) (c+5) s ks u.j:=
 have b:=a.le eR
 ⟨by have l:=a.l;rw[<-(yI e).l,q] at l;exact L1<|show _+(_+(_+1))<=_ from l,b.b,Ce e a.n,b.m,b.p⟩
theorem Ik.br(a:Ik (h+1) d c s ks u)(q:u.i.is 5 [91]=I):Ik h d (c+5) s ks u.j:=
 have b:=a.le eR
 ⟨b.l,by have l:=a.b;rw[<-(yI<|qw q J).b,show qu u.i=I from q] at l;exact L1<|show _+(_+1)<=_ from l,Ce (qw q J) a.n,b.m,b.p⟩
theorem Ik.sm(a:Ik h d c s ks u)(b:In h u t y):Ik h d (c+1) s (ks++[O t]) y:=by
 refine⟨?_,?_,?_,aE b.m a.m,?_⟩
 ·rw[eM kt Cb (λa=>(da a).symm)];exact L2 a.l b.l (by show(_+(_+0))+_+_<=_;simp+arith only)
 ·rw[eM ac9 HG (λa=>(EV a).symm)];refine(Nat.le_total (hO ks)<|hO [.some t]).elim (λe=>?_) λe=>?_
  ·rw[Nat.max_eq_right e,show hO [.some t]=_ from No _];exact L2 b.b a.m
  ·rw[Nat.max_eq_left e];exact L2 a.b b.m
 ·rw[eM kt HE (λa=>(da a).symm)];exact L2 a.n b.n (by show(_+(_+0))+_+_<=_;simp+arith only)
 ·rw[eM (λa b c=>propext and_assoc) (λo r=>propext<|Cc o r) (λa=>(true_and a).symm)];exact⟨a.p,b.p,bl⟩
theorem Ik.nn(a:Ik h d (c+1) s ks u):Ik h d c s (ks++[U]) u:=by
 refine⟨?_,?_,?_,a.m,?_⟩
 ·rw[eM kt Cb (λa=>(da a).symm)];exact a.l
 ·rw[eM ac9 HG (λa=>(EV a).symm)];exact vf (No _) a.b
 ·rw[eM kt HE (λa=>(da a).symm)];exact L1 a.n (by show(_+(0+1))+_+_<=_;simp+arith only)
 ·rw[eM (λa b c=>propext and_assoc) (λo r=>propext<|Cc o r) (λa=>(true_and a).symm)];exact⟨a.p,bl⟩
theorem Ik.eM{l:List T}(a:Ik h d c s (l.map ada) u)(b:In h u t y):Ik h d c s ((l++[t]).map ada) y:=by
 rw[dz]
 exact(a.sm b).j (Np.mpr (ey c))
theorem Ik.nd(a:Ik h d (c+11) s ks u)(x:List Nat)(f p:Int)(b:(if k=27∨k=98 then 1 else 0)<=d)(e:Ca k ks):In (h+1) s (.nd k x ks f p) u:=
 ⟨L2 b a.l (by show _+_+_+_<=_;simp+arith only),L1 a.b (by show _+1+_+_<=_;simp+arith only),L1 a.n (by show _+1+1+_+_<=_;simp+arith only),a.m,a.p,e⟩
theorem Cg(h:(yJ k).ble 1=I):Ca k ks:=⟨λe=>by rw[e] at h;exact bc h,λe=>e.elim (λe=>by rw[e] at h;exact bc h) λe=>by rw[e] at h;exact bc h,λe=>by rw[e] at h;exact bc h⟩
theorem Ik.gZ(a:Ik h d (c+11) s ks u)(x:List Nat)(f p:Int)(b:yJ k=0):In (h+1) s (.nd k x ks f p) u:=
 a.nd x f p (vf (a9 λe=>e.elim (λe=>by rw[e] at b;exact adb b) λe=>by rw[e] at b;exact adb b)<|dG _) (Cg<|vf b J)
end
theorem Po.ff{a:Type}{p q:PR a}{Q:a->Sg->Prop}(h:Po q Q):Po (if C=I then p else q) Q:=h
noncomputable def PI(part:bZ)(h:Nat):Prop:=∀k s,Po (part k s) (In h s)
noncomputable def nI(Q:T->Prop)(ks:List<|Option T):Prop:=∀o∈ks,∀t,o=O t->Q t
section
variable{part:bZ}{h i d c:Nat}{s eS j:Sg}{Q:T->Prop}{ks:List (Option T)}{t:T}{l:List T}
theorem nI.eM(a:nI Q<|l.map O)(q:Q t):nI Q ((l++[t]).map O):=by
 rw[dz];intro o b u e;refine(eV.mp b).elim (λb=>a o b u e) λb=>?_;rw[<-cT ((iw.mp b).symm.trans e)];exact q
theorem nI.nil:nI Q []:=λo h=>ax h eW
theorem HH{e:Sg->PR T}(k:∀s,Po (e s) λt j=>In h s t j/\Q t)(n:Nat):∀(b:List T) (s:Sg),Ik h d c eS (b.map O) s->nI Q (b.map O)->Po (jC x e n b s) λts j=>Ik h d c eS (ts.map O) j/\nI Q (ts.map O):=by
 induction n with
 |zero=>exactλf f f f=>dr
 |succ n m=>exactλb s g i=>Po.bz (λhs=>(k s.j).bd λt o a=>m _ o ((g.le eR).eM a.1)<|i.eM a.2) λhs=>⟨g,i⟩
theorem HI{e:Sg->PR T}(g:∀s,Po (e s) λt j=>In h s t j/\Q t)(n:Nat)(b:In h s t j)(q:Q t)(f:j.q x=I):Po (jC x e n [t] j) λts j=>Ik h 0 (4+11) s (ts.map O) j/\nI Q (ts.map O):=by
 induction n using fU with
 |zero=>exact dr
 |succ n=>exact Po.bz (λf=>(g j.j).bd λt i a=>HH g _ _ i (((Ik.nil.sm b).i<|qw f J).eM a.1)<|((nI.nil).eM (l:=[]) q).eM a.2) λk=>ax f k
theorem HJ{a:Type}{f:Sg->PR a}{R:a->Sg->Prop}(e:Po (f s.j) R):Po (tB s f) R:=Po.bz (λb=>dr) λb=>Po.c8 λb=>e
theorem Sy(e:PI part h)(a:Ik h d c eS [] s):Po (vx part s) λl j=>Ik h d c eS (l.map O) j:=
 Po.c8 λb=>(e 1 s.j).bd λt f ht=>(HH (λs=>(e 1 s).au λa j q=>⟨q,dr⟩) _ _ f ((a.le eR).eM (l:=[]) ht) λb b b b=>dr).bd λl i g=>HJ<|g.1.le eR
theorem Sz(n:Nat):∀(a:List Nat) (s:Sg),Po (mw n a s) λb j=>Le s j:=by
 induction n with
 |zero=>exactλb b=>dr
 |succ n f=>exactλa s=>Po.bz (λb=>Po.bz (λb=>Po.bz (λb=>(f _ _).au λb j e=>(eR.q eR).q e) λb=>dr) λb=>Po.b8) λb=>Le.refl
theorem SA(e:PI part h)(f:s.i.aq=1):Po (Bx part s) λt j=>In (h+1) s t j/\lf t:=
 have K:=Ik.nil.i (HD f)
 Po.bz (λb=>⟨K.gZ _ _ _ J,rW J⟩) λb=>Po.bz (λb=>dr) λb=>Po.bz (λb=>dr) λb=>
 Po.bd (Po.hV λb=>Po.bz (λb=>Sz 2 _ _) λb=>dr) λa i e1=>
 Po.bz (λb=>(Sy e<|K.le e1).bd λl k g=>⟨g.gZ _ _ _ J,rW J⟩) λb=>⟨(K.le e1).gZ _ _ _ J,rW J⟩
theorem SD(b:PI part h)(e:s.i.aq≠0)(f:rU s.i=I):Po (By part s) λt j=>In (h+1) s t j/\lf t:=
 (b 1 s.j).bd λt g a=>Po.c8 λq=>⟨Ik.nd (((Ik.nil.lp e f).sm a).le eR) _ _ _ (bF 1) ⟨λe=>ne e J,λe=>e.elim (λe=>ne e J) λe=>ne e J,λe=>⟨t,J⟩⟩,rW J⟩
theorem In.bO(a:In h s t j):Ik h 0 11 s t.bO j:=by
 obtain⟨k,x,ks,f,p⟩:=t;show Ik h 0 11 s ks j;exact⟨L1 a.l (by show _+_<=_+(_+_+_);simp+arith only),L1 a.b (by show _<=_+(_+1+_);simp+arith only),L1 a.n (by show _<=_+(_+1+1+_);simp+arith only),a.m,a.p.1⟩
theorem SE(g:PI part h)(s:Sg):Po (fA part s) λt j=>In (h+1) s t j/\lf t:=
 Po.bz (λf=>SA g f) λb=>Po.bz (λf=>Po.bz (λi=>SD g (λe=>f.elim (λh=>ne (h.symm.trans e) J) λh=>ne (h.symm.trans e) J)<|ed.mpr ⟨dH i,ju.mpr<|f.imp dH dH⟩) λb=>Po.bz (λb=>(g 9 s).bd λm k a=>⟨a.bO.gZ _ _ _ J,rW J⟩) λb=>Po.bz (λb=>dr) λb=>Po.b8) λb=>Po.bz (λb=>Po.b8) λb=>dr
theorem SF(m:PI part h)(n:Nat):∀(t:T) (s:Sg),In (h+1) eS t s->lf t->Po (my part n t s) λt j=>In (h+1) eS t j/\lf t:=by
 induction n with
 |zero=>exactλt s a f=>Po.bz (λg=>dr) λg=>⟨a,f⟩
 |succ n k=>
  refineλt s a f=>Po.bz (λhb=>?_) λg=>⟨a,f⟩;have K:=(Ik.nil.sm a).br (ed.mp hb).1;exact Po.cM (λq=>k _ _ ((K.le eR).nd _ _ _ (bF 0) ⟨λe=>ne e J,λe=>nI.nil.eM (l:=[]) f,λe=>ne e J⟩)<|rW J)
   ((m 1 s.j).bd λi o b=>Po.c8 λq=>k _ _ (((K.sm b).le eR).gZ _ _ _ J)<|rW J)
theorem HL(b:PI part h)(s:Sg):Po (mz part s) λt j=>In (h+1) s t j/\lf t:=(SE b s).bd λt e a=>SF b 60 t e a.1 a.2
theorem HM(f:PI part h)(s:Sg):Po (j0 part s) λt j=>In (h+2) s t j/\nF t:=
 Po.i λg i e=>(HL f i).bd λt k a=>Po.bz (λhs=>(HI (HL f) _ (a.1.i e) a.2 hs).bd λl m b=>⟨b.1.nd _ _ _ (bF 0) ⟨λe=>ne e J,λe=>b.2,λe=>ne e J⟩,λe=>ne e J,λe=>ne e J⟩) λg=>⟨(a.1.i e).au<|ey _,Sw a.2⟩
theorem SG(f:PI part h)(s:Sg):Po (rJ part s) (In (h+3) s):=
 Po.i λg i e=>(HM f i).bd λt j a=>Po.bz (λhs=>(HI (HM f) _ (a.1.i e) a.2 hs).bd λl k b=>b.1.nd _ _ _ (bF 0) ⟨λe=>b.2,λe=>e.elim (λe=>ne e J) λe=>ne e J,λe=>ne e J⟩) λg=>(a.1.i e).au<|ey _
theorem Ch(e:PI part h)(f:h<=i)(k:Nat)(a:Ik i d (c+1) eS ks s):Po (gG part k s) λo j=>Ik i d c eS (ks++[o]) j:=
 Po.cM (λg=>(e k s.j).bd λt m b=>((a.le eR).sm<|b.au f).j<|Np.mpr<|d8 c 2) a.nn
theorem Ik.ns(a:Ik h d c eS ks s)(b:List Int):Ik h d c eS ks ⟨s.ts,b⟩:=⟨a.l,a.b,a.n,a.m,a.p⟩
theorem HN(m:PI part h)(s:Sg):Po (pa part s) (In (h+1) s):=by
 refine Po.bz (λk=>Po.b8) λk=>?_;have i:∀o j a f p,Ik h 0 13 s [o] j->Po (cM 5 [61] j λb s=>if b then(part 1 s).bd λg s=>.ok (T.nd 100 a [o,O g] f p) s else PR.ok (T.nd 100 a [o,U] f p) s) (In (h+1) s):=λo j a f p K=>
  Po.cM (λk=>(m 1 j.j).bd λg r b=>((K.le eR).sm b).gZ _ _ _ J) ((K.nn).gZ _ _ _ J)
 exact Po.i λb u e=>Po.hV λq=>Po.lK λns=>
  have K:=((Ik.nil.le<|e.q .bz).i<|HD q).ns ns
  Po.cM (λk=>(m 1 _).bd λt j b=>i (O t) j _ _ _<|((K.le eR).sm b).j J) (i U _ _ _ _<|K.nn)
theorem SH(k:PI part h)(n:Nat):∀(f:List T) (s:Sg),Ik (h+1) d c eS (f.map O) s->Po (lL part n f s) λl j=>Ik (h+1) d c eS (l.map O) j:=by
 induction n with
 |zero=>exactλg g g=>dr
 |succ n m=>
  exactλf s i=>Po.i λb o e=>Po.bz (λg=>(HN k o).bd λt p a=>m _ _<|(i.le e).eM a) λg=>i.le e
theorem HO(e:PI part h)(a:Ik (h+2) d (c+1) eS ks s):Po (k4 part s) λo j=>Ik (h+2) d c eS (ks++[o]) j:=by
 delta k4;exact Po.cM (λq=>(HN e s.j).bd λt f b=>(SH e _ _ _<|(Ik.nil.i<|qw q J).eM (l:=[]) b).bd λl g b=>HJ<|(a.sm<|(b.le eR).gZ _ _ _ J).j<|Np.mpr<|d8 c 2) a.nn
theorem Ik.c7(e:Le s j)(f:j.i.aq≠0)(g:1<=h)(x:List Nat)(p:Int):Ik h 0 13 s [O (c7 8 x p)] j.j:=by
 have a:=(Ik.nil (h:=h)).le e;have b:=a.i f;exact⟨L1 b.l (by show 0+0+0+_+_<=_+(0+_);simp+arith only),L2 g b.m (by show 1+_+_<=_;simp+arith only),L1 b.n (by show(0+1+0)+_+_<=_+(0+_);simp+arith only),b.m,⟨⟨bl,Cg J⟩,bl⟩⟩
theorem HP{t:aj}(a:t.u=I):t.aq≠0:=λe=>
 (ju.mp a).elim (λh=>ne ((D h).symm.trans e) J) λh=>ne ((pq h).1.symm.trans e) J
theorem SI(g:PI part h)(i:1<=h)(s:Sg):Po (pc part s) (In (h+1) s):=by
 delta pc;exact Po.i λb f e=>Po.bz (λj=>(Ch g (bF h) 1<|(Ik.c7 e (HP j) i f.i.aP f.i.aJ).le .bz).bd λk m a=>(a.nn).gZ _ _ _ J) λo=>dr
theorem SJ(g:PI part h)(i:1<=h)(n:Nat):∀(b:List T) (s:Sg),Ik (h+1) d c eS (b.map O) s->Po (rL part n b s) λl j=>Ik (h+1) d c eS (l.map O) j:=by
 induction n with
 |zero=>exactλe e e=>dr
 |succ n k=>exactλb s f=>Po.bz (λe=>f) λe=>(SI g i s).bd λt m a=>Po.cM (λe=>Po.lK λns=>k _ _<|((f.eM a).le eR).ns ns)<|f.eM a
theorem HQ(e:PI part h)(f:1<=h)(a:Ik (h+2) d c eS ks s):Po (pd part s) λt j=>Ik (h+2) (d+1) (c+5+1) eS (ks++[O t]) j:=by
 delta pd;exact Po.c8 λq=>(SJ e f _ _ _<|Ik.nil).bd λl k b=>Po.c8 λg=>Po.bz (λi=>((a.lp (qw q J)<|ed.mpr ⟨dH (pq q).2,ju.mpr<|.inl<|dH (pq q).1⟩).sm<|(b.i<|qw g J).gZ _ _ _ J).ns _) λi=>dr
theorem Ik.f8{o r:Option T}(K:Ik (h+2) 1 (c+12) s [o,O a,r] j)(x:List Nat)(f p:Int):In (h+3) s (.nd 27 x [o,O a,r,U] f p) j:=
 (K.nn).nd _ _ _ (bF 1)<|Cg J
theorem Ci(e:PI part h)(f:1<=h)(a:List Nat)(fl p:Int)(s:Sg):Po (f8 part a fl p s) (In (h+3) s):=
 (HO e Ik.nil).bd λg i A=>(HQ e f A).bd λps j B=>(Ch e (d8 h 2) 11 B).bd λr k b=>Ik.f8 b _ _ _
theorem HR(f:PI part h)(i:1<=h)(s:Sg):Po (j1 part s) (In (h+3) s):=
 Po.bz (λg=>by
  delta rM;exact Po.i λb j e=>(HO f<|Ik.nil.le e).bd λm j A=>(HQ f i A).bd λps k B=>Po.c8 λg=>(f 11 k.j).bd λr o a=>Ik.f8 ((B.le eR).sm<|a.au<|d8 h 2) _ _ _) λg=>SG f s
theorem HS(e:PI part h)(s:Sg):Po (am part s) (In (h+1) s):=by
 have base:=(e 1 s).au λt j a=>a.au<|ey h;refine Po.bz (λb=>base) λf=>?_;have K:Ik h 0 14 s [] s.j:=Ik.nil.i<|HP (by simp at f;exact f.2);have K:=K.le eR;exact Po.bz (λb=>(e 1 s.j.j).bd λk g a=>(K.sm a).gZ _ _ _ rfl) λb=>Po.bz (λb=>base) λb=>Po.cM (λb=>(e 1 s.j.j.j).bd λk g a=>((K.le eR).sm a).gZ _ _ _ rfl)<|Po.ff<|Po.bz (λb=>Po.b8) λb=>(K.nn).gZ _ _ _ rfl
theorem SM{t:aj}(h:t.i=I):t.aq≠0:=λe=>by
 unfold aj.i at h;rw[e] at h;exact bc h
theorem SN(e:PI part h)(f:1<=h)(fl:Int)(s:Sg):Po (tC part fl s) (In (h+3) s):=by
 refine Po.bz (λg=>?_) λb=>Po.bz (λb=>dr) λb=>Po.b8;exact Po.bz (λb=>(Ci e f _ _ _ _).au λt j a=>a.i<|eR.q .bz) λb=>(Ch e (d8 h 2) 1<|(Ik.nil.i<|SM g).le .bz).bd λk i a=>a.gZ _ _ _ J
theorem SO(f:PI part h)(g:1<=h)(s:Sg):Po (lM part s) (In (h+3) s):=by
 delta lM
 dsimp only
 refine Po.bz (λb=>Ci f g _ _ _ _) λb=>Po.bz (λb=>(Ci f g _ _ _ _).au λt j a=>a.i eR) λb=>?_;have e:Le s (if(s.y fL&&((s.u 1).j&& !(s.u 1).cC))=I then s.j else s):=.bz;revert e;generalize(if(s.y fL&&((s.u 1).j&& !(s.u 1).cC))=I then s.j else s)=i;intro e;exact Po.bz (λb=>Po.c8 λq=>Po.hV λb=>Po.c8 λb=>(f 1 _).bd λk m A=>Po.c8 λb=>Po.c8 λb=>(f 1 _).bd λv o B=>((((((((Ik.nil.le e).i<|qw q J).le eR).le eR).sm A).le eR).le eR).sm B|>.gZ _ _ _ J).au<|d8 _ 2) λb=>Po.bz (λb=>Po.b8) λb=>(SN f g _ _).au λt j a=>a.i e
theorem SP(i:PI part h)(k:1<=h)(n:Nat):∀(e:List T) (s:Sg),Ik (h+3) d c eS (e.map some) s->Po (nq part n e s) λl j=>Ik (h+3) d c eS (l.map some) j:=by
 induction n with
 |zero=>exactλb b b=>dr
 |succ n g=>exactλe s f=>Po.bz (λb=>f) λb=>(SO i k s).bd λt m a=>Po.cM (λb=>g _ _<|(f.eM a).le eR)<|Po.ff<|Po.cM (λb=>g _ _<|(f.eM a).le eR)<|Po.ff<|Po.bz (λb=>g _ _<|f.eM a) λb=>Po.b8
theorem Cj(b:PI part h)(e:1<=h)(s:Sg):Po (gI part s) (In (h+4) s):=by
 delta gI;exact Po.c8 λq=>(SP b e _ _ _<|Ik.nil.i<|qw q J).bd λl f a=>(a.le eR).gZ _ _ _ J
end
theorem yK(f:Nat):PI (be f) (4*f+1):=by
 induction f with
 |zero=>exactλb b=>dr
 |succ f e=>
  intro k s;have g:∀p:PR T,Po p (In (4*f+1+4) s)->Po (p.bd λt s=>if ht t<=150/\sz t<=4000000 then .ok t s else .j) (In (4*(f+1)+1) s):=λp hp=>
   hp.bd λt j a=>Po.bz (λb=>a.au<|by simp+arith only) λb=>dr
  apply g;split
  ·exact(HR e (hG ..) s).au λt j a=>a.au<|ey _
  ·exact Cj e (hG ..) s
  ·exact(HS e s).au λt j a=>a.au<|d8 _ 3
  ·exact dr
structure W where
 k:Int
 x:List Nat
 w:List Nat
 l:Bool
 o:Bool
noncomputable def sg(x:List Nat):W:=⟨5,x,x,C,C⟩
noncomputable def nm(x:List Nat):W:=⟨1,x,x,C,C⟩
noncomputable def wd(x:List Nat):W:=⟨2,x,x,C,C⟩
noncomputable def nu(x:List Nat):W:=⟨3,x,x,C,C⟩
noncomputable def st(x w:List Nat):W:=⟨4,x,w,C,C⟩
noncomputable def sp:W:=⟨9,[32],[32],C,C⟩
noncomputable def pt:W:=⟨5,[40],[40],C,I⟩
noncomputable def tk:List W->List aj->List Int->Prop
 |[],u,os=>u=[]/\os=[]
 |w::d,u,os=>if w.k=9 then tk d u os else∃n p e g c,u=⟨w.k,w.x,n,p,e,w.l⟩::g/\os=(if w.o then p::c else c)/\tk d g c
theorem pu{w:W}(q:w.k=9):tk (w::c)=tk c:=by funext u os;exact aN q
theorem mG{w:W}{u:List aj}(q:¬w.k=9):tk (w::d) u g=∃n p e h c,u=⟨w.k,w.x,n,p,e,w.l⟩::h/\g=(if w.o then p::c else c)/\tk d h c:=a9 q
theorem yL{w:W}{u:List aj}{n p e:Int}(q:¬w.k=9)(h:tk d u c):tk (w::d) (⟨w.k,w.x,n,p,e,w.l⟩::u) (if w.o then p::c else c):=by
 rw[mG q];exact vd n p e u c J J h
@[elab_as_elim] theorem tW{w:W}{u:List aj}{F:List aj->List Int->Prop}(h:tk (w::j) u d)(l:w.k=9->tk j u d->F u d)(o:∀n p e g c,¬w.k=9->tk j g c->F (⟨w.k,w.x,n,p,e,w.l⟩::g) (if w.o then p::c else c)):F u d:=by
 by_cases q:w.k=9
 ·rw[pu q] at h;exact l q h
 ·rw[mG q] at h;clear l;refine lB h ?_;clear h;rintro n p e g c rfl rfl h;exact o n p e g c q h
inductive SQ(a b:List W)(u:List aj)(os:List Int):Prop
 |mk (u1 u2:List aj) (o1 o2:List Int) (e1:u=u1++u2) (e2:os=o1++o2) (h1:tk a u1 o1) (h2:tk b u2 o2)
theorem vT{a b:List W}{u:List aj}(h:tk (a++b) u c):SQ a b u c:=by
 induction a generalizing u c with
 |nil=>exact⟨[],u,[],c,J,J,⟨J,J⟩,h⟩
 |cons w a l=>
  replace h:tk (w::(a++b)) u c:=h;refine tW h (λq h=>?_) λn p e A z q h=>?_
  ·obtain⟨o,d,o1,g,e1,e2,j,h2⟩:=l h;exact⟨o,d,o1,g,e1,e2,by rw[pu q];exact j,h2⟩
  ·obtain⟨o,d,o1,g,rfl,rfl,j,h2⟩:=l h;exact⟨_,d,_,g,J,by cases w.o<;>rfl,yL q j,h2⟩
theorem SS{u:List aj}(h:tk (sp::c) u d):tk c u d:=h
theorem Ck{x:List Nat}{u:List aj}(h:tk (sg x::d) u g):∃n p e c,u=⟨5,x,n,p,e,C⟩::c/\tk d c g:=
 tW h (λq j=>ax q (by show¬(5:Int)=9;decide)) λn p e c j j h=>OP n p e c J h
theorem mH{u:List aj}(h:tk [] u c):u=[]/\c=[]:=h
structure Pc where
 n:Int
 p:Int
 e:Int
noncomputable def W.t(w:W)(q:Pc):aj:=⟨w.k,w.x,q.n,q.p,q.e,w.l⟩
noncomputable def eE(c:List aj):Prop:=c.length<=490000/\cb c<=49
noncomputable abbrev Px:={f:List aj->List aj//∀r,r.length<=(f r).length/\cb r<=cb (f r)}
noncomputable def Nl:Px:=⟨λr=>r,λr=>⟨bF _,bF _⟩⟩
theorem SU(t:aj)(r:List aj):cb r<=cb (t::r):=by rw[rV];exact d8 ..
noncomputable def Cn(t:aj)(u:Px):Px:=⟨λr=>t::u.1 r,λr=>⟨f1 (u.2 r).1,aE (u.2 r).2<|SU ..⟩⟩
noncomputable def Ap(u v:Px):Px:=⟨λr=>u.1<|v.1 r,λr=>⟨aE (v.2 r).1 (u.2 _).1,aE (v.2 r).2 (u.2 _).2⟩⟩
section
variable(G:Nat->Pc)
noncomputable def bU:List W->Nat->Px
 |[],_=>Nl
 |w::c,i=>cond (decide (w.k=9)) (bU c<|i+1)<|Cn (w.t<|G i)<|bU c<|i+1
noncomputable def cq:List W->Nat->List Int
 |[],_=>[]
 |w::c,i=>cond (decide (w.k=9)) (cq c<|i+1)<|cond w.o ((G i).p::cq c (i+1))<|cq c<|i+1
end
section
variable{G:Nat->Pc}{a b:List W}{i:Nat}{u v:Px}{t:aj}
theorem xA:bU G (a++b) i=Ap (bU G a i) (bU G b<|i+a.length):=by
 induction a generalizing i with
 |nil=>rfl
 |cons w a c=>
  have e:i+1+a.length=i+(a.length+1):=adc ..;show cond _ (bU G (a++b)<|i+1) (Cn _<|bU G (a++b)<|i+1)=Ap (cond _ (bU G a<|i+1)<|Cn _<|bU G a<|i+1) (bU G b<|i+(a.length+1));rw[c,e]
  cases decide (w.k=9)<;>rfl
theorem oA:cq G (a++b) i=cq G a i++cq G b (i+a.length):=by
 induction a generalizing i with
 |nil=>rfl
 |cons w a c=>
  have e:i+1+a.length=i+(a.length+1):=adc ..;show cond _ (cq G (a++b)<|i+1) (cond _ (_::cq G (a++b) (i+1))<|cq G (a++b)<|i+1)=cond _ (cq G a<|i+1) (cond _ (_::cq G a (i+1))<|cq G a<|i+1)++cq G b (i+(a.length+1));rw[c,e]
  cases decide (w.k=9)<;>cases w.o<;>rfl
theorem xC(h:u=v):Cn t u=Cn t v:=h▸J
theorem xR(h:u=v):Ap w u=Ap w v:=h▸J
theorem pz{r:List aj}(h:eE<|u.1 r):eE r:=⟨aE (u.2 r).1 h.1,aE (u.2 r).2 h.2⟩
theorem lA(u:Px){r:List aj}(h:eE<|u.1<|t::r):eE r:=pz (u:=Ap u<|Cn t Nl) h
theorem eE.tl{r:List aj}(h:eE<|t::r):eE r:=pz (u:=Cn t Nl) h
end
noncomputable def Rs{B:Type}(b:Bool)(p:PR B)(Q:B->Sg->Prop):Prop:=match p with
 |.ok a s=>Q a s
 |.d9 _=>b=I
 |.j=>False
noncomputable def vU:List (List Nat):=[[41],[93],[62],[44],[59],[125],[61]]
noncomputable def SV(x:aj):Bool:=cond x.cC (!decide (x.aq=5)||decide (x.aP=[91]))<|decide (x.aq=5)&&vU.contains x.aP
noncomputable def Fk(x:aj):Prop:=SV x=I
noncomputable def Fy(y:List Nat)(x:aj):Prop:=Fk x/\(x.cC=I->y≠f3/\y≠gs/\(y=dO->x.aP≠eY))
noncomputable def Cl(x:aj):Prop:=Fk x/\x.cC=C
noncomputable def rX(t:List Nat):Bool:=decide (t=fz)||decide (t=[91])
noncomputable def Sk(s:Sg):Prop:=∃x r,s=⟨x::r,[]⟩/\(x.cC=C/\x.aq=5)/\rX x.aP=I
noncomputable def jG{B:Type}(b:Bool)(Q:B->Prop)(x:aj)(r:List aj)(t:B)(s:Sg):Prop:=(Q t/\s=⟨x::r,[]⟩)∨(b=I/\Sk s)
noncomputable def Rx{B:Type}(b:Bool)(p:Sg->PR B)(F:aj->Prop)(u:Px)(Q:B->Prop):Prop:=∀x r,F x->eE (u.1<|x::r)->Rs b (p ⟨u.1<|x::r,[]⟩) λt s=>Q t/\s=⟨x::r,[]⟩
noncomputable def Rd{B:Type}(b:Bool)(p:Sg->PR B)(F:aj->Prop)(u:Px)(Q:B->Prop):Prop:=∀x r,F x->eE (u.1<|x::r)->Rs b (p ⟨u.1<|x::r,[]⟩) (jG b Q x r)
section
variable{B N X:Type}{b:Bool}{Q:B->Prop}{R:B->Sg->Prop}{M:N->Sg->Prop}{s:Sg}{k:Int}{x:List Nat}{p Y:PR B}{f:B->Sg->PR N}{F F':aj->Prop}{t:aj}{r:List aj}{u:Px}{m:Sg->PR B}
theorem Rs.bd(h:Rs b p R)(g:∀a s,R a s->Rs b (f a s) M):Rs b (p.bd f) M:=by
 induction p using PR.casesOn with
 |ok a s=>exact g a s h
 |d9 ns=>exact h
 |j=>exact h
theorem Rs.au{c:B->Sg->Prop}(h:Rs b p R)(g:∀a s,R a s->c a s):Rs b p c:=by
 induction p using PR.casesOn with
 |ok a s=>exact g a s h
 |d9 ns=>exact h
 |j=>exact h
theorem yM(p:PR B)(f:B->Sg->PR N)(g:N->Sg->PR X):(p.bd f).bd g=p.bd λa s=>(f a s).bd g:=by cases p<;>rfl
theorem Rs.L{M:X->Sg->Prop}(h:Rs b (p.bd λa s=>(f a s).bd g) M):Rs b ((p.bd f).bd g) M:=by rw[yM];exact h
theorem Rs.eq(e:p=Y)(h:Rs b (Y.bd f) M):Rs b (p.bd f) M:=e▸h
theorem jG.bd(h:Rs b p<|jG b Q t r)(g:∀a,Q a->Rs b (f a ⟨t::r,[]⟩) M)(c:∀a s,b=I->Sk s->Rs b (f a s) M):Rs b (p.bd f) M:=h.bd λa s h=>h.elim (λh=>h.2▸g a h.1) λh=>c a s h.1 h.2
theorem jG.yM{g:N->Sg->PR X}{Q:N->Prop}{M:X->Sg->Prop}(h:Rs b (p.bd f)<|jG b Q t r)(k:∀a,Q a->Rs b (g a ⟨t::r,[]⟩) M)(c:∀a s,b=I->Sk s->Rs b (g a s) M):Rs b (p.bd λa s=>(f a s).bd g) M:=by rw[<-Mine.yM];exact jG.bd h k c
theorem Rd.nx(h:Rd b m F u Q)(c:F t)(d:eE<|u.1<|t::r)(g:∀a,Q a->Rs b (f a ⟨t::r,[]⟩) M)(e:∀a s,b=I->Sk s->Rs b (f a s) M):Rs b ((m ⟨u.1<|t::r,[]⟩).bd f) M:=jG.bd (h t r c d) g e
theorem Rx.nx(h:Rx b m F u Q)(c:F t)(d:eE<|u.1<|t::r)(g:∀a,Q a->Rs b (f a ⟨t::r,[]⟩) M):Rs b ((m ⟨u.1<|t::r,[]⟩).bd f) M:=(h t r c d).bd λa s h=>h.2▸g a h.1
theorem Rd.au{c:B->Prop}(h:Rd b m F u Q)(g:∀a,Q a->c a):Rd b m F u c:=λx r d e=>(h x r d e).au λt s hs=>hs.imp (λa=>⟨g t a.1,a.2⟩) id
theorem Rd.of(h:Rd b m F u Q)(g:∀x,F' x->F x):Rd b m F' u Q:=λx r c=>h x r<|g x c
theorem Rx.au{c:B->Prop}(h:Rx b m F u Q)(g:∀a,Q a->c a):Rx b m F u c:=λx r d e=>(h x r d e).au λt s hs=>⟨g t hs.1,hs.2⟩
theorem Rs.iT{p q:PR B}(h:c=I)(g:Rs b p R):Rs b (if c=I then p else q) R:=by rw[aN h];exact g
theorem Rs.j{p q:PR B}(h:c=C)(g:Rs b q R):Rs b (if c=I then p else q) R:=by rw[h];exact g
theorem Rs.q{f:Bool->Sg->PR B}(h:s.i.is k x=C)(g:Rs b (f C s) R):Rs b (cM k x s f) R:=Rs.j h g
theorem Rs.b8{n:Int}(c:b=I)(h:s.ns=[]):Rs b (b8 n s:PR B) R:=by
 unfold Mine.b8;rw[h];exact c
theorem pF{x:aj}{k:Int}{t:List Nat}(h:x.aP≠t):x.is k t=false:=by unfold aj.is;rw[dT h,mX]
theorem vV{x:aj}{k:Int}{t:List Nat}(h:x.aq≠k):x.is k t=false:=by unfold aj.is;rw[dT h];rfl
theorem Sk.is(h:Sk s)(g:rX x=C):s.i.is k x=false:=by
 refine cV h ?_;rintro t r rfl _ e;exact pF (x:=t) λq=>by rw[q,g] at e;exact bc e
theorem Sk.ns(h:Sk s):s.ns=[]:=cV h λt r e c c=>e▸J
theorem Rs.yN{f:Sg->PR B}(c:b=I)(h:Sk s)(g:rX x=C):Rs b (c8 x s f) R:=Rs.j (h.is g)<|.b8 c h.ns
theorem Rs.yO{f:Bool->Sg->PR B}(h:Sk s)(g:rX x=C)(q:Rs b (f C s) R):Rs b (cM k x s f) R:=.q (h.is g) q
end
section
variable{x:aj}{t y:List Nat}
theorem Fk.is(h:Fk x)(g:(vU.contains t||decide (t=[91]))=C):x.is 5 t=false:=by
 cases e:x.is 5 t with
 |false=>rfl
 |true=>
  replace h:cond x.cC (!decide (x.aq=5)||decide (x.aP=[91])) (decide (x.aq=5)&&vU.contains x.aP)=true:=h;rw[(pq e).1,(pq e).2,(kn.mp g).1,(kn.mp g).2] at h;revert h;cases x.cC<;>exactλh=>bc h
theorem Fk.cs(h:Fk x):x.cC=I∨x.cC=C/\x.aq=5/\vU.contains x.aP=true:=by
 cases e:x.cC with
 |true=>exact .inl J
 |false=>
  replace h:cond x.cC (!decide (x.aq=5)||decide (x.aP=[91])) (decide (x.aq=5)&&vU.contains x.aP)=true:=h;rw[e] at h;have h:=ed.mp h;exact .inr ⟨J,D h.1,h.2⟩
theorem Fk.br(h:Fk x):(x.is 5 [91]&& !x.cC)=false:=by
 refine h.cs.elim (λe=>by rw[e];exact mX _) λe=>?_;rw[pF λq=>by rw[q] at e;exact bc e.2.2];rfl
theorem Cl.j(h:Cl x):Fy y x:=⟨h.1,λe=>bc<|h.2.symm.trans e⟩
noncomputable def yP(x:aj):Prop:=x.is 5 [46]=C/\(x.is 5 [60]&& !x.cC)=C
theorem Fk.at(h:Fk x):yP x:=⟨h.is J,by rw[h.is J];rfl⟩
noncomputable def NH(x:aj):Prop:=yP x/\(x.is 5 [91]&& !x.cC)=C
noncomputable def NI(x:aj):Prop:=NH x/\x.is 5 [38]=C
noncomputable def NU(x:aj):Prop:=NI x/\x.is 5 [124]=C
theorem Fk.nu(h:Fk x):NU x:=⟨⟨⟨h.at,h.br⟩,h.is J⟩,h.is J⟩
theorem Fy.q(h:Fy dO x):x.is 1 eY=false:=h.1.cs.elim (λe=>pF<|(h.2 e).2.2 J) λe=>vV (by rw[e.2.1];decide)
theorem Fy.f8(h:Fy y x):x.q=false:=by
 unfold aj.q;rw[h.1.is J,h.1.is J];rfl
theorem Fy.j(h:Fy y x):(x.j&& !x.cC)=C/\(y=f3∨y=gs->x.j=C):=by
 refine h.1.cs.elim (λe=>⟨by rw[e];exact mX _,λg=>g.elim (λg=>ax g (h.2 e).1) λg=>ax g (h.2 e).2.1⟩) λe=>?_;have:x.j=false:=by
  unfold aj.j aj.i;rw[e.2.1,pF λq=>by rw[q] at e;exact bc e.2.2];rfl
 rw[this];exact⟨J,λc=>J⟩
end
theorem Rs.Cm{b:Bool}{f:Nat}{p:Sg->PR T}{s:Sg}{R:T->Sg->Prop}(l:f+1<=16)(c:eE s.ts)(h:Rs b (p s) R)(d:Po (p s)<|In (4*f+5) s):Rs b ((p s).bd λt s=>if ht t<=150/\sz t<=4000000 then .ok t s else .j) R:=by
 generalize p s=z at h d
 induction z using PR.casesOn with
 |ok t e=>
  refine dn λg=>?_;obtain⟨o,q,w,A,B⟩:=d;refine g ?_;show Rs b (if ht t<=150/\sz t<=4000000 then .ok t e else .j) R;rw[aN ⟨by have:=c.2;lia,by have:=c.1;lia⟩];exact h
 |d9 ns=>exact h
 |j=>exact h
section
variable{b:Bool}{f:Nat}{u:Px}{F:aj->Prop}{Q:T->Prop}
theorem Rd.q(d:f+1<=16)(h:Rd b (j1<|be f) F u Q):Rd b (be (f+1) 1) F u Q:=λx r e c=>
 Rs.Cm d c (h x r e c) ((HR (yK f) (by simp+arith only) _).au λt g a=>a.au<|by simp+arith only)
theorem Rd.j(d:f+1<=16)(h:Rd b (am<|be f) F u Q):Rd b (be (f+1) 11) F u Q:=λx r e c=>
 Rs.Cm d c (h x r e c) ((HS (yK f) _).au λt g a=>a.au<|by simp+arith only)
theorem Rx.j(d:f+1<=16)(h:Rx b (gI<|be f) F u Q):Rx b (be (f+1) 9) F u Q:=λx r e c=>
 Rs.Cm d c (h x r e c) (Cj (yK f) (by simp+arith only) _)
end
noncomputable def iC:List (List Nat):=[[65],[66],[84],eY,rj]
noncomputable def d7(a:List Nat):List W:=if a=gF then[nm [69],sg [46],wd f2] else[nm a]
noncomputable def hZ:List (List Nat):=[[84],fd,[85,50]]
noncomputable abbrev nJ(b:Bool)(part:bZ)(u:Px)(Q:T->Prop):Prop:=Rx b (fA part) yP u Q
theorem mc{P:List Nat->Prop}{a x:List Nat}(h:a∈x::l)(c:P x)(k:a∈l->P a):P a:=(d4.mp h).elim (λe=>e▸c) k
theorem HT{P:List Nat->Prop}{a:List Nat}(h:a∈iC∨a=gF)(c:P [65])(d:P [66])(f:P [84])(h4:P eY)(h5:P rj)(h6:P gF):P a:=
 h.elim (λh=>mc h c λh=>mc h d λh=>mc h f λh=>mc h h4 λh=>mc h h5 λh=>ax h eW) λe=>e▸h6
theorem Co{P:List Nat->Prop}{a:List Nat}(h:a∈hZ)(c:P [84])(d:P fd)(e:P [85,50]):P a:=mc h c λh=>mc h d λh=>mc h e λh=>ax h eW
section
variable{b:Bool}{part:bZ}{u v:Px}{Q Q1 M F:T->Prop}{j:Nat->Pc}{i:Nat}{q y X Y q3 q4 G q6 N q8 B q0:Pc}{a:List Nat}{x:aj}{r:List aj}
theorem SW(h:o8.contains a=I)(g:Q<|c7 80 a q.p):nJ b part (Cn ((nm a).t q) Nl) Q:=λx r c c=>Rs.iT h ⟨g,J⟩
noncomputable def vW(part:bZ)(a:List Nat)(p:Int)(s:Sg):PR T:=if s.q [60]&& !s.i.cC then(vx part s).bd λl s=>.ok (aK 81 a l p) s else .ok (aK 81 a [] p) s
theorem vX(e:fA part ⟨(nm a).t q::x::r,[]⟩=(mw 2 a ⟨x::r,[]⟩).bd λa s=>vW part a q.p s)(h:x.is 5 [46]=C):fA part ⟨(nm a).t q::x::r,[]⟩=vW part a q.p ⟨x::r,[]⟩:=by
 rw[e,show mw 2 a ⟨x::r,[]⟩=.ok a ⟨x::r,[]⟩ from a9 (by rw[show(Sg.mk (x::r) []).q [46]=C from h];exact sS)];rfl
theorem HU(c:a∈iC∨a=gF)(h:x.is 5 [46]=C):fA part ⟨(bU j (d7 a) i).1<|x::r,[]⟩=vW part a (j i).p ⟨x::r,[]⟩:=by
 refine HT (P:=λa=>fA part ⟨(bU j (d7 a) i).1<|x::r,[]⟩=vW part a (j i).p ⟨x::r,[]⟩) c (vX J h) (vX J h) (vX J h) (vX J h) (vX J h) ?_;have e:mw 1 gF ⟨x::r,[]⟩=.ok gF ⟨x::r,[]⟩:=a9 (by rw[show(Sg.mk (x::r) []).q [46]=C from h];exact sS);show(mw 1 gF ⟨x::r,[]⟩).bd (λa s=>vW part a (j i).p s)=_;rw[e];rfl
theorem SX(d:a∈iC∨a=gF)(g:∀p,Q<|aK 81 a [] p):nJ b part (bU j (d7 a) i) Q:=λx r c e=>by
 rw[HU d c.1];exact Rs.j c.2 ⟨g _,J⟩
noncomputable def qx(b:Bool)(d:Sg->PR T)(c:List Nat)(F:aj->Prop)(u:Px)(Q:List T->Prop):Prop:=∀x r (N:Sg->Nat) e (R:List T->Prop),(∀ts,Q ts->R (e++ts))->F x->x.is 5 c=C->eE (u.1<|x::r)->(∀s,1<=N s)->(∀s,s.ts.length<=(u.1<|x::r).length->s.ts.length<=N s)->
 Rs b ((d ⟨u.1<|x::r,[]⟩).bd λt s=>jC c d (N s) (e++[t]) s) (jG b R x r)
theorem tX{e:List T}{s:Sg}{R:List T->Sg->Prop}(f:1<=n)(h:s.q c=C)(g:R e s):Rs b (jC c d n e s) R:=by
 induction n using fU with
 |zero=>exact ax f<|km _
 |succ n=>exact Rs.j h g
theorem HV{F e:aj->Prop}{f:List T->Prop}(j:rX c=C)(h:Rd b d e u Q)(l:∀x,F x->e x)(g:∀t,Q t->f [t]):qx b d c F u f:=λx r N m R k o hs p n1 w=>
 h.nx (l x o) p (λt q=>tX (n1 _) hs<|.inl ⟨k _<|g t q,J⟩) λt s hb hs=>tX (n1 _) (hs.is j)<|.inr ⟨hb,hs⟩
theorem HW{F l:aj->Prop}{m f:List T->Prop}(y:rX c=C)(h:Rd b d l u Q)(A:l<|(sg c).t q)(B:qx b d c F v m)(g:∀t ts,Q t->m ts->f (t::ts)):qx b d c F (Ap u<|Cn ((sg c).t q) v) f:=λx r N j R k G hs o n1 H=>
 h.nx A o (λt z=>by
  have e:N ⟨(sg c).t q::v.1 (x::r),[]⟩=(N ⟨(sg c).t q::v.1 (x::r),[]⟩-1)+1:=(As<|n1 _).symm;have p:=aE (H ⟨(sg c).t q::v.1 (x::r),[]⟩ (u.2 _).1)<|b7 e;rw[e];refine Rs.iT (ed.mpr ⟨J,dH J⟩)<|B x r (λL=>N ⟨(sg c).t q::v.1 (x::r),[]⟩-1) (j++[t]) R (λts w=>b6 .. ▸k _ (g t ts z w)) G hs (lA u o) (λL=>?_) λs hs=>?_
  ·exact aE (aE (gp<|dG _) (v.2<|x::r).1)<|jr p
  ·exact aE hs<|jr p) λt s hb hs=>tX (n1 _) (hs.is y)<|.inr ⟨hb,hs⟩
theorem SY(e:qx b (part 1) [44] Cl u c):Rx b (vx part) (λd=>True) (Cn ((sg [60]).t q)<|Ap u<|Cn ((sg [62]).t y) Nl) c:=λx r d f=>
 jG.yM (e ((sg [62]).t y) (x::r) (λs=>s.ts.length+1) [] c (λts q=>q) ⟨J,J⟩ J f.tl (λs=>gp<|dG _) λs d=>ey _) (λl z=>⟨z,J⟩) λl s hb hs=>.j (hs.is J)<|.yN hb hs J
theorem S0{c:List T->Prop}(d:a∈iC∨a=gF)(e:qx b (part 1) [44] Cl u c)(g:∀p ts,c ts->Q (aK 81 a ts p)):nJ b part (Ap (bU j (d7 a) i)<|Cn ((sg [60]).t q)<|Ap u<|Cn ((sg [62]).t y) Nl) Q:=λx r h f=>by
 rw[HU d J];exact(SY e).nx bl (pz f) λl z=>⟨g _ l z,J⟩
theorem HX(c:Rd b (part 1) Cl u Q1)(g:∀t,Q1 t->Q (aK 98 [] [t] q.p)):nJ b part (Cn ((sg [40]).t q)<|Ap u<|Cn ((sg [41]).t y) Nl) Q:=λx r e d=>
 c.nx ⟨J,J⟩ d.tl (λt z=>⟨g t z,J⟩) λt s hb hs=>.yN hb hs J
theorem HY(c:Rx b (part 9) (λd=>True) (Cn ((sg [123]).t q) u) Q1)(g:∀m,Q1 m->Q (.nd 88 [] m.bO 0 q.p)):nJ b part (Cn ((sg [123]).t q) u) Q:=λx r d e=>
 c.nx bl e λm z=>⟨g m z,J⟩
end
section
variable{b:Bool}{f:Nat}{part:bZ}{u v:Px}{Q F Q2 Q3:T->Prop}{π:Nat->Pc}{i:Nat}{q q' y j B G X M Y q8 N q0:Pc}{a:List Nat}{x:aj}{r:List aj}
noncomputable def Cp(part:bZ)(a:List Nat)(d p:Int)(c:Option T)(s:Sg):PR T:=cM 5 [61] s λb s=>if b then(part 1 s).bd λg s=>.ok (T.nd 100 a [c,O g] d p) s else PR.ok (T.nd 100 a [c,U] d p) s
noncomputable def vY(p:Int)(l:List T)(s:Sg):PR (Option T):=tB s λs=>.ok (O<|aK 71 [] l p) s
noncomputable abbrev kI(b:Bool)(part:bZ)(u:Px)(Q:Option T->Prop):Prop:=Rx b (k4 part) (λx=>x.is 5 [60]=C) u Q
theorem HZ{p:Int}{R:Option T->Sg->Prop}(d:b=I)(g:1<=m)(c:Sk s):Rs b ((lL part m l s).bd<|vY p) R:=by
 induction m using fU with
 |zero=>exact ax g<|km _
 |succ m=>
  have e:lL part (m+1) l s=.ok l s:=by
   show(if s.i.is 5 [44]=I then _ else _)=_;rw[c.is J];rfl
  rw[e];exact Rs.j (c.is J)<|.yN d c J
theorem S1{Q:Option T->Prop}(g:Q U):kI b part Nl Q:=λx r c d=>by
 unfold k4;exact .q c ⟨g,J⟩
theorem S2{Q:Option T->Prop}(h:a∈hZ)(g:∀p c,Q<|O<|aK 71 [] [T.nd 100 a [U,U] 536870912 c] p):kI b part (Cn ((sg [60]).t q)<|Cn ((nm fd).t y)<|Cn ((nm a).t j)<|Cn ((sg [62]).t B) Nl) Q:=λx r d d=>
 Co (P:=λa=>(∀p c,Q<|O<|aK 71 [] [T.nd 100 a [U,U] 536870912 c] p)->Rs b (k4 part ⟨(sg [60]).t q::(nm fd).t y::(nm a).t j::(sg [62]).t B::x::r,[]⟩) λt s=>Q t/\s=⟨x::r,[]⟩) h (λg=>⟨g _ _,J⟩) (λg=>⟨g _ _,J⟩) (λg=>⟨g _ _,J⟩) g
theorem S3(h:a∈hZ):k4 part ⟨(sg [60]).t q::(nm a).t y::(wd iS).t j::r,[]⟩=((part 1 ⟨r,[]⟩).bd λt s=>Cp part a 0 y.p (O t) s).bd λt s=>(lL part (s.ts.length+1) [t] s).bd (vY q.p):=
 Co (P:=λa=>k4 part ⟨(sg [60]).t q::(nm a).t y::_::r,[]⟩=((part 1 ⟨r,[]⟩).bd λt s=>Cp part a 0 y.p (O t) s).bd _) h J J J
theorem S4{Q:Option T->Prop}(h:a∈hZ)(c:Rd b (part 1) Cl u F)(g:∀p d t,F t->Q (O<|aK 71 [] [T.nd 100 a [O t,U] 0 d] p)):kI b part (Cn ((sg [60]).t q)<|Cn ((nm a).t y)<|Cn ((wd iS).t j)<|Ap u<|Cn ((sg [62]).t B) Nl) Q:=λx r k e=>by
 rw[S3 h];exact .L<|c.nx ⟨J,J⟩ e.tl.tl.tl (λt z=>⟨g _ _ t z,J⟩) λt s hb hs=>.eq (a9 (by rw[hs.is J];exact sS))<|HZ hb (gp<|dG _) hs
noncomputable abbrev t6(a:List Nat)(p:Int):T:=T.nd 100 a [U,U] 268435456 p
noncomputable abbrev t7(k c:T)(p:Int):T:=T.nd 100 fd [O k,O c] 805306368 p
theorem S5(h:a∈hZ):pa part ⟨(wd f2).t y::(nm a).t j::(sg [44]).t B::r,[]⟩=.ok (t6 a j.p) ⟨(sg [44]).t B::r,[]⟩:=Co (P:=λa=>pa part ⟨_::(nm a).t j::_::r,[]⟩=.ok (t6 a j.p) _) h J J J
theorem S6:pa part ⟨(wd f2).t y::(nm fd).t B::(nm fd).t j::(wd iS).t G::r,[]⟩=(part 1 ⟨r,[]⟩).bd λt s=>Cp part fd 805306368 j.p (O t) s:=rfl
theorem S7:Mine.be (f+1) 1 ⟨(nm [84]).t y::(sg [61]).t j::r,[]⟩=.ok (aK 81 [84] [] y.p) ⟨(sg [61]).t j::r,[]⟩:=rfl
theorem S8:lL part (n+1) l ⟨(sg [44]).t y::(wd f2).t j::r,[]⟩=(pa part ⟨(wd f2).t j::r,[]⟩).bd λt s=>lL part n (l++[t]) s:=rfl
theorem S9{Q:Option T->Prop}(h:a∈hZ)(c:Rd b (Mine.be (f+1) 1) Cl u F)(g:∀p d e k t,F t->Q (O<|aK 71 [] [t6 a d,t7 (aK 81 [84] [] e) t k] p)):
  kI b (Mine.be<|f+1) (Cn ((sg [60]).t q)<|Cn ((wd f2).t y)<|Cn ((nm a).t j)<|Cn ((sg [44]).t B)<|Cn ((wd f2).t G)<|Cn ((nm fd).t X)<|Cn ((nm fd).t M)<|Cn ((wd iS).t Y)<|Cn ((nm [84]).t q8)<|Cn ((sg [61]).t N)<|Ap u<|Cn ((sg [62]).t q0) Nl) Q:=λx r m l=>by
 show Rs b ((pa _ ⟨(wd f2).t y::(nm a).t j::(sg [44]).t B::_,[]⟩).bd λt s=>(lL _ (s.ts.length+1) [t] s).bd<|vY q.p) _;rw[S5 h];show Rs b ((lL _ ((u.1<|(sg [62]).t q0::x::r).length+7+1) _ ⟨(sg [44]).t B::_,[]⟩).bd<|vY q.p) _;rw[S8,S6,S7];show Rs b ((((Mine.be (f+1) 1 ⟨u.1<|(sg [62]).t q0::x::r,[]⟩).bd λg s=>PR.ok (t7 _ g M.p) s).bd λt s=>lL _ _ _ s).bd<|vY q.p) _;exact .L<|.L<|c.nx ⟨J,J⟩ l.tl.tl.tl.tl.tl.tl.tl.tl.tl.tl (λt z=>⟨g _ _ _ _ t z,J⟩) λt s hb hs=>HZ hb (gp<|dG _) hs
end
noncomputable def eb(l:Bool):List W->List W
 |[]=>[]
 |w::r=>{w with l:=l}::r
noncomputable def nK:List (List Nat):=[[120],eY,dO,fL,[121],rj,[36,49]]
inductive fF:List W->List Nat->Int->Prop where
 |dots {a}:a∈nK->fF [sg [46,46,46],nm a] a 8192
 |i {a}:a∈nK->fF [nm a,sg [63]] a 4096
 |ga {a}:a∈nK->fF [nm a] a 0
 |this:fF [wd [116,104,105,115]] [116,104,105,115] 0
noncomputable def lg(a:List Nat)(k:Option T)(fl p0 B:Int):T:=.nd 28 [] [O (c7 8 a B),k,U] fl p0
noncomputable def j5(a:List Nat)(k:Option T)(fl p:Int):T:=.nd 96 a [k] fl p
section
variable{b:Bool}{part:bZ}{u v z:Px}{Q X M N:T->Prop}{G QL':List T->Prop}{π:Nat->Pc}{i m:Nat}{q Y q1 q2:Pc}{a y:List Nat}{x t:aj}{r:List aj}{w:List W}{fl p0 B:Int}{F:aj->Prop}
theorem qy(u:Px)(h:(u.1<|t::r).length<=m):∃k,m=k+1/\r.length<=k:=by
 induction m using fU with
 |zero=>exact ax (aE (u.2<|t::r).1 h)<|km _
 |succ k=>exact aD k J<|jr<|aE (u.2<|t::r).1 h
theorem Cq(h:x.is 5 [58]=C):gG part k ⟨x::r,[]⟩=.ok U ⟨x::r,[]⟩:=a9 λe=>bc<|h.symm.trans e
theorem H0{R:T->Sg->Prop}(d:fF w a fl)(c:y=[58]∨y=[44]∨y=[41])(g:∀p0 B,Rs b ((gG part 1 ⟨(sg y).t q::r,[]⟩).bd λk s=>.ok (lg a k fl p0 B) s) R):Rs b (pc part ⟨(bU π w i).1<|(sg y).t q::r,[]⟩) R:=by
 induction d with
 |ga=>rcases c with rfl|rfl|rfl<;>exact g _ _
 |this=>rcases c with rfl|rfl|rfl<;>exact g _ _
 |_=>exact g _ _
noncomputable def yQ(u:Px):Prop:=∀r,(Sg.mk (u.1 r) []).q [41]=C
theorem H5(c:fF w a fl):yQ (bU π w i):=by
 induction c<;>exactλr=>J
noncomputable def vZ(b:Bool)(part:bZ)(u:Px)(Q:T->Prop):Prop:=∀y q r,y=[44]∨y=[41]->eE (u.1<|(sg y).t q::r)->Rs b (pc part ⟨u.1<|(sg y).t q::r,[]⟩) (jG b Q ((sg y).t q) r)
theorem Ta(d:fF w a fl)(g:∀p0 B,Q<|lg a U fl p0 B):vZ b part (bU π w i) Q:=λy q r c f=>H0 d (.inr c) λp0 B=>.eq (Cq<|c.elim (λe=>e▸J) λe=>e▸J)<|.inl ⟨g _ _,J⟩
theorem Tb(c:fF w a fl)(d:Rd b (part 1) Cl u X)(g:∀p0 B t,X t->Q (lg a (O t) fl p0 B)):vZ b part (Ap (bU π w i)<|Cn ((sg [58]).t q) u) Q:=λy Y r f h=>H0 c (.inl J) λp0 B=>
 .L (d.nx ⟨f.elim (λe=>e▸J) λe=>e▸J,J⟩ (lA _ h) (λt z=>.inl ⟨g _ _ t z,J⟩) λt s hb hs=>.inr ⟨hb,hs⟩)
noncomputable def tY(b:Bool)(part:bZ)(u:Px)(Q:List T->Prop):Prop:=∀q r m c (R:List T->Prop),(∀ts,Q ts->R (c++ts))->eE (u.1<|(sg [41]).t q::r)->(u.1<|(sg [41]).t q::r).length<=m->Rs b (rL part m c ⟨u.1<|(sg [41]).t q::r,[]⟩) (jG b R ((sg [41]).t q) r)
theorem Td(g:G []):tY b part Nl G:=λq r m c R k d hm=>by
 refine aB (qy Nl hm) λm e d=>?_;rw[e];exact .inl ⟨cN c▸k [] g,J⟩
theorem Te(n:yQ u)(h:vZ b part u Q)(g:∀t,Q t->G [t]):tY b part u G:=λq r m c R k d hm=>by
 refine aB (qy u hm) λm e f=>?_;rw[e];exact Rs.j (n _)<|jG.bd (h _ q r (.inr J) d) (λt z=>.inl ⟨k _<|g t z,J⟩) λt s hb hs=>.yO hs J<|.inr ⟨hb,hs⟩
theorem Tf(n:yQ u)(h:vZ b part u Q)(f:∀t,Q t->rK t=C)(j:tY b part v G)(g:∀t ts,Q t->G ts->QL' (t::ts)):tY b part (Ap u<|Cn ((sg [44]).t q) v) QL':=λY r m c R k d hm=>by
 refine aB (qy u hm) λm e hm=>?_;rw[e];exact Rs.j (n _)<|jG.bd (h _ q _ (.inl J) d) (λt z=>Rs.iT J<|Rs.iT J<|Rs.j (f t z)<|j Y r m (c++[t]) R (λts w=>b6 .. ▸k _ (g t ts z w)) (lA u d) hm) λt s hb hs=>.yO hs J<|.inr ⟨hb,hs⟩
noncomputable abbrev nM(b:Bool)(part:bZ)(u:Px)(Q:T->Prop):Prop:=Rx b (pd part) (λc=>True) u Q
theorem Tg(h:tY b part u G)(g:∀p ts,G ts->gW 0 C ts=[]/\Q (aK 71 [] ts p)):nM b part (Cn ((sg [40]).t q)<|Ap u<|Cn ((sg [41]).t Y) Nl) Q:=λx r d c=>
 jG.bd (h Y (x::r) _ [] G (λts z=>z) c.tl<|ey _) (λl z=>by
  show Rs b (if(gW 0 C l).length<1000 then PR.ok (aK 71 [] l q.p) ⟨x::r,gW 0 C l⟩ else .j) _;rw[(g q.p l z).1];exact⟨(g q.p l z).2,J⟩) λt s hb hs=>.yN hb hs J
noncomputable def Lp(u:Px):Prop:=∃q v,u=Cn ((sg [40]).t q) v
theorem Th{c:Option T->Prop}(f:kI b part u c)(h:nM b part v M)(d:Lp v)(g:∀o p,c o->M p->Q (.nd 27 a [o,O p,U,U] fl p0))(j:∀x,F x->Fk x):Rd b (f8 part a fl p0) F (Ap u v) Q:=λx r k e=>by
 refine jx d ?_;clear d;rintro q w rfl;exact f.nx J e λo z=>h.nx bl (pz e) λp l=>.eq (Cq<|(j x k).is J)<|.inl ⟨g o p z l,J⟩
theorem Ti{d:Option T->Prop}(f:kI b part u d)(h:nM b part v M)(e:Lp v)(j:Rd b (part 11) F z N)(g:∀o p t,d o->M p->N t->Q (.nd 27 a [o,O p,O t,U] fl p0)):Rd b (f8 part a fl p0) F (Ap u<|Ap v<|Cn ((sg [58]).t Y) z) Q:=λx r k c=>by
 refine jx e ?_;clear e;rintro q w rfl;exact f.nx J c λo z1=>h.nx bl (pz c) λp l=>.L<|j.nx k (lA (Ap u<|Cn ((sg [40]).t q) w) c) (λt A=>.inl ⟨g o p t z1 l A,J⟩) λt s hb hs=>.inr ⟨hb,hs⟩
noncomputable def H6(t:aj):Bool:=decide (t.aq=1)&& !decide (t.aP=dO)
noncomputable def yR(t:aj):Bool:=decide (t.aq=5)&&[[40],[123],[60]].contains t.aP||decide (t.aq=2)&&decide (t.aP=bI)
noncomputable def v0(t:aj):Bool:=decide (t.aq=5)&&[[60],[46],[91],[124],[38]].contains t.aP
noncomputable def H2(u:Px):Prop:=∃t v,u=Cn t v/\(yR t=I∨H6 t=I/\(v=Nl∨∃y w,v=Cn y w/\v0 y=I))
theorem H2.j(h:H2 u)(c:v0 t=I):H2 (Ap u<|Cn t v):=by
 refine eC h ?_;clear h;rintro x v1 rfl h;refine cK x (Ap v1<|Cn t v) J<|h.imp id λh=>⟨h.1,.inr ?_⟩
 rcases h.2 with rfl|⟨y,w,rfl,c⟩
 ·exact cK t v rfl c
 ·exact cK y (Ap w<|Cn t v) rfl c
theorem H7(h:yR t=I):t.u=false:=by
 rcases(ju.mp h) with h|h<;>have h:=ed.mp h<;>unfold aj.u
 ·rw[D h.1,vV (by rw[D h.1];decide)];rfl
 ·rw[D h.1,pF (by rw[D h.2];decide)];rfl
theorem Tj(h:yR t=I):am part ⟨t::r,[]⟩=part 1 ⟨t::r,[]⟩:=aN (by
 rw[show(Sg.mk (t::r) []).i.u=C from H7 h];exact uQ _)
theorem H8(h:H6 t=I)(d:x.cC=I∨x.aq≠1):am part ⟨t::x::r,[]⟩=part 1 ⟨t::x::r,[]⟩:=by
 have h:=ed.mp h
 by_cases c:x.cC=I
 ·exact aN (show(x.cC||_)=I by rw[c];rfl)
 ·have f:=d.resolve_left c;have g:t.u=true:=by unfold aj.u;rw[h.1];rfl
  have j:t.is 1 dO=false:=pF λe=>by have h:=h.2;rw[e] at h;exact bc h
  refine(a9 (show¬(x.cC|| !t.u)=I by rw[g,qc.mpr c];decide)).trans<|(a9 (show¬x.is 1 eY=I by rw[vV f];decide)).trans<|aN (show(!t.is 1 dO||_)=I by rw[j];rfl)
theorem Fk.k1(h:Fk x):x.cC=I∨x.aq≠1:=h.cs.imp id λe=>by rw[e.2.1];decide
theorem Tm(h:v0 t=I):t.aq≠1:=by rw[D (ed.mp h).1];decide
theorem H9(f:Rd b (part 1) F u Q)(g:H2 u)(j:∀x,F x->Fk x):Rd b (am part) F u Q:=λx r c d=>by
 have e:am part ⟨u.1<|x::r,[]⟩=part 1 ⟨u.1<|x::r,[]⟩:=by
  clear d;refine eC g ?_;rintro t v rfl h;exact h.elim Tj λh=>h.2.elim (λe=>by rw[e];exact H8 h.1 (j x c).k1) λe=>eC e λy w e k=>by rw[e];exact H8 h.1<|.inr<|Tm k
 rw[e];exact f x r c d
theorem Ia(c:Rd b (part 1) F u X)(g:∀p t,X t->Q (j5 a (O t) 0 p)):Rd b (am part) F (Cn ((nm a).t q)<|Cn ((nm eY).t q1) u) Q:=λx r d e=>
 c.nx d e.tl.tl (λt z=>.inl ⟨g q.p t z,J⟩) λt s hb hs=>.inr ⟨hb,hs⟩
theorem Ib(g:∀p,Q<|j5 dO U 16777216 p):Rd b (am part) (Fy dO) (Cn ((nm dO).t q)<|Cn ((nm dO).t q1) Nl) Q:=λx r c d=>by
 show Rs b (cM 1 eY ⟨x::r,[]⟩ λi s=>if i then(part 1 s).bd λk s=>.ok (j5 dO (O k) 16777216 q.p) s else if s.q [38]||s.q [124] then Mine.b8 1228 s else .ok (j5 dO U 16777216 q.p) s) _;exact .q c.q<|Rs.j J<|Rs.j (show(x.is 5 [38]||x.is 5 [124])=C by rw[c.1.is J,c.1.is J];rfl)<|Or.inl ⟨g q.p,J⟩
theorem Ic(c:Rd b (part 1) F u X)(g:∀p t,X t->Q (j5 eX (O t) 16777216 p)):Rd b (am part) F (Cn ((nm dO).t q)<|Cn ((wd eX).t q1)<|Cn ((nm eY).t q2) u) Q:=λx r d e=>
 c.nx d e.tl.tl.tl (λt z=>.inl ⟨g q.p t z,J⟩) λt s hb hs=>.inr ⟨hb,hs⟩
noncomputable def tZ(u:Px):Prop:=u=Nl∨∃q v,u=Cn ((sg [60]).t q) v
noncomputable def Tn(part:bZ)(fl p0:Int)(s:Sg):PR T:=(k4 part s).bd λc s=>(pd part s).bd λps s=>c8 fz s λs=>(part 11 s).bd λr s=>.ok (.nd 27 [] [c,O ps,O r,U] fl p0) s
theorem To{d:Option T->Prop}(f:kI b part u d)(h:nM b part v M)(e:Lp v)(j:Rd b (part 11) F z N)(g:∀q o p t,d o->M p->N t->Q (.nd 27 [] [o,O p,O t,U] fl q)):Rd b (Tn part fl p0) F (Ap u<|Ap v<|Cn ((sg fz).t q) z) Q:=λx r k c=>by
 refine jx e ?_;clear e;rintro q0 w rfl;exact f.nx J c λo z1=>h.nx bl (pz c) λp l=>j.nx k (lA (Ap u<|Cn ((sg [40]).t q0) w) c) (λt A=>.inl ⟨g p0 o p t z1 l A,J⟩) λt s hb hs=>.inr ⟨hb,hs⟩
theorem Ie{d:Option T->Prop}(s:w=[]/\fl=2048∨w=[wd bI,sp]/\fl=3072)(e:kI b part u d)(c:tZ u)(f:nM b part v M)(h:Lp v)(j:Rd b (part 11) F z N)(g:∀q o p t,d o->M p->N t->Q (.nd 27 [] [o,O p,O t,U] fl q)):Rd b (rM part) F (Ap (bU π w i)<|Ap u<|Ap v<|Cn ((sg fz).t q) z) Q:=λx r k l=>by
 have go:=λp0=>To (p0:=p0) e f h j g x r k<|pz l;clear l e f j g k
 rcases s with⟨rfl,rfl⟩|⟨rfl,rfl⟩
 ·unfold rM;refine Rs.q ?_ ?_
  ·refine jx h ?_;rintro q0 w rfl
   rcases c with rfl|⟨_,_,rfl⟩<;>rfl
  ·exact go _
 ·exact go _
end
noncomputable def dY:List W:=[nm [97],nm fL,nm f3,nm gs,nm eY,st [97,45,98] [34,97,45,98,34],st [] [34,34],nu [48],st [48,55] [34,48,55,34],st [49,101,51] [34,49,101,51,34],wd f2,st AV OI,nm fd,nu [52,50],nm [36,95]]
inductive fR(w:W):List W->Int->Prop where
 |ga:fR w [w] 0
 |i:fR w [w,sg [63]] 4096
 |ro:fR w [nm [114,101,97,100,111,110,108,121],sp,w] 131072
 |j:fR w [nm [114,101,97,100,111,110,108,121],sp,w,sg [63]] 135168
noncomputable def h9(c:List W):List Nat:=(c.getLast?.map W.x).getD []
noncomputable def Ig(part:bZ)(p c:Int)(s:Sg)(d e:Bool):PR T:=
 if d then c8 [91] s λs=>hV s λa s=>c8 [58] s λs=>(part 1 s).bd λk s=>c8 [93] s λs=>c8 [58] s λs=>(part 1 s).bd λv s=>.ok (.nd 63 a [O k,O v] c p) s
 else if e then b8 9002 s else tC part c s
noncomputable def Ih(part:bZ)(s:Sg)(d e ro:Bool):PR T:=
 if d then f8 part [] 512 s.i.aJ s else if e then f8 part [] 1024 s.i.aJ s.j else
 let c:=if ro then s.j else s
 Ig part s.i.aJ (if ro then 131072 else 0) c (c.q [91]&&(decide ((c.u 1).aq=1)&&(c.u 2).is 5 [58])) ((c.y f3||c.y gs)&&(c.u 1).j)
noncomputable def Ii(part:bZ)(a:List Nat)(fl p:Int)(s:Sg):PR T:=if s.i.q&&decide (fl<131072) then f8 part a (fl+32) p s else(gG part 1 s).bd λk s=>.ok (.nd 99 a [k] fl p) s
noncomputable def v7(part:bZ)(a:List Nat)(fl p:Int)(s:Sg)(q:Bool):PR T:=Ii part a (if q then fl+4096 else fl) p<|if q then s.j else s
noncomputable def pG(t y:aj):Bool:=(t.is 2 bI&&y.q)||((t.is 1 fL&&(y.j&& !y.cC))||((t.is 1 f3||t.is 1 gs)&&y.j))
section
variable{b:Bool}{f:Nat}{part:bZ}{u v z:Px}{Q j Q2 X:T->Prop}{QL N:List T->Prop}{B:Nat->Pc}{i m:Nat}{q G q0 q1 q2 q3 q4 Y:Pc}{a y:List Nat}{x t:aj}{r:List aj}{w:List W}{n:W}{fl M p1:Int}{F:aj->Prop}{l:Bool}
theorem t0(h:t.i=I):t.is 5 k=false:=vV λe=>by unfold aj.i at h;rw[e] at h;exact bc h
theorem Tp(h:t.i=I)(r:List aj):(Sg.mk (t::r) []).j=⟨r,[]⟩:=a9 λe=>by
 have e:t.aq=0:=e;unfold aj.i at h;rw[e] at h;exact bc h
theorem Tq(h:t.i=I):tC part fl ⟨t::r,[]⟩=v7 part t.aP fl t.aJ ⟨r,[]⟩ ((Sg.mk r []).q [63]):=by
 show(if t.i=I then v7 part t.aP fl t.aJ (Sg.mk (t::r) []).j ((Sg.mk (t::r) []).j.q [63]) else _)=_;rw[aN h,Tp h]
theorem Ij(h:t.i=I)(h4:((t.is 1 f3||t.is 1 gs)&&x.j)=C):Ig part M fl ⟨t::x::r,[]⟩ ((Sg.mk (t::x::r) []).q [91]&&(decide (((Sg.mk (t::x::r) []).u 1).aq=1)&&((Sg.mk (t::x::r) []).u 2).is 5 [58])) ((t.is 1 f3||t.is 1 gs)&&x.j)=v7 part t.aP fl t.aJ ⟨x::r,[]⟩ (x.is 5 [63]):=by
 rw[show(Sg.mk (t::x::r) []).q [91]=C from t0 h,h4];exact Tq h
theorem Il(h:t.i=I)(d:pG t x=C):lM part ⟨t::x::r,[]⟩=v7 part t.aP 0 t.aJ ⟨x::r,[]⟩ (x.is 5 [63]):=by
 have o1:=kn.mp d;have c:=kn.mp o1.2;show Ih part ⟨t::x::r,[]⟩ (t.is 5 [40]||t.is 5 [60]) (t.is 2 bI&&x.q) (t.is 1 fL&&(x.j&& !x.cC))=_;rw[t0 h,t0 h,o1.1,c.1];exact Ij h c.2
theorem Im(h:t.i=I)(c:t.cC=C)(h4:((t.is 1 f3||t.is 1 gs)&&x.j)=C):lM part ⟨({nm fL with l:=l}:W).t q::t::x::r,[]⟩=v7 part t.aP 131072 t.aJ ⟨x::r,[]⟩ (x.is 5 [63]):=by
 show Ih part ⟨_::t::x::r,[]⟩ C C ((t.i||_)&& !t.cC)=_;rw[h,c];exact Ij h h4
theorem Cr(c:x.q=C)(d:x.j=C):pG t x=false:=by
 unfold pG;rw[c,d];simp only[mX,oj,add]
theorem Io(h:pG t x=C):((t.is 1 f3||t.is 1 gs)&&x.j)=false:=(kn.mp (kn.mp h).2).2
theorem yS(c:(n.t q).i=I):bU B ({n with l:=l}::w) i=Cn (({n with l:=l}:W).t<|B i) (bU B w<|i+1):=by
 have d:decide (n.k=9)=false:=dT λe=>by unfold aj.i W.t at c;dsimp only at c;rw[e] at c;exact bc c
 show cond (decide (n.k=9)) _ _=_;rw[d];rfl
theorem Cs(g:(n.t q).i=I)(h:n.l=C)(s:fR n w fl)(k:x.is 5 [63]=C)(o:w.getLast? =O n->pG (n.t q) x=C):∃p,lM part ⟨(bU B (eb l w) i).1<|x::r,[]⟩=Ii part n.x fl p ⟨x::r,[]⟩:=by
 have e1:∀l j,bU B [{n with l:=l}] j=Cn (({n with l:=l}:W).t<|B j) Nl:=λl j=>yS g;have e2:∀l j,bU B [{n with l:=l},sg [63]] j=Cn (({n with l:=l}:W).t<|B j) (Cn ((sg [63]).t<|B<|j+1) Nl):=λl j=>yS g;have en:{n with l:=C}=n:=by obtain⟨a,b,c,d,e⟩:=n;cases h;rfl
 have g:∀l j,(({n with l:=l}:W).t<|B j).i=true:=λA A=>g
 induction s with
 |ga=>
  refine⟨(B i).p,?_⟩;rw[e1];rw[Il (g l i) (o J),k];rfl
 |i=>
  refine⟨(B i).p,?_⟩;rw[e2];rw[Il (g l i) (Cr J J)];rfl
 |ro=>
  refine⟨(B<|i+1+1).p,?_⟩;have e:=e1 C<|i+1+1;have g:=g C<|i+1+1;rw[en] at e g;show lM part ⟨({nm fL with l:=l}:W).t (B i)::(bU B [n]<|i+1+1).1 (x::r),[]⟩=_;rw[e];rw[Im g h (Io<|o J),k];rfl
 |j=>
  refine⟨(B<|i+1+1).p,?_⟩;have e:=e2 C<|i+1+1;have g:=g C<|i+1+1;rw[en] at e g;show lM part ⟨({nm fL with l:=l}:W).t (B i)::(bU B [n,sg [63]]<|i+1+1).1 (x::r),[]⟩=_;rw[e];rw[Im g h (Io<|Cr J J)];rfl
noncomputable def yT(l:Bool)(t:aj):Bool:=t.i||(decide (t.aq=5)&&(decide (t.aP=[91])||(!l&&(decide (t.aP=[40])||decide (t.aP=[60])))))
noncomputable def Ct(l:Bool)(u:Px):Prop:=∃t v,u=Cn t v/\t.cC=l/\yT l t=I
theorem Cu(c:(n.t q).i=I)(d:fR n w fl):Ct l (bU B (eb l w) i):=by
 have hm:∀j,yT l (({n with l:=l}:W).t<|B j)=true:=λj=>ju.mpr<|.inl c
 induction d with
 |ga=>exact cL _ _ (yS c) J<|hm i
 |i=>exact cL _ _ (yS c) J<|hm i
 |_=>exact cL _ _ J J J
noncomputable def lQ(b:Bool)(part:bZ)(l:Bool)(F:aj->Prop)(u:Px)(Q:T->Prop):Prop:=Ct l u/\Rd b (lM part) F u Q
theorem Tt(c:(n.t q).i=I)(o:n.l=C)(d:fR n w fl)(j:∀x,F x->Fk x/\(w.getLast? =O n->pG (n.t q) x=C))(g:∀p,Q<|.nd 99 n.x [U] fl p):lQ b part l F (bU B (eb l w) i) Q:=by
 refine⟨Cu c d,λx r k s=>?_⟩;have h:=(j x k).1;obtain⟨p,e⟩:=Cs c o d (h.is J) (j x k).2;rw[e];exact Rs.j (show(x.q&&_)=C by rw[show x.q=C by unfold aj.q;rw[h.is J,h.is J];rfl];rfl)<|.eq (Cq<|h.is J)<|.inl ⟨g p,J⟩
theorem Tu(d:(n.t q).i=I)(k:n.l=C)(h:fR n w fl)(o:Rd b (part 1) F u j)(g:∀p t,j t->Q (.nd 99 n.x [O t] fl p)):lQ b part l F (Ap (bU B (eb l w) i)<|Cn ((sg [58]).t G) u) Q:=by
 refine⟨cV (Cu d h) λt v e A h2=>cL t (Ap v _) (by rw[e];rfl) A h2,λx r H c=>?_⟩;obtain⟨p,e⟩:=Cs (x:=(sg [58]).t G) d k h J λL=>Cr J J;rw[e];exact Rs.j J<|.L<|o.nx H (lA _ c) (λt z=>.inl ⟨g p t z,J⟩) λt s hb hs=>.inr ⟨hb,hs⟩
noncomputable def Sh(u:Px):Prop:=∃y q v,u=Cn ((sg y).t q) v/\(y=[40]∨y=[60])
theorem Tv(d:(n.t q).i=I)(j:n.l=C)(g:fR n w fl)(k:(n.t q).is 2 bI=C)(o:fl=0∨fl=4096)(h:Sh u)(s:∀p,Rd b (f8 part n.x (fl+32) p) F u Q):lQ b part l F (Ap (bU B (eb l w) i) u) Q:=by
 refine⟨cV (Cu d g) λt v e A h2=>cL t (Ap v _) (by rw[e];rfl) A h2,λx r G c=>?_⟩;refine iU h ?_;clear h;rintro y q0 v rfl H;have hp:((sg y).t q0).j=C/\((sg y).t q0).q=I/\((sg y).t q0).is 5 [63]=false:=by rcases H with rfl|rfl<;>exact⟨rfl,rfl,rfl⟩
 obtain⟨p,e⟩:=Cs d j g hp.2.2 λL=>by
  unfold pG;rw[k,hp.1];simp only[mX,oj,add]
 rw[e];exact Rs.iT (ed.mpr ⟨hp.2.1,o.elim (λe=>e▸J) λe=>e▸J⟩)<|s p x r G<|pz c
theorem Tw(c:Sh u)(d:∀p,Rd b (f8 part [] 512 p) F u Q):lQ b part C F u Q:=by
 refine iU c ?_;clear c;rintro y q0 v rfl g;refine⟨cL _ _ J J<|g.elim (λe=>e▸J) λe=>e▸J,λx r j h=>?_⟩;rw[show lM part ⟨(Cn ((sg y).t q0) v).1<|x::r,[]⟩=f8 part [] 512 q0.p ⟨(Cn ((sg y).t q0) v).1<|x::r,[]⟩ by clear h d;rcases g with rfl|rfl<;>rfl];exact d _ x r j h
theorem Tx(c:Sh u)(d:∀p,Rd b (f8 part [] 1024 p) F u Q):lQ b part l F (Cn (({wd bI with l:=l}:W).t q) u) Q:=by
 refine iU c ?_;clear c;rintro y q0 v rfl g;refine⟨cL _ _ J J J,λx r h e=>?_⟩;rw[show lM part ⟨(Cn (({wd bI with l:=l}:W).t q)<|Cn ((sg y).t q0) v).1<|x::r,[]⟩=f8 part [] 1024 q.p ⟨(Cn ((sg y).t q0) v).1<|x::r,[]⟩ by clear e d;rcases g with rfl|rfl<;>rfl];exact d _ x r h e.tl
noncomputable def Ip(B:Nat->Pc)(a:List Nat)(i:Nat)(u:Px):Px:=Cn ((nm a).t<|B i)<|Cn ((sg [58]).t<|B<|i+1)<|Cn ((nm kT).t<|B<|i+3)<|Cn ((sg [93]).t<|B<|i+4)<|Cn ((sg [58]).t<|B<|i+5) u
theorem Tz(c:Rd b (Mine.be (f+1) 1) F u j)(g:∀p d t,j t->Q (.nd 63 a [O (c7 80 kT d),O t] 0 p)):lQ b (Mine.be<|f+1) l F (Cn (({sg [91] with l:=l}:W).t q)<|Ip B a i u) Q:=
 ⟨cL _ _ J J J,λx r e h=>c.nx e h.tl.tl.tl.tl.tl.tl (λt z=>.inl ⟨g q.p _ t z,J⟩) λt s hb hs=>.inr ⟨hb,hs⟩⟩
theorem TA(c:Rd b (Mine.be (f+1) 1) F u j)(g:∀p d t,j t->Q (.nd 63 a [O (c7 80 kT d),O t] 131072 p)):lQ b (Mine.be<|f+1) l F (Cn (({nm fL with l:=l}:W).t q)<|Cn ((sg [91]).t G)<|Ip B a i u) Q:=
 ⟨cL _ _ J J J,λx r e h=>c.nx e h.tl.tl.tl.tl.tl.tl.tl (λt z=>.inl ⟨g q.p _ t z,J⟩) λt s hb hs=>.inr ⟨hb,hs⟩⟩
end
section
variable{b:Bool}{f:Nat}{part:bZ}{u v z:Px}{Q N X Y:T->Prop}{G M:List T->Prop}{π:Nat->Pc}{i m:Nat}{q q' q0 q1 q2 q3 q4 q5:Pc}{a y:List Nat}{x t:aj}{r:List aj}{F:aj->Prop}{l:Bool}{B:List T}
noncomputable def qz(b:Bool)(part:bZ)(l:Bool)(u:Px)(Q:List T->Prop):Prop:=Ct l u/\∀q r m B (R:List T->Prop),(∀ts,Q ts->R (B++ts))->eE (u.1<|(sg [125]).t q::r)->(u.1<|(sg [125]).t q::r).length<=m->Rs b (nq part m B ⟨u.1<|(sg [125]).t q::r,[]⟩) λts s=>R ts/\s=⟨(sg [125]).t q::r,[]⟩
theorem Cv(h:yT l t=I):t.is 5 [125]=C/\t.is 5 [44]=C/\t.is 5 [59]=false:=by
 rcases ju.mp h with h|h
 ·exact⟨t0 h,t0 h,t0 h⟩
 ·have h:=(ed.mp h).2;have k:∀y,(decide (y=[91])||(!l&&(decide (y=[40])||decide (y=[60]))))=C->t.is 5 y=false:=λy e=>pF λq=>by rw[q,e] at h;exact bc h
  exact⟨k _ (by cases l<;>rfl),k _ (by cases l<;>rfl),k _<|by cases l<;>rfl⟩
theorem Sk.j{c:Type}(d:b=I)(h:Sk s){f:Sg->PR c}{R:c->Sg->Prop}:Rs b (qo s f) R:=by
 refine .yO h J<|Rs.j J<|Rs.j ?_ (.b8 d h.ns);refine cV h ?_;rintro t r rfl e g;have k:∀y,rX y=C->decide (t.aP=y)=false:=λy e=>dT λq=>by rw[q,e] at g;exact bc g
 show((decide (t.aq=0)||t.cC)||(decide (t.aq=5)&&(decide (t.aP=[59])||decide (t.aP=[125]))))=C;rw[e.1,e.2,k _ J,k _ J];rfl
theorem Cw{R:List T->Sg->Prop}(h:lQ b part l F u Q)(c:F x)(d:eE<|u.1<|x::r)(k:∀t,Q t->Rs b (cM 5 [44] ⟨x::r,[]⟩ λb s=>if b then nq part m (B++[t]) s else qo s λs=>nq part m (B++[t]) s) R):Rs b (nq part (m+1) B ⟨u.1<|x::r,[]⟩) R:=
 Rs.j (cV h.1 λt v e g ht=>by rw[e];exact(Cv ht).1) (jG.bd (h.2 x r c d) k λt s hb hs=>.yO hs J<|Rs.j J<|hs.j hb)
theorem TC(h:lQ b part l F u Q)(c:∀q,F<|(sg [125]).t q)(g:∀t,Q t->G [t]):qz b part l u G:=by
 refine⟨h.1,λq r m B R k d hm=>?_⟩;obtain⟨m,rfl⟩:∃k,m=k+2:=by
  refine cV h.1 ?_;rintro t v rfl _ _;refine aB (qy Nl hm) λm e hm=>aB (qy v hm) λj o p=>⟨j,by rw[e,o]⟩
 exact Cw h (c q) d λt z=>(⟨k _<|g t z,J⟩:R (B++[t])/\_)
theorem Iq(o:y=[59]∨y=[44])(h:lQ b part l F u Q)(p:∀q,F<|(sg y).t q)(j:qz b part C v G)(g:∀t ts,Q t->G ts->M (t::ts)):qz b part l (Ap u<|Cn ((sg y).t q) v) M:=by
 refine⟨cV h.1 λt w e s h2=>cL t (Ap w _) (by rw[e];rfl) s h2,λq' r m B R k c hm=>?_⟩;refine aB (qy u hm) λm e hm=>?_;rw[e];refine Cw (r:=v.1<|(sg [125]).t q'::r) h (p q) c λt z=>?_;have d:=j.2 q' r m (B++[t]) R (λts w=>b6 .. ▸k _ (g t ts z w)) (lA u c) hm;clear c h j
 rcases o with rfl|rfl<;>exact d
theorem TD(h:lQ b part l F u Q)(c:qz b part I v G)(o:∀t w,v=Cn t w->F t)(g:∀t ts,Q t->G ts->M (t::ts)):qz b part l (Ap u v) M:=by
 refine⟨cV h.1 λt w e p h2=>cL t (Ap w v) (by rw[e];rfl) p h2,λq' r m B R k d hm=>?_⟩;refine cV c.1 ?_;rintro t w rfl e1 e2;refine aB (qy u hm) λm e _=>?_;subst e;refine Cw (r:=w.1<|(sg [125]).t q'::r) h (o t w J) d λj z=>.q (Cv e2).2.1<|Rs.j J<|.q (Cv e2).2.2<|Rs.j J<|Rs.iT ?_ (c.2 q' r m (B++[j]) R (λts w=>b6 .. ▸k _ (g j ts z w)) (pz d) ?_)
 ·show((decide (t.aq=0)||t.cC)||_)=I;rw[e1,uQ];rfl
 ·refine cV h.1 ?_;rintro s w2 rfl _ _;exact aE (w2.2 _).1<|jr hm
theorem Ir(c:qz b part C u G)(g:∀p ts,G ts->Q (aK 71 [] ts p)):Rx b (gI part) (λd=>True) (Cn ((sg [123]).t q)<|Ap u<|Cn ((sg [125]).t q') Nl) Q:=λx r d e=>
 (c.2 q' (x::r) _ [] G (λts z=>z) e.tl<|ey _).bd λts s hs=>hs.2▸⟨g _ ts hs.1,J⟩
theorem TE(g:∀p,Q<|aK 71 [] [] p):Rx b (gI part) (λc=>True) (Cn ((sg [123]).t q)<|Cn ((sg [125]).t q') Nl) Q:=λx r c c=>⟨g _,J⟩
theorem Rs.cO{c:Type}{p:PR c}{R:c->Sg->Prop}(h:Rs C p R):∃a s,p=.ok a s/\R a s:=by
 induction p using PR.casesOn with
 |ok a s=>exact cK a s J h
 |d9 ns=>exact bc h
 |j=>exact h.elim
noncomputable def Hg(b:Bool)(part:bZ)(u:Px)(Q:T->Prop):Prop:=∃c,(∀r,c+cb r<=cb (u.1 r))/\∀x r,yP x->eE (u.1<|x::r)->(b=I/\∃ns,mz part ⟨u.1<|x::r,[]⟩=.d9 ns)∨∃t,Q t/\mz part ⟨u.1<|x::r,[]⟩=my part (60-c) t ⟨x::r,[]⟩
theorem v8(h:nJ b part u Q):Hg b part u Q:=by
 refine aD 0 (λr=>by rw[da];exact(u.2 r).2) λx r c d=>?_;have h:=h x r c d;show(b=I/\∃ns,(fA part ⟨u.1<|x::r,[]⟩).bd _=.d9 ns)∨∃t,Q t/\(fA part ⟨u.1<|x::r,[]⟩).bd _=_;generalize fA part ⟨u.1<|x::r,[]⟩=z at h⊢
 induction z using PR.casesOn with
 |ok t s=>exact .inr<|aD t h.1 (by rw[h.2];rfl)
 |d9 ns=>exact .inl ⟨h,ns,J⟩
 |j=>exact h.elim
theorem v9(a b:List aj):cb (a++b)=cb a+cb b:=by simp[cb,Nq]
theorem Iu(h:Hg b part u N)(g:∀t,N t->Q (aK 85 [] [t] t.aJ)):Hg b part (Ap u<|Cn ((sg [91]).t q)<|Cn ((sg [93]).t q') Nl) Q:=by
 refine aB h λc hc h=>?_;have d:∀r,c+1+cb r<=cb (u.1<|(sg [91]).t q::(sg [93]).t q'::r):=λr=>by
  have:=hc<|(sg [91]).t q::(sg [93]).t q'::r;rw[rV,rV,show qu ((sg [91]).t q)=I from J,show qu ((sg [93]).t q')=C from J] at this;rw[EW];exact this
 refine aD (c+1) d λx r k j=>(h ((sg [91]).t q) ((sg [93]).t q'::x::r) ⟨J,J⟩ j).imp id λh=>aB h λt z e=>aD _ (g t z) ?_;have hc:60-c=(60-(c+1))+1:=(As<|ade<|kq 1 c▸aE (d8 ..) (aE (d<|x::r)<|aE j.2<|D J)).symm;refine e.trans ?_;rw[hc];rfl
theorem TG(h:(x.is 5 [91]&& !x.cC)=C):my part m c ⟨x::r,[]⟩=.ok c ⟨x::r,[]⟩:=by
 induction m using fU<;>exact a9 λe=>bc<|h.symm.trans e
theorem wb(h:Hg b part u Q):Rx b (mz part) NH u Q:=λx r d g=>by
 refine aB h λc hc h=>(h x r d.1 g).elim (λh=>h.2.elim λns e=>?_) λh=>aB h λt q e=>?_
 ·rw[e];exact h.1
 ·rw[e,TG d.2];exact⟨q,J⟩
theorem rY(h:H2 u){r:List aj}{y:List Nat}(c:([[40],[123],[60]]:List<|List Nat).contains y=C):(Sg.mk (u.1 r) []).i.is 5 y=false:=by
 refine eC h ?_;clear h;rintro t v rfl h;have k:t.aq≠5∨([[40],[123],[60]]:List<|List Nat).contains t.aP=true:=h.elim (λh=>(ju.mp h).elim (λh=>.inr (ed.mp h).2) λh=>.inl (by rw[D (ed.mp h).1];decide)) λh=>.inl (by rw[D (ed.mp h.1).1];decide);exact k.elim vV λk=>pF λ(e:t.aP=y)=>by rw[e,c] at k;exact bc k
theorem Cy(h:Hg C part u Q)(d:H2 u):Rx C (j0 part) NI u Q:=λx r c e=>
 .q (rY d J) ((wb h).nx c.1 e λt z=>Rs.j c.2 ⟨z,J⟩)
theorem Iv{s:Sg}(h:s.q c=C):jC c d (m+1) B s=.ok B s:=a9 λe=>bc<|h.symm.trans e
theorem TH(h:Hg C part u N)(j:H2 u)(k:Hg C part v X)(g:∀t c,N t->X c->Q (aK 84 [] [t,c] t.aJ)):Rx C (j0 part) NI (Ap u<|Cn ((sg [38]).t q) v) Q:=λx r d e=>
 .q (rY j J) ((wb h).nx ⟨⟨J,J⟩,J⟩ e λt z=>.L<|(wb k).nx d.1 (lA u e) λc o=>.eq (Iv d.2) ⟨g t c z o,J⟩)
theorem Iw(h:Rx C (j0 part) NI u Q)(d:H2 u):Rx C (rJ part) NU u Q:=λx r c e=>
 .q (rY d J) (h.nx c.1 e λt z=>Rs.j c.2 ⟨z,J⟩)
theorem TJ(h:Rx C (j0 part) NI u N)(j:H2 u)(k:qx C (j0 part) [124] NI v G)(g:∀t ts,N t->G ts->Q (aK 83 [] (t::ts) t.aJ)):Rx C (rJ part) NU (Ap u<|Cn ((sg [124]).t q) v) Q:=λx r c d=>
 .q (rY j J) (h.nx ⟨⟨⟨J,J⟩,J⟩,J⟩ d λt z=>jG.bd (k x r (λo=>(v.1<|x::r).length+1) [t] (λts=>∃r,ts=t::r/\G r) (λts w=>aD ts J w) c.1 c.2 (lA u d) (λo=>gp<|dG _) λs hs=>f1 hs) (λts w=>aB w λts e w=>e▸⟨g t ts z w,J⟩) λt s hb=>bc hb)
noncomputable def Nf(u:Px):Prop:=∀x r,x.is 5 fz=C->qp ⟨u.1<|x::r,[]⟩=C
theorem Cz(h:Rx C (rJ part) NU u Q)(e:Nf u)(c:∀x,F x->Fk x):Rd C (j1 part) F u Q:=λx r d g=>
 Rs.j (e x r<|(c x d).is J) ((h x r (c x d).nu g).au λt s hs=>.inl hs)
theorem Ix(h:Rd b (rM part) F u Q)(c:∀r,qp ⟨u.1 r,[]⟩=I):Rd b (j1 part) F u Q:=λx r d e=>Rs.iT (c _)<|h x r d e
theorem Nf.j(h:Nf u)(c:x.is 5 fz=C):Nf (Ap u<|Cn x v):=λx r d=>h _ _ c
theorem we(h:t.is 5 [60]=C/\t.is 2 bI=C/\t.is 5 [40]=C):Nf (Cn t u):=λx r c=>by
 show(if t.is 5 [60]||t.is 2 bI then I else if !t.is 5 [40] then C else _)=C;rw[h.1,h.2.1,h.2.2];rfl
theorem TK{y:aj}(h:v0 y=I):tA ⟨x::t::y::r,[]⟩ 2=false:=by
 have h:=ed.mp h;have c:∀z,([[60],[46],[91],[124],[38]]:List<|List Nat).contains z=C->y.aP≠z:=λz e q=>by
  have h:=h.2;rw[q,e] at h;exact bc h
 refine(aN<|D h.1).trans<|(a9 λo=>o.elim (c _ J) λo=>o.elim (c _ J) λo=>o.elim (c _ J)<|c _ J).trans ?_;rw[dT (c _ J)];rfl
theorem Iy(h:H2 u):Nf (Cn ((sg [40]).t q)<|Ap u<|Cn ((sg [41]).t q') Nl):=λx r c=>by
 have d:=rY (r:=[]) (y:=[41]) h J;have e:=rY (r:=[]) (y:=hN) h J;refine eC h ?_;clear h;rintro t v rfl h;show(if t.is 5 [41]||t.is 5 hN then I else if t.u then tA ⟨(sg [40]).t q::t::v.1 ((sg [41]).t q'::x::r),[]⟩ 2 else C)=C;rw[d,e];refine h.elim (λh=>by rw[H7 h];rfl) λh=>?_;rw[show tA ⟨(sg [40]).t q::t::v.1 ((sg [41]).t q'::x::r),[]⟩ 2=C by rcases h.2 with rfl|⟨y,w,rfl,g⟩;exact c;exact TK g];exact ite_self _
end
noncomputable abbrev Tr{a:Type}:a->Prop:=λb=>True
structure AA(n:Nat)(u:Px):Prop where
 hg:∀f,n+1<=f->f<=15->Hg true (be f) u Tr
 nf:Nf u
 h2:H2 u
noncomputable def Sa(s:Sg):Prop:=∃q r,s=⟨(sg fz).t q::r,[]⟩
noncomputable def NF(h:Px):Prop:=∀f,1<=f->f<=15->∀r,r≠[]->Rs I (fA (be f) ⟨h.1 r,[]⟩) λa s=>Sa s
noncomputable def HF(h:Px):Prop:=∃t v,h=Cn t v/\yR t=I
noncomputable def mI(c:List Nat):Prop:=c=[124]∨c=[38]
class inductive Tl(n:Nat):Px->Prop where
 |eF {u}:AA n u->Tl n u
 |op {u v c q}:AA n u->mI c->Tl n v->Tl n (Ap u (Cn ((sg c).t q) v))
 |nf {h w}:NF h->HF h->Tl n (Ap h w)
noncomputable def wg(n:Nat)(h:Px):Prop:=∀g,n<=g->g+2<=15->∀y v,H2 v->Rd I (j1<|be g) (Fy y) v Tr->Rd I (j1<|be<|g+2) (Fy y) (Ap h v) Tr
noncomputable def Wy(y:List Nat)(w:Px):Prop:=w=Nl/\y=dO∨∃c q v,w=Cn ((sg c).t q) v/\(c=[91]∨mI c)
noncomputable def wh(n:Nat)(h:Px):Prop:=∀g,n<=g->g<=15->∀y w,Wy y w->Rd I (j1<|be g) (Fy y) (Ap h w) Tr
class inductive Sq(y:List Nat):Nat->Nat->Px->Prop where
 |tl {n l v}:Tl n v->Nf v->Sq y n l v
 |fn {n l h v}:wg n h->NF h->HF h->Sq y n l v->Sq y (n+2) (l+2) (Ap h v)
 |fp {n l h w}:wh n h->NF h->HF h->Wy y w->Sq y n l (Ap h w)
section
variable{n m l B k f:Nat}{u v w z:Px}{c y G:List Nat}{q F M:Pc}{x t:aj}{r:List aj}{s:Sg}{P P':List Nat->Prop}
theorem Sa.sk(h:Sa s):Sk s:=jx h λq r e=>e▸cL _ r J ⟨J,J⟩ J
theorem AA.gc(h:AA n u):AA n (Ap u<|Cn ((sg [91]).t q)<|Cn ((sg [93]).t F) Nl):=⟨λf a c=>Iu (h.hg f a c) λb b=>bl,h.nf.j J,h.h2.j J⟩
theorem AA.au(h:AA n u)(e:n<=m):AA m u:=⟨λf a=>h.hg f<|aE (gp e) a,h.nf,h.h2⟩
theorem Tl.au(h:Tl n u)(e:n<=m):Tl m u:=by
 induction h with
 |eF a=>exact .eF<|a.au e
 |op a c _ d=>exact .op (a.au e) c d
 |nf a b=>exact .nf a b
theorem wg.au(h:wg n u)(e:n<=m):wg m u:=λg hg=>h g<|aE e hg
theorem wh.au(h:wh n u)(e:n<=m):wh m u:=λg hg=>h g<|aE e hg
theorem rZ(h:n+2<=m):∃k,m=k+2/\n<=k:=aD (m-2) (As<|aE (hG ..) h).symm<|ade h
theorem Sq.au(h:Sq y n l u):∀{m B},n<=m->l<=B->Sq y m B u:=by
 induction h with
 |tl a b=>exactλe g=>.tl (a.au e) b
 |fn a b c _ i=>
  intro m B e d;refine aB (rZ e) ?_;rintro m rfl e;refine aB (rZ d) ?_;rintro B rfl d;exact .fn (a.au e) b c<|i e d
 |fp a b c w=>exactλe g=>.fp (a.au e) b c w
theorem Sq.j(h:Sq y n l u):Tl n u:=by
 induction h with
 |tl a b=>exact a
 |fn a b c _=>exact .nf b c
 |fp a b c w=>exact .nf b c
theorem mI.is(h:mI c):((sg c).t q).is 5 fz=C/\v0 ((sg c).t q)=I/\NH ((sg c).t q):=by
 rcases h with rfl|rfl<;>exact⟨rfl,rfl,⟨rfl,rfl⟩,rfl⟩
theorem Tl.i(h:Tl n u)(d:mI c)(e:Tl n w):Tl n (Ap u<|Cn ((sg c).t q) w):=by
 induction h with
 |eF a=>exact .op a d e
 |op a b _ g=>exact(Tl.op a b g:)
 | @nf h z a b=>exact(Tl.nf (w:=Ap z<|Cn ((sg c).t q) w) a b:)
theorem Tl.gc(h:Tl n u):Tl n (Ap u<|Cn ((sg [91]).t q)<|Cn ((sg [93]).t F) Nl):=by
 induction h with
 |eF a=>exact .eF a.gc
 |op a b _ d=>exact(Tl.op a b d:)
 | @nf h z a b=>exact(Tl.nf (w:=Ap z<|Cn ((sg [91]).t q)<|Cn ((sg [93]).t F) Nl) a b:)
theorem Wy.j(h:Wy y w)(a:c=[91]∨mI c):Wy G (Ap w<|Cn ((sg c).t q) v):=by
 rcases h with⟨rfl,_⟩|⟨d,q,z,rfl,h⟩
 ·exact .inr<|lz c _ v rfl a
 ·exact .inr<|lz d q (Ap z<|Cn ((sg c).t _) v) J h
theorem Sq.i(h:Sq y n l u)(g:mI c)(i:Tl m w):∀{M},n<=M->m+l<=M->Sq G M l (Ap u<|Cn ((sg c).t q) w):=by
 induction h with
 |tl a b=>exactλe d=>.tl ((a.au e).i g<|i.au<|aE (d8 ..) d)<|b.j g.is.1
 |fn a b c _ j=>
  intro M e d;refine aB (rZ e) ?_;rintro M rfl e;exact(Sq.fn (a.au e) b c (j e<|jr<|jr d):)
 |fp a b c w=>exactλe d=>(Sq.fp (a.au e) b c (w.j<|.inr g):)
theorem Sq.gc(h:Sq y n l u):Sq G n l (Ap u<|Cn ((sg [91]).t q)<|Cn ((sg [93]).t F) Nl):=by
 induction h with
 |tl a b=>exact .tl a.gc<|b.j J
 |fn a b c _ d=>exact(Sq.fn a b c d:)
 |fp a b c w=>exact(Sq.fp a b c (w.j<|.inl J):)
theorem HF.h2(h:HF u):H2 (Ap u v):=by
 refine eC h ?_;rintro t w rfl b;exact cK t (Ap w v) J<|.inl b
theorem Tl.h2(h:Tl n u):H2 u:=by
 induction h with
 |eF a=>exact a.h2
 |op a b _ _=>exact a.h2.j b.is.2.1
 |nf a b=>exact b.h2
theorem Sq.h2(h:Sq y n l u):H2 u:=h.j.h2
noncomputable def Ou(n:Nat)(x:aj)(r:List aj)(k:Nat)(P:List Nat->Prop)(s:Sg):Prop:=s=⟨x::r,[]⟩∨Sa s∨∃c q v,s=⟨(sg c).t q::v.1 (x::r),[]⟩/\mI c/\P c/\Tl n v/\(v.1<|x::r).length<k/\eE (v.1<|x::r)
theorem W1(h:Tl n v)(g:n+1<=f)(d:f<=15)(o:NU x)(i:eE<|v.1<|x::r):Rs I (mz (be f) ⟨v.1<|x::r,[]⟩) λj s=>Ou n x r (v.1<|x::r).length Tr s:=by
 induction h with
 |eF a=>exact(wb (a.hg f g d) x r o.1.1 i).au λj s e=>.inl e.2
 | @op u v c q a hc p=>exact(wb (a.hg f g d) ((sg c).t q) (v.1<|x::r) hc.is.2.2 i).au λj s e=>.inr<|.inr<|vb c q v e.2 hc bl p (u.2<|(sg c).t q::v.1 (x::r)).1<|lA u i
 | @nf h w a b=>
  refine(a f (aE (gp<|dG _) g) d (w.1<|x::r) λe=>?_).bd λt s hs=>?_
  ·have:=(w.2<|x::r).1;rw[e] at this;exact km _ this
  ·refine jx hs ?_;rintro q r rfl;exact .inr<|.inl<|gv q r J
theorem Ou.au(h:Ou n x r k P s)(e:k<=j)(o:∀c,P c->P' c):Ou n x r j P' s:=h.imp id λh=>h.imp id λh=>x8 h λc q v a b d g l i=>vb c q v a b (o c d) g (iP l e) i
theorem WL(B:mI c)(A:x.is 5 c=C)(H:∀v,Tl n v->eE (v.1<|x::r)->Rs I (i ⟨v.1<|x::r,[]⟩) λp s=>Ou n x r (v.1<|x::r).length P s)(L:∀y,P y->y≠c->P' y):∀(k:Nat) (s:Sg) (m:Nat) (j:List T),Ou n x r k P s->1<=m->s.ts.length<=m∨Sa s->Rs I (jC c i m j s) λp s=>Ou n x r k P' s:=by
 intro k
 induction k using Nat.strongRecOn with
 |ind k M=>
  intro s m j h hm hs
  rcases h with rfl|h|⟨y,q,v,rfl,a,b,d,e,l⟩
  ·exact tX hm A<|.inl rfl
  ·exact tX hm (h.sk.is<|by rcases B with rfl|rfl<;>rfl)<|.inr<|.inl h
  ·by_cases g:y=c
   ·replace hs:=hs.resolve_right λh=>jx h λq r e=>by
     have e:y=fz:=bH (λs=>(Sg.i s).aP) e;rw[e] at a;revert a;unfold mI;decide
    clear A hm;subst g;refine aB (qy Nl hs) ?_;rintro m rfl hm;refine Rs.iT (ed.mpr ⟨J,dH J⟩)<|(H v d l).bd λt N o=>?_;refine(M _ e N m _ o (aE (aE (gp<|dG _) (v.2<|x::r).1) hm) ?_).au λp X h2=>h2.au (sU e) λp h=>h
    rcases o with rfl|h|⟨G,F,Y,rfl,_,_,_,Q,_⟩
    ·exact .inl<|aE (v.2 _).1 hm
    ·exact .inr h
    ·exact .inl<|aE Q hm
   ·exact tX hm (pF g)<|.inr<|.inr<|vb y q v J a (L y b g) d e l
theorem WO{k:Int}{a:Sg->PR T}(b:mI c)(g:x.is 5 c=C)(d:∀v,Tl n v->eE (v.1<|x::r)->Rs I (a ⟨v.1<|x::r,[]⟩) λe s=>Ou n x r (v.1<|x::r).length P s)(i:∀y,P y->y≠c->P' y)(h:Tl n v)(j:eE<|v.1<|x::r):
  Rs I (cM 5 c ⟨v.1<|x::r,[]⟩ λe s=>(a s).bd λt s=>if s.q c then(jC c a (s.ts.length+1) [t] s).bd λl s=>.ok (aK k [] l t.aJ) s else .ok t s) λe s=>Ou n x r (v.1<|x::r).length P' s:=
 .q (rY h.h2<|by rcases b with rfl|rfl<;>rfl) ((d v h j).bd λt s hs=>by
  have z:=WL b g d i _ s (s.ts.length+1) [t] hs (gp<|dG _)<|.inl<|ey _
  cases q:s.q c with
  |true=>exact z.bd λl s hs=>hs
  |false=>rw[Iv q] at z;exact z)
theorem W3(o:n+1<=f)(e:f<=15)(i:NU x)(h:Tl n v)(g:eE<|v.1<|x::r):Rs I (j0 (be f) ⟨v.1<|x::r,[]⟩) λj s=>Ou n x r (v.1<|x::r).length (λc=>c=[124]) s:=
 .au (WO (.inr J) i.1.2 (λv h g=>W1 h o e i g) (λy j q=>q) h g) λj s h=>h.imp id λh=>h.imp id λh=>x8 h λc q v a b d=>vb c q v a b<|b.resolve_right d
theorem W5(j:n+1<=f)(e:f<=15)(i:NU x)(h:Tl n v)(g:eE<|v.1<|x::r):Rs I (rJ (be f) ⟨v.1<|x::r,[]⟩) λd s=>s=⟨x::r,[]⟩∨Sa s:=
 .au (WO (P':=λd=>False) (.inl J) i.2 (λv h g=>W3 j e i h g) (λy a b=>ax a b) h g) λd s hs=>hs.imp id λh=>h.elim id λh=>x8 h λd d d d d h=>h.elim
theorem W6(h:Sq y n l v):∀f,n+1<=f->f<=15->Rd I (j1<|be f) (Fy y) v Tr:=by
 induction h with
 |tl h o=>exactλf i e x r j p=>Rs.j (o x r<|j.1.is J) (.au (W5 i e j.1.nu h p) λt s hs=>hs.imp (λh=>⟨bl,h⟩) λh=>⟨J,h.sk⟩)
 |fn a b c d A=>
  intro f i e;refine aB (rZ i) ?_;rintro g rfl hg;exact a g (iy hg) e y _ d.h2<|A g hg<|aE (d8 ..) e
 |fp a b c w=>exactλf i e=>a f (iy i) e _ _ w
end
noncomputable def CA(j:Nat->Pc)(v:Px):Prop:=v=Nl∨∃w a fl i z,v=Ap (bU j w i) z/\fF w a fl/\(z=Nl∨∃y q b,z=Cn ((sg y).t q) b/\(y=[58]∨y=[44]))
noncomputable def r0(j:Nat->Pc)(u:Px):Prop:=∃q v q',u=Cn ((sg [40]).t q) (Ap v<|Cn ((sg [41]).t q') Nl)/\CA j v
section
variable{j:Nat->Pc}{w:List W}{u v z:Px}{fl p:Int}{q q' q1 q2:Pc}{i g m:Nat}{a y:List Nat}{r:List aj}{F:aj->Prop}
theorem r0.lp(h:r0 j u):Lp u:=iU h λq v q' e b=>gv q _ e
theorem Iz{w}(b:fF w a fl)(c:y=[58]∨y=[44]):qp ⟨(sg [40]).t q::(bU j w i).1 ((sg [41]).t q'::(sg fz).t q1::r),[]⟩=I/\qp ⟨(sg [40]).t q::(bU j w i).1 ((sg y).t q2::r),[]⟩=true:=by
 induction b<;>exact c.elim (λe=>e▸⟨J,J⟩) λe=>e▸⟨J,J⟩
noncomputable abbrev qA(j:Nat->Pc)(w:List W)(i:Nat)(u v:Px)(q:Pc)(z:Px):Px:=Ap (bU j w i)<|Ap u<|Ap v<|Cn ((sg fz).t q) z
noncomputable def t3(w:List W)(fl:Int):Prop:=w=[]/\fl=2048∨w=[wd bI,sp]/\fl=3072
theorem TL(G:t3 w fl)(M:tZ u)(B:r0 j v):HF (qA j w i u v q z):=by
 rcases G with⟨rfl,_⟩|⟨rfl,_⟩
 ·rcases M with rfl|⟨q1,u,rfl⟩
  ·refine jx B.lp ?_;rintro q2 v rfl;exact cK _ (Ap v<|Cn ((sg fz).t q) z) rfl rfl
  ·exact cK _ (Ap u<|Ap v<|Cn ((sg fz).t q) z) rfl rfl
 ·exact cK _ (Ap u<|Ap v<|Cn ((sg fz).t q) z) J J
theorem IA(G:t3 w fl)(M:tZ u)(B:r0 j v)(r:List aj):qp ⟨(qA j w i u v q z).1 r,[]⟩=true:=by
 rcases G with⟨rfl,_⟩|⟨rfl,_⟩
 ·rcases M with rfl|⟨q1,u,rfl⟩
  ·refine iU B ?_;rintro q1 v q2 rfl B
   rcases B with rfl|⟨w,a,fl,i,z,rfl,b,c⟩
   ·rfl
   ·rcases c with rfl|⟨y,e,z,rfl,d⟩
    ·exact(Iz b (.inl rfl) (q2:=q1)).1
    ·exact(Iz b d (q':=q1) (q1:=q1)).2
  ·rfl
 ·rfl
theorem CB{b c:Type}{p:PR b}{f:b->Sg->PR c}{Q:c->Sg->Prop}(h:p=.d9 ns):Rs I (p.bd f) Q:=by rw[h];exact(J:I=I)
@[elab_as_elim] theorem TM{P:List Nat->Prop}(h:y=[63]∨y=[58]∨y=[44]∨y=[41])(b:P [63])(c:P [58])(d:P [44])(h4:P [41]):P y:=h.elim (λe=>e▸b) λh=>h.elim (λe=>e▸c) λh=>h.elim (λe=>e▸d) λe=>e▸h4
@[elab_as_elim] theorem yU{P:List Nat->Prop}(h:a∈nK)(b:P [120])(c:P eY)(d:P dO)(h4:P fL)(h5:P [121])(h6:P rj)(h7:P [36,49]):P a:=
 mc h b λh=>mc h c λh=>mc h d λh=>mc h h4 λh=>mc h h5 λh=>mc h h6 λh=>mc h h7 λh=>ax h eW
theorem CC(b:a∈nK)(c:y=[63]∨y=[58]∨y=[44]∨y=[41]):be (g+1) 1 ⟨(nm a).t q::(sg y).t q'::r,[]⟩=.ok (aK 81 a [] q.p) ⟨(sg y).t q'::r,[]⟩:=
 TM c (yU b J J J J J J J) (yU b J J J J J J J) (yU b J J J J J J J) (yU b J J J J J J J)
theorem TN(G:t3 w fl)(M:tZ u)(B:r0 j v):NF (qA j w i u v q z):=by
 intro f d c l hr;refine aB (P:=λg=>f=g+1) (Q:=λo=>True) (aD (f-1) (As d).symm bl) ?_;rintro g rfl _
 rcases G with⟨rfl,_⟩|⟨rfl,_⟩
 ·rcases M with rfl|⟨q1,u,rfl⟩
  ·refine iU B ?_;rintro q1 v q2 rfl B;have st:∀{t s},s.i.is 5 [41]=false->s.ns=[]->Rs true (c8 [41] s λs=>PR.ok (aK 98 [] [t] q1.p) s) λo s=>Sa s:=λh e=>Rs.j h<|.b8 rfl e;show Rs I ((be (g+1) 1 ⟨v.1<|(sg [41]).t q2::(sg fz).t q::z.1 l,[]⟩).bd λt s=>c8 [41] s λs=>.ok (aK 98 [] [t] q1.p) s) _
   rcases B with rfl|⟨w,a,fl,i,H,rfl,x,A⟩
   ·exact CB (ns:=[1110]) rfl
   ·clear d c hr
    induction x with
    |dots=>exact CB (ns:=[1110]) J
    |this=>exact CB (ns:=[1110]) J
    |i b=>exact .eq (CC b<|.inl J)<|st J J
    |ga b=>
     rcases A with rfl|⟨y,L,N,rfl,k⟩
     ·exact .eq (CC b<|.inr<|.inr<|.inr rfl)<|gv q _ rfl
     ·exact .eq (CC b<|.inr<|k.imp id .inl)<|st (k.elim (λe=>e▸J) λe=>e▸J) J
  ·exact(J:I=I)
 ·exact(J:I=I)
section
variable(G:t3 w fl)(M:tZ u)(B:r0 j v)
include G M B
theorem IB(c:kI I (be<|f+1) u Tr)(d:nM I (be<|f+1) v Tr)(e:f+1<=15)(h:Rd I (am<|be f) F z Tr):Rd I (j1<|be<|f+1) F (qA j w i u v q z) Tr:=
 Ix (Ie G c M d B.lp (h.j<|f1 e) λb b b b b b b=>bl) (IA G M B)
theorem TO(c:∀f,m+1<=f->f<=15->kI I (be f) u Tr)(d:∀f,m+1<=f->f<=15->nM I (be f) v Tr)(e:∀f y v,H2 v->Rd I (be f 1) (Fy y) v Tr->Rd I (am<|be f) (Fy y) (Ap z v) Tr):wg m (qA j w i u v q z):=λg hg b y x h hr=>
 (IB G M B (c _ (f1<|gp hg) b) (d _ (f1<|gp hg) b) b (e _ y x h<|hr.q<|f1<|iy b):)
theorem TP(l:∀f,m+1<=f->f<=15->kI I (be f) u Tr)(o:∀f,m+1<=f->f<=15->nM I (be f) v Tr):wh (m+1) (qA j w i u v q<|Cn ((nm dO).t q1)<|Cn ((nm dO).t q2) Nl):=λg hg b y x d=>by
 refine aB (P:=λk=>g=k+1) (Q:=λs=>True) (aD (g-1) (As<|aE (hG ..) hg).symm bl) ?_;rintro g rfl _;refine(IB G M B (l _ hg b) (o _ hg b) b (z:=Cn ((nm dO).t q1)<|Cn ((nm dO).t q2) x) ?_:)
 rcases d with⟨rfl,rfl⟩|⟨c,t,x,rfl,h|h|h⟩
 ·exact Ib λs=>bl
 ·subst h;exactλx r d e=>.inr ⟨rfl,cL _ _ rfl ⟨rfl,rfl⟩ rfl⟩
 ·subst h;exactλx r d e=>(rfl:true=true)
 ·subst h;exactλx r d e=>(J:I=I)
end
end
noncomputable def qB(r:T):T:=(r.bO.head?.getD U).getD r
noncomputable def wi:Option T->Option T->Bool
 |some d,O r=>decide (d.aq≠r.aq)
 |_,_=>C
mutual
noncomputable def fq:T->T->Option (List Int)
 |.nd k a ks f _,r=>
  let o:=decide (r.aq=98)&&decide (k≠98)
  let b:=if o then qB r else r
  if k=b.aq/\a=b.a/\f=b.cj/\ks.length=b.bO.length then(gK (decide (k=98)) ks b.bO).map λos=>if o then r.aJ::os else os else U
noncomputable def gK:Bool->List (Option T)->List (Option T)->Option (List Int)
 |_,[],_=>O []
 |_,_::_,[]=>U
 |p,o::c,q::rs=>if p&&wi o q then U else match i8 o q with
  |none=>U
  |some a=>(gK p c rs).map λb=>a++b
noncomputable def i8:Option T->Option T->Option (List Int)
 |none,U=>O []
 |some d,O r=>fq d r
 |none,O _=>U
 |some _,U=>U
end
theorem yV{k f p:Int}{b:List<|Option T}{r:T}:fq (.nd k a b f p) r=if k=(if(decide (r.aq=98)&&decide (k≠98))=I then qB r else r).aq/\a=(if(decide (r.aq=98)&&decide (k≠98))=I then qB r else r).a/\f=(if(decide (r.aq=98)&&decide (k≠98))=I then qB r else r).cj/\b.length=(if(decide (r.aq=98)&&decide (k≠98))=I then qB r else r).bO.length then(gK (decide (k=98)) b (if(decide (r.aq=98)&&decide (k≠98))=I then qB r else r).bO).map λos=>if(decide (r.aq=98)&&decide (k≠98))=I then r.aJ::os else os else none:=rfl
theorem yW:gK p (o::c) (q::d)=if(p&&wi o q)=I then U else match i8 o q with
  |none=>U
  |some a=>(gK p c d).map λb=>a++b:=rfl
noncomputable def cH(a b:List<|Option T)(c:List Int):Prop:=a.length=b.length/\gK C a b=O c
theorem cH.nil:cH [] [] []:=⟨J,J⟩
theorem cH.cons(h:i8 o q=O a)(e:cH b d c):cH (o::b) (q::d) (a++c):=by
 refine⟨by simp[e.1],?_⟩;rw[yW,h,e.2]
 rfl
theorem cH.i(d:cH a b c):cH (U::a) (U::b) c:=cH.cons (a:=[]) J d
theorem cH.eF{d r:T}(h:fq d r=O a):cH [O d] [O r] a:=by
 have:=cH.cons (o:=O d) (q:=O r) h cH.nil;rwa [cN] at this
theorem wj{k:Int}{b:List<|Option T}{f p:Int}{r:T}(c:r.aq=98->k=98):fq (.nd k a b f p) r=if k=r.aq/\a=r.a/\f=r.cj/\b.length=r.bO.length then gK (decide (k=98)) b r.bO else none:=by
 have e:(decide (r.aq=98)&&decide (k≠98))=false:=by
  by_cases q:r.aq=98
  ·simp[c q]
  ·simp[q]
 rw[yV];simp only[e,mY,if_false];split
 ·cases gK (decide (k=98)) b r.bO<;>rfl
 ·rfl
theorem iD{k:Int}{f p d:Int}(h:cH c b g)(i:k≠98):fq (.nd k a c f p) (.nd k a b f d)=O g:=by
 rw[wj (k:=k) (r:=.nd k a b f d) λe=>e];rw[aN ⟨J,J,J,h.1⟩];have e:decide (k=98)=false:=by simp[i]
 rw[e];exact h.2
theorem TQ{d r:T}{p b:Int}(h:fq d r=O a)(c:r.aq=d.aq):fq (aK 98 [] [d] p) (aK 98 [] [r] b)=O a:=by
 rw[wj λe=>J,aN ⟨J,J,J,J⟩];show gK I [O d] [O r]=_;rw[yW,show wi (O d) (O r)=C from dT λe=>e c.symm,a9 (by simp),show i8 (O d) (O r)=O a from h];show O (a++[])=_;rw[cN]
theorem TR{d r:T}{p:Int}(h:fq d r=O b)(e:d.aq≠98)(g:r.aq≠98):fq d (aK 98 [] [r] p)=O (p::b):=by
 obtain⟨k,a,ks,f,q⟩:=d;rw[yV] at h⊢;have e1:(decide (r.aq=98)&&decide (k≠98))=false:=by simp[g]
 have e2:(decide ((aK 98 [] [r] p).aq=98)&&decide (k≠98))=true:=dH e;simp only[e1,mY,if_false] at h;simp only[e2,if_true];rw[show qB (aK 98 [] [r] p)=r from J,show(aK 98 [] [r] p).aJ=p from J];split at h
 ·rename_i q
  rw[aN q]
  cases c:gK (decide (k=98)) ks r.bO with
  |none=>rw[c] at h;exact ba h
  |some l=>rw[c] at h;cases h;rfl
 ·exact ba h
noncomputable def qC:List (List Nat):=[tc,xX,xY,xZ,qe,kT]
inductive gu where
 |kd|u (j:Bool)|nN|nO|q|pm|y (a lax:Bool)|ps|am|sg|i|j
noncomputable def gf(j:Bool)(k:Int):Bool:=decide (k=27)||(decide (k=83)||(j&&decide (k=84)))
noncomputable def mJ(w v:List W):Prop:=h9 w≠f3/\h9 w≠gs/\∀x∈v.head?,x.x≠[40]/\x.x≠[60]/\¬(h9 w=dO/\x.x=eY)
class inductive K(b:Bool)(m:Nat):Nat->gu->List T->List W->Prop where
 |i9 {i a}:a∈qC->K b m i .kd [c7 80 a 0] [nm a]
 |ae {i a}:a∈iC∨a=[69,46,105,110]->K b m i .kd [aK 81 a [] 0] (d7 a)
 |ja {i a ks ws}:a∈iC∨a=[69,46,105,110]->K b m i .nN ks ws->ks≠[]/\ks.length<=3->K b m (i+1) .kd [aK 81 a ks 0] (d7 a++sg [60]::(ws++[sg [62]]))
 |gL {i k ws}:K b m i .kd [k] ws->K b m (i+1) .kd [aK 98 [] [k] 0] (sg [40]::(ws++[sg [41]]))
 |jH {i}:K b m i .kd [aK 88 [] [] 0] [sg [123],sg [125]]
 |gh {i ks ws}:K b m i .j ks ws->ks.length<=3->K b m (i+1) .kd [aK 88 [] ks 0] (sg [123]::sp::(ws++[sp,sg [125]]))
 |gc {i k ws}:K b m i (.u true) [k] ws->K b m (i+1) .kd [aK 85 [] [k] 0] (ws++[sg [91],sg [93]])
 |aa {i k k' ws ws'}:K b m i (.u true) [k] ws->K b m i (.u true) [k'] ws'->K b m (i+1) .kd [aK 84 [] [k,k'] 0] (ws++sp::sg [38]::sp::ws')
 |un {i k ks ws ws'}:K b m i (.u false) [k] ws->K b m i .nO ks ws'->ks.length<=2->K b m (i+1) .kd [aK 83 [] (k::ks) 0] (ws++sp::sg [124]::sp::ws')
 |fn {i w fl o p r ws ws' ws''}:w=[]/\fl=2048∨w=[wd [110,101,119],sp]/\fl=3072->K b m i .q o ws->K b m i .ps [p] ws'->K b m i .am [r] ws''->K b m (i+1) .kd [.nd 27 [] [o.head?,some p,some r,none] fl 0] (w++(ws++(ws'++sp::sg [61,62]::sp::ws'')))
 |iE {i j k ws}:b=true∨gf j k.aq=false->K b m i .kd [k] ws->K b m i (.u j) [k] ws
 |jb {i j k ws}:gf j k.aq=true->K b m i .kd [k] ws->K b m i (.u j) [k] (pt::(ws++[sg [41]]))
 |iF {i k ws}:K b m i (.u false) [k] ws->K b m i .nO [k] ws
 |ia {i k ks ws ws'}:K b m i (.u false) [k] ws->K b m i .nO ks ws'->K b m i .nO (k::ks) (ws++sp::sg [124]::sp::ws')
 |iG {i k ws}:K b m i .kd [k] ws->K b m i .nN [k] ws
 |ib {i k ks ws ws'}:K b m i .kd [k] ws->K b m i .nN ks ws'->K b m i .nN (k::ks) (ws++sg [44]::sp::ws')
 |i {i}:K b m i .q [] []
 |iH {i a}:a∈hZ->K b m i .q [aK 71 [] [.nd 100 a [none,none] 536870912 0] 0] [sg [60],nm [111,117,116],sp,nm a,sg [62]]
 |ic {i a k ws}:a∈hZ->K b m i .kd [k] ws->K b m i .q [aK 71 [] [.nd 100 a [some k,none] 0 0] 0] (sg [60]::nm a::sp::wd [101,120,116,101,110,100,115]::sp::(ws++[sg [62]]))
 |ie {i a k ws}:a∈hZ->K b m i .kd [k] ws->K b m i .q [aK 71 [] [.nd 100 a [none,none] 268435456 0,.nd 100 [111,117,116] [some (aK 81 [84] [] 0),some k] 805306368 0] 0] (sg [60]::wd [105,110]::sp::nm a::sg [44]::sp::wd [105,110]::sp::nm [111,117,116]::sp::nm [111,117,116]::sp::wd [101,120,116,101,110,100,115]::sp::nm [84]::sp::sg [61]::sp::(ws++[sg [62]]))
 |jI {i a fl w}:fF w a fl->K b m i .pm [lg a none fl 0 0] w
 |jc {i a fl k w ws}:fF w a fl->K b m i .kd [k] ws->K b m i .pm [lg a (some k) fl 0 0] (w++sg [58]::sp::ws)
 |j {i a lax}:K b m i (.y a lax) [] []
 |jd {i a lax p ws}:K b m i .pm [p] ws->(k7 p=true->a=true)->(lax=true->p.cj≠0)->K b m i (.y a lax) [p] ws
 |iI {i a lax p q ks ws ws'}:K b m i .pm [p] ws->(k7 p=true->a=true)->(lax=true->p.cj≠0)->p.cj≠8192->K b m i (.y false (lax||decide (p.cj=4096))) (q::ks) ws'->K b m i (.y a lax) (p::q::ks) (ws++sg [44]::sp::ws')
 |ps {i ks ws}:K b m i (.y true false) ks ws->ks.length<=3->K b m i .ps [aK 71 [] ks 0] (sg [40]::(ws++[sg [41]]))
 |eg {i k ws}:K b m i .kd [k] ws->K b m i .am [k] ws
 |je {i k ws}:K b m i .kd [k] ws->K b m i .am [j5 [120] (some k) 0 0] (nm [120]::sp::nm [105,115]::sp::ws)
 |q {i}:K b m i .am [j5 [97,115,115,101,114,116,115] none 16777216 0] [nm [97,115,115,101,114,116,115],sp,nm [97,115,115,101,114,116,115]]
 |jf {i k ws}:K b m i .kd [k] ws->K b m i .am [j5 [116,104,105,115] (some k) 16777216 0] (nm [97,115,115,101,114,116,115]::sp::wd [116,104,105,115]::sp::nm [105,115]::sp::ws)
 |jg {i k ws}:K b m i .kd [k] ws->K b m i .am [j5 [97,115,115,101,114,116,115] (some k) 0 0] (nm [97,115,115,101,114,116,115]::sp::nm [105,115]::sp::ws)
 |ig {i a fl o p ws ws'}:K b m i .q o ws->K b m i .ps [p] ws'->K b m i .sg [.nd 27 a [o.head?,some p,none,none] fl 0] (ws++ws')
 |g3 {i a fl o p r ws ws' ws''}:K b m i .q o ws->K b m i .ps [p] ws'->K b m i .am [r] ws''->K b m i .sg [.nd 27 a [o.head?,some p,some r,none] fl 0] (ws++(ws'++sg [58]::sp::ws''))
 |iJ {i n w fl}:n∈dY∨n=wd [110,101,119]->fR n w fl->K b m i .i [.nd 99 n.x [none] fl 0] w
 |ii {i n w fl k ws}:n∈dY∨n=wd [110,101,119]->fR n w fl->K b m i .kd [k] ws->K b m i .i [.nd 99 n.x [some k] fl 0] (w++sg [58]::sp::ws)
 |g4 {i n w fl ks ws}:n∈dY∨n=st [110,101,119] [34,110,101,119,34]->fR n w fl->fl=0∨fl=4096->K b m i .sg [.nd 27 n.x ks (fl+32) 0] ws->K b m i .i [.nd 27 n.x ks (fl+32) 0] (w++ws)
 |ij {i ks ws}:K b m i .sg [.nd 27 [] ks 512 0] ws->K b m i .i [.nd 27 [] ks 512 0] ws
 |ik {i ks ws}:K b m i .sg [.nd 27 [] ks 1024 0] ws->K b m i .i [.nd 27 [] ks 1024 0] (wd [110,101,119]::sp::ws)
 |il {i w fl a k ws}:w=[]/\fl=0∨w=[nm [114,101,97,100,111,110,108,121],sp]/\fl=131072->a=[107]∨a=[114,101,97,100,111,110,108,121]->K b m i .kd [k] ws->K b m i .i [.nd 63 a [some (c7 80 [115,116,114,105,110,103] 0),some k] fl 0] (w++sg [91]::nm a::sg [58]::sp::nm [115,116,114,105,110,103]::sg [93]::sg [58]::sp::ws)
 |ms1 {i k ws}:K b m i .i [k] ws->K b m i .j [k] ws
 |gA {i k ks ws ws'}:m=0∨m=2->K b m i .i [k] ws->K b m i .j ks ws'->K b m i .j (k::ks) (ws++sg [59]::sp::ws')
 |iK {i k ks ws ws'}:m=1->K b m i .i [k] ws->K b m i .j ks ws'->K b m i .j (k::ks) (ws++sg [44]::sp::ws')
 |iL {i k ks ws ws'}:m=2->K b m i .i [k] ws->K b m i .j ks ws'->mJ ws ws'->K b m i .j (k::ks) (ws++sp::eb true ws')
noncomputable def cc:Nat->Nat
 |0=>0
 |i+1=>cc i+4*i+4
noncomputable def Fq(k:T)(a:List Int)(t:T):Prop:=fq k t=O a
noncomputable def Kq(k:T)(a:List Int)(t:T):Prop:=fq k t=O a/\t.aq=k.aq
noncomputable def FQ(a:List T)(b:List Int)(c:List T):Prop:=cH (a.map O) (c.map O) b
noncomputable def QB{a:Type}(b:Bool)(Q:a->Prop)(t:a):Prop:=b=C->Q t
structure wk(i:Nat)(y:List Nat)(k:T)(u:Px)(os:List Int):Prop where
 rd:∀f,cc i+1<=f->f<=15->Rd false (j1 (be f)) (Fy y) u (Kq k os)
 nf:k.aq≠27->Nf u
 it:nF k->∀f,cc i+1<=f->f<=15->Rx false (j0 (be f)) NI u (Kq k os)
 hg:lf k->∀f,cc i+1<=f->f<=15->Hg false (be f) u (Kq k os)
structure CD(i:Nat)(j:Bool)(k:T)(u:Px)(os:List Int):Prop where
 nf:Nf u
 it:∀f,cc i+2<=f->f<=15->Rx false (j0 (be f)) NI u (Fq k os)
 hg:j=true->∀f,cc i+2<=f->f<=15->Hg false (be f) u (Fq k os)
noncomputable def fG(b:Bool)(i:Nat)(k:T)(y:List Nat)(u:Px)(a:List Int):Prop:=H2 u/\cond b (Sq y (cc i) (2*i) u) (wk i y k u a)
noncomputable def pH(b:Bool)(i:Nat)(j:Bool)(k:T)(u:Px)(a:List Int):Prop:=H2 u/\cond b (∃y,Sq y (cc i+2) (2*i) u) (CD i j k u a)
noncomputable def wl(b:Bool)(i:Nat)(a:List T)(u:Px)(c:List Int):Prop:=cond b (Tl (cc i+2+(a.length-1)*(2*i)) u) (∀f,cc i+2<=f->f<=15->qx C (j0<|be f) [124] NI u (FQ a c))
noncomputable def wm(b:Bool)(i:Nat)(a:List T)(u:Px)(c:List Int):Prop:=∀f,cc i+2<=f->f<=15->qx b (be f 1) [44] Cl u (QB b<|FQ a c)
noncomputable def TS(b:Nat->Pc)(i:Nat)(y:List Nat)(u:Px):Prop:=(∃pp v,u=Ap pp v/\Sq y (cc i) (2*i) v/\∀f y v,H2 v->Rd I (be f 1) (Fy y) v Tr->Rd I (am<|be f) (Fy y) (Ap pp v) Tr)∨y=dO/\∃q a,u=Cn ((nm dO).t q) (Cn ((nm dO).t a) Nl)
structure r4(π:Nat->Pc)(b:Bool)(i:Nat)(k:T)(y:List Nat)(u:Px)(os:List Int):Prop where
 rd:∀f,cc i+2<=f->f<=15->Rd b (am (be f)) (Fy y) u (QB b (Fq k os))
 sq:b=true->TS π i y u
noncomputable def t4(a:Nat->Pc)(b:Bool)(i:Nat)(k:T)(u:Px)(c:List Int):Prop:=r0 a u/\∀f,cc i+2<=f->f<=15->nM b (be f) u (QB b<|Fq k c)
noncomputable def pI(b:Bool)(i:Nat)(o:List T)(u:Px)(a:List Int):Prop:=tZ u/\∀f,cc i+2<=f->f<=15->kI b (be f) u (QB b λt=>i8 o.head? t=O a)
noncomputable def TU(b:Bool)(k:T)(a:List Int)(t:T):Prop:=(t.cj=k.cj/\k7 t=k7 k/\(t.cj=0∨t.cj=4096∨t.cj=8192))/\QB b (Fq k a) t
noncomputable def wn(a:Nat->Pc)(b:Bool)(i:Nat)(k:T)(u:Px)(c:List Int):Prop:=(∀z,(z=Nl∨∃y q d,z=Cn ((sg y).t q) d/\(y=[58]∨y=[44]))->CA a (Ap u z))/\yQ u/\∀f,cc i+2<=f->f<=15->vZ b (be f) u (TU b k c)
noncomputable def CE(a b:Bool)(c:List T):Prop:=∀j,(a=I->j=0)->gW j b c=[]
noncomputable def t5(d:Nat->Pc)(b:Bool)(i:Nat)(a c:Bool)(e:List T)(u:Px)(g:List Int):Prop:=CA d u/\∀f,cc i+2<=f->f<=15->tY b (be f) u λts=>CE a c ts/\QB b (FQ e g) ts
noncomputable def CF(b:Bool)(i:Nat)(c:List<|Option T)(y:List Nat)(u:Px)(d:List Int):Prop:=Sh u/\∀f,cc i+3<=f->f<=15->∀a fl p,Rd b (f8 (be f) a fl p) (Fy y) u (QB b<|Fq (.nd 27 a c fl 0) d)
noncomputable def IC(b:Bool)(f:Nat)(l:Bool)(k:T)(y:List Nat)(u:Px)(a:List Int):Prop:=lQ b (be f) l (Fy y) u<|QB b<|Fq k a
noncomputable def ID(b:Bool)(f:Nat)(l:Bool)(a:List T)(u:Px)(c:List Int):Prop:=qz b (be f) l u<|QB b<|FQ a c
noncomputable def yX(a:List W):Prop:=∀x∈a.head?,x.x≠[40]/\x.x≠[60]
noncomputable def IE(e:Nat->Pc)(b:Bool)(i:Nat)(c:gu)(h:List T)(d:List W):Prop:=match c with
 |.kd=>∀k,h=[k]->∀j,fG b i k (h9 d) (bU e d j) (cq e d j)
 |.u g=>∀k,h=[k]->∀j,pH b i g k (bU e d j) (cq e d j)
 |.nN=>∀j,wm b i h (bU e d j) (cq e d j)
 |.nO=>∀j,wl b i h (bU e d j) (cq e d j)
 |.q=>∀j,pI b i h (bU e d j) (cq e d j)
 |.pm=>∀k,h=[k]->∀j,wn e b i k (bU e d j) (cq e d j)
 |.y a m=>∀j,t5 e b i a m h (bU e d j) (cq e d j)
 |.ps=>∀k,h=[k]->∀j,t4 e b i k (bU e d j) (cq e d j)
 |.am=>∀k,h=[k]->∀j,r4 e b i k (h9 d) (bU e d j) (cq e d j)
 |.sg=>∀k,h=[k]->∀j,CF b i k.bO (h9 d) (bU e d j) (cq e d j)
 |.i=>∀k,h=[k]->∀l,(l=I->yX d)->∀j f,cc i+3<=f->f<=15->IC b f l k (h9 d) (bU e (eb l d) j) (cq e (eb l d) j)
 |.j=>∀l,(l=I->yX d)->∀j f,cc i+3<=f->f<=15->ID b f l h (bU e (eb l d) j) (cq e (eb l d) j)
theorem sc{P:Nat->Prop}{n f:Nat}(h:n+1<=f)(k:∀g,n<=g->P (g+1)):P f:=by
 induction f using fU with
 |zero=>exact ax h<|km _
 |succ g=>exact k g<|jr h
theorem r5(i:Nat):cc i+4<=cc (i+1):=sR (d8 ..) 4
theorem Rx.rd{c:Type}{b:Bool}{m:Sg->PR c}{F:aj->Prop}{u:Px}{Q:c->Prop}(h:Rx b m F u Q):Rd b m F u Q:=λx r d e=>(h x r d e).au λt s hs=>.inl hs
theorem Hg.au{b:Bool}{d:bZ}{u:Px}{Q l:T->Prop}(h:Hg b d u Q)(g:∀t,Q t->l t):Hg b d u l:=aB h λc a h=>aD c a λx r m s=>(h x r m s).imp id λh=>aB h λt q e=>aD t (g t q) e
section
variable{k t:T}{ks ts:List T}{o1 F Y os:List Int}{n:Int}{a:List Nat}{ds rs:List (Option T)}{f p M:Int}{o Q q B:Option T}
theorem FQ.eF(h:Fq k os t):FQ [k] os [t]:=cH.eF h
theorem FQ.cons(h:Fq k o1 t)(c:FQ ks F ts):FQ (k::ks) (o1++F) (t::ts):=cH.cons h c
theorem wp(h:cH ds rs os)(c:n≠98):Kq (.nd n a ds f p) os (.nd n a rs f M):=⟨iD h c,J⟩
theorem wq(h:FQ ks os ts)(c:n≠98):Kq (aK n a ks p) os (aK n a ts M):=wp h c
theorem CG(c:i8 o Q=O o1)(d:fq k t=O F)(e:i8 q B=O Y):cH [o,O k,q,U] [Q,O t,B,U] (o1++(F++Y)):=by
 have:=cH.cons c<|cH.cons (o:=O k) (q:=O t) d<|cH.cons e<|cH.i cH.nil;rwa [cN] at this
theorem yY(h:i8 o Q=O o1)(c:i8 q B=O F):fq (.nd 100 a [o,q] f p) (.nd 100 a [Q,B] f M)=O (o1++F):=by
 have:=cH.cons h<|cH.cons c cH.nil;rw[cN] at this;exact iD this<|D J
theorem CH(h:cH (ks.map O) (ts.map O) os):i8 (O<|aK 71 [] ks p) (O<|aK 71 [] ts M)=O os:=iD (p:=p) h<|D J
theorem IF{fl d c q0 G:Int}(h:i8 o Q=O os):fq (lg a o fl d c) (lg a Q fl q0 G)=O os:=by
 have e1:i8 (O<|c7 8 a c) (O<|c7 8 a G)=O []:=iD (p:=c) cH.nil<|D J;have:=cH.cons e1<|cH.cons h<|cH.i cH.nil;rw[cN] at this;exact iD this<|D J
end
section
variable{π:Nat->Pc}{b N:Bool}{i j n f:Nat}{y y' a:List Nat}{k k':T}{ks:List T}{u v z:Px}{os o1 F Y:List Int}{q B G X q3 q4 q5 q6 q7 q8 q9 q0:Pc}{w:List W}{fl:Int}
theorem TV(c:H2 u)(s:b=I->Sq y (cc i) (2*i) u)(f:b=C->wk i y k u os):fG b i k y u os:=⟨c,by cases b;exact f J;exact s J⟩
theorem TW(e:H2 u)(nf:Nf u)(g:¬lf k)(d:∀f,cc i+1<=f->f<=15->Rx C (j0<|be f) NI u (Kq k os)):wk i y k u os:=
 ⟨λf a c=>Cz (Iw (d f a c) e) nf λx h=>h.1,λl=>nf,λl=>d,λh=>ax h g⟩
theorem IG(d:H2 u)(nf:Nf u)(e:∀f,cc i+1<=f->f<=15->Hg C (be f) u (Kq k os)):wk i y k u os:=
 ⟨λf a c=>Cz (Iw (Cy (e f a c) d) d) nf λx h=>h.1,λg=>nf,λg f a c=>Cy (e f a c) d,λg=>e⟩
theorem t8(d:H2 u)(nf:Nf u)(g:n<=cc i)(h:∀f,n+1<=f->f<=15->nJ b (be f) u (QB b<|Kq k os)):fG b i k y u os:=
 TV d (λe=>.tl (.eF ⟨λf a c=>v8 (by subst e;exact(h f (aE (gp g) a) c).au λl l=>bl),nf,d⟩) nf) λe=>IG d nf λf a c=>v8 (by subst e;exact(h f (aE (gp g) a) c).au λt q=>q J)
theorem t9(h:fG b i k y u os):∀f,cc i+2<=f->f<=15->Rd b (be f 1) (Fy y) u (QB b<|Kq k os):=λf a=>sc (P:=λf=>f<=15->Rd b (be f 1) (Fy y) u (QB b<|Kq k os)) a λg a c=>.q (f1 c) (by
 have c:=iy c
 cases b with
 |false=>exact(wk.rd h.2 g a c).au λt q d=>q
 |true=>exact(W6 h.2 g a c).au λt d e=>c6 e)
theorem r6(h:fG b i k y u os):∀f,cc i+2<=f->f<=15->Rd b (be f 1) Cl u (QB b<|Kq k os):=λf a c=>(t9 h f a c).of λx h=>h.j
theorem TX(h:a∈qC):fG b i (c7 80 a 0) y (Cn ((nm a).t q) Nl) []:=by
 have A:∀a∈qC,o8.contains a=I/\(!decide (a=dO))=true:=by decide
 have A:=A a h;exact t8 (cK _ _ J<|.inr ⟨A.2,.inl J⟩) (we ⟨J,J,J⟩) (dG _) λf c c=>SW A.1 λc=>wp cH.nil<|D J
theorem IH(h:a∈iC∨a=gF):H2 (bU π (d7 a) j)/\Nf (bU π (d7 a) j)/\cq π (d7 a) j=[]:=by
 have A:∀a,(!decide (a=dO))=I->H2 (Cn ((nm a).t<|π j) Nl)/\Nf (Cn ((nm a).t<|π j) Nl)/\([]:List Int)=[]:=λa h=>⟨cK _ _ J<|.inr ⟨h,.inl J⟩,we ⟨J,J,J⟩,J⟩;exact HT (P:=λa=>H2 (bU π (d7 a) j)/\Nf (bU π (d7 a) j)/\cq π (d7 a) j=[]) h (A _ J) (A _ J) (A _ J) (A _ J) (A _ J) ⟨cK _ _ J<|.inr ⟨J,.inr<|cK _ _ J J⟩,we ⟨J,J,J⟩,J⟩
theorem TY(h:a∈iC∨a=gF):fG b i (aK 81 a [] 0) y (bU π (d7 a) j) (cq π (d7 a) j):=by
 have A:=IH (π:=π) (j:=j) h;rw[A.2.2];exact t8 A.1 A.2.1 (dG _) λf c c=>SX h λp c=>wq cH.nil<|D J
theorem TZ(h:a∈iC∨a=gF)(d:wm b i ks u os):fG b (i+1) (aK 81 a ks 0) y (Ap (bU π (d7 a) j)<|Cn ((sg [60]).t q)<|Ap u<|Cn ((sg [62]).t B) Nl) (cq π (d7 a) j++os):=by
 have A:=IH (π:=π) (j:=j) h;rw[A.2.2];exact t8 (A.1.j J) (A.2.1.j J) (aE (by simp+arith only)<|r5 i) λf a c=>S0 h (d f a c) λp ts q e=>wq (q e)<|D J
theorem T1(h:fG b i k y' u os):fG b (i+1) (aK 98 [] [k] 0) y (Cn ((sg [40]).t q)<|Ap u<|Cn ((sg [41]).t B) Nl) os:=
 t8 (cK _ _ J<|.inl J) (Iy h.1) (aE (by simp+arith only)<|r5 i) λf a c=>HX (r6 h f a c) λt q e=>⟨TQ (q e).1 (q e).2,J⟩
theorem T2(h:∀f,cc i+3<=f->f<=15->qz b (be f) C u (QB b<|FQ ks os)):fG b (i+1) (aK 88 [] ks 0) y (Cn ((sg [123]).t q)<|Ap u<|Cn ((sg [125]).t B) Nl) os:=
 t8 (cK _ _ J<|.inl J) (we ⟨J,J,J⟩) (aE (by simp+arith only)<|r5 i) λf a c=>sc (P:=λf=>f<=15->nJ b (be f) _ _) a (λg a c=>HY (Q1:=λm=>b=C->cH (ks.map O) m.bO os) ((Ir (h g a<|iy c) λp ts q e=>q e).j<|f1 c) λm q e=>wp (q e)<|D J) c
theorem T3:fG b i (aK 88 [] [] 0) y (Cn ((sg [123]).t q)<|Cn ((sg [125]).t B) Nl) []:=
 t8 (cK _ _ J<|.inl J) (we ⟨J,J,J⟩) (dG _) λf a c=>sc (P:=λf=>f<=15->nJ b (be f) _ _) a (λg a c=>HY (Q1:=λm=>m.bO=[]) ((TE λp=>J).j<|f1 c) λm q e=>wp (q▸cH.nil)<|D J) c
theorem T4(d:b=true∨gf N k.aq=false)(h:fG b i k y u os):pH b i N k u os:=by
 refine⟨h.1,?_⟩
 cases b with
 |true=>exact⟨y,Sq.au h.2 (d8 ..)<|bF _⟩
 |false=>
  have d:=kn.mp<|d.resolve_left bc;have g:=kn.mp d.2;have lo:nF k:=⟨jw d.1,jw g.1⟩;have h:=h.2;exact⟨h.nf lo.1,λf a c=>(h.it lo f (iy a) c).au λt q=>q.1,λe f a c=>(h.hg ⟨lo.1,lo.2,jw (by rw[<-g.2,e];rfl)⟩ f (iy a) c).au λt q=>q.1⟩
theorem II(h:gf N k.aq=I):k.aq≠98:=λe=>by rw[e] at h;revert h;cases N<;>exactλh=>bc h
theorem T7(g:gf N k.aq=I)(h:fG b i k y u os):pH b i N k (Cn ((sg [40]).t q)<|Ap u<|Cn ((sg [41]).t B) Nl) (q.p::os):=by
 have nf:=Iy (q:=q) (q':=B) h.1;have h2:H2 (Cn ((sg [40]).t q)<|Ap u<|Cn ((sg [41]).t B) Nl):=cK _ _ J<|.inl J;have d:∀f,cc i+2<=f->f<=15->nJ b (be f) (Cn ((sg [40]).t q)<|Ap u<|Cn ((sg [41]).t B) Nl) (QB b<|Fq k<|q.p::os):=λf a c=>HX (r6 h f a c) λt z e=>TR (z e).1 (II g)<|(z e).2▸II g;refine⟨h2,?_⟩;clear h
 cases b with
 |true=>exact⟨[],.tl (.eF ⟨λf a c=>v8<|(d f (iy a) c).au λl l=>bl,nf,h2⟩) nf⟩
 |false=>exact⟨nf,λf a c=>Cy (v8<|(d f a c).au λt q=>q J) h2,λl f a c=>v8<|(d f a c).au λt q=>q J⟩
theorem T8(h:pH b i I k u os):fG b (i+1) (aK 85 [] [k] 0) y (Ap u<|Cn ((sg [91]).t q)<|Cn ((sg [93]).t B) Nl) os:=by
 have l:=r5 i;have h2:H2 (Ap u<|Cn ((sg [91]).t q)<|Cn ((sg [93]).t B) Nl):=h.1.j J;refine⟨h2,?_⟩
 cases b with
 |true=>exact aB (h.2.elim λy s=>aD y s bl) λy s d=>s.gc.au (aE (by simp+arith only) l)<|by simp+arith only
 |false=>
  have h:=h.2;exact IG h2 (h.nf.j J) λf a c=>Iu (h.hg J f (L2 l a) c) λt q=>wq (FQ.eF q)<|D J
theorem T9(h:pH b i I k u o1)(d:pH b i I k' v F):fG b (i+1) (aK 84 [] [k,k'] 0) y (Ap u<|Cn ((sg [38]).t q) v) (o1++F):=by
 have l:=r5 i;have h2:H2 (Ap u<|Cn ((sg [38]).t q) v):=h.1.j J;refine⟨h2,?_⟩
 cases b with
 |true=>
  exact h.2.elim λr s=>d.2.elim λx m=>(Sq.i s (.inr J) m.j (aE (by simp+arith only) l) (by show _<=cc i+4*i+4;simp+arith only)).au (bF _)<|by simp+arith only
 |false=>
  have g:=h.2;have d:=d.2;exact TW h2 (g.nf.j J) (λe=>e.2.2 J) λf a c=>TH (g.hg J f (L2 l a) c) h.1 (d.hg J f (L2 l a) c) λt A q B=>wq (FQ.cons q<|FQ.eF B)<|D J
theorem Ua(h:pH b i C k u o1)(e:wl b i ks v F)(g:ks.length<=2):fG b (i+1) (aK 83 [] (k::ks) 0) y (Ap u<|Cn ((sg [124]).t q) v) (o1++F):=by
 have l:=r5 i;have h2:H2 (Ap u<|Cn ((sg [124]).t q) v):=h.1.j J;refine⟨h2,?_⟩
 cases b with
 |true=>
  refine h.2.elim λm s=>?_;have:(ks.length-1)*(2*i)<=1*(2*i):=EX _<|Nat.sub_le_of_le_add g;exact(Sq.i s (.inl J) e (aE (by simp+arith only) l) (by show _<=cc i+4*i+4;exact L1 this)).au (bF _)<|by simp+arith only
 |false=>
  have d:=h.2;exact⟨λf a c=>Cz (TJ (d.it f (L2 l a) c) h.1 (e f (L2 l a) c) λt ts q B=>wq (FQ.cons q B)<|D J) (d.nf.j J) λx h=>h.1,λr=>d.nf.j J,λlo=>ax J lo.2,λlo=>ax J lo.2.1⟩
theorem Ub(h:pH b i false k u os):wl b i [k] u os:=by
 cases b with
 |true=>exact h.2.elim λy s=>s.j.au<|by simp+arith only
 |false=>exactλf a c=>HV rfl (Rx.rd<|CD.it h.2 f a c) (λx h=>h) λt q=>FQ.eF q
theorem Uc(h:pH b i false k u o1)(d:wl b i ks v F):wl b i (k::ks) (Ap u<|Cn ((sg [124]).t q) v) (o1++F):=by
 cases b with
 |true=>
  refine h.2.elim λy s=>(s.j.au<|d8 ..).i (.inl rfl)<|Tl.au d ?_;exact jp (EX _<|adf ..) _
 |false=>exactλf a c=>HW rfl (Rx.rd<|CD.it h.2 f a c) ⟨⟨⟨rfl,rfl⟩,rfl⟩,rfl⟩ (d f a c) λt ts q B=>FQ.cons q B
theorem Ud(h:fG b i k y u os):wm b i [k] u os:=λf a c=>HV J (r6 h f a c) (λx h=>h) λt q e=>FQ.eF (q e).1
theorem Ue(h:fG b i k y u o1)(d:wm b i ks v F):wm b i (k::ks) (Ap u<|Cn ((sg [44]).t q) v) (o1++F):=λf a c=>HW J (r6 h f a c) ⟨J,J⟩ (d f a c) λt ts q B e=>FQ.cons (q e).1<|B e
theorem Uf(h:fG b i k y u os):r4 π b i k y u os:=
 ⟨λf a c=>(H9 (t9 h f a c) h.1 λx h=>h.1).au λt q e=>(q e).1,λe=>.inl<|cL Nl u J (by subst e;exact h.2) λf y v d hr=>H9 hr d λx h=>h.1⟩
theorem IJ(h:fG b i k y u os):r4 π b i (j5 a (O k) 0 0) y (Cn ((nm a).t q)<|Cn ((nm eY).t B) u) os:=
 ⟨λf a c=>Ia (t9 h f a c) λp t q e=>iD (cH.eF (q e).1)<|D J,λe=>.inl<|cL (Cn ((nm a).t q)<|Cn ((nm eY).t B) Nl) u J (by subst e;exact h.2) λf y v g hr=>Ia hr λd d d=>bl⟩
theorem Ug(h:fG b i k y u os):r4 π b i (j5 eX (O k) 16777216 0) y (Cn ((nm dO).t q)<|Cn ((wd eX).t G)<|Cn ((nm eY).t X) u) os:=
 ⟨λf a c=>Ic (t9 h f a c) λp t q e=>iD (cH.eF (q e).1)<|D J,λe=>.inl<|cL (Cn ((nm dO).t q)<|Cn ((wd eX).t G)<|Cn ((nm eY).t X) Nl) u J (by subst e;exact h.2) λf y v g hr=>Ic hr λd d d=>bl⟩
theorem Uh:r4 π b i (j5 dO U 16777216 0) dO (Cn ((nm dO).t q)<|Cn ((nm dO).t B) Nl) []:=
 ⟨λf a c=>Ib λp e=>iD (cH.i cH.nil)<|D J,λd=>.inr ⟨J,gv q B J⟩⟩
theorem Ui{o:List T}{p r:T}(m:t3 w fl)(d:pI b i o u o1)(e:t4 π b i p v F)(H:r4 π b i r y z Y):fG b (i+1) (.nd 27 [] [o.head?,O p,O r,U] fl 0) y (qA π w j u v q z) (o1++(F++Y)):=by
 have l:=r5 i;have s:=λ{q z}=>TL (i:=j) (q:=q) (z:=z) m d.1 e.1;have A:H2 (qA π w j u v q z):=(s.h2 (v:=Nl):);refine⟨A,?_⟩
 cases b with
 |false=>
  refine⟨λf a c=>?_,λh=>ax J h,λlo=>ax J lo.1,λlo=>ax J lo.1⟩;exact sc (P:=λf=>f<=15->Rd C (j1<|be f) (Fy y) _ _) a (λg a c=>Ix (Ie m (d.2 (g+1) (aE (L1 l)<|gp a) c) d.1 (e.2 (g+1) (aE (L1 l)<|gp a) c) e.1.lp ((H.rd g (aE (L1 l) a)<|iy c).j<|f1 c) λp o t Q z1 N P=>wp (CG (z1 J) (N J)<|P J)<|D J)<|IA m d.1 e.1) c
 |true=>
  have L:∀f,cc i+2<=f->f<=15->kI I (be f) u Tr:=λf a c=>(d.2 f a c).au λB B=>bl;have M:∀f,cc i+2<=f->f<=15->nM I (be f) v Tr:=λf a c=>(e.2 f a c).au λB B=>bl;have nf:=λ{q z}=>TN (i:=j) (q:=q) (z:=z) m d.1 e.1
  rcases H.sq rfl with⟨pp,x,rfl,sq,hp⟩|⟨rfl,G,X,rfl⟩
  ·exact(Sq.au (Sq.fn (TO m d.1 e.1 L M hp|>.au (bF _)) nf s<|sq.au (ey _)<|bF _) (aE (by simp+arith only) l) (bF _):)
  ·exact(Sq.au (Sq.fp (TP m d.1 e.1 L M) nf s<|.inl ⟨J,J⟩) (aE (by simp+arith only) l) (bF _):)
theorem Uj:pI b i [] Nl []:=⟨.inl J,λf c c=>S1 λc=>J⟩
theorem Uk(h:a∈hZ):pI b i [aK 71 [] [.nd 100 a [U,U] 536870912 0] 0] (Cn ((sg [60]).t q)<|Cn ((nm fd).t G)<|Cn ((nm a).t X)<|Cn ((sg [62]).t q3) Nl) []:=
 ⟨.inr<|gv _ _ J,λf c c=>S2 h λp M c=>CH<|cH.eF<|yY (o1:=[]) J J⟩
theorem Ul(h:a∈hZ)(d:fG b i k y u os):pI b i [aK 71 [] [.nd 100 a [O k,U] 0 0] 0] (Cn ((sg [60]).t q)<|Cn ((nm a).t G)<|Cn ((wd iS).t X)<|Ap u<|Cn ((sg [62]).t q3) Nl) (os++[]):=
 ⟨.inr<|gv _ _ J,λf a c=>S4 h (r6 d f a c) λp M t q e=>CH<|cH.eF<|yY (q e).1 J⟩
theorem Um(h:a∈hZ)(d:fG b i k y u os):pI b i [aK 71 [] [t6 a 0,t7 (aK 81 [84] [] 0) k 0] 0] (Cn ((sg [60]).t q)<|Cn ((wd f2).t G)<|Cn ((nm a).t X)<|Cn ((sg [44]).t q3)<|Cn ((wd f2).t q4)<|Cn ((nm fd).t q5)<|Cn ((nm fd).t q6)<|Cn ((wd iS).t q7)<|Cn ((nm [84]).t q8)<|Cn ((sg [61]).t q9)<|Ap u<|Cn ((sg [62]).t q0) Nl) os:=
 ⟨.inr<|gv _ _ J,λf x c=>sc (P:=λf=>cc i+2<=f->f<=15->kI b (be f) _ _) (iy x) (λg m x c=>S9 h (r6 d (g+1) x c) λp M l r t q e=>CH<|cH.cons (a:=[]) (yY (p:=0) (o1:=[]) J J)<|cH.eF<|yY (o1:=[]) (show fq (aK 81 [84] [] 0) (aK 81 [84] [] l)=O [] from iD cH.nil (D J)) (q e).1) x c⟩
end
noncomputable def lt(u:List aj):List Nat:=(u.getLast?.map aj.aP).getD []
theorem Un{a b:List aj}(h:b≠[]):lt (a++b)=lt b:=by
 unfold lt;rw[uR];cases hb:b.getLast? with
 |none=>exact ax (Nr.mp hb) h
 |some t=>rfl
section
variable{b:Bool}{m i:Nat}{c:gu}{ks:List T}{y:List W}
theorem yZ{P:W->Prop}(A:∀n∈dY++[wd bI,st bI fM],P n)(h:n∈dY∨n=wd bI∨n=st bI fM):P n:=
 A n (eV.mpr<|h.imp id λe=>d4.mpr<|e.imp id iw.mpr)
theorem CI{n:W}(h:n∈dY∨n=wd bI∨n=st bI fM):(n.k=1∨n.k=2∨n.k=3∨n.k=4)/\n.l=C/\n.o=C/\(n.k=2->n.x=bI->n=wd bI):=by
 have A:=yZ (P:=λn=>(n.k=1∨n.k=2∨n.k=3∨n.k=4)/\n.l=C/\n.o=C/\(n.k=2->n.x=bI->n.w=bI)) (D J) h;exact⟨A.1,A.2.1,A.2.2.1,λa h2=>by
  have d:=A.2.2.2 a h2;clear h
  cases n;cases a;cases h2;cases d;cases A.2.1;cases A.2.2.1;rfl⟩
theorem CJ{fl:Int}(h:n∈dY∨n=wd bI∨n=st bI fM)(d:fR n w fl):∃x r,w=x::r/\x.l=C/\(x.k=1∨x.k=2∨x.k=3∨x.k=4):=by
 refine ly (CI h) λa h2 e=>?_
 induction d
 ·exact cL _ _ J h2 a
 ·exact cL _ _ J h2 a
 ·exact cL _ _ J J<|.inl J
 ·exact cL _ _ J J<|.inl J
noncomputable def Uo(c:gu)(y:List W):Prop:=match c with
 |.q=>y=[]∨∃r,y=sg [60]::r
 |.ps=>∃r,y=sg [40]::r
 |.sg=>∃x r,y=sg x::r/\(x=[40]∨x=[60])
 |.i=>∃x r,y=x::r/\x.l=C/\x.k≠9
 |.j=>∃x r,y=x::r/\x.l=C/\x.k≠9
 |_=>True
theorem pJ(h:K b m i c ks y):Uo c y:=by
 induction h with
 |i=>exact .inl J
 |iH=>exact .inr ⟨_,J⟩
 |ic=>exact .inr ⟨_,J⟩
 |ie=>exact .inr ⟨_,J⟩
 |ps=>exact⟨_,J⟩
 |ig _ _ d h2=>
  obtain⟨r,rfl⟩:=h2
  rcases d with rfl|⟨g,rfl⟩
  ·exact cK _ _ rfl<|.inl rfl
  ·exact cK _ _ J<|.inr J
 |g3 _ _ _ d h2 _=>
  obtain⟨r,rfl⟩:=h2
  rcases d with rfl|⟨g,rfl⟩
  ·exact cK _ _ rfl<|.inl rfl
  ·exact cK _ _ J<|.inr J
 |iJ f e=>
  refine cV (CJ (f.imp (λh=>h) .inl) e) ?_;rintro x r rfl d h2;exact cL x r J d<|by lia
 |ii f e _ _=>
  refine dn λj=>cV (CJ (f.imp (λh=>h) .inl) e) ?_;rintro x r rfl d h2;exact j<|cL x _ J d<|by lia
 |g4 f e _ _ _=>
  refine cV (CJ (f.imp (λh=>h) .inr) e) ?_;rintro x r rfl d h2;exact cL x _ J d<|by lia
 |ij _ d=>
  refine eC d ?_;clear d;rintro x r rfl _;exact cL _ _ J J<|show(5:Int)≠9 by decide
 |ik=>exact cL _ _ J J<|show(2:Int)≠9 by decide
 |il e _ _ _=>
  rcases e with⟨rfl,_⟩|⟨rfl,_⟩
  ·exact cL _ _ rfl rfl<|show(5:Int)≠9 by decide
  ·exact cL _ _ J J<|show(1:Int)≠9 by decide
 |ms1 _ d=>exact d
 |gA _ _ _ d _=>refine cV d ?_;rintro x r rfl a q;exact cL x _ J a q
 |iK _ _ _ d _=>refine cV d ?_;rintro x r rfl a q;exact cL x _ J a q
 |iL _ _ _ _ d _=>refine cV d ?_;clear d;rintro x r rfl a q;exact cL x _ J a q
 |_=>exact dr
noncomputable def La(y:List W):Prop:=∃r w,y=r++[w]/\w.k≠9
theorem La.j{a c:List W}(h:La c):La (a++c):=by refine eC h ?_;rintro r w rfl e;exact cK (a++r) w (by simp) e
theorem La.cons{c:List W}(h:La c):La (a::c):=La.j (a:=[a]) h
theorem La.sg:La [sg x]:=cK [] _ J<|show(5:Int)≠9 by decide
theorem La.nm:La [nm x]:=cK [] _ J<|show(1:Int)≠9 by decide
theorem La.eb{c:List W}(h:La c):La (eb l c):=by
 refine eC h ?_;clear h;rintro r w rfl e
 induction r using aV with
 |nil=>exact cK [] _ J e
 |cons a r=>exact cK (_::r) w J e
theorem Up{fl:Int}(h:n∈dY∨n=wd bI∨n=st bI fM)(a:fR n w fl):La w:=by
 refine ly (CI h) λd h2 e=>?_
 induction a
 ·exact cK [] _ J<|by lia
 ·exact La.sg.j (a:=[_])
 ·exact cK [_,_] n J<|by lia
 ·exact La.sg.j (a:=[_,_,_])
noncomputable def Uq(c:gu)(y:List W):Prop:=match c with
 |.y _ _=>True
 |.q=>True
 |_=>La y
theorem jJ(h:K b m i c ks y):Uq c y:=by
 induction h with
 |j=>exact dr
 |jd=>exact dr
 |iI=>exact dr
 |i=>exact dr
 |iH=>exact dr
 |ic=>exact dr
 |ie=>exact dr
 |i9=>exact La.nm
 | @ae i a _=>
  unfold d7;split
  ·exact cK [_,_] _ J<|show(2:Int)≠9 by decide
  ·exact La.nm
 |ja _ _ _ _=>exact(La.j<|La.cons<|La.j La.sg)
 |gL _ _=>exact(La.cons<|La.j La.sg)
 |jH=>exact(La.cons La.sg)
 |gh _ _ _=>exact(La.cons<|La.cons<|La.j<|La.cons La.sg)
 |gc _ _=>exact(La.j<|La.cons La.sg)
 |aa _ _ _ h=>exact(La.j<|La.cons<|La.cons<|La.cons h)
 |un _ _ _ _ h=>exact(La.j<|La.cons<|La.cons<|La.cons h)
 |fn _ _ _ _ _ _ h=>exact(La.j<|La.j<|La.j<|La.cons<|La.cons<|La.cons h)
 |iE _ _ h=>exact h
 |jb _ _ _=>exact(La.cons<|La.j La.sg)
 |iF _ h=>exact h
 |ia _ _ _ h=>exact(La.j<|La.cons<|La.cons<|La.cons h)
 |iG _ h=>exact h
 |ib _ _ _ h=>exact(La.j<|La.cons<|La.cons h)
 |jI h=>
  induction h
  ·exact La.cons La.nm
  ·exact La.cons La.sg
  ·exact La.nm
  ·exact cK [] _ J<|show(2:Int)≠9 by decide
 |jc _ _ h=>exact(La.j<|La.cons<|La.cons h)
 |ps _ _ _=>exact(La.cons<|La.j La.sg)
 |eg _ h=>exact h
 |je _ h=>exact(La.j (a:=[_,_,_,_]) h)
 |q=>exact(La.j (a:=[_,_]) La.nm)
 |jf _ h=>exact(La.j (a:=[_,_,_,_,_,_]) h)
 |jg _ h=>exact(La.j (a:=[_,_,_,_]) h)
 |ig _ _ _ h=>exact(La.j h)
 |g3 _ _ _ _ _ h=>exact(La.j<|La.j<|La.cons<|La.cons h)
 |iJ d e=>exact(Up (d.imp (λh=>h) .inl) e)
 |ii d e _ h=>exact(La.j<|La.cons<|La.cons h)
 |g4 _ _ _ _ h=>exact(La.j h)
 |ij _ h=>exact h
 |ik _ h=>exact(La.cons<|La.cons h)
 |il _ _ _ h=>exact(La.j<|La.j (a:=[_,_,_,_,_,_,_,_]) h)
 |ms1 _ h=>exact h
 |gA _ _ _ _ h=>exact(La.j<|La.cons<|La.cons h)
 |iK _ _ _ _ h=>exact(La.j<|La.cons<|La.cons h)
 |iL _ _ _ _ _ h=>exact(La.j<|La.cons h.eb)
theorem CK(r:List W)(w:W):h9 (r++[w])=w.x:=by simp[h9]
theorem Ur(h:tk y u d)(a:La y):lt u=h9 y:=by
 refine dn λf=>eC a ?_;clear a;rintro r w rfl e;obtain⟨k,l,o1,o,rfl,rfl,_,h2⟩:=vT h;rw[mG e] at h2;clear h;refine lB h2 ?_;clear h2;rintro n p e q g rfl rfl j;refine f ?_;rw[CK,Un (by simp),(mH j).1];rfl
theorem Us{x:W}{r:List W}(h:x.l=C):eb C (x::r)=x::r:=by
 obtain⟨a,b,c,d,e⟩:=x;cases h;rfl
theorem nT(h:w≠[]):eb l (w++v)=eb l w++v:=by
 induction w using aV with
 |nil=>exact ax J h
 |cons a r=>rfl
end
section
variable{B:Nat->Pc}{b jj:Bool}{i j n f:Nat}{y y' a:List Nat}{k p:T}{ks:List T}{u v z:Px}{os o1 M X:List Int}{q Y:Pc}{w:List W}{fl Q p1:Int}{F N:Bool}
theorem IK(d:fF w a fl):fl=0∨fl=4096∨fl=8192:=by
 induction d with
 |dots=>exact .inr<|.inr J
 |i=>exact .inr<|.inl J
 |_=>exact .inl J
theorem Ut(d:fF w a fl):wn B b i (lg a U fl 0 0) (bU B w j) []:=
 ⟨λz g=>.inr ⟨w,a,fl,j,z,J,d,g⟩,H5 d,λf e e=>Ta d λQ p1=>⟨⟨J,J,IK d⟩,λe=>IF J⟩⟩
theorem Uu(d:fF w a fl)(g:fG b i k y u os):wn B b i (lg a (O k) fl 0 0) (Ap (bU B w j)<|Cn ((sg [58]).t q) u) os:=
 ⟨λz h=>.inr ⟨w,a,fl,j,Cn ((sg [58]).t q)<|Ap u z,J,d,.inr<|lz [58] q _ J<|.inl J⟩,λr=>H5 d _,λf a c=>Tb d (r6 g f a c) λQ p1 t z=>⟨⟨J,J,IK d⟩,λe=>IF (z e).1⟩⟩
theorem IL{t:T}(o:k7 p=I->N=I)(s:F=I->p.cj≠0)(x:t.cj=p.cj/\k7 t=k7 p/\(t.cj=0∨t.cj=4096∨t.cj=8192))(h:d=[]∨CE C (F||decide (p.cj=4096)) d):CE N F (t::d):=by
 intro j A;refine ly x λe1 e2 g=>?_;have hr:∀lax',lax'=(F||decide (p.cj=4096))->gW (j+1) lax' d=[]:=λlax' e=>h.elim (λh=>h▸J) λh=>e▸h (j+1) bc;show(if 0<j/\k7 t=I then[2680] else[])++(if t.cj=4096 then gW (j+1) I d else(if(F&& !rK t)=I then[1016] else[])++gW (j+1) F d)=[];rw[a9 λc=>ax c.1 (by rw[A (o<|e2▸c.2)];decide)];rw[e1] at g⊢
 by_cases q:p.cj=4096
 ·rw[aN q];exact hr I (by rw[q];exact(uQ _).symm)
 ·rw[a9 q,hr F (by rw[dT q,oj]),cN];refine a9 λc=>?_;have c:=ed.mp c;have r:rK t=true:=dH<|e1.trans<|(g.resolve_left<|s c.1).resolve_left q;rw[r] at c;exact bc c.2
theorem Uv:t5 B b i N F [] Nl []:=⟨.inl J,λf d d=>Td ⟨λd d=>J,λd=>cH.nil⟩⟩
theorem Uw(h:wn B b i p u os)(d:k7 p=I->N=I)(g:F=I->p.cj≠0):t5 B b i N F [p] u os:=
 ⟨h.1 Nl<|.inl J,λf x c=>Te h.2.1 (h.2.2 f x c) λt z=>⟨IL d g z.1<|.inl J,λe=>FQ.eF<|z.2 e⟩⟩
theorem Ux(h:wn B b i p u o1)(g:k7 p=I->N=I)(o:F=I->p.cj≠0)(r:p.cj≠8192)(s:t5 B b i C (F||decide (p.cj=4096)) ks v M):t5 B b i N F (p::ks) (Ap u<|Cn ((sg [44]).t q) v) (o1++M):=
 ⟨h.1 _<|.inr<|lz [44] q v J<|.inr J,λf x c=>Tf h.2.1 (h.2.2 f x c) (λt z=>dT λe=>r<|z.1.1.symm.trans e) (s.2 f x c) λt ts z d=>⟨IL g o z.1<|.inr d.1,λe=>FQ.cons (z.2 e)<|d.2 e⟩⟩
theorem Uy(h:t5 B b i I C ks u os):t4 B b i (aK 71 [] ks 0) (Cn ((sg [40]).t q)<|Ap u<|Cn ((sg [41]).t Y) Nl) os:=
 ⟨lz q u Y J h.1,λf a c=>Tg (h.2 f a c) λp ts z=>⟨z.1 0 λd=>J,λe=>iD (z.2 e)<|D J⟩⟩
theorem IM(d:pI b i o u o1)(e:t4 B b i p v M):Sh (Ap u<|Ap v z):=by
 rcases d.1 with rfl|⟨q,u,rfl⟩
 ·refine jx e.1.lp ?_;rintro q v rfl;exact lz _ q (Ap v z) J<|.inl J
 ·exact lz _ q (Ap u<|Ap v z) J<|.inr J
theorem Uz{o:List T}(g:pI b i o u o1)(d:t4 B b i p v M):CF b i [o.head?,O p,U,U] y (Ap u v) (o1++(M++[])):=
 ⟨(IM (z:=Nl) g d:),λf x c a fl Q=>Th (g.2 f (iy x) c) (d.2 f (iy x) c) d.1.lp (λt s z r e=>iD (CG (z e) (r e) J)<|D J) λx h=>h.1⟩
theorem UA{o:List T}(h:pI b i o u o1)(d:t4 B b i p v M)(s:r4 B b i k y z X):CF b i [o.head?,O p,O k,U] y (Ap u<|Ap v<|Cn ((sg [58]).t q) z) (o1++(M++X)):=
 ⟨IM h d,λf x c=>sc (P:=λf=>cc i+3<=f->f<=15->∀a fl Q,Rd b (f8 (be f) a fl Q) (Fy y) _<|QB b<|Fq (.nd 27 a [o.head?,O p,O k,U] fl 0)<|o1++(M++X)) x (λg x r c a fl Q=>Ti (h.2 _ (iy r) c) (d.2 _ (iy r) c) d.1.lp ((s.rd g x<|iy c).j<|f1 c) λt G H z A F e=>iD (CG (z e) (A e)<|F e)<|D J) x c⟩
end
theorem UB{n:W}{q:Pc}(h:Fy n.x x):pG (n.t q) x=false:=by
 unfold pG;rw[h.f8,h.j.1];refine kn.mpr ⟨mX _,kn.mpr ⟨mX _,?_⟩⟩
 cases e:((n.t q).is 1 f3||(n.t q).is 1 gs) with
 |false=>rfl
 |true=>exact h.j.2<|(ju.mp e).imp (λe=>(pq e).2) λe=>(pq e).2
theorem g5{n:W}(h:n∈dY∨n=wd bI):n∈dY∨n=wd bI∨n=st bI fM:=h.imp (λh=>h) .inl
theorem nU{n:W}(h:n∈dY∨n=st bI fM):n∈dY∨n=wd bI∨n=st bI fM:=h.imp (λh=>h) .inr
noncomputable def qZ:Pc:=⟨0,0,0⟩
theorem pK{n:W}(h:n∈dY∨n=wd bI∨n=st bI fM):(n.t qZ).i=I/\n.l=C/\n.o=false:=yZ (P:=λn=>(n.t qZ).i=I/\n.l=C/\n.o=C) (D J) h
theorem UC{n:W}(h:n∈dY∨n=st bI fM):(n.t qZ).is 2 bI=false:=by
 have A:∀n∈dY++[st bI fM],(n.t qZ).is 2 bI=false:=by decide
 exact A n<|eV.mpr<|h.imp id iw.mpr
section
variable{B:Nat->Pc}{b:Bool}{i j m:Nat}{c:gu}{ks:List T}{G a:List W}{w:W}{u:Px}{os:List Int}{n:W}{fl:Int}{l:Bool}{y:List Nat}
theorem im{P:Px->List Int->Prop}(e:d=u)(o:g=os)(h:P u os):P d g:=e▸o▸h
theorem mK{P:List Nat->Px->List Int->Prop}{Y:List Nat}(o:Y=y)(e:d=u)(r:g=os)(h:P y u os):P Y d g:=o▸e▸r▸h
theorem o0(h:∀j,cq B a j=[]):cq B (G++a) i=cq B G i:=oA.trans<|(bH _<|h _).trans<|cN _
theorem o1(h:∀j,cq B a j=[]):cq B (a++G) i=cq B G (i+a.length):=oA.trans (bH (·++_)<|h _)
theorem jK(h:La G):h9 (a++G)=h9 G:=by
 refine eC h ?_;rintro r w rfl _;rw[<-b6,CK,CK]
theorem IN{a:List Nat}(d:fF G a fl):∀j,cq B G j=[]:=by
 induction d<;>exactλj=>J
theorem CL(g:n.o=C)(h:fR n G fl):∀j,cq B (eb l G) j=[]:=by
 have e:∀l j r,cq B r (j+1)=[]->cq B ({n with l:=l}::r) j=[]:=λl j r e=>by
  show cond (decide (n.k=9)) (cq B r<|j+1) (cond n.o (_::cq B r (j+1))<|cq B r<|j+1)=[];rw[e,g];cases decide (n.k=9)<;>rfl
 have d:∀j r,cq B r (j+1)=[]->cq B (n::r) j=[]:=λj r=>e n.l j r;intro j
 induction h with
 |ga=>exact e _ _ [] J
 |i=>exact e _ _ [sg [63]] J
 |ro=>exact d _ [] J
 |j=>exact d _ [sg [63]] J
theorem y0(d:fR n G fl):G≠[]:=by induction d<;>exactλe=>jy e
theorem wr(g:c=.i∨c=.j∨c=.sg)(h:K b m i c ks G):G≠[]/\eb C G=G:=by
 have:=pJ h;clear h
 rcases g with rfl|rfl|rfl<;>
 ·refine eC this ?_;clear this;rintro x r rfl d;refine⟨λe=>(adg _ _ e).elim,Us ?_⟩
  first|exact d.1|rcases d with rfl|rfl<;>rfl
theorem CM{w v:List W}(h:w≠[])(d:l=I->yX (w++v)):l=I->yX w:=λe=>by
 induction w using aV with
 |nil=>exact ax J h
 |cons x r=>exact d e
theorem fg{P:T->Prop}(h:P x):∀k,[x]=[k]->P k:=λd e=>adh e▸h
end
section
variable{u:Nat->Pc}{b:Bool}{i j m f:Nat}{ks:List T}{k:T}{y a:List W}
theorem oR{x o c:List Int}(h:o=c):x++o=x++c:=h▸J
theorem y1(h:K b m i .j ks y)(d:IE u b i .j ks y)(j f:Nat)(a:cc i+3<=f)(c:f<=15):ID b f C ks (bU u y j) (cq u y j):=by
 have:=d C bc j f a c;rw[(wr (.inr<|.inl J) h).2] at this;exact this
theorem UD{fl:Int}(h:t3 w fl):∀j,cq u w j=[]:=by
 rcases h with⟨rfl,_⟩|⟨rfl,_⟩<;>exactλj=>rfl
theorem UE{w:W}(e:y.getLast? =O w):h9 y=w.x:=by unfold h9;rw[e];rfl
theorem IP{a:List Nat}{p c:Int}:i8 (O<|c7 80 a p) (O<|c7 80 a c)=O []:=iD (p:=p) cH.nil<|D J
theorem IQ{u d:Px}(h:Cn t u=Cn c d):t=c:=bH (λu:Px=>(u.1 []).headD kZ) h
theorem UF{t:aj}(h:t.cC=I)(c:yT I t=I):Fk t:=by
 show cond t.cC (!decide (t.aq=5)||decide (t.aP=[91])) _=I;rw[h]
 rcases ju.mp c with g|g
 ·rw[dT λe=>by unfold aj.i at g;rw[e] at g;exact bc g];rfl
 ·have g:=(ju.mp (ed.mp g).2).resolve_right λe=>bc e;show(_||decide (t.aP=[91]))=I;rw[g,uQ]
theorem UG{c:gu}(h:K b m i c ks y):IE u b i c ks y:=by
 induction h with
 |i9 G=>exact fg λj=>TX G
 |ae G=>exact fg λj=>TY G
 |ja G _ _ d=>exact fg λj=>im (xA.trans<|xR<|xC xA) (oA.trans<|oR<|o0 λN=>J)<|TZ G<|d _
 |gL _ d=>exact fg λj=>im (xC xA) (o0 λN=>J)<|T1<|d _ J _
 |jH=>exact fg λj=>T3
 |gh Q _ d=>exact fg λj=>im (xC xA) (o0 λN=>J)<|T2<|y1 Q d _
 |gc _ d=>exact fg λj=>im xA (o0 λN=>J)<|T8<|d _ J _
 |aa _ _ d A=>exact fg λj=>im xA oA<|T9 (d _ J _)<|A _ J _
 |un _ _ Q d A=>exact fg λj=>im xA oA<|Ua (d _ J _) (A _) Q
 |fn o _ _ H s z P=>exact fg λj=>mK ((jK<|La.j<|La.j<|La.j<|jJ H).trans<|(jK<|La.j<|La.j<|jJ H).trans<|(jK<|La.j<|jJ H).trans<|jK (a:=[_,_,_])<|jJ H) (xA.trans<|xR<|xA.trans<|xR xA) ((o1<|UD o).trans<|oA.trans<|oR oA)<|Ui o (s _) (z _ J _)<|P _ J _
 |iE Y _ d=>exact fg λj=>T4 Y<|d _ J j
 |jb Y _ d=>exact fg λj=>im (xC xA) (bH (_::·)<|o0 λN=>J)<|T7 Y<|d _ J _
 |iF _ d=>exactλj=>Ub<|d _ J j
 |ia _ _ d A=>exactλj=>im xA oA<|Uc (d _ J _)<|A _
 |iG _ d=>exactλj=>Ud<|d _ J j
 |ib _ _ d A=>exactλj=>im xA oA<|Ue (d _ J _)<|A _
 |i=>exactλj=>Uj
 |iH G=>exactλj=>Uk G
 |ic G _ d=>exactλj=>im (xC<|xC<|xC xA) oA<|Ul G<|d _ J _
 |ie G _ d=>exactλj=>im (xC<|xC<|xC<|xC<|xC<|xC<|xC<|xC<|xC<|xC xA) (o0 λN=>J)<|Um G<|d _ J _
 |jI o=>exact fg λj=>im J (IN o j)<|Ut o
 |jc o _ d=>exact fg λj=>im xA (o1<|IN o)<|Uu o<|d _ J _
 |j=>exactλj=>Uv
 |jd _ F h2 d=>exactλj=>Uw (d _ J j) F h2
 |iI _ F h2 E _ d A=>exactλj=>im xA oA<|Ux (d _ J _) F h2 E<|A _
 |ps _ _ d=>exact fg λj=>im (xC xA) (o0 λN=>J)<|Uy<|d _
 |eg _ d=>exact fg λj=>Uf<|d _ J j
 |je k d=>exact fg λj=>mK (jK (a:=[_,_,_,_])<|jJ k) J J<|IJ<|d _ J _
 |q=>exact fg λj=>Uh
 |jf k d=>exact fg λj=>mK (jK (a:=[_,_,_,_,_,_])<|jJ k) J J<|Ug<|d _ J _
 |jg k d=>exact fg λj=>mK (jK (a:=[_,_,_,_])<|jJ k) J J<|IJ<|d _ J _
 |ig _ _ s z=>exact fg λj=>im xA (oA.trans<|oR (cN _).symm)<|Uz (s _)<|z _ J _
 |g3 _ _ H s z P=>exact fg λj=>mK ((jK<|La.j<|La.j<|jJ H).trans<|(jK<|La.j<|jJ H).trans<|jK (a:=[_,_])<|jJ H) (xA.trans<|xR xA) (oA.trans<|oR oA)<|UA (s _) (z _ J _)<|P _ J _
 |iJ M o=>exact fg λl B j f a c=>mK J J (CL (pK<|g5 M).2.2 o j) (Tt (pK<|g5 M).1 (pK<|g5 M).2.1 o (λx h=>⟨h.1,λe=>UB<|UE e▸h⟩) λp e=>iD (cH.i cH.nil)<|D J)
 |ii M o k d=>exact fg λl B j f a c=>mK ((jK<|La.j<|jJ k).trans<|jK (a:=[_,_])<|jJ k) ((bH (bU u · j)<|nT<|y0 o).trans xA) ((bH (cq u · j)<|nT<|y0 o).trans<|o1<|CL (pK<|g5 M).2.2 o) (Tu (pK<|g5 M).1 (pK<|g5 M).2.1 o (t9 (d _ J _) f (iy a) c) λp t q e=>iD (cH.eF (q e).1)<|D J)
 |g4 M o R k d=>exact fg λl B j f a c=>mK (jK<|jJ k) ((bH (bU u · j)<|nT<|y0 o).trans xA) ((bH (cq u · j)<|nT<|y0 o).trans<|o1<|CL (pK<|nU M).2.2 o) (Tv (pK<|nU M).1 (pK<|nU M).2.1 o (UC M) R (d _ J _).1 λp=>(d _ J _).2 f a c _ _ p)
 |ij Q d=>
  refine fg λl B j f a c=>?_;obtain rfl:l=false:=by
   induction l using xE with
   |false=>rfl
   |true=>
    have F:=pJ Q;refine eC F ?_;clear F;rintro x r rfl V;have:=B J (sg x) J;exact V.elim (λe=>ax e this.1) λe=>ax e this.2
  rw[(wr (.inr<|.inr J) Q).2];exact Tw (d _ J j).1 λp=>(d _ J j).2 f a c _ _ p
 |ik k d=>exact fg λl B j f a c=>mK (jK (a:=[_,_])<|jJ k) J J (Tx (d _ J _).1 λp=>(d _ J _).2 f a c _ _ p)
 |il o G k d=>
  refine fg λl B j f a c=>sc (P:=λf=>cc _+3<=f->f<=15->IC b f l _ _ _ _) a (λg N a c=>?_) a c;have S:=λj=>t9 (d _ J j) (g+1) (iy a) c;have L:=jJ k;clear d B
  rcases o with⟨rfl,rfl⟩|⟨rfl,rfl⟩
  ·exact mK (jK (a:=[_,_,_,_,_,_,_,_]) L) rfl rfl<|Tz (S _) λp p' t q e=>iD (cH.cons IP<|cH.eF (q e).1)<|D rfl
  ·exact mK (jK (a:=[_,_,_,_,_,_,_,_,_,_]) L) J J (TA (S _) λp p' t q e=>iD (cH.cons IP<|cH.eF (q e).1)<|D J)
 |ms1 _ d=>exactλl B j f a c=>TC (d _ J l B j f a c) (λq=>Cl.j ⟨J,J⟩) λt q e=>FQ.eF<|q e
 |gA _ F h2 s z=>
  intro l B j f a c;have k1:=wr (.inl J) F;exact im ((bH (bU u · j)<|nT k1.1).trans xA) ((bH (cq u · j)<|nT k1.1).trans oA) (Iq (.inl J) (s _ J l (CM k1.1 B) j f a c) (λq=>Cl.j ⟨J,J⟩) (y1 h2 z _ f a c) λt ts q X e=>FQ.cons (q e)<|X e)
 |iK _ F h2 s z=>
  intro l B j f a c;have k1:=wr (.inl J) F;exact im ((bH (bU u · j)<|nT k1.1).trans xA) ((bH (cq u · j)<|nT k1.1).trans oA) (Iq (.inr J) (s _ J l (CM k1.1 B) j f a c) (λq=>Cl.j ⟨J,J⟩) (y1 h2 z _ f a c) λt ts q X e=>FQ.cons (q e)<|X e)
 | @iL i k ks y ws' _ k1 k2 ln s z=>
  intro l B j f a c;have H:=wr (.inl J) k1;have h2:=z I (λN w o=>⟨(ln.2.2 w o).1,(ln.2.2 w o).2.1⟩) (j+(eb l y).length+1) f a c;refine im ((bH (bU u · j)<|nT H.1).trans xA) ((bH (cq u · j)<|nT H.1).trans oA)<|TD (s _ J l (CM H.1 B) j f a c) h2 (λt v e=>?_) λt ts q X e=>FQ.cons (q e)<|X e;refine cV (pJ k2) ?_;rintro x r rfl _ Z;have e1:bU u (eb I<|x::r) (j+(eb l y).length+1)=Cn (({x with l:=I}:W).t<|u<|j+(eb l y).length+1) (bU u r<|j+(eb l y).length+1+1):=by
   show cond (decide (x.k=9)) _ _=_;rw[dT Z];rfl
  have e:=e;have e2:=IQ<|e.symm.trans e1;refine cV h2.1 λt' v' e3 F h2=>?_;rw[<-IQ (e.symm.trans e3)] at F h2;exact⟨UF F h2,λN=>⟨ln.1,ln.2.1,λe=>by rw[e2];exactλe'=>(ln.2.2 x J).2.2 ⟨e,e'⟩⟩⟩
end
section
variable{x:List Nat}{ws j:List W}{u:List aj}{os:List Int}{G:List aj->Prop}{F:List aj->List Int->Prop}
@[elab_as_elim] theorem ts(h:tk (sg x::ws) u os)(k:∀n p e a,tk ws a os->G (⟨5,x,n,p,e,C⟩::a)):G u:=by
 refine vc (Ck h) ?_;rintro n p e a rfl b;exact k _ _ _ _ b
@[elab_as_elim] theorem ta(h:tk (ws++j) u os)(k:∀a b o1 c,tk ws a o1->tk j b c->F (a++b) (o1++c)):F u os:=by
 obtain⟨a,b,o1,c,rfl,rfl,d,h2⟩:=vT h;exact k _ _ _ _ d h2
end
theorem ub(k:Int)(y:List Nat)(n p e:Int)(l:Bool)(a:Int)(x:List Nat):(aj.mk k y n p e l).is a x=(decide (k=a)&&decide (y=x)):=rfl
section
variable{π:Nat->Pc}{ws:List W}{i:Nat}
theorem UH:bU π ws (i+1)=bU (λn=>π<|n+1) ws i/\cq π ws (i+1)=cq (λn=>π<|n+1) ws i:=by
 induction ws generalizing i with
 |nil=>exact⟨J,J⟩
 |cons w ws a=>
  show cond _ (bU π ws<|i+1+1) (Cn _<|bU π ws<|i+1+1)=cond _ (bU _ ws<|i+1) (Cn _<|bU _ ws<|i+1)/\cond _ (cq π ws<|i+1+1) (cond _ (_::cq π ws (i+1+1))<|cq π ws<|i+1+1)=cond _ (cq _ ws<|i+1) (cond _ (_::cq _ ws (i+1))<|cq _ ws<|i+1);rw[a.1,a.2];exact⟨J,J⟩
theorem UI{u:List aj}{os:List Int}(h:tk ws u os):∃π:Nat->Pc,(∀r,u++r=(bU π ws 0).1 r)/\os=cq π ws 0:=by
 induction ws generalizing u os with
 |nil=>exact aD (λd=>qZ) (λr=>by rw[h.1];rfl) h.2
 |cons w ws b=>
  have a:=λπ q=>UH (π:=λx=>fU x q π) (ws:=ws) (i:=0);refine tW h (λq h=>?_) λn p e f c q h=>?_<;>refine aB (b h) λπ e1 e2=>?_
  ·refine aD (λx=>fU x qZ π) (λr=>(e1 r).trans ?_)<|e2.trans ?_
   ·show _=(cond (decide (w.k=9)) _ _:Px).1 r;rw[dH q,(a π qZ).1];rfl
   ·show _=cond (decide (w.k=9)) _ _;rw[dH q,(a π qZ).2];rfl
  ·refine aD (λx=>fU x ⟨n,p,e⟩ π) (λr=>?_) ?_
   ·show _=(cond (decide (w.k=9)) _ _:Px).1 r;rw[dT q,(a π ⟨n,p,e⟩).1];exact bH (_::·)<|e1 r
   ·show _=cond (decide (w.k=9)) _ _;rw[dT q,(a π ⟨n,p,e⟩).2,e2]
    cases w.o<;>rfl
theorem fH{m i:Nat}{u:List aj}{os:List Int}{e:aj}(j:i<=2)(h:K b m i .j a ws)(d:tk (sg [123]::sp::(ws++[sp,sg [125]])) u os)(c:eE<|u++[e]):
  Rs b (gI (be 15) ⟨u++[e],[]⟩) λt s=>QB b (Fq (aK 71 [] a 0) os) t/\s=⟨[e],[]⟩:=by
 have hc:cc i+3<=15:=by
  rcases(by lia:i=0∨i=1∨i=2) with rfl|rfl|rfl<;>decide
 refine aB (UI d) λπ e1 e2=>?_;have f:cq π (sg [123]::sp::(ws++[sp,sg [125]])) 0=cq π ws 2:=o0 λk=>J;have g:bU π (sg [123]::sp::(ws++[sp,sg [125]])) 0=Cn ((sg [123]).t<|π 0) (Ap (bU π ws 2)<|Cn ((sg [125]).t<|π<|2+ws.length+1) Nl):=xC xA;rw[e1 [e],g] at c⊢;rw[e2,f];exact Ir (y1 h (UG h) 2 15 hc<|bF _) (λp ts q e=>iD (q e)<|D J) e [] bl c
end
theorem UJ{m i:Nat}{ws:List W}{u:List aj}{os:List Int}{e:aj}(b:i<=2)(h:K C m i .j a ws)(c:tk (sg [123]::sp::(ws++[sp,sg [125]])) u os)(d:eE<|u++[e]):
  ∃t,gI (be 15) ⟨u++[e],[]⟩=.ok t ⟨[e],[]⟩/\fq (aK 71 [] a 0) t=O os:=cV (fH b h c d).cO λt s e1 e2 f=>aD t (f▸e1)<|e2 J
theorem UK{m i:Nat}{ws:List W}{u:List aj}{os:List Int}{e:aj}(b:i<=2)(h:K I m i .j a ws)(c:tk (sg [123]::sp::(ws++[sp,sg [125]])) u os)(d:eE<|u++[e]):
  Rs I (gI (be 15) ⟨u++[e],[]⟩) λf s=>s=⟨[e],[]⟩:=(fH b h c d).au λt s h=>h.2
noncomputable def jh(p:Int)(t:T):Bool:=decide (p=83)&&(decide (t.aq=27)||decide (t.aq=83))||(decide (p=84)||decide (p=85))&&(decide (t.aq=27)||(decide (t.aq=83)||decide (t.aq=84)))
mutual
noncomputable def nd:T->Nat
 |.nd k _ ks _ _=>cW k ks+if k=27∨k=98 then 1 else 0
noncomputable def cW(p:Int):List (Option T)->Nat
 |[]=>0
 |none::r=>cW p r
 |some t::r=>nd t+(if jh p t then 1 else 0)+cW p r
end
noncomputable def IS(p:Int)(t:T):Prop:=(p=83->nF t)/\(p=84∨p=85->lf t)
theorem UL{p:Int}{d q:T}(h:jh p d=I)(a:IS p q):q.aq≠d.aq/\d.aq≠98:=by
 simp only[jh,uP,ol,decide_eq_true_eq] at h;obtain⟨b,h2⟩:=a;unfold nF at b;unfold lf at h2;lia
mutual
theorem IT:∀(d r:T) (os:List Int),fq d r=O os->tV r->nd d+(if r.aq=98/\d.aq≠98 then 1 else 0)<=pn r
 |.nd k a ks f p,r,os,h,hs=>by
  obtain⟨B,v,b,w,y⟩:=r
  by_cases o:B=98/\k≠98
  ·obtain⟨rfl,z⟩:=o;obtain⟨t,rfl⟩:∃t,b=[some t]:=hs.2.2.2 J;have g:=hs.1.1;rw[yV] at h;have e1:(decide ((T.nd 98 v [O t] w y).aq=98)&&decide (k≠98))=true:=dH z;simp only[e1,if_true] at h;rw[show qB (T.nd 98 v [O t] w y)=t from J] at h;split at h
   ·rename_i c
    obtain⟨H,L,j,M,N⟩:=t
    cases A:gK (decide (k=98)) ks (T.nd H L j M N).bO with
    |none=>rw[A] at h;exact ba h
    |some l=>
     have e2:=c.1;subst e2;rw[aN ⟨J,z⟩];show cW k ks+(if k=27∨k=98 then 1 else 0)+1<=(mF j+if k=27∨k=98 then 1 else 0)+0+1;exact L1<|CN ks k j _ l A g.1 λo m t s=>⟨λe=>g.2.1 e o m t s,λe=>g.2.2.1 e o m t s⟩
   ·exact ba h
  ·rw[wj (by intro e;exact Nh λq=>o ⟨e,q⟩)] at h;split at h
   ·rename_i c
    have e2:=c.1;clear c;subst e2;rw[a9 λe=>e.2 e.1];show cW k ks+(if k=27∨k=98 then 1 else 0)+0<=mF b+if k=27∨k=98 then 1 else 0
    exact L1<|CN ks k b _ os h hs.1 λo m t s=>⟨λe=>hs.2.1 e o m t s,λe=>hs.2.2.1 e o m t s⟩
   ·exact ba h
theorem CN:∀(g:List<|Option T) (p:Int) (rs:List<|Option T) (b:Bool) (os:List Int),gK b g rs=O os->nG rs->(∀o∈rs,∀t,o=O t->IS p t)->cW p g<=mF rs
 |[],p,rs,b,os,h,hs,j=>dG _
 |o::g,p,[],b,os,h,hs,j=>ba h
 |o::g,p,q::rs,b,os,h,hs,j=>by
  rw[yW] at h;split at h
  ·exact ba h
  ·cases f:i8 o q with
   |none=>rw[f] at h;exact ba h
   |some a=>
    rw[f] at h
    cases m:gK b g rs with
    |none=>rw[m] at h;exact ba h
    |some c=>
     rw[Cc] at hs;have z:=CN g p rs b c m hs.2 λo s=>j o<|Au _ s;rw[Cb]
     induction o using gC with
     |none=>exact aE z<|hG _ _
     |some d=>
      induction q using gC with
      |none=>exact ba f
      |some q=>
       replace f:fq d q=O a:=f;have k:=IT d q a f<|hs.1.1;show nd d+(if jh p d=I then 1 else 0)+cW p g<=pn q+mF rs
       by_cases l:jh p d=I
       ·have:=UL l<|j _ (EY ..) q J;rw[aN l]
        by_cases r:q.aq=98
        ·rw[aN ⟨r,this.2⟩] at k;exact L2 z k
        ·exfalso;obtain⟨w,y,v,A,B⟩:=d;rw[wj (λe=>ax e r)] at f;split at f
         ·rename_i c;exact this.1 c.1.symm
         ·exact ba f
       ·rw[a9 l];exact L2 z k
end
noncomputable def qD(w:W):Bool:=decide (w.x=[40])&&(decide (w.k=5)||decide (w.k=2))
noncomputable def dR(b:List W):Nat:=b.countP qD
theorem y3(a c:List W):dR (a++c)=dR a+dR c:=by simp[dR,Nq]
theorem ue(w:W)(c:List W):dR (w::c)=dR c+if qD w then 1 else 0:=by simp[dR,Ar]
theorem io:dR []=0:=rfl
theorem wt(a c:List aj):cl (a++c)=cl a+cl c:=by simp[cl,Nq]
theorem UM:∀{b:List W} {u:List aj} {os:List Int},(∀w∈b,w.k=9->qD w=C)->tk b u os->cl u=dR b:=by
 intro b
 induction b with
 |nil=>
  intro u;intro os;intro l;intro h;rw[(mH h).1];rfl
 |cons w b i=>
  intro u;intro os;intro d;intro h;refine tW h (λq h=>?_) λn p e m j q h=>?_
  ·rw[i (λw g=>d w<|Au _ g) h,ue,d w (EY ..) q];simp
  ·rw[yH,ue,i (λw g=>d w<|Au _ g) h]
   rfl
theorem r7{p:Int}(b:p≠83/\p≠84/\p≠85):∀ks:List (Option T),cW p ks=cW 71 ks
 |[]=>rfl
 |none::r=>r7 b r
 |some t::r=>by
  have e1:jh p t=false:=by simp[jh,b]
  have e2:jh 71 t=false:=by simp[jh]
  show _+(if jh p t=I then 1 else 0)+_=_+(if jh 71 t=I then 1 else 0)+_;rw[e1,e2,r7 b r]
theorem qE(k:T):cW 71 [O k]=nd k:=rfl
theorem UN(k:T)(r:List<|Option T):cW 71 (O k::r)=nd k+cW 71 r:=rfl
theorem uf(k:Int)(a:List Nat)(ks:List<|Option T)(f p:Int):nd (.nd k a ks f p)=cW k ks+if k=27∨k=98 then 1 else 0:=rfl
noncomputable def UO(c:gu)(ks:List T)(b:List W):Prop:=match c with
 |.u j=>∀k,ks=[k]->dR b=nd k+if gf j k.aq then 1 else 0
 |.nO=>dR b=cW 83 (ks.map O)
 |.ps=>dR b=cW 71 (ks.map O)+1
 |.q=>ks.length<=1/\dR b=cW 71 (ks.map O)
 |_=>dR b=cW 71 (ks.map O)
theorem UQ(k:T):jh 83 k=gf C k.aq:=by simp[jh,gf]
theorem UR(k:T):jh 84 k=gf I k.aq:=by simp[jh,gf]
theorem US(k:T):jh 85 k=gf I k.aq:=by simp[jh,gf]
section
variable{w:W}{a c:List W}{n x y:Nat}
theorem z0(h:qD w=C)(e:dR a=n):dR (w::a)=n:=by rw[ue,h,e];rfl
theorem z1(h:qD w=I)(e:dR a=n):dR (w::a)=n+1:=by rw[ue,h,e];rfl
theorem zn{x:List Nat}(e:dR a=n):dR (nm x::a)=n:=z0 (by simp[qD,nm]) e
theorem zA(h:dR a=x)(e:dR c=y):dR (a++c)=x+y:=by rw[y3,h,e]
theorem zl(h:dR a=0)(e:dR c=y):dR (a++c)=y:=by rw[y3,h,e,da]
theorem zr(h:dR a=x)(e:dR c=0):dR (a++c)=x:=by rw[y3,h,e];rfl
theorem ze{x:List Nat}(e:(decide (x=[40]))=C):dR [sg x]=0:=z0 (by show(decide (x=[40])&&_)=C;rw[e];rfl) io
end
theorem CO{n:W}{w:List W}{fl:Int}(h:n∈dY∨n=wd bI∨n=st bI fM)(b:fR n w fl):dR w=0:=by
 have A:∀n∈dY++[wd bI,st bI fM],qD n=false:=by decide
 have this:=A n<|eV.mpr<|h.imp id λe=>d4.mpr<|e.imp id iw.mpr
 induction b with
 |ga=>exact z0 this io
 |i=>exact z0 this<|z0 J io
 |ro=>exact zn<|z0 J<|z0 this io
 |j=>exact zn<|z0 J<|z0 this<|z0 J io
theorem IU{w:List W}{a:List Nat}{fl:Int}(b:fF w a fl):dR w=0:=by
 induction b with
 |dots h=>exact z0 J<|zn io
 |i h=>exact zn<|z0 J io
 |ga h=>exact zn io
 |this=>exact z0 J io
theorem IV(a:List Nat):dR (d7 a)=0:=by
 unfold d7;split
 ·exact zn<|z0 J<|z0 J io
 ·exact zn io
theorem IW{o:List T}(h:o.length<=1)(r:List<|Option T):cW 27 (o.head? ::r)=cW 71 (o.map O)+cW 71 r:=by
 rw[r7 (D J)]
 induction o using aV with
 |nil=>exact(da _).symm
 |cons t o=>
  induction o using aV with
  |nil=>rfl
  |cons x o=>exact ax (jr h)<|km _
section
variable{w:W}{a c:List W}{n x y:Nat}{k i r:T}{f q:Int}{t:List Nat}{ks:List T}{os:List (Option T)}{o:Option T}
theorem nP{p:Int}(h:(decide (p≠83/\p≠84/\p≠85)&&decide (¬(p=27∨p=98)))=I):cW 71 [O (.nd p t os f q)]=cW 71 os:=by
 rw[ol] at h;rw[qE,uf,r7 (D h.1),a9 (D h.2)];rfl
theorem nQ{p:Int}(h:(decide (p≠83/\p≠84/\p≠85)&&decide (p=27∨p=98))=I):cW 71 [O (.nd p t os f q)]=cW 71 os+1:=by
 rw[ol] at h;rw[qE,uf,r7 (D h.1),aN (D h.2)]
theorem nL{p:Int}:cW p []=0:=by simp[cW]
theorem cg{a b c d:Nat}(h:a=b)(e:c=d):a+c=b+d:=by rw[h,e]
theorem n0:cW 71 (U::os)=cW 71 os:=by simp[cW]
theorem nC:cW 71 (O k::os)=cW 71 [O k]+cW 71 os:=by rw[UN,qE]
theorem nH{os:List T}(h:os.length<=1):cW 71 (os.head? ::O k::U::[U])+1=cW 71 (os.map O)+(cW 71 [O k]+1):=by
 rw[<-r7 (p:=27) (D J),IW h,nC,n0,n0,nL];rfl
theorem nR{os:List T}(h:os.length<=1):cW 71 (os.head? ::O k::O r::[U])+1=cW 71 (os.map O)+((cW 71 [O k]+1)+cW 71 [O r]):=by
 rw[<-r7 (p:=27) (D J),IW h,nC,nC (k:=r),n0,nL,Nat.add_zero,EW (cW 71 [O k]) 1];rfl
theorem UT:cW 71 [O (aK 85 [] [k] 0)]=nd k+if gf I k.aq then 1 else 0:=by rw[qE];simp[aK,uf,cW,US]
theorem UU:cW 71 [O (aK 84 [] [k,i] 0)]=(nd k+if gf I k.aq then 1 else 0)+(nd i+if gf I i.aq then 1 else 0):=by rw[qE];simp[aK,uf,cW,UR]
theorem CP:cW 83 (O k::os)=(nd k+if gf C k.aq then 1 else 0)+cW 83 os:=by rw[cW,UQ]
theorem UV:cW 71 [O (aK 83 [] (k::ks) 0)]=(nd k+if gf C k.aq then 1 else 0)+cW 83 (ks.map O):=by rw[qE,aK,uf,iQ,CP];rfl
end
theorem IX{P:T->Prop}{k:T}(h:True->P k):∀i,[k]=[i]->P i:=λb e=>adh e▸h bl
theorem UW(l:Bool)(w:List W):dR (eb l w)=dR w:=by
 induction w using aV with
 |nil=>rfl
 |cons x r=>rfl
theorem UX{m i:Nat}{c:gu}{ks:List T}(h:K C m i c ks v):UO c ks v:=by
 induction h with
 |i9 _=>exact(zn io).trans ((nP J).trans nL).symm
 |ae _=>exact(IV _).trans ((nP J).trans nL).symm
 |ja _ _ _ b=>exact(zl (IV _)<|z0 J<|zr b<|ze J).trans (nP J).symm
 |gL _ b=>exact(z1 J<|zr b<|ze J).trans (nQ J).symm
 |jH=>exact(z0 J<|ze J).trans ((nP J).trans nL).symm
 |gh _ _ b=>exact(z0 J<|z0 J<|zr b<|z0 J<|ze J).trans (nP J).symm
 |gc _ b=>exact(zr (b _ J)<|z0 J<|ze J).trans UT.symm
 |aa _ _ b d=>exact(zA (b _ J)<|z0 J<|z0 J<|z0 J<|d _ J).trans UU.symm
 |un _ _ _ b d=>exact(zA (b _ J)<|z0 J<|z0 J<|z0 J d).trans UV.symm
 |fn l _ _ _ g p s=>exact(zl (l.elim (λh=>h.1▸io) λh=>h.1▸z0 J (z0 J io))<|zA g.2<|zA p<|z0 J<|z0 J<|z0 J s).trans<|(nR g.1).symm.trans (nQ J).symm
 | @iE i j k v z _ b=>exact IX λe=>by rw[z.resolve_left (λe=>bc e)];exact b.trans<|qE k
 | @jb i j k v z _ b=>exact IX λe=>by rw[z];exact z1 J<|zr (b.trans<|qE k)<|ze J
 |iF _ b=>exact(b _ J).trans (CP.trans<|bH _ nL).symm
 |ia _ _ b d=>exact(zA (b _ J)<|z0 J<|z0 J<|z0 J d).trans CP.symm
 |iG _ b=>exact b
 |ib _ _ b d=>exact(zA b<|z0 J<|z0 J d).trans nC.symm
 |i=>exact⟨dG _,io⟩
 |iH _=>exact⟨bF _,(z0 J<|zn<|z0 J<|zn<|ze J).trans ((nP J).trans<|(nP J).trans<|n0.trans<|n0.trans nL).symm⟩
 |ic _ _ b=>exact⟨bF _,(z0 J<|zn<|z0 J<|z0 J<|z0 J<|zr b<|ze J).trans ((nP J).trans<|(nP J).trans<|nC.trans<|bH _<|n0.trans nL).symm⟩
 |ie _ _ b=>exact⟨bF _,(z0 J<|z0 J<|z0 J<|zn<|z0 J<|z0 J<|z0 J<|z0 J<|zn<|z0 J<|zn<|z0 J<|z0 J<|z0 J<|zn<|z0 J<|z0 J<|z0 J<|zr b<|ze J).trans ((nP J).trans (nC.trans ((cg ((nP J).trans<|n0.trans<|n0.trans nL) ((nP J).trans (nC.trans (bH (·+_)<|(nP J).trans nL)))).trans<|(da _).trans<|da _))).symm⟩
 |jI l=>exact(IU l).trans ((nP J).trans<|nC.trans<|cg ((nP J).trans nL)<|n0.trans<|n0.trans nL).symm
 |jc l _ b=>exact(zl (IU l)<|z0 J<|z0 J b).trans ((nP J).trans<|nC.trans<|(cg ((nP J).trans nL)<|nC.trans<|bH _<|n0.trans nL).trans<|da _).symm
 |j=>exact io
 |jd _ _ _ b=>exact b
 |iI _ _ _ _ _ b d=>exact(zA b<|z0 J<|z0 J d).trans nC.symm
 |ps _ _ b=>exact(z1 J<|zr b<|ze J).trans (bH (·+1) (nP J).symm)
 |eg _ b=>exact b
 |je _ b=>exact(zn<|z0 J<|zn<|z0 J b).trans (nP J).symm
 |q=>exact(zn<|z0 J<|zn io).trans ((nP J).trans<|n0.trans nL).symm
 |jf _ b=>exact(zn<|z0 J<|z0 J<|z0 J<|zn<|z0 J b).trans (nP J).symm
 |jg _ b=>exact(zn<|z0 J<|zn<|z0 J b).trans (nP J).symm
 |ig _ _ g p=>exact(zA g.2 p).trans<|(nH g.1).symm.trans (nQ J).symm
 |g3 _ _ _ g p s=>exact(zA g.2<|zA p<|z0 J<|z0 J s).trans<|(nR g.1).symm.trans (nQ J).symm
 |iJ u l=>exact(CO (g5 u) l).trans ((nP J).trans<|n0.trans nL).symm
 |ii u l _ b=>exact(zl (CO (g5 u) l)<|z0 J<|z0 J b).trans (nP J).symm
 |g4 u l _ _ b=>exact zl (CO (nU u) l) b
 |ij _ b=>exact b
 |ik _ b=>exact z0 J<|z0 J b
 |il l A _ b=>exact(zl (l.elim (λh=>h.1▸io) λh=>h.1▸zn (z0 J io))<|z0 J<|zn<|z0 J<|z0 J<|zn<|z0 J<|z0 J<|z0 J b).trans ((nP J).trans (nC.trans ((bH (·+_)<|(nP J).trans nL).trans<|da _))).symm
 |ms1 _ b=>exact b
 |gA _ _ _ b d=>exact(zA b<|z0 J<|z0 J d).trans nC.symm
 |iK _ _ _ b d=>exact(zA b<|z0 J<|z0 J d).trans nC.symm
 |iL _ _ _ _ b d=>exact(zA b<|z0 J<|(UW _ _).trans d).trans nC.symm
theorem ft{c:gu}(h:K C m i c o p):K I m i c o p:=by
 induction h with
 |i9 a=>exact .i9 a
 |ae a=>exact .ae a
 |ja a _ d b=>exact .ja a b d
 |gL _ b=>exact .gL b
 |jH=>exact .jH
 |gh _ n b=>exact .gh b n
 |gc _ b=>exact .gc b
 |aa _ _ b f=>exact .aa b f
 |un _ _ d b f=>exact .un b f d
 |fn d _ _ _ g k l=>exact .fn d g k l
 |iE _ _ b=>exact .iE (.inl J) b
 |jb d _ b=>exact .jb d b
 |iF _ b=>exact .iF b
 |ia _ _ b f=>exact .ia b f
 |iG _ b=>exact .iG b
 |ib _ _ b f=>exact .ib b f
 |i=>exact .i
 |iH a=>exact .iH a
 |ic a _ b=>exact .ic a b
 |ie a _ b=>exact .ie a b
 |jI a=>exact .jI a
 |jc a _ b=>exact .jc a b
 |j=>exact .j
 |jd _ a d b=>exact .jd b a d
 |iI _ a d e _ b f=>exact .iI b a d e f
 |ps _ n b=>exact .ps b n
 |eg _ b=>exact .eg b
 |je _ b=>exact .je b
 |q=>exact .q
 |jf _ b=>exact .jf b
 |jg _ b=>exact .jg b
 |ig _ _ b f=>exact .ig b f
 |g3 _ _ _ g k l=>exact .g3 g k l
 |iJ a d=>exact .iJ a d
 |ii a d _ b=>exact .ii a d b
 |g4 a d e _ b=>exact .g4 a d e b
 |ij _ b=>exact .ij b
 |ik _ b=>exact .ik b
 |il a d _ b=>exact .il a d b
 |ms1 _ b=>exact .ms1 b
 |gA a _ _ b f=>exact .gA a b f
 |iK a _ _ b f=>exact .iK a b f
 |iL a _ _ d b f=>exact .iL a b f d
noncomputable def dw(w:W):Int:=if w.k=5/\w.x=[40] then 1 else if w.k=5/\w.x=[41] then-1 else 0
noncomputable def lR:List W->Int
 |[]=>0
 |w::r=>dw w+lR r
theorem ug(a c:List W):lR (a++c)=lR a+lR c:=by
 induction a with
 |nil=>exact(adi _).symm
 |cons w a b=>exact(bH (dw w+·) b).trans (Nt _ _ _).symm
theorem nV{w:W}{a:List W}:lR (w::a)=dw w+lR a:=rfl
theorem y5{B:Nat}:0<=lR []/\lR []<=B:=⟨Nu 0,qa _⟩
structure c0(B:Nat)(ws:List W):Prop where
 z:lR ws=0
 p:∀a c,ws=a++c->0<=lR a/\lR a<=B
section
variable{B:Nat}{a c:List W}{w:W}
theorem c0.nil:c0 B []:=⟨J,λa c h=>by
 have:a=[]:=by induction a using aV with|nil=>rfl|cons=>exact nomatch h
 clear h;subst this;exact y5⟩
theorem c0.au(h:c0 B a)(e:B<=b):c0 b a:=⟨h.z,λx y q=>by have:=h.p x y q;lia⟩
theorem c0.j(h:c0 B a)(b:c0 B c):c0 B (a++c):=by
 refine⟨by rw[ug,h.z,b.z];rfl,λx y q=>?_⟩
 rcases EZ.mp q with⟨z,e1,e2⟩|⟨z,e1,e2⟩
 ·clear q;subst e1;have:=b.p z y e2;rw[ug,h.z];lia
 ·exact h.p x z e1
theorem c0.cons(b:dw w=0)(h:c0 B c):c0 B (w::c):=by
 refine⟨by rw[nV,b,h.z];rfl,λx y q=>?_⟩
 induction x using aV with
 |nil=>exact y5
 |cons z x=>cases q;have:=h.p x y J;rw[nV,b];lia
theorem c0.gL{l r:W}(b:dw l=1)(d:dw r= -1)(h:c0 B a):c0 (B+1) (l::(a++[r])):=by
 refine⟨by rw[nV,ug,b,h.z,nV,d];rfl,λx y q=>?_⟩
 induction x using aV with
 |nil=>exact y5
 |cons z x=>
  injection q with g e
  subst g;rw[nV,b]
  rcases EZ.mp e with⟨v,e1,e2⟩|⟨v,e1,e2⟩
  ·clear e;subst e1;rw[ug,h.z]
   induction v using aV with
   |nil=>show 0<=(1:Int)+0/\(1:Int)+0<=_;lia
   |cons t v=>
    injection e2 with e2 f
    have:=(xG.mp f.symm).1;clear f;subst this;subst e2;rw[nV,d];show 0<=(1:Int)+(-1+0)/\(1:Int)+(-1+0)<=_;lia
  ·have:=h.p x v e1;lia
end
theorem CQ{w:List W}{fl:Int}(h:n∈dY∨n=wd bI∨n=st bI fM)(b:fR n w fl):c0 0 w:=by
 have:dw n=0:=by
  simp only[dY,d4,List.mem_nil_iff,or_false] at h
  rcases h with(rfl|rfl|rfl|rfl|rfl|rfl|rfl|rfl|rfl|rfl|rfl|rfl|rfl|rfl|rfl)|rfl|rfl<;>rfl
 induction b
 ·exact c0.nil.cons this
 ·exact(c0.nil.cons rfl).cons this
 ·exact((c0.nil.cons this).cons J).cons J
 ·exact(((c0.nil.cons J).cons this).cons J).cons J
theorem pL(x:List Nat):dw (nm x)=0:=by simp[dw,nm]
theorem IY{w:List W}{a:List Nat}{fl:Int}(b:fF w a fl):c0 0 w:=by
 induction b
 ·exact(c0.nil.cons<|pL _).cons J
 ·exact(c0.nil.cons J).cons<|pL _
 ·exact c0.nil.cons<|pL _
 ·exact c0.nil.cons J
theorem IZ(a:List Nat):c0 0 (d7 a):=by
 unfold d7;split
 ·exact((c0.nil.cons J).cons J).cons J
 ·exact c0.nil.cons<|pL _
noncomputable def I0(i:Nat):gu->Nat
 |.kd|.nN|.q|.pm|.y _ _|.am=>3*i
 |_=>3*i+1
theorem b2:3*i+2<=3*(i+1):=ey _
theorem b1:3*i+1<=3*(i+1):=aE (ey _) b2
theorem b0:3*i<=3*(i+1):=aE (ey _) b1
theorem I1{c:gu}{F:List T}(h:K b m i c F z):c0 (I0 i c) z:=by
 induction h with
 |i9 a=>exact c0.nil.cons<|pL _
 |ae a=>exact(IZ _).au<|by simp+arith only
 |ja a _ d f=>exact((IZ _).au<|by simp+arith only).j<|((f.au<|by first|exact b2|exact b1|exact b0).j<|c0.nil.cons J).cons J
 |gL _ f=>exact(f.gL J J).au<|by first|exact b2|exact b1|exact b0
 |jH=>exact(c0.nil.cons J).cons J
 |gh _ _ f=>exact(((f.au<|by first|exact b2|exact b1|exact b0).j<|(c0.nil.cons J).cons J).cons J).cons J
 |gc _ f=>exact(f.au<|by first|exact b2|exact b1|exact b0).j<|(c0.nil.cons J).cons J
 |aa _ _ f g=>exact(f.au<|by first|exact b2|exact b1|exact b0).j<|(((g.au<|by first|exact b2|exact b1|exact b0).cons J).cons J).cons J
 |un _ _ d f g=>exact(f.au<|by first|exact b2|exact b1|exact b0).j<|(((g.au<|by first|exact b2|exact b1|exact b0).cons J).cons J).cons J
 | @fn i w fl o p r z G A d _ _ _ s t u=>
  have v:c0 0 w:=by
   rcases d with⟨rfl,_⟩|⟨rfl,_⟩
   ·exact .nil
   ·exact(c0.nil.cons rfl).cons rfl
  exact(v.au<|by simp+arith only).j<|(s.au<|by first|exact b2|exact b1|exact b0).j<|(t.au<|by first|exact b2|exact b1|exact b0).j<|(((u.au<|by first|exact b2|exact b1|exact b0).cons J).cons J).cons J
 |iE _ _ f=>exact f.au<|by first|exact b2|exact b1|exact b0|exact ey _|exact bF _
 |jb d _ f=>exact f.gL J J
 |iF _ f=>exact f
 |ia _ _ f g=>exact f.j<|((g.cons J).cons J).cons J
 |iG _ f=>exact f
 |ib _ _ f g=>exact f.j<|(g.cons J).cons J
 |i=>exact .nil
 |iH a=>exact((((c0.nil.cons J).cons<|pL _).cons J).cons J).cons J
 |ic a _ f=>exact(((((f.j<|c0.nil.cons J).cons J).cons J).cons J).cons<|pL _).cons J
 |ie a _ f=>exact((((((((((((((((((f.j<|c0.nil.cons J).cons J).cons J).cons J).cons J).cons J).cons J).cons J).cons J).cons J).cons J).cons J).cons J).cons J).cons J).cons<|pL _).cons J).cons J).cons J
 |jI a=>exact(IY a).au<|by simp+arith only
 |jc a _ f=>exact((IY a).au<|by simp+arith only).j<|(f.cons J).cons J
 |j=>exact .nil
 |jd _ a d f=>exact f
 |iI _ a d e _ f g=>exact f.j<|(g.cons J).cons J
 |ps _ _ f=>exact f.gL J J
 |eg _ f=>exact f
 |je _ f=>exact(((f.cons J).cons J).cons J).cons J
 |q=>exact((c0.nil.cons J).cons J).cons J
 |jf _ f=>exact(((((f.cons J).cons J).cons J).cons J).cons J).cons J
 |jg _ f=>exact(((f.cons J).cons J).cons J).cons J
 |ig _ _ f g=>exact(f.au<|by first|exact b2|exact b1|exact b0|exact ey _|exact bF _).j g
 |g3 _ _ _ s t u=>exact(s.au<|by first|exact b2|exact b1|exact b0|exact ey _|exact bF _).j<|t.j<|((u.au<|by first|exact b2|exact b1|exact b0|exact ey _|exact bF _).cons J).cons J
 |iJ a d=>exact(CQ (g5 a) d).au<|by simp+arith only
 |ii a d _ f=>exact((CQ (g5 a) d).au<|by simp+arith only).j<|((f.au<|by first|exact b2|exact b1|exact b0|exact ey _|exact bF _).cons J).cons J
 |g4 a d e _ f=>exact((CQ (nU a) d).au<|by simp+arith only).j f
 |ij _ f=>exact f
 |ik _ f=>exact(f.cons J).cons J
 | @il i w fl a k z v d _ f=>
  have v:c0 0 w:=by
   rcases v with⟨rfl,_⟩|⟨rfl,_⟩
   ·exact .nil
   ·exact(c0.nil.cons rfl).cons rfl
  exact(v.au<|by simp+arith only).j<|(((((((f.au<|by first|exact b2|exact b1|exact b0|exact ey _|exact bF _).cons J).cons J).cons J).cons J).cons J).cons J).cons (pL _)|>.cons J
 |ms1 _ f=>exact f
 |gA a _ _ f g=>exact f.j<|(g.cons J).cons J
 |iK a _ _ f g=>exact f.j<|(g.cons J).cons J
 |iL a _ _ d f g=>
  refine f.j<|c0.cons J ?_;have e:∀l w B,c0 B w->c0 B (eb l w):=λl w B h=>by
   induction w using aV with
   |nil=>exact h
   |cons x r=>
    refine⟨h.z,λp q e=>?_⟩
    induction p using aV with
    |nil=>exact y5
    |cons y p=>cases e;exact h.p (x::p) q J
  exact e _ _ _ g
noncomputable def g6(R:List W->Prop)(b:List W):Prop:=∀a w c,w.o=I->b=a++w::c->w=pt/\∃e d,c=e++sg [41]::d/\c0 100 e/\R (a++(e++d))
section
variable{R:List W->Prop}{a c:List W}{w:W}
theorem g6.au{b:List W->Prop}(h:g6 R a)(d:∀x,R x->b x):g6 b a:=λx w y f e=>by
 obtain⟨g,p,q,e1,e2,r⟩:=h x w y f e;exact⟨g,p,q,e1,e2,d _ r⟩
theorem g6.nil:g6 R []:=λa w c b e=>by cases a<;>exact nomatch e
theorem g6.cons(b:w.o=C)(h:g6 (λx=>R<|w::x) c):g6 R (w::c):=λx t y d e=>by
 induction x using aV with
 |nil=>cases e;rw[b] at d;exact bc d
 |cons z x=>
  refine dn λf=>?_
  cases e
  obtain⟨b,p,q,e1,e2,r⟩:=h x t y d J;exact f<|⟨b,p,q,e1,e2,r⟩
theorem g6.j(h:g6 (λx=>R<|x++c) a)(j:g6 (λx=>R<|a++x) c):g6 R (a++c):=λx t y i e=>by
 rcases EZ.mp e with⟨z,e1,e2⟩|⟨z,e1,e2⟩
 ·refine dn λb=>?_;subst e1;obtain⟨d,p,q,f,g,r⟩:=j z t y i e2;exact b<|⟨d,p,q,f,g,by simpa [b6] using r⟩
 ·clear e
  induction z using aV with
  |nil=>
   rw[cN] at e1;refine dn λb=>?_;subst e1;obtain⟨d,p,q,f,g,r⟩:=j [] t y i e2.symm;exact b<|⟨d,p,q,f,g,by simpa [b6] using r⟩
  |cons l z=>
   injection e2 with e2 f
   refine dn λb=>?_;subst e2;obtain⟨d,p,q,g,k,r⟩:=h x t z i e1;subst f;exact b<|⟨d,p,q++c,by rw[g];simp,k,by simpa [b6] using r⟩
theorem g6.i(h:∀w∈a,w.o=C):g6 R a:=λx t y b e=>by
 have:=h t (by rw[e];simp);rw[b] at this;exact c6 this
theorem g6.kF(b:c0 100 a)(d:R a)(h:g6 (λx=>R<|pt::(x++[sg [41]])) a):g6 R (pt::(a++[sg [41]])):=λx t y f e=>by
 induction x using aV with
 |nil=>
  injection e with e1 e2
  exact⟨e1.symm,a,[],e2.symm,b,by simpa using d⟩
 |cons z x=>
  injection e with e1 e2
  subst e1;have:=g6.j (R:=λx=>R<|pt::x) h<|.i<|by simp[sg]
  exact this x t y f e2
end
theorem CR{w:List W}{fl:Int}(h:n∈dY∨n=wd bI∨n=st bI fM)(b:fR n w fl):∀x∈w,x.o=false:=by
 have:=(CI h).2.2.1
 induction b<;>simp[this,sg,nm,sp]
theorem I2{w:List W}{a:List Nat}{fl:Int}(b:fF w a fl):∀x∈w,x.o=false:=by
 induction b<;>simp[sg,nm,wd]
theorem I3(a:List Nat):∀x∈d7 a,x.o=false:=by
 unfold d7;split<;>simp[sg,nm,wd]
theorem UY{c:gu}(b:i<=30):I0 i c<=100:=by
 have h:3*i+1<=100:=L3 b b b
 induction c using gu.casesOn<;>first|exact h|exact iy h
theorem UZ{c:gu}(h:K C 0 i c u v):i<=30->g6 (K I 0 i c u) v:=by
 induction h with
 |i9 a=>exactλg=>.i<|by simp[nm]
 |ae a=>exactλg=>.i<|I3 _
 |ja a k d f=>exactλb=>.j (.i<|I3 _)<|.cons J<|.j ((f<|L1 b).au λg h=>.ja a h d)<|.i<|D J
 |gL k f=>exactλb=>.cons J<|.j ((f<|L1 b).au λg h=>.gL h)<|.i<|D J
 |jH=>exactλb=>.i<|D J
 |gh k n f=>exactλb=>.cons J<|.cons J<|.j ((f<|L1 b).au λg h=>.gh h n)<|.i<|D J
 |gc k f=>exactλb=>.j ((f<|L1 b).au λg h=>.gc h)<|.i<|D J
 |aa k m f l=>exactλb=>.j ((f<|L1 b).au λg h=>.aa h<|ft m)<|.cons J<|.cons J<|.cons J<|(l<|L1 b).au λg h=>.aa (ft k) h
 |un k m d f l=>exactλb=>.j ((f<|L1 b).au λg h=>.un h (ft m) d)<|.cons J<|.cons J<|.cons J<|(l<|L1 b).au λg h=>.un (ft k) h d
 |fn d k1 s t o p r=>
  refineλb=>.j (.i ?_)<|.j ((o<|L1 b).au λg h=>.fn d h (ft s)<|ft t)<|.j ((p<|L1 b).au λg h=>.fn d (ft k1) h<|ft t)<|.cons J<|.cons J<|.cons J<|(r<|L1 b).au λg h=>.fn d (ft k1) (ft s) h
  rcases d with⟨rfl,_⟩|⟨rfl,_⟩<;>decide
 |iE _ _ f=>exactλb=>(f b).au λg h=>.iE (.inl J) h
 |jb d k f=>exactλb=>.kF ((I1 k).au<|UY b) (.iE (.inl J)<|ft k) ((f b).au λg h=>.jb d h)
 |iF _ f=>exactλb=>(f b).au λg h=>.iF h
 |ia k m f l=>exactλb=>.j ((f b).au λg h=>.ia h<|ft m)<|.cons J<|.cons J<|.cons J<|(l b).au λg h=>.ia (ft k) h
 |iG _ f=>exactλb=>(f b).au λg h=>.iG h
 |ib k m f l=>exactλb=>.j ((f b).au λg h=>.ib h<|ft m)<|.cons J<|.cons J<|(l b).au λg h=>.ib (ft k) h
 |i=>exactλg=>.nil
 |iH a=>exactλg=>.i<|by simp[nm,sg,sp]
 |ic a _ f=>exactλb=>.cons J<|.cons J<|.cons J<|.cons J<|.cons J<|.j ((f b).au λg h=>.ic a h)<|.i<|D J
 |ie a _ f=>exactλb=>.cons J<|.cons J<|.cons J<|.cons J<|.cons J<|.cons J<|.cons J<|.cons J<|.cons J<|.cons J<|.cons J<|.cons J<|.cons J<|.cons J<|.cons J<|.cons J<|.cons J<|.cons J<|.j ((f b).au λg h=>.ie a h)<|.i<|D J
 |jI a=>exactλg=>.i<|I2 a
 |jc a _ f=>exactλb=>.j (.i<|I2 a)<|.cons J<|.cons J<|(f b).au λg h=>.jc a h
 |j=>exactλg=>.nil
 |jd _ a d f=>exactλb=>(f b).au λg h=>.jd h a d
 |iI k a d e m f l=>exactλb=>.j ((f b).au λg h=>.iI h a d e<|ft m)<|.cons J<|.cons J<|(l b).au λg h=>.iI (ft k) a d e h
 |ps _ n f=>exactλb=>.cons J<|.j ((f b).au λg h=>.ps h n)<|.i<|D J
 |eg _ f=>exactλb=>(f b).au λg h=>.eg h
 |je _ f=>exactλb=>.cons J<|.cons J<|.cons J<|.cons J<|(f b).au λg h=>.je h
 |q=>exactλb=>.i<|D J
 |jf _ f=>exactλb=>.cons J<|.cons J<|.cons J<|.cons J<|.cons J<|.cons J<|(f b).au λg h=>.jf h
 |jg _ f=>exactλb=>.cons J<|.cons J<|.cons J<|.cons J<|(f b).au λg h=>.jg h
 |ig k m f l=>exactλb=>.j ((f b).au λg h=>.ig h<|ft m) ((l b).au λg h=>.ig (ft k) h)
 |g3 k1 s t o p r=>exactλb=>.j ((o b).au λg h=>.g3 h (ft s)<|ft t)<|.j ((p b).au λg h=>.g3 (ft k1) h<|ft t)<|.cons J<|.cons J<|(r b).au λg h=>.g3 (ft k1) (ft s) h
 |iJ a d=>exactλg=>.i<|CR (g5 a) d
 |ii a d _ f=>exactλb=>.j (.i<|CR (g5 a) d)<|.cons J<|.cons J<|(f b).au λg h=>.ii a d h
 |g4 a d e _ f=>exactλb=>.j (.i<|CR (nU a) d) ((f b).au λg h=>.g4 a d e h)
 |ij _ f=>exactλb=>(f b).au λg h=>.ij h
 |ik _ f=>exactλb=>.cons J<|.cons J<|(f b).au λg h=>.ik h
 |il a d _ f=>
  refineλb=>.j (.i ?_)<|.cons J<|.cons J<|.cons J<|.cons J<|.cons J<|.cons J<|.cons J<|.cons J<|(f b).au λg h=>.il a d h
  rcases a with⟨rfl,_⟩|⟨rfl,_⟩<;>decide
 |ms1 _ f=>exactλb=>(f b).au λg h=>.ms1 h
 |gA a k m f l=>exactλb=>.j ((f b).au λg h=>.gA a h<|ft m)<|.cons J<|.cons J<|(l b).au λg h=>.gA a (ft k) h
 |iK a=>exact ax a<|D J
 |iL a=>exact ax a<|D J
noncomputable def wo(a:Int):Int->List aj->List aj
 |_,[]=>[]
 |d,t::r=>
  let b:=if t.is 5 [41] then d-1 else d
  if t.is 5 [41]=I/\b=0 then wo a 99 r
  else if t.aJ=a then wo a 1 r
  else t::wo a (if b>0/\t.is 5 [40]=I then b+1 else b) r
noncomputable def dt(t:aj):Int:=if t.is 5 [40] then 1 else if t.is 5 [41] then-1 else 0
noncomputable def kJ:List aj->Int
 |[]=>0
 |t::r=>dt t+kJ r
theorem U0{p d:Int}:wo p d []=[]:=rfl
theorem wu{p d:Int}{t:aj}{r:List aj}:wo p d (t::r)=if t.is 5 [41]=I/\(if t.is 5 [41]=I then d-1 else d)=0 then wo p 99 r else if t.aJ=p then wo p 1 r else t::wo p (if(if t.is 5 [41]=I then d-1 else d)>0/\t.is 5 [40]=I then(if t.is 5 [41]=I then d-1 else d)+1 else(if t.is 5 [41]=I then d-1 else d)) r:=rfl
theorem CS{r:List aj}:kJ (t::r)=dt t+kJ r:=rfl
theorem I4{t:aj}(h:t.is 5 [40]=I):t.is 5 [41]=false:=by
 refine dn λa=>?_;obtain⟨b,h2⟩:=pq h;refine a ?_;simp[aj.is,b,h2]
section
variable{p:Int}{r:List aj}
theorem U1:∀(v:List aj) (d:Int),d<=0->(∀t∈v,t.aJ≠p)->∃b,b<=0/\wo p d (v++r)=v++wo p b r:=by
 intro v
 induction v with
 |nil=>
  intro d h j;exact aD d h J
 |cons t v f=>
  intro d h c;have ht:=c t<|EY ..;rw[kS,wu];have hd:(if t.is 5 [41]=I then d-1 else d)<=0:=by split<;>lia
  rw[a9 (by intro⟨a,e⟩;rw[aN a] at e;lia),a9 ht,a9 (by intro⟨a,_⟩;lia)];exact dn λg=>aB (f _ hd λt ht=>c t<|Au _ ht) λb i e=>g<|aD b i (by rw[e];rfl)
theorem I5:∀(v:List aj) (d:Int),(∀a c,v=a++c->1<=d+kJ a)->(∀t∈v,t.aJ≠p)->wo p d (v++r)=v++wo p (d+kJ v) r:=by
 intro v
 induction v with
 |nil=>
  intro d g g;rw[Nv d];rfl
 |cons t v i=>
  intro d hd f;have ht:=f t<|EY ..;have j:=Nv d▸hd [] (t::v) J;have b:1<=d+dt t:=Nv (dt t)▸hd [t] v J;rw[kS,wu];have e:(if(if t.is 5 [41]=I then d-1 else d)>0/\t.is 5 [40]=I then(if t.is 5 [41]=I then d-1 else d)+1 else(if t.is 5 [41]=I then d-1 else d))=d+dt t:=by
   unfold dt at b⊢
   by_cases a:t.is 5 [40]=I
   ·have:=I4 a;simp only[a,this,if_true,mY,if_false,and_true];rw[aN (by lia)]
   ·by_cases c:t.is 5 [41]=I
    ·simp only[a,c,if_true,mY,if_false,and_false];lia
    ·simp only[a,c,mY,if_false,and_false];lia
  have e2:¬(t.is 5 [41]=I/\(if t.is 5 [41]=I then d-1 else d)=0):=by
   intro⟨a,q⟩;rw[aN a] at q;have:t.is 5 [40]=false:=by
    cases h:t.is 5 [40] with
    |false=>rfl
    |true=>rw[I4 h] at a;exact bc a
   unfold dt at b;rw[this,a] at b;simp at b;lia
  rw[a9 e2,a9 ht,e];rw[i (d+dt t) (λa c q=>by have:=hd (t::a) c (by rw[q];rfl);rw[CS] at this;lia) (λt ht=>f t<|Au _ ht)];rw[CS,kS,Nt]
end
theorem U2(a c:List aj):kJ (a++c)=kJ a+kJ c:=by
 induction a with
 |nil=>exact(adi _).symm
 |cons w a b=>exact(bH (dt w+·) b).trans (Nt _ _ _).symm
theorem U3{n p e n' p' e':Int}(f:∀t∈ua,t.aJ≠p)(g:∀t∈b,t.aJ≠p)(h:∀t∈ud,t.aJ≠p)(d:kJ b=0/\∀a c,b=a++c->0<=kJ a)(i:∀a c,ud=a++c-> -98<=kJ a):
  wo p 0 (ua++⟨5,[40],n,p,e,C⟩::(b++⟨5,[41],n',p',e',C⟩::ud))=ua++(b++ud):=by
 refine dn λj=>aB (U1 (r:=⟨5,[40],n,p,e,C⟩::(b++⟨5,[41],n',p',e',C⟩::ud)) ua 0 (by lia) f) λl k e1=>j ?_;rw[e1]
 congr 1
 rw[wu];have m:(aj.mk 5 [41] n' p' e' C).is 5 [41]=true:=J;rw[I5 b 1 (λa c q=>by have:=d.2 a c q;lia) g,d.1]
 congr 1
 rw[wu];rw[aN J,aN ⟨J,by lia⟩];have:=I5 (r:=[]) ud 99 (λa c q=>by have:=i a c q;lia) h;rw[cN] at this;rw[this];exact bH (b++·)<|cN ud
theorem CT:∀{a:List W} {u:List aj} {os:List Int},tk a u os->kJ u=lR a:=by
 intro a
 induction a with
 |nil=>
  intro u;intro os;intro h;rw[(mH h).1];rfl
 |cons w a b=>
  intro u;intro os;intro h;refine tW h (λq h=>?_) λn p e d c q h=>?_
  ·rw[b h,nV];have:dw w=0:=by unfold dw;rw[a9 (by lia),a9 (by lia)]
   lia
  ·rw[CS,nV,b h];have:dt ⟨w.k,w.x,n,p,e,w.l⟩=dw w:=by simp[dt,dw,ub]
   rw[this]
inductive U4(ws:List W)(a c:List aj):Prop
 |mk (wa wc:List W) (o1 o2:List Int) (e:ws=wa++wc) (h1:tk wa a o1) (h2:tk wc c o2)
theorem I6(h:tk b (a++c) d):U4 b a c:=by
 induction b generalizing a d with
 |nil=>
  have:=xG.mp (mH h).1;rw[this.1] at h⊢;exact⟨[],[],[],d,J,⟨J,J⟩,h⟩
 |cons w b k=>
  induction a using aV with
  |nil=>exact⟨[],w::b,[],d,J,⟨J,J⟩,h⟩
  |cons t a=>
   by_cases q:w.k=9
   ·rw[pu q] at h;obtain⟨f,g,o1,i,rfl,j,h2⟩:=k h;exact⟨w::f,g,o1,i,J,by rw[pu q];exact j,h2⟩
   ·rw[mG q] at h;refine lB h λn p e m l e1 o h=>?_
    cases e1
    obtain⟨f,g,o1,i,rfl,j,h2⟩:=k h;exact⟨w::f,g,_,i,J,yL q j,h2⟩
theorem y6(h:tk a f g)(k:tk c i d):tk (a++c) (f++i) (g++d):=by
 induction a generalizing f g with
 |nil=>rw[h.1,h.2];exact k
 |cons w a j=>
  refine tW h (λq h=>?_) λn p e l b q h=>?_
  ·rw[pu q];exact j h
  ·rw[show(if w.o then p::b else b)++d=if w.o then p::(b++d) else b++d by cases w.o<;>rfl];exact yL q<|j h
inductive U5(ws:List W)(u:List aj)(p:Int):Prop
 |mk (a:List W) (w:W) (c:List W) (ua uc:List aj) (oa oc:List Int) (n e:Int) (ho:w.o=true) (ew:ws=a++w::c) (eu:u=ua++⟨w.k,w.x,n,p,e,w.l⟩::uc) (h1:tk a ua oa) (h2:tk c uc oc)
theorem I7{p:Int}(h:tk f u i)(d:p∈i):U5 f u p:=by
 induction f generalizing u i with
 |nil=>rw[(mH h).2] at d;cases d
 |cons w f x=>
  by_cases q:w.k=9
  ·rw[pu q] at h;have:=x h d;obtain⟨a,j,c,k,l,y,m,n,e,b,o,s,t,h2⟩:=this;exact⟨w::a,j,c,k,l,y,m,n,e,b,by rw[o];rfl,s,by rw[pu q];exact t,h2⟩
  ·rw[mG q] at h;refine lB h ?_;clear h;rintro n z e A v rfl rfl h
   by_cases g:w.o=I/\p=z
   ·obtain⟨b,rfl⟩:=g;exact⟨[],w,f,[],A,[],v,n,e,b,J,J,⟨J,J⟩,h⟩
   ·have:=x h (by
     by_cases b:w.o=I
     ·rw[aN b] at d;exact(d4.mp d).resolve_left λe=>g ⟨b,e⟩
     ·rwa [a9 b] at d)
    obtain⟨a,j,c,k,l,y,m,B,F,b,o,s,t,h2⟩:=this;exact⟨w::a,j,c,_::k,l,_,m,B,F,b,by rw[o];rfl,by rw[s];rfl,yL q t,h2⟩
noncomputable def gB(a:List W):List W:=sg [123]::sp::(a++[sp,sg [125]])
theorem U6{u:List aj}{R:List Int}{p:Int}{e:aj}(hi:i<=2)(h:K C 0 i .j H s)(S:tk (gB s) u R)(hp:p∈R)(V:(u.map aj.aJ).Nodup)(he:e.aJ≠p)(L:e.aq=0):
  ∃b l M,wo p 0 (u++[e])=l++[e]/\K I 0 i .j H b/\tk (gB b) l M/\cl l+1=cl u/\l.length<=u.length/\cb l=cb u:=by
 have hb:c0 (3*i+1) (gB s):=c0.cons J<|c0.cons J<|(I1 h).j<|.cons J<|.cons J .nil;refine dn λf=>?_;obtain⟨a,w,c,k,uc,oa,oc,n,en,ho,N,rfl,h1,h2⟩:=I7 S hp;clear S;obtain⟨rfl,x,d,rfl,P,b,Q,hk⟩:=(.cons J (.cons J<|.j ((UZ h<|L1 hi).au λx h=>aD x J h)<|.i<|by simp[sg,sp]):g6 (λx=>∃b,x=gB b/\K I 0 i .j H b)<|gB s) a w c ho N;obtain⟨m,u3,ox,o3,rfl,rfl,A,h4⟩:=vT h2;replace h4:=Ck h4;clear h2;refine vc h4 ?_;clear h4;rintro B F G g rfl h4;refine f ?_;have gZ:∀q,q∈k++(m++g)->q.aJ≠p:=by
  intro q hq o;rw[dz,iQ,mZ] at V;refine dn λf=>ly V λd1 d2 d3=>f ?_;rw[iR] at d2;simp only[eV] at hq;have:q∈k∨q∈m++(⟨5,[41],B,F,G,C⟩::g):=by
   rcases hq with hq|hq|hq
   ·exact .inl hq
   ·exact .inr<|by simp[hq]
   ·exact .inr<|by simp[hq]
  rcases this with hq|hq
  ·exact d3 q.aJ (om hq) p (by simp[pt]) o
  ·exact d2.1<|ej.mpr<|aD q hq o
 have z:=U3 (ua:=k) (ud:=g++[e]) (n:=n) (e:=en) (n':=B) (p':=F) (e':=G)
  (λt ht=>gZ t<|by simp[ht]) (λt ht=>gZ t<|by simp[ht])
  (λt ht=>by rcases eV.mp ht with ht|ht;exact gZ t (by simp[ht]);rw[iw.mp ht];exact he)
  ⟨(CT A).trans P.z,λy z q=>by
   rw[q] at A;refine dn λf=>?_;obtain⟨X,Y,o1,o2,Z,E,_⟩:=I6 A;refine f ?_;rw[CT E];exact(P.p X Y Z).1⟩
  (λy z q=>by
   have j:∀y z,g=y++z-> -98<=kJ y:=by
    intro y z q;rw[q] at h4;refine dn λf=>?_;obtain⟨X,Y,o1,o2,Z,E,_⟩:=I6 h4;refine f ?_;rw[CT E];have b1:=hb.p a _ N;have b2:=hb.p (a++(pt::(x++(sg [41]::X)))) Y (by rw[N,Z];simp);rw[ug,nV,ug,nV,P.z] at b2;have c1:dw pt=1:=J;have c2:dw (sg [41])= -1:=J;rw[c1,c2] at b2;lia
   rcases EZ.mp q with⟨v,e1,e2⟩|⟨v,e1,e2⟩
   ·induction v using aV with
    |nil=>rw[cN] at e1;exact j y []<|by rw[e1,cN]
    |cons t v=>
     injection e2 with e2 e3
     refine dn λf=>?_;subst e2;have:=(xG.mp e3.symm).1;refine f ?_;rw[e1,U2];have:=j g []<|by simp
     have:kJ [e]=0:=by show dt e+0=0;simp[dt,aj.is,L]
     lia
   ·exact j y v e1)
 refine vb b (k++(m++g)) (oa++(ox++o3)) ?_ hk ?_ ?_ ?_ ?_
 ·have e1:(k++(⟨5,[40],n,p,en,C⟩::(m++⟨5,[41],B,F,G,C⟩::g)))++[e]=k++⟨5,[40],n,p,en,C⟩::(m++⟨5,[41],B,F,G,C⟩::(g++[e])):=by simp
  rw[e1,z];simp
 ·rw[<-Q];exact y6 h1<|y6 A h4
 ·rw[wt,wt,wt,yH,wt,yH,a9 (sS),aN (by rfl)];exact by simp+arith only
 ·simp;exact by simp+arith only
 ·rw[v9,v9,v9,rV,v9,rV,a9 (by exact sS),a9 (by exact sS)];exact by simp+arith only
noncomputable def mL(pv b:aj):Bool:= !(decide (b.aq=5)&&(decide (b.aP=[40])||decide (b.aP=[60])))&&(!(decide (pv.aP=f3)||decide (pv.aP=gs))&&(!decide (pv.aP=dO)|| !decide (b.aP=eY)))
noncomputable def en(m:Nat):aj->Bool->List aj->List aj
 |_,_,[]=>[]
 |pv,fr,t::r=>
  if t.is 5 [59]&&decide (0<m) then
   if m=1 then⟨5,[44],0,t.aJ,t.jz,C⟩::en m t fr r
   else if mL pv (r.headD kZ) then en m t I r
   else{t with cC:=fr}::en m t C r
  else{t with cC:=fr}::en m t C r
theorem U7{m:Nat}:en m pv b []=[]:=rfl
theorem qF{m:Nat}{pv t:aj}{r:List aj}:en m pv b (t::r)=if(t.is 5 [59]&&decide (0<m))=I then(if m=1 then⟨5,[44],0,t.aJ,t.jz,C⟩::en m t b r else if mL pv (r.headD kZ)=I then en m t I r else{t with cC:=b}::en m t C r) else{t with cC:=b}::en m t C r:=rfl
noncomputable def j6(pv:aj)(u:List aj):aj:=u.getLastD pv
theorem I8(pv:aj)(a c:List aj):j6 pv (a++c)=j6 (j6 pv a) c:=by
 unfold j6
 cases h:c with
 |nil=>simp
 |cons t r=>simp[ac0,uR,Nw]
theorem U8(pv t:aj)(r:List aj):j6 pv (t::r)=j6 t r:=by unfold j6;rw[List.getLastD_cons]
structure Em(m:Nat)(ws ws':List W):Prop where
 t:∀u os,tk ws u os->∀pv z r,∃v,en m pv false (u++z::r)=v++en m (j6 pv u) false (z::r)/\tk ws' v os
 l:ws.getLast?.map W.x=ws'.getLast?.map W.x
 h:ws.head? =ws'.head?
section
variable{m:Nat}{a F c B:List W}{w:W}
theorem Em.nil:Em m [] []:=⟨λu os h b z r=>aD [] (by rw[(mH h).1];rfl) (by obtain⟨rfl,rfl⟩:=mH h;exact⟨J,J⟩),J,J⟩
theorem Em.j(h:Em m a F)(b:Em m c B):Em m (a++c) (F++B):=by
 refine⟨λu os k i z r=>?_,?_,?_⟩
 ·refine dn λl=>?_;obtain⟨j,d,o1,o,rfl,rfl,s,h2⟩:=vT k;obtain⟨f,g,e⟩:∃f g,d++z::r=f::g:=by
   induction d using aV with
   |nil=>exact gv _ _ J
   |cons t v=>exact gv _ _ J
  refine aB (h.t j o1 s i f g) λv1 e1 k1=>aB (b.t d o h2 (j6 i j) z r) λv2 e2 x=>l<|aD (v1++v2) ?_ (y6 k1 x);rw[b6,e,e1,<-e,e2,I8,b6]
 ·rw[uR,uR];have h2:=b.l
  cases p:c.getLast? <;>cases q:B.getLast? <;>rw[p,q] at h2
  ·simpa using h.l
  ·exact ba h2
  ·exact ve h2
  ·simpa using h2
 ·rw[E0,E0,h.h,b.h]
theorem uh{t:aj}(d:t.is 5 [59]=C)(pv:aj)(b:Bool)(r:List aj):en m pv b (t::r)={t with cC:=b}::en m t C r:=by
 rw[qF,d];rfl
theorem Em.eF(g:w.l=C)(i:w.x≠[59]):Em m [w] [w]:=by
 refine⟨λu os b l z r=>?_,J,J⟩
 by_cases d:w.k=9
 ·rw[pu d] at b;refine dn λj=>?_;obtain⟨rfl,rfl⟩:=mH b;exact j<|aD [] J (by rw[pu d];exact⟨J,J⟩)
 ·have f:=b;rw[mG d] at b;refine lB b ?_;clear b;rintro n p e o k rfl rfl h;obtain⟨rfl,rfl⟩:=mH h;refine aD [⟨w.k,w.x,n,p,e,w.l⟩] ?_ f;have ns:(aj.mk w.k w.x n p e w.l).is 5 [59]=false:=by simp[ub,i]
  refine(uh ns ..).trans ?_;rw[g]
  rfl
theorem Em.cons(b:w.l=C)(d:w.x≠[59])(h:Em m c B):Em m (w::c) (w::B):=(Em.eF b d).j h
theorem Em.i(h:∀w∈a,w.l=C/\w.x≠[59]):Em m a a:=by
 induction a with
 |nil=>exact .nil
 |cons w a b=>exact .cons (h w<|by simp).1 (h w<|by simp).2<|b λx d=>h x<|by simp[d]
end
theorem r8{P:W->Prop}(h:P x):∀y∈[x],P y:=λb e=>iw.mp e▸h
theorem qG{P:W->Prop}{r:List W}(h:P x)(b:∀y∈r,P y):∀y∈x::r,P y:=λy e=>(d4.mp e).elim (λe=>e▸h)<|b y
theorem CU{w:List W}{fl:Int}(h:n∈dY∨n=wd bI∨n=st bI fM)(b:fR n w fl):∀x∈w,x.l=C/\x.x≠[59]:=by
 have e:=yZ (P:=λn=>n.l=C/\n.x≠[59]) (D J) h;have s:sp.l=C/\sp.x≠[59]:=by decide
 have q:(sg [63]).l=C/\(sg [63]).x≠[59]:=by decide
 have r:(nm fL).l=C/\(nm fL).x≠[59]:=by decide
 induction b with
 |ga=>exact r8 e
 |i=>exact qG e<|r8 q
 |ro=>exact qG r<|qG s<|r8 e
 |j=>exact qG r<|qG s<|qG e<|r8 q
theorem I9{w:List W}{a:List Nat}{fl:Int}(b:fF w a fl):∀x∈w,x.l=C/\x.x≠[59]:=by
 have A:∀a∈nK,a≠[59]:=by decide
 induction b with
 |this=>decide
 |dots h=>exact qG (D J)<|r8 ⟨J,A _ h⟩
 |i h=>exact qG ⟨J,A _ h⟩<|r8<|D J
 |ga h=>exact r8 ⟨J,A _ h⟩
theorem Ja{a:List Nat}(h:a∈iC∨a=gF):∀x∈d7 a,x.l=C/\x.x≠[59]:=by
 have A:∀a∈iC++[gF],∀x∈d7 a,x.l=C/\x.x≠[59]:=by decide
 exact A a<|eV.mpr<|h.imp id iw.mpr
theorem U9{a:List Nat}(h:a∈qC):a≠[59]:=(by decide:∀a∈qC,a≠[59]) a h
theorem CV{a:List Nat}(h:a∈hZ):a≠[59]:=(by decide:∀a∈hZ,a≠[59]) a h
noncomputable def wv(b:List W):Prop:=∃x r,b=x::r/\x.k≠9/\x.x≠[59]/\(x.k=5∨x.x≠[40]/\x.x≠[60])
theorem wv.j{w v:List W}(h:wv w):wv (w++v):=h.elim λx h=>h.elim λr h=>cK x (r++v) (by rw[h.1];rfl) h.2
theorem CW{w:List W}{fl:Int}(h:n∈dY∨n=wd bI∨n=st bI fM)(b:fR n w fl):wv w:=by
 have A:=yZ (P:=λn=>n.k≠9/\n.x≠[59]/\(n.k=5∨n.x≠[40]/\n.x≠[60])) (D J) h
 induction b with
 |ga=>exact cK _ _ J A
 |i=>exact cK _ _ J A
 |ro=>exact cK _ _ J<|D J
 |j=>exact cK _ _ J<|D J
theorem Va{m i:Nat}{c:gu}(h:K b m i c l j):c=.i∨c=.j->wv j:=by
 induction h with
 |iJ a d=>exactλf=>CW (g5 a) d
 |ii a d _ _=>exactλf=>(CW (g5 a) d).j
 |g4 a d _ _ _=>exactλf=>(CW (nU a) d).j
 |ij k _=>exactλf=>(pJ k).elim λx h=>h.elim λr h=>m2 _ r h.1 (by decide:(5:Int)≠9) (h.2.elim (λe=>e▸(by decide:[40]≠[59])) λe=>e▸(by decide:[60]≠[59]))<|.inl J
 |ik _ _=>exactλf=>cK _ _ J<|D J
 |il o _ _ _=>exactλf=>o.elim (λh=>h.1▸(cK _ _ J<|D J)) λh=>h.1▸(cK _ _ J<|D J)
 |ms1 _ g=>exactλf=>g<|.inl J
 |gA _ _ _ g _=>exactλf=>(g<|.inl J).j
 |iK _ _ _ g _=>exactλf=>(g<|.inl J).j
 |iL _ _ _ _ g _=>exactλf=>(g<|.inl J).j
 |_=>exactλe=>e.elim (λe=>nomatch e) λe=>(nomatch e)
theorem Vb{p:aj}{a c:List W}{x:W}{r:List W}{n q e:Int}(h:p.aP=h9 a)(b:c=x::r)(d:x.k=5∨x.x≠[40]/\x.x≠[60]):mL p ⟨x.k,x.x,n,q,e,x.l⟩=I↔mJ a c:=by
 subst b;have f:(decide (x.k=5)&&(decide (x.x=[40])||decide (x.x=[60])))=(decide (x.x=[40])||decide (x.x=[60])):=by
  rcases d with h|h
  ·rw[h];rfl
  ·rw[dT h.1,dT h.2];exact mX _
 unfold mL mJ;simp only[h,f,List.head?_cons,Option.mem_some_iff,forall_eq',ol,Am,uP,kn,decide_eq_false_iff_not];exact⟨λh=>⟨h.2.1.1,h.2.1.2,h.1.1,h.1.2,λk=>h.2.2.elim (λq=>q k.1) λq=>q k.2⟩,λh=>⟨⟨h.2.2.1,h.2.2.2.1⟩,⟨h.1,h.2.1⟩,Decidable.not_and_iff_not_or_not.mp h.2.2.2.2⟩⟩
theorem Vc{a c:List W}{x:W}{r:List W}(f:La a)(k:c=x::r)(l:x.k≠9/\x.x≠[59]/\(x.k=5∨x.x≠[40]/\x.x≠[60])){o g:List aj}{t u:List Int}{pv z:aj}{r':List aj}(q:tk c o t)(d:tk a g u):(mL (j6 pv g) ((o++z::r').headD kZ)=I↔mJ a c):=by
 have e1:(j6 pv g).aP=h9 a:=by
  rw[<-Ur d f];refine dn λh=>eC f ?_;clear f;rintro A B rfl v;obtain⟨F,G,_,_,rfl,_,_,i⟩:=vT d;rw[mG v] at i;clear d;refine lB i ?_;clear i;rintro n p e y j rfl _ s;obtain⟨rfl,_⟩:=mH s;refine h ?_;simp[j6,lt]
 have b:=q;rw[k,mG l.1] at b;refine dn λh=>?_;clear d q;refine lB b ?_;clear b;rintro n p e y j rfl _ s;exact h<|Vb e1 k l.2.2
theorem Vd{m:Nat}{a F c B:List W}{x:W}{r:List W}(h:Em m a F)(j:Em m c B)(E:La a)(P:c=x::r)(Q:x.k≠9/\x.x≠[59]/\(x.k=5∨x.x≠[40]/\x.x≠[60])):
  (m=0->Em m (a++sg [59]::sp::c) (F++sg [59]::sp::B))/\(m=1->Em m (a++sg [59]::sp::c) (F++sg [44]::sp::B))/\
  (m=2->mJ a c->Em m (a++sg [59]::sp::c) (F++sp::eb I B))/\(m=2->¬mJ a c->Em m (a++sg [59]::sp::c) (F++sg [59]::sp::B)):=by
 have o:∀s,(∀b d n p e,tk c b d->∀f o1,tk a f o1->∀i z r,∃v,en m (j6 i f) C (⟨5,[59],n,p,e,C⟩::(b++z::r))=v++en m (j6 ⟨5,[59],n,p,e,C⟩ b) C (z::r)/\tk s v d)->
   (a++sg [59]::sp::c).getLast?.map W.x=(F++s).getLast?.map W.x->(a++sg [59]::sp::c).head? =(F++s).head? ->Em m (a++sg [59]::sp::c) (F++s):=by
  intro s hs X N;refine⟨λu os hu i z r=>?_,X,N⟩;exact ta hu λf u2 o1 o2 k h2=>ts h2 λn p e b h2=>(h.t f o1 k i ⟨5,[59],n,p,e,C⟩<|b++z::r).elim λv1 K=>(hs b o2 n p e (SS h2) f o1 k i z r).elim λv R=>aD (v1++v) (by rw[b6,kS,K.1,R.1,b6,I8,U8])<|y6 K.2 R.2
 have lc:∀(y z:List W),B.getLast? =B.getLast? ->(a++sg [59]::sp::c).getLast?.map W.x=c.getLast?.map W.x:=λξ ξ ξ=>by
  rw[show a++sg [59]::sp::c=(a++[sg [59],sp])++c by simp,uR,P];simp[Nw]
 have G:B≠[]:=by
  intro e0;have:=j.h;rw[P,e0] at this;exact ve this
 have H:∀y:List W,(y++B).getLast?.map W.x=B.getLast?.map W.x:=λy=>by
  rw[uR]
  cases q:B.getLast? with
  |none=>exact ax (Nr.mp q) G
  |some t=>rfl
 have N:∀y:List W,(a++sg [59]::sp::c).head? =(F++y).head? :=λy=>by
  refine dn λL=>eC E ?_;clear E;rintro S wa rfl _;obtain⟨t,e⟩:∃t,(S++[wa]).head? =O t:=by cases S<;>simp
  refine L ?_;have e1:(S++[wa]++sg [59]::sp::c).head? =O t:=by rw[E0,e];rfl
  have e2:(F++y).head? =O t:=by rw[E0,<-h.h,e];rfl
  rw[e1,e2]
 have Y:∀l,(eb l B).getLast?.map W.x=B.getLast?.map W.x:=λl=>by
  induction B using aV with
  |nil=>rfl
  |cons x r=>cases r<;>simp[eb,Nw]
 --T tokens' M is T words'
 have cond:∀b d,tk c b d->∀f o1,tk a f o1->∀i z r,(mL (j6 i f) ((b++z::r).headD kZ)=I↔mJ a c):=λb d g f o1 k i z Z=>Vc E P Q g k;refine⟨λem=>?_,λem=>?_,λem X=>?_,λem X=>?_⟩
 ·subst em;refine o _ (λb d n p e g f o1 k i z r=>?_) (by rw[lc [] [] J,j.l,show F++sg [59]::sp::B=(F++[sg [59],sp])++B by simp,H])<|N _;refine aB (j.t b d g ⟨5,[59],n,p,e,C⟩ z r) λv e2 A=>⟨⟨5,[59],n,p,e,C⟩::v,?_,n,p,e,v,d,J,J,A⟩;rw[qF,a9 (by simp),e2];rfl
 ·subst em;refine o _ (λb d n p e g f o1 k i z r=>?_) (by rw[lc [] [] J,j.l,show F++sg [44]::sp::B=(F++[sg [44],sp])++B by simp,H])<|N _;refine aB (j.t b d g ⟨5,[59],n,p,e,C⟩ z r) λv e2 A=>⟨⟨5,[44],0,p,e,C⟩::v,?_,0,p,e,v,d,J,J,A⟩;rw[qF,aN (by simp[ub]),aN J,e2];rfl
 ·refine dn λL=>?_;subst em;refine L<|o _ (λb d n p e g f o1 k i z r=>?_) (by rw[lc [] [] J,j.l,show F++sp::eb I B=(F++[sp])++eb I B by simp,uR,<-Y I];cases q:(eb true B).getLast? with
   |none=>exfalso;have:=Nr.mp q;induction B using aV with|nil=>exact G rfl|cons=>exact jy this
   |some t=>rfl)<|N _
  refine dn λL=>aB (j.t b d g ⟨5,[59],n,p,e,C⟩ z r) λv e2 A=>?_;have V:=g;rw[P,mG Q.1] at g;refine lB g ?_;clear g;rintro n3 p3 e3 u' os' rfl _ h6;have ns:(aj.mk x.k x.x n3 p3 e3 x.l).is 5 [59]=false:=by simp[ub,Q.2.1]
  rw[kS,uh ns] at e2;obtain⟨x',Z,ex⟩:∃x' Z,B=x'::Z:=by induction B using aV with|nil=>exact ax rfl G|cons x r=>exact gv x r rfl
  have exx:x=x':=by have:=j.h;rw[P,ex] at this;exact cT this
  subst exx;rw[ex,mG Q.1] at A;refine lB A ?_;clear A;rintro n4 p4 e4 v' os4 rfl eo k6;refine L ?_;injection e2 with e5 e6
  injection e5 with K R q3 q4 q5 q6
  subst q4;subst q5;refine aD (⟨x.k,x.x,n3,p3,e3,I⟩::v') ?_ ?_
  ·rw[qF,aN (by simp[ub]),a9 (D J),aN ((cond _ _ V f o1 k i z r).mpr X),kS,uh ns,e6];rfl
  ·rw[ex];rw[show eb I (x::Z)={x with l:=I}::Z from J,mG (w:={x with l:=I}) Q.1];exact vd n3 p3 e3 v' os4 J eo k6
 ·refine dn λL=>?_;subst em;refine L<|o _ (λb d n p e g f o1 k i z r=>?_) (by rw[lc [] [] J,j.l,show F++sg [59]::sp::B=(F++[sg [59],sp])++B by simp,H])<|N _;refine aB (j.t b d g ⟨5,[59],n,p,e,C⟩ z r) λv e2 A=>⟨⟨5,[59],n,p,e,C⟩::v,?_,n,p,e,v,d,J,J,A⟩;rw[qF,aN (by simp[ub]),a9 (D J),a9 (λq=>X<|(cond _ _ g f o1 k i z r).mp q),e2];rfl
theorem Ve(h:Em m a b)(f:Em m c d):mJ a c↔mJ b d:=by
 have e:h9 a=h9 b:=by unfold h9;rw[h.l]
 unfold mJ;rw[e,f.h]
theorem Vf{m i:Nat}(hm:m<=2){c:gu}{L:List T}{F:List W}(h:K C 0 i c L F):∃t,K C m i c L t/\Em m F t:=by
 have S:∀{m:Nat} {c u:List W} {a:List Nat},a≠[59]->Em m c u->Em m (sg a::c) (sg a::u):=λh e=>.cons J h e;have N:∀{m:Nat} {c u:List W} {a:List Nat},a≠[59]->Em m c u->Em m (nm a::c) (nm a::u):=λh e=>.cons J h e;have b:∀{m:Nat} {c u:List W} {a:List Nat},a≠[59]->Em m c u->Em m (wd a::c) (wd a::u):=λh e=>.cons J h e;have P:∀{m:Nat} {c u:List W},Em m c u->Em m (sp::c) (sp::u):=λe=>.cons J (by simp[sp]) e;have v:∀{m:Nat} {a:List Nat},a≠[59]->Em m [sg a] [sg a]:=λh=>.eF J h
 induction h with
 |i9 a=>exact aD _ (.i9 a)<|.eF J<|U9 a
 |ae a=>exact aD _ (.ae a)<|.i<|Ja a
 |ja a _ d g=>exact g.elim λw h=>aD _ (.ja a h.1 d)<|(Em.i<|Ja a).j<|S (D J)<|h.2.j<|v<|D J
 |gL _ g=>exact g.elim λw h=>aD _ (.gL h.1)<|S (D J)<|h.2.j<|v<|D J
 |jH=>exact aD _ .jH<|S (D J)<|v<|D J
 |gh _ n g=>exact g.elim λw h=>aD _ (.gh h.1 n)<|S (D J)<|P<|h.2.j<|P<|v<|D J
 |gc _ g=>exact g.elim λw h=>aD _ (.gc h.1)<|h.2.j<|S (D J)<|v<|D J
 |aa _ _ g l=>exact g.elim λw h=>l.elim λy s=>aD _ (.aa h.1 s.1)<|h.2.j<|P<|S (D J)<|P s.2
 |un _ _ d g l=>exact g.elim λw h=>l.elim λy s=>aD _ (.un h.1 s.1 d)<|h.2.j<|P<|S (D J)<|P s.2
 | @fn i w fl o p r F t R d _ _ _ z A B=>
  refine dn λM=>aB z λw1 k1 e1=>?_;refine aB A λw2 Q e2=>?_;refine aB B λw3 X Y=>?_;refine M ?_;have G:Em m w w:=by
   rcases d with⟨rfl,_⟩|⟨rfl,_⟩
   ·exact .nil
   ·exact b (D rfl)<|P .nil
  exact aD _ (.fn d k1 Q X)<|G.j<|e1.j<|e2.j<|P<|S (D J)<|P Y
 |iE d _ g=>exact g.elim λw h=>aD _ (.iE d h.1) h.2
 |jb d _ g=>exact g.elim λw h=>aD _ (.jb d h.1)<|Em.cons J (by simp[pt])<|h.2.j<|v<|D J
 |iF _ g=>exact g.elim λw h=>aD _ (.iF h.1) h.2
 |ia _ _ g l=>exact g.elim λw h=>l.elim λy s=>aD _ (.ia h.1 s.1)<|h.2.j<|P<|S (D J)<|P s.2
 |iG _ g=>exact g.elim λw h=>aD _ (.iG h.1) h.2
 |ib _ _ g l=>exact g.elim λw h=>l.elim λy s=>aD _ (.ib h.1 s.1)<|h.2.j<|S (D J)<|P s.2
 |i=>exact aD _ .i .nil
 |iH a=>exact aD _ (.iH a)<|S (D J)<|N (D J)<|P<|N (CV a)<|v<|D J
 |ic a _ g=>exact g.elim λw h=>aD _ (.ic a h.1)<|S (D J)<|N (CV a)<|P<|b (D J)<|P<|h.2.j<|v<|D J
 |ie a _ g=>
  exact aB g λw k e=>aD _ (.ie a k)<|S (D J)<|b (D J)<|P<|N (CV a)<|S (D J)<|P<|b (D J)<|P<|N (D J)<|P<|N (D J)<|P<|b (D J)<|P<|N (D J)<|P<|S (D J)<|P<|e.j<|v<|D J
 |jI a=>exact aD _ (.jI a)<|.i<|I9 a
 |jc a _ g=>exact g.elim λw h=>aD _ (.jc a h.1)<|(Em.i<|I9 a).j<|S (D J)<|P h.2
 |j=>exact aD _ .j .nil
 |jd _ a d g=>exact g.elim λw h=>aD _ (.jd h.1 a d) h.2
 |iI _ a d f _ g l=>exact g.elim λw h=>l.elim λy s=>aD _ (.iI h.1 a d f s.1)<|h.2.j<|S (D J)<|P s.2
 |ps _ n g=>exact g.elim λw h=>aD _ (.ps h.1 n)<|S (D J)<|h.2.j<|v<|D J
 |eg _ g=>exact g.elim λw h=>aD _ (.eg h.1) h.2
 |je _ g=>exact g.elim λw h=>aD _ (.je h.1)<|N (D J)<|P<|N (D J)<|P h.2
 |q=>exact aD _ .q<|N (D J)<|P<|N (D J) .nil
 |jf _ g=>exact g.elim λw h=>aD _ (.jf h.1)<|N (D J)<|P<|b (D J)<|P<|N (D J)<|P h.2
 |jg _ g=>exact g.elim λw h=>aD _ (.jg h.1)<|N (D J)<|P<|N (D J)<|P h.2
 |ig _ _ g l=>exact g.elim λw h=>l.elim λy s=>aD _ (.ig h.1 s.1)<|h.2.j s.2
 |g3 _ _ _ z A B=>refine aB z λw1 k1 e1=>?_;refine aB A λw2 Q e2=>?_;refine aB B λw3 X Y=>?_;exact aD _ (.g3 k1 Q X)<|e1.j<|e2.j<|S (D J)<|P Y
 |iJ a d=>exact aD _ (.iJ a d)<|.i<|CU (g5 a) d
 |ii a d _ g=>exact g.elim λw h=>aD _ (.ii a d h.1)<|(Em.i<|CU (g5 a) d).j<|S (D J)<|P h.2
 |g4 a d f _ g=>exact g.elim λw h=>aD _ (.g4 a d f h.1)<|(Em.i<|CU (nU a) d).j h.2
 |ij _ g=>exact g.elim λw h=>aD _ (.ij h.1) h.2
 |ik _ g=>exact g.elim λw h=>aD _ (.ik h.1)<|b (D J)<|P h.2
 | @il i w fl a k F G d _ g=>
  refine aB g λy k e=>?_;have Z:Em m w w:=by
   rcases G with⟨rfl,_⟩|⟨rfl,_⟩
   ·exact .nil
   ·exact N (D rfl)<|P .nil
  exact aD _ (.il G d k)<|Z.j<|S (D J)<|N (by rcases d with rfl|rfl<;>decide)<|S (D J)<|P<|N (D J)<|S (D J)<|S (D J)<|P e
 |ms1 _ g=>exact g.elim λw h=>aD _ (.ms1 h.1) h.2
 | @gA i k L F t _ h1 h2 g l=>
  refine dn λM=>aB g λw k e=>?_;refine aB l λy H V=>?_;refine eC (Va h2<|.inr J) λx r ex hx=>u9 (Vd e V (jJ h1) ex hx) λz0 z1 z2 z3=>M ?_
  rcases(by lia:m=0∨m=1∨m=2) with q|q|q
  ·exact aD _ (.gA (.inl q) k H)<|z0 q
  ·exact aD _ (.iK q k H)<|z1 q
  ·by_cases E:mJ F t
   ·exact aD _ (.iL q k H<|(Ve e V).mp E)<|z2 q E
   ·exact aD _ (.gA (.inr q) k H)<|z3 q E
 |iK a=>exact ax a<|D J
 |iL a=>exact ax a<|D J
theorem Vg(j:m<=2){e pv:aj}(h:K false 0 i .j d b)(o:tk (gB b) u c)(f:e.aq=0)(q:e.cC=false):
  ∃a g,en m pv false (u++[e])=g++[e]/\K false m i .j d a/\tk (gB a) g c:=by
 refine aB (Vf j h) λa r s=>aB ((.cons rfl (by simp[sg]) (.cons rfl (by simp[sp])<|s.j<|.cons rfl (by simp[sp])<|.eF rfl<|by simp[sg]):Em m (gB b)<|gB a).t u c o pv e []) λv e1 k1=>cL a v ?_ r k1;rw[e1,uh (by simp[aj.is,f])];clear e1 f;obtain⟨k,x,n,p,t,l⟩:=e
 cases q
 rfl
noncomputable def Gr(H B:Hp):Prop:=∃l,B=H++l
theorem Gr.refl{H:Hp}:Gr H H:=⟨[],(cN _).symm⟩
theorem Gr.q{H B c:Hp}(a:Gr H B)(b:Gr B c):Gr H c:=by
 obtain⟨l,rfl⟩:=a;obtain⟨d,rfl⟩:=b;exact⟨l++d,b6 ..⟩
theorem Gr.j{H l:Hp}:Gr H (H++l):=⟨l,J⟩
noncomputable def aY(a:List W):List Nat:=(a.map W.w).flatten
theorem gM(a c:List W):aY (a++c)=aY a++aY c:=by unfold aY;rw[dz,List.flatten_append]
theorem f0(w:W)(c:List W):aY (w::c)=w.w++aY c:=rfl
noncomputable def dh:Nat:=16000000
theorem Jb{n:Nat}(h:n<=dh):n<=bg:=aE h<|D J
theorem cr{a c:List Nat}(h:(a++c).length<=dh):a.length<=dh:=aE (by rw[bx];exact d8 ..) h
theorem dE{a c:List Nat}(h:(a++c).length<=dh):c.length<=dh:=aE (by rw[bx];exact hG ..) h
noncomputable def Wr(N:Nat)(f:Fn)(as:List V)(s:List Nat):Prop:=∀n,N<=n->∀H,∃B,ag n f as H=.ok (.ah s) B/\Gr H B
theorem Wr.au{N M:Nat}{s:List Nat}(h:Wr N f as s)(e:N<=M):Wr M f as s:=λn a=>h n<|aE e a
noncomputable def PW(s:List Nat)(H:Hp)(r:R<|Fl×Lc):Prop:=∃B,r.i eg=.ok (.ah s) B/\Gr H B
theorem fS{N:Nat}{as:List V}{s:List Nat}(d:iX f=(b,c,a))(e:as.length=b)(h:∀n H,N<=n->Jd (PW s H) n (.s a [] (as.map O++jq (c-b) U) H)):Wr (N+1) f as s
 |n+1,g,H=>by rw[qq n d e];exact h n H<|jr g
section
variable{n N:Nat}{X:R (Fl×Lc)->Prop}{F:Cf}{K:List Kf}{l:Lc}{H i B:Hp}{s x y:List Nat}
theorem gi(h:Wr N f a s)(b:N<=n)(e:go F=.ao f a K l H)(q:∀B,Gr H B->Jd X n (.v (.ah s) K l B)):Jd X n F:=aB (h n b H) λB c g=>bn e c<|q B g
theorem db(e:go F=.v (.ah y) (.nt .i (.ah x)::K) l H)(h:(x++y).length<=dh)(q:Jd X n<|.v (.ah<|x++y) K l H):Jd X n F:=ck e (yu<|Jb h) q
theorem eT(e:go F=.fl (.am<|.ah s) [] l H)(g:Gr i H):Jd (PW s i) n F:=aL e<|aD H J g
class inductive A2{α β:Type}(P:α->β->Prop):List α->List β->Prop where
 |nil:A2 P [] []
 |cons {a b r s}:P a b->A2 P r s->A2 P (a::r) (b::s)
theorem A2.u{c d:Type}{P Q:c->d->Prop}(h:∀a b,P a b->Q a b){r:List c}{s:List d}(x:A2 P r s):A2 Q r s:=by
 induction x with
 |nil=>exact .nil
 |cons p _ e=>exact .cons (h _ _ p) e
theorem Jc(a:List Nat):∀b:List (List Nat),(b.map (·.length)).sum+b.length*a.length<=(dJ a b).length+a.length
 |[]=>by show 0+0*_<=_;rw[Nat.zero_mul];exact dG _
 |[x]=>by show(x.length+0)+1*_<=x.length+_;rw[E1];exact bF _
 |x::y::r=>by
  have:=Jc a<|y::r;show(x.length+((y::r).map (·.length)).sum)+((y::r).length+1)*a.length<=(x++a++dJ a (y::r)).length+_;rw[bx,bx,adj,E1];exact L1 this
theorem Vh(a:List<|List Nat):rF (a.map V.ah)=O a:=by
 induction a with
 |nil=>rfl
 |cons s r b=>show(rF<|r.map V.ah).map (s::·)=_;rw[b];rfl
theorem Vi{e:E}{x:Nat}{g:T->List V}(b:N<=n)(c:∀t H,go (.e e [.am] (l.set x<|O t.v) H)=.ao f (g t) [.am] (l.set x<|O t.v) H):∀(ts:List T) (a:List<|List Nat) (H:Hp),A2 (λt s=>Wr N f (g t) s) ts a->∃B,eZ (λv H=>az (ag n) e (l.set x<|O v) H) (fi<|ts.map O) H=.ok (a.map V.ah) B/\Gr H B:=by
 intro ts
 induction ts with
 |nil=>
  intro a H h
  cases h;exact aD H J .refl
 |cons t ts d=>
  intro a H h
  cases h with
  | @cons _ s _ a i h2=>
   refine dn λj=>aB (i n b H) λH1 e1 k=>aB (d a H1 h2) λH2 e2 m=>j<|aD H2 ?_ (k.q m);show(match az (ag n) e (l.set x<|O t.v) H with
    |.ok u H=>(eZ _ (fi<|ts.map O) H).i λo H=>.ok (u::o) H
    |_=>.j)=_
   rw[c9 (bn (c t H) e1<|aL J J)]
   dsimp only
   rw[e2]
   rfl
theorem CX{i:Nat}{g:T->List V}{j:List T}{a:List Nat}(e:go F=.v (.ah a) (.dK .jX [.i d i c]::K) l H)(k:az (ag n) c l H=.ok (.af<|fi<|j.map O) H)(m:N<=n)(o:∀t H,go (.e d [.am] (l.set i<|O t.v) H)=.ao f (g t) [.am] (l.set i<|O t.v) H)
  (h:A2 (λt s=>Wr N f (g t) s) j b)(p:(dJ a b).length<=dh)(r:a.length<=100)(q:∀B,Gr H B->Jd X n (.v (.ah<|dJ a b) K l B)):Jd X n F:=by
 refine dn λu=>aB (Vi m o j b H h) λH1 e1 v=>u<|bv e<|bf (c':=.v (.ah<|dJ a b) K l<|H1++[.af (b.map V.ah)]) ?_ (q _<|v.q .j);have e2:az (ag n) (.i d i c) l H=.ok (.ae H1.length) (H1++[.af (b.map V.ah)]):=by
  show R.i (az (ag n) c l H) _=_;rw[k];show R.i (eZ _ (fi<|j.map O) H) _=_;rw[e1];rfl
 have w:hT (.ah a) .jX [.ae H1.length] (H1++[.af (b.map V.ah)])=.ok (.ah<|dJ a b) (H1++[.af (b.map V.ah)]):=by
  show(match(H1++[bY.af (b.map V.ah)])[H1.length]? with|some (.af A)=>(match rF A with|some (b:List<|List Nat)=>if(b.map λz:List Nat=>z.length).sum+b.length*a.length<=bg then R.ok (V.ah<|dJ a b) _ else .j|.none=>.j)|_=>.j)=_;rw[cD];dsimp only;rw[Vh];dsimp only;exact aN<|aE (Jc a b)<|aE (gn p r)<|D J
 show R.i (if I=I then(cu (ag n) [.i d i c] l H).i λG H=>hT (.ah a) .jX G H else .j) _=_;rw[aN J,lO,e2];show R.i (hT (.ah a) .jX [.ae H1.length]<|H1++[.af (b.map V.ah)]) _=_;rw[w];rfl
end
theorem y7{c:List T}{a:List Nat}(h:A2 (λt s=>Wr N 1021 [t.v] s) c b)(d:(dJ a b).length<=dh)(e:a.length<=100):Wr (N+1) 1002 [.af (fi<|c.map O),.ah a] (dJ a b):=
 fS J J λn H f=>CX J J f (λi i=>J) h d e λj g=>eT J g
noncomputable def qH(j:Bool):V:=if j then .u [.aa 27,.aa 83,.aa 84] else .u [.aa 27,.aa 83]
theorem Je{k:T}(j:Bool)(h:Wr N 1021 [k.v] s)(c:(if gf j k.aq then([40]++s)++[41] else s).length<=dh):Wr (N+1) 1009 [k.v,qH j] (if gf j k.aq then([40]++s)++[41] else s):=by
 obtain⟨kd,a,ks,f,p⟩:=k;have go:∀b:Bool,gf j kd=b->∀n H d,Gr H d->Jd (PW (if gf j kd then([40]++s)++[41] else s) H) n (.v (.i b) [.bz (.bJ .i (.bJ .i (.c<|.ah [40])<|.l 2)<|.c<|.ah [41]) (.l 2),.am] [O (T.v<|.nd kd a ks f p),O (qH j),O (.ah s)] d):=by
  intro b hb n H d g;have c:(if gf j kd then([40]++s)++[41] else s).length<=dh:=c;rw[hb] at c⊢
  induction b using xE with
  |false=>exact j2 J bc λi=>eT J g
  |true=>exact j2 J (λi=>db J (cr c)<|db J c<|eT J g) c6
 refine fS J J λn H l=>gi h l J λH1 e=>?_;clear c
 cases j
 ·exact bv J<|go _ (by show(decide (kd=27)||(decide (kd=83)||C))=(decide (27=kd)||(decide (83=kd)||C));rw[pi kd,pi kd]) n H H1 e
 ·exact bv J<|go _ (by show(decide (kd=27)||(decide (kd=83)||decide (kd=84)))=(decide (27=kd)||(decide (83=kd)||(decide (84=kd)||C)));rw[oj,pi kd,pi kd,pi kd]) n H H1 e
inductive OW(N:Nat)(pre:List Nat):Option T->List Nat->Prop where
 |none:OW N pre none []
 |some {t s}:Wr N 1021 [t.v] s->OW N pre (some t) (pre++s)
inductive OL(N:Nat):Option T->List Nat->Prop where
 |none:OL N none []
 |some {ts ss}:A2 (λt s=>Wr N 1021 [t.v] s) ts ss->OL N (some (aK 71 [] ts 0)) ([60]++dJ [44,32] ss++[62])
theorem r9(h:(x++y).length<=dh):iY .i (.ah x) (.ah y) H=.ok (.ah<|x++y) H:=yu<|Jb h
theorem CY{o r:Option T}{fl q:Int}(w:OL N o g)(x:A2 (λt s=>Wr N 1021 [t.v] s) ps j)(y:OW N b r i)(k:((g++(([40]++dJ kU j)++[41]))++i).length<=dh):
  Wr (N+2) 1016 [T.v (.nd 27 a [o,O (aK 71 [] ps 0),r,U] fl q),.ah b] ((g++(([40]++dJ kU j)++[41]))++i):=by
 have c:=cr k;have d:=dE c;refine fS J J λn H m=>?_;have go:∀H1,Gr H H1->Jd (PW ((g++(([40]++dJ kU j)++[41]))++i) H) n (.s (Gf.drop 2) [] [O (T.v<|.nd 27 a [o,O (aK 71 [] ps 0),r,U] fl q),O (.ah b),O (.ah g),O (ov o),O (aK 71 [] ps 0).v,O (ov r),O .none] H1):=by
  intro H1 l;refine gi (y7 x (dE<|cr d)<|D J) m J λH2 v=>db J (cr d)<|db J d<|fQ J (r9 c) ?_
  induction y with
  |none=>rw[cN];exact j2 J (λu=>eT J<|l.q v) c6
  | @some t s h=>
   obtain⟨kd,B,ks,f,p⟩:=t;rw[<-b6] at k⊢;exact j2 J bc λu=>db J (cr k)<|gi h (iy m) J λF z=>db J k<|eT J<|(l.q v).q z
 refine vP J J J ?_
 induction w with
 |none=>exact j2 J (λu=>bf J<|go H .refl) c6
 | @some ts A h=>
  have e:=cr c;exact j2 J bc λu=>gi (y7 h (dE<|cr e)<|D J) m J λH1 l=>db J (cr e)<|db J e<|bf J<|go H1 l
section
variable{N:Nat}{k:T}{ts:List T}{i:List (List Nat)}{s a:List Nat}{fl p:Int}
theorem Jf:Wr 1 1021 [(c7 80 a p).v] a:=fS J J λn H b=>cp 100 J<|eT (H:=H) J .refl
theorem Jg:Wr 1 1021 [(aK 81 a [] p).v] a:=fS J J λn H b=>cp 100 J<|eT (H:=H) J .refl
theorem Vj(h:A2 (λt s=>Wr N 1021 [t.v] s) ts i)(c:ts≠[])(d:(((a++[60])++dJ kU i)++[62]).length<=dh):Wr (N+2) 1021 [(aK 81 a ts p).v] (((a++[60])++dJ kU i)++[62]):=by
 induction ts using aV with
 |nil=>exact ax J c
 |cons t ts=>
  have b:=cr d;exact fS J J λn H c=>cp 100 J<|db J (cr b)<|gi (y7 h (dE b)<|D J) c J λH1 e=>db J b<|db J d<|eT J e
theorem Vk(h:Wr N 1021 [k.v] s)(b:(([40]++s)++[41]).length<=dh):Wr (N+1) 1021 [(aK 98 [] [k] p).v] (([40]++s)++[41]):=
 fS J J λn H c=>cp 100 J<|gi h c J λH1 d=>db J (cr b)<|db J b<|eT J d
theorem Vl(h:Wr N 1009 [k.v,qH I] s)(b:(s++[91,93]).length<=dh):Wr (N+1) 1021 [(aK 85 [] [k] p).v] (s++[91,93]):=
 fS J J λn H c=>cp 100 J<|gi h c J λH1 d=>db J b<|eT J d
theorem Vm(h:A2 (λt s=>Wr N 1009 [t.v,qH C] s) ts i)(b:(dJ [32,124,32] i).length<=dh):Wr (N+1) 1021 [(aK 83 [] ts p).v] (dJ [32,124,32] i):=
 fS J J λn H c=>cp 100 J<|CX (g:=λt=>[t.v,qH C]) J J c (λd d=>J) h b (D J) λH1 e=>eT J e
theorem Vn(h:A2 (λt s=>Wr N 1009 [t.v,qH I] s) ts i)(b:(dJ [32,38,32] i).length<=dh):Wr (N+1) 1021 [(aK 84 [] ts p).v] (dJ [32,38,32] i):=
 fS J J λn H c=>cp 100 J<|CX (g:=λt=>[t.v,qH I]) J J c (λd d=>J) h b (D J) λH1 e=>eT J e
theorem Vo:Wr 1 1021 [(aK 88 [] [] p).v] [123,125]:=fS J J λn H b=>cp 100 J<|eT (H:=H) J .refl
theorem Jh(h:A2 (λt s=>Wr N 1021 [t.v] s) ts i)(c:ts≠[])(d:(([123,32]++dJ [59,32] i)++[32,125]).length<=dh):Wr (N+2) 1021 [(aK 88 [] ts p).v] (([123,32]++dJ [59,32] i)++[32,125]):=by
 induction ts using aV with
 |nil=>exact ax J c
 |cons t ts=>
  have b:=cr d;exact fS J J λn H c=>cp 100 J<|gi (y7 h (dE b)<|D J) c J λH1 e=>db J b<|db J d<|eT J e
end
section
variable{N n:Nat}{k:T}{ts:List T}{i:List (List Nat)}{s a x rs pre mk:List Nat}{fl p:Int}{o:Option T}{H:Hp}
theorem Ji(h:Wr N 1021 [k.v] s)(b:((a++AX)++s).length<=dh):Wr (N+1) 1021 [(j5 a (O k) 0 p).v] ((a++AX)++s):=by
 obtain⟨kd,e,ks,f,g⟩:=k;exact fS J J λn H c=>cp 120 J<|db J (cr b)<|cp 100 J<|gi h c J λH1 d=>db J b<|eT J d
theorem Vp(b:(AW++a).length<=dh):Wr 1 1021 [(j5 a U 16777216 p).v] (AW++a):=
 fS J J λn H c=>cp 120 J<|db J b<|cp 100 J<|eT J .refl
theorem Vq(h:Wr N 1021 [k.v] s)(b:(((AW++a)++AX)++s).length<=dh):Wr (N+1) 1021 [(j5 a (O k) 16777216 p).v] (((AW++a)++AX)++s):=by
 obtain⟨kd,e,ks,f,g⟩:=k;exact fS J J λn H c=>cp 120 J<|db J (cr<|cr b)<|cp 100 J<|db J (cr b)<|cp 100 J<|gi h c J λH1 d=>db J b<|eT J d
noncomputable def y8(i j:Nat)(b:List Nat):List S:=[.am (.bz (.b9 .j (.y (.q (.l 0) .bO)<|.c<|.aa j)<|.c .none) (.l i)<|.bJ .i (.bJ .i (.l i)<|.c<|.ah b)<|.ao 1021 [.y (.q (.l 0) .bO) (.c<|.aa j)])]
theorem y9(m:fl=0/\pre=[]∨fl=268435456/\pre=AY∨fl=536870912/\pre=AZ∨fl=805306368/\pre=OG)(h:OW N u8 o rs)(l:OW N [32,61,32] j b)(i:(((pre++a)++rs)++b).length<=dh):Wr (N+1) 1021 [(T.nd 100 a [o,j] fl p).v] (((pre++a)++rs)++b):=by
 have c:=cr i;have d:∀R n H H1,N<=n->Gr H H1->Jd (PW (((pre++a)++rs)++b) H) n (.s (y8 3 1 [32,61,32]) [.j R] [O (T.nd 100 a [o,j] fl p).v,O (.aa 100),U,O (.ah<|(pre++a)++rs),U,U] H1):=λR n H H1 e g=>by
  induction l with
  |none=>rw[cN];exact cp 100 J<|eT J g
  | @some t s l=>
   obtain⟨kd,q,ks,f,r⟩:=t;rw[<-b6] at i⊢;exact cp 100 J<|db J (cr i)<|cp 100 J<|gi l e J λH2 u=>db J i<|eT J<|g.q u
 have mid:∀R n H,N<=n->Jd (PW (((pre++a)++rs)++b) H) n (.s (.de 3 .i (.bz (.b9 .j (.y (.q (.l 0) .bO)<|.c<|.aa 0)<|.c .none) (.c<|.ah [])<|.bJ .i (.c<|.ah u8)<|.ao 1021 [.y (.q (.l 0) .bO) (.c<|.aa 0)])::y8 3 1 [32,61,32]) [.j R] [O (T.nd 100 a [o,j] fl p).v,O (.aa 100),U,O (.ah<|pre++a),U,U] H):=λR n H e=>by
  clear i
  induction h with
  |none=>exact cp 100 J<|fQ J (r9 c)<|d R n H H e .refl
  | @some t s h=>
   obtain⟨kd,q,ks,f,r⟩:=t;exact cp 100 J<|gi h e J λH1 v=>db J (dE c)<|fQ J (r9 c)<|d R n H H1 e v
 clear d i
 rcases m with⟨rfl,rfl⟩|⟨rfl,rfl⟩|⟨rfl,rfl⟩|⟨rfl,rfl⟩<;>exact fS rfl rfl λn H e=>cp 120 rfl<|db rfl (cr c)<|bf rfl<|mid _ n H e
end
section
variable{N n:Nat}{k:T}{ts:List T}{j:List (List Nat)}{s i a x rs pre mk nw:List Nat}{fl p:Int}{o:Option T}{ks:List (Option T)}{H:Hp}
theorem Vr{b:T}(g:fl=0/\pre=[91]∨fl=131072/\pre=OH)(h:Wr N 1021 [k.v] s)(j:Wr N 1021 [b.v] i)(c:(((((pre++a)++kB)++s)++[93,58,32])++i).length<=dh):Wr (N+1) 1021 [(T.nd 63 a [O k,O b] fl p).v] (((((pre++a)++kB)++s)++[93,58,32])++i):=by
 have d:=cr c;have h2:=cr d;have e:=cr h2
 rcases g with⟨rfl,rfl⟩|⟨rfl,rfl⟩<;>
  exact fS J J λn H f=>cp 150 J<|db J (cr e)<|db J e<|cp 100 J<|gi h f J λH1 l=>db J h2<|db J d<|cp 100 J<|gi j f J λH2 m=>db J c<|eT J<|l.q m
theorem Vs(b:fl=2048/\pre=[]∨fl=3072/\pre=A0)(h:Wr N 1016 [(T.nd 27 a ks fl p).v,.ah [32,61,62,32]] s)(c:(pre++s).length<=dh):Wr (N+1) 1021 [(T.nd 27 a ks fl p).v] (pre++s):=by
 rcases b with⟨rfl,rfl⟩|⟨rfl,rfl⟩<;>
  exact fS J J λn H d=>cp 180 J<|gi h d J λH1 e=>db J c<|eT J e
theorem Jj(b:fl=512/\pre=[]∨fl=1024/\pre=A0)(h:Wr N 1016 [(T.nd 27 a ks fl p).v,.ah kB] s)(c:(pre++s).length<=dh):Wr (N+1) 1021 [(T.nd 27 a ks fl p).v] (pre++s):=by
 rcases b with⟨rfl,rfl⟩|⟨rfl,rfl⟩<;>
  exact fS J J λn H d=>cp 220 J<|gi h d J λH1 e=>db J c<|eT J e
theorem Jk(e:fl=32/\mk=[]∨fl=4128/\mk=[63])(b:a=bI/\nw=fM∨a≠bI/\Wr N 997 [.ah a] nw)(h:Wr N 1016 [(T.nd 27 a ks fl p).v,.ah kB] s)(c:((nw++mk)++s).length<=dh):Wr (N+1) 1021 [(T.nd 27 a ks fl p).v] ((nw++mk)++s):=by
 rcases b with⟨rfl,rfl⟩|⟨f,g⟩
 ·rcases e with⟨rfl,rfl⟩|⟨rfl,rfl⟩<;>
   exact fS rfl rfl λn H b=>cp 300 rfl<|db rfl (cr c)<|cp 50 rfl<|gi h b rfl λH1 d=>db rfl c<|eT rfl d
 ·rcases e with⟨rfl,rfl⟩|⟨rfl,rfl⟩<;>
   exact fS J J λn H b=>cp 180 J<|j2 J (λq=>ax (D q) f) λj=>gi g b J λH1 d=>db J (cr c)<|cp 50 J<|gi h b J λH2 i=>db J c<|eT J<|d.q i
theorem Jl(g:fl=0/\pre=[]/\mk=[]∨fl=4096/\pre=[]/\mk=[63]∨fl=8192/\pre=hN/\mk=[])(h:OW N kB o rs)(b:(((pre++a)++mk)++rs).length<=dh):Wr (N+1) 1021 [(lg a o fl 0 p).v] (((pre++a)++mk)++rs):=by
 have c:=cr b;have d:∀R n H,N<=n->Jd (PW (((pre++a)++mk)++rs) H) n (.s (y8 3 1 kB) [.j R] [O (lg a o fl 0 p).v,O (.aa 28),O (.ah mk),O (.ah<|(pre++a)++mk),U,U] H):=λR n H e=>by
  induction h with
  |none=>rw[cN];exact cp 100 J<|eT J .refl
  | @some t s h=>
   obtain⟨kd,j,ks,f,l⟩:=t;rw[<-b6] at b⊢;exact cp 100 J<|db J (cr b)<|cp 100 J<|gi h e J λH2 i=>db J b<|eT J i
 clear b
 rcases g with⟨rfl,rfl,rfl⟩|⟨rfl,rfl,rfl⟩|⟨rfl,rfl,rfl⟩<;>
  exact fS rfl rfl λn H e=>cp 350 rfl<|db rfl (cr c)<|db rfl c<|bf rfl<|d _ n H e
theorem Jm(i:fl=0/\pre=[]/\mk=[]∨fl=4096/\pre=[]/\mk=[63]∨fl=131072/\pre=A1/\mk=[]∨fl=135168/\pre=A1/\mk=[63])(j:Wr N 997 [.ah a] nw)(h:OW N kB o rs)(b:(((pre++nw)++mk)++rs).length<=dh):Wr (N+1) 1021 [(T.nd 99 a [o] fl p).v] (((pre++nw)++mk)++rs):=by
 have c:=cr b;have e:∀n H H1,N<=n->Gr H H1->Jd (PW (((pre++nw)++mk)++rs) H) n (.s (y8 3 0 kB) [] [O (T.nd 99 a [o] fl p).v,O (.aa 99),O (.ah mk),O (.ah<|(pre++nw)++mk),U,U] H1):=λn H H1 d g=>by
  induction h with
  |none=>rw[cN];exact cp 100 J<|eT J g
  | @some t s h=>
   obtain⟨kd,q,ks,f,r⟩:=t;rw[<-b6] at b⊢;exact cp 100 J<|db J (cr b)<|cp 100 J<|gi h d J λH2 l=>db J b<|eT J<|g.q l
 clear b
 rcases i with⟨rfl,rfl,rfl⟩|⟨rfl,rfl,rfl⟩|⟨rfl,rfl,rfl⟩|⟨rfl,rfl,rfl⟩<;>
  exact fS rfl rfl λn H d=>cp 350 rfl<|gi j d rfl λH1 m=>db rfl (cr c)<|db rfl c<|bf rfl<|e n H H1 d m
end
theorem Vt{X:R (Fl×Lc)->Prop}{K:List Kf}{o:Option V}(e:go b=.v (.dct a) (.dK .cO [x,y]::K) l H)(c:az (ag m) x l H=.ok k H)(f:az (ag m) y l H=.ok d H)(h:nh k a=O o)(q:Jd X m<|.v (o.getD d) K l H):Jd X m b:=
 bv e (bf (by
  show R.i (if I=I then(cu (ag m) [x,y] l H).i λg H=>hT (.dct a) .cO g H else .j) _=_;rw[aN J,lO,c,jD,lO,f,jD];show R.i (cG ((nh k a).map (·.getD d)) H) _=_;rw[h];rfl) q)
theorem mM(e:∀H,vR 60 (.s Bo [] [O (.ah x)] H)=.fl (.am<|.ah x) [] [O (.ah x)] H):Wr 1 997 [.ah x] x:=fS J J λn H a=>cp 60 (e H)<|eT J .refl
noncomputable def Jn:List (V×V):=[(.ah [],.ah [34,34]),(.ah AV,.ah OI)]
theorem ww{o:Option V}(e:∀H,vR 60 (.s Bo [] [O (.ah x)] H)=.v (.dct Jn) [.dK .cO [.l 0,.bJ .i (.bJ .i (.c<|.ah [34])<|.l 0) (.c<|.ah [34])],.am] [O (.ah x)] H)(a:(([34]++x)++[34]).length<=dh)(h:nh (.ah x) Jn=O o)(b:o.getD (.ah<|([34]++x)++[34])=.ah w):Wr 1 997 [.ah x] w:=
 fS J J λn H c=>cp 60 (e H)<|Vt J J (c9<|db J (cr a)<|db J a<|aL J J) h (by rw[b];exact eT J .refl)
theorem CZ{n:W}(h:n∈dY∨n=wd bI):Wr 1 997 [.ah n.x] n.w:=by
 have k:∀n,n∈dY++[wd bI]->Wr 1 997 [.ah n.x] n.w:=by
  unfold dY;simp only[kS,E2,adk];exact⟨mM λa=>J,mM λa=>J,mM λa=>J,mM λa=>J,mM λa=>J,ww (λa=>J) (D J) J J,ww (λa=>J) (D J) J J,mM λa=>J,ww (λa=>J) (D J) J J,ww (λa=>J) (D J) J J,mM λa=>J,ww (λa=>J) (D J) J J,mM λa=>J,mM λa=>J,mM λa=>J,mM λa=>J,λn h=>ax h eW⟩
 exact k n<|eV.mpr<|h.imp id iw.mpr
noncomputable abbrev Wx(N:Nat)(t:T)(s:List Nat):Prop:=Wr N 1021 [t.v] s
noncomputable abbrev Wg(N:Nat)(j:Bool)(t:T)(s:List Nat):Prop:=Wr N 1009 [t.v,qH j] s
noncomputable def Jo(i:Nat)(c:gu)(b:List T)(d:List W):Prop:=match c with
 |.kd=>∀k,b=[k]->Wx (8*i+2) k (aY d)
 |.u j=>∀k,b=[k]->Wg (8*i+3) j k (aY d)
 |.nN=>∃a,A2 (Wx<|8*i+2) b a/\aY d=dJ kU a
 |.nO=>∃a,A2 (Wg (8*i+3) C) b a/\aY d=dJ [32,124,32] a
 |.q=>OL (8*i+4) b.head? <|aY d
 |.pm=>∀k,b=[k]->Wx (8*i+3) k (aY d)
 |.y _ _=>∃a,A2 (Wx<|8*i+3) b a/\aY d=dJ kU a
 |.ps=>∃ps a,b=[aK 71 [] ps 0]/\A2 (Wx<|8*i+3) ps a/\aY d=([40]++dJ kU a)++[41]
 |.am=>∀k,b=[k]->Wx (8*i+3) k (aY d)
 |.sg=>∀k,b=[k]->Wr (8*i+6) 1016 [k.v,.ah kB] (aY d)
 |.i=>∀k,b=[k]->Wx (8*i+7) k (aY d)
 |.j=>∃a,A2 (Wx<|8*i+7) b a/\aY d=dJ [59,32] a
theorem Jp(h:a∈iC∨a=gF):aY (d7 a)=a:=by
 unfold d7;split
 ·rename_i e;rw[e];rfl
 ·exact cN a
theorem fu{c:Type}{P:c->Prop}{a:c}(h:P a):∀b,[a]=[b]->P b:=λb e=>by cases e;exact h
theorem Vu(h:b≠[]):dJ a (s::b)=s++a++dJ a b:=by
 induction b using aV with
 |nil=>exact ax J h
 |cons x r=>rfl
theorem A2.i{a b:Type}{P:a->b->Prop}{r:List a}{s:List b}(x:A2 P r s)(h:r≠[]):s≠[]:=by induction x;exact ax J h;nofun
theorem Jq{fl:Int}(b:fF w a fl):∃pre mk,(fl=0/\pre=[]/\mk=[]∨fl=4096/\pre=[]/\mk=[63]∨fl=8192/\pre=hN/\mk=[])/\aY w=(pre++a)++mk:=by
 induction b with
 |dots h=>exact cK _ _ (.inr<|.inr ⟨J,J,J⟩) J
 |i h=>exact cK _ _ (.inr<|.inl ⟨J,J,J⟩) J
 |ga h=>exact cK _ _ (.inl ⟨J,J,J⟩) J
 |this=>exact cK _ _ (.inl ⟨J,J,J⟩) J
theorem Jr{n:W}{fl:Int}(a:fR n w fl):∃pre mk,(fl=0/\pre=[]/\mk=[]∨fl=4096/\pre=[]/\mk=[63]∨fl=131072/\pre=A1/\mk=[]∨fl=135168/\pre=A1/\mk=[63])/\aY w=(pre++n.w)++mk:=by
 induction a with
 |ga=>exact cK _ _ (.inl ⟨J,J,J⟩) J
 |i=>exact cK _ _ (.inr<|.inl ⟨J,J,J⟩)<|by rfl
 |ro=>exact cK _ _ (.inr<|.inr<|.inl ⟨J,J,J⟩) J
 |j=>exact cK _ _ (.inr<|.inr<|.inr ⟨J,J,J⟩) (by show fL++([32]++(n.w++([63]++[])))=_;rfl)
section
variable{M N:Nat}{f:Fn}{as:List V}{s j i:List Nat}{x y z:W}{B v u:List W}{P:T->List Nat->Prop}{k:T}{ks:List T}
theorem wx(e:j=s)(h:s.length<=dh->Wr N f as s)(a:N<=M)(b:j.length<=dh):Wr M f as j:=by
 subst e;exact(h b).au a
theorem rB:aY (x::(B++[y]))=(x.w++aY B)++(y.w++[]):=by rw[f0,gM,b6];rfl
theorem rS:aY (B++x::y::v)=(aY B++(x.w++y.w))++aY v:=by rw[gM,f0,f0,b6,b6]
theorem C0:aY (B++x::y::z::v)=(aY B++(x.w++(y.w++z.w)))++aY v:=by rw[gM,f0,f0,f0,b6,b6,b6]
theorem wy(e:aY u=(aY B++i)++aY v)(d:(aY B).length<=dh->P k (aY B))(g:(aY v).length<=dh->∃a,A2 P ks a/\aY v=dJ i a)(h:ks≠[])(b:(aY u).length<=dh):∃a,A2 P (k::ks) a/\aY u=dJ i a:=by
 rw[e] at b⊢;exact dn λj=>aB (g<|dE b) λa c e2=>j<|aD (aY B::a) (.cons (d<|cr<|cr b) c)<|by rw[e2,Vu (c.i h)]
theorem za(h:P k s):∃a,A2 P [k] a/\s=dJ i a:=aD [s] (.cons h .nil) J
end
noncomputable def Vv(c:gu)(ks:List T):Prop:=match c with
 |.nO=>ks≠[]
 |.nN=>ks≠[]
 |.j=>ks≠[]
 |_=>True
theorem ui{m i:Nat}{ks:List T}{B:List W}(h:K b m i c ks B):Vv c ks:=by
 induction h with
 |iF|ia|iG|ib|ms1|gA|iK|iL=>exact adg _ _
 |_=>exact dr
theorem Vw{i:Nat}{ks:List T}{B:List W}(h:K C 0 i c ks B):(aY B).length<=dh->Jo i c ks B:=by
 have L:∀{x y:List Nat},x=y->x.length<=dh->y.length<=dh:=λe h=>e▸h
 induction h with
 | @i9 i a h=>exactλH=>fu (by rw[show aY [nm a]=a from cN a];exact Jf.au<|hG ..)
 |ae h=>exactλH=>fu (by rw[Jp h];exact Jg.au<|hG ..)
 | @ja i a ks B h t Q d=>
  intro b;have e:aY (d7 a++sg [60]::(B++[sg [62]]))=((a++[60])++aY B)++[62]:=by rw[gM,rB,Jp h,<-b6,<-b6 a];rfl
  have b:=L e b;exact(d<|dE<|cr b).elim λZ S=>fu (by
   rw[S.2] at b e;rw[e];exact(Vj S.1 Q.1 b).au<|d8 _ 6)
 | @gL i k B t d=>exactλb=>fu<|wx rB (λb=>Vk (d (dE<|cr b) k J) b) (d8 _ 7) b
 |jH=>exactλH=>fu (Vo.au (hG ..):Wx _ _ _)
 | @gh i ks B t _ d=>
  intro b;have e:aY (sg [123]::sp::(B++[sp,sg [125]]))=([123,32]++aY B)++[32,125]:=by rw[f0,f0,gM];rfl
  have b:=L e b;exact(d<|dE<|cr b).elim λZ S=>fu (by
   rw[S.2] at b e;rw[e];exact(Jh S.1 (ui t) b).au<|by simp+arith only)
 | @gc i k B t d=>exactλb=>fu<|wx (gM ..) (λb=>Vl (d (cr b) k J) b) (by simp+arith only) b
 | @aa i k k' B m Y h2 g l=>
  exactλb=>fu<|wx C0 (λb=>Vn (.cons (g (cr<|cr b) k J)<|.cons (l (dE b) k' J) .nil) b) (by simp+arith only) b
 | @un i k ks B m Y h2 X g l=>
  exactλb=>(wy C0 (λb=>g b k J) l (ui h2) b).elim λZ h=>fu<|wx h.2 (λb=>Vm h.1 b) (by simp+arith only) b
 | @fn i w fl o p r B m A F Y h2 X g l E=>
  intro b;have e:aY (w++(B++(m++sp::sg fz::sp::A)))=aY w++((aY B++aY m)++([32,61,62,32]++aY A)):=by rw[gM,gM,gM,f0,f0,f0,b6 (aY B)];rfl
  have b:=L e b;have G:=dE b;refine dn λkk=>cV (l<|dE<|cr G) λps Z ep R e2=>?_
  cases ep
  refine kk ?_;rw[e2] at b G e;have s:=CY (a:=[]) (fl:=fl) (q:=0) (g<|cr<|cr G) (R.u λH H z=>z.au<|ey _) (.some<|(E (dE<|dE G) r J).au<|ey _) G;exact fu<|wx e (Vs (F.elim (λh=>.inl ⟨h.2,h.1▸J⟩) λh=>.inr ⟨h.2,h.1▸J⟩) s) (by simp+arith only)<|e▸b
 | @iE i j k B hb t d=>
  intro b;have hb:=hb.resolve_left λe=>bc e;have hg:=Je j (d b k J) (by rw[hb];exact b);rw[hb] at hg;exact fu hg
 | @jb i j k B hb t d=>
  exactλb=>fu<|wx rB (λb=>by
   have hg:=Je j (d (dE<|cr b) k J) (by rw[hb];exact b);rw[hb] at hg;exact hg) (bF _) b
 | @iF i k B t d=>exactλb=>za<|d b k J
 | @ia i k ks B m Y h2 g l=>exact wy C0 (λb=>g b k J) l<|ui h2
 | @iG i k B t d=>exactλb=>za<|d b k J
 | @ib i k ks B m Y h2 g l=>exact wy rS (λb=>g b k J) l<|ui h2
 |i=>exactλH=>.none
 | @iH i a h=>
  intro b;have e:aY [sg [60],nm fd,sp,nm a,sg [62]]=([60]++dJ kU [((AZ++a)++[])++[]])++[62]:=by show 60::(AZ++(a++[62]))=60::((((AZ++a)++[])++[])++[62]);rw[cN,cN,b6]
  have b:=L e b;show OL _ _ (aY _);rw[e];exact .some<|.cons ((y9 (.inr<|.inr<|.inl ⟨J,J⟩) (.none (N:=0)) .none<|dE<|cr b).au<|by simp+arith only) .nil
 | @ic i a k B h t d=>
  intro b;have e:aY (sg [60]::nm a::sp::wd iS::sp::(B++[sg [62]]))=([60]++dJ kU [(([]++a)++(u8++aY B))++[]])++[62]:=by
   rw[f0,f0,f0,f0,f0,gM];show 60::(a++(u8++(aY B++[62])))=60::(((a++(u8++aY B))++[])++[62]);rw[cN,b6,b6]
  have b:=L e b;have X:=dE<|cr b;show OL _ _ (aY _);rw[e];exact .some<|.cons ((y9 (.inl ⟨J,J⟩) (.some<|d (dE<|dE<|cr X) k J) .none X).au<|by simp+arith only) .nil
 | @ie i a k B h t d=>
  intro b;have e:aY (sg [60]::wd f2::sp::nm a::sg [44]::sp::wd f2::sp::nm fd::sp::nm fd::sp::wd iS::sp::nm [84]::sp::sg [61]::sp::(B++[sg [62]]))=([60]++dJ kU [((AY++a)++[])++[],((OG++fd)++(u8++[84]))++([32,61,32]++aY B)])++[62]:=by
   show 60::(AY++(a++([44,32,105,110,32,111,117,116,32,111,117,116,32,101,120,116,101,110,100,115,32,84,32,61,32]++aY (B++[sg [62]]))))=60::((((((AY++a)++[])++[])++kU)++([105,110,32,111,117,116,32,111,117,116,32,101,120,116,101,110,100,115,32,84,32,61,32]++aY B))++[62]);rw[gM,cN,cN,b6,b6,b6];rfl
  have b:=L e b;have X:=dE<|cr b;show OL _ _ (aY _);rw[e];exact .some<|.cons ((y9 (.inr<|.inl ⟨J,J⟩) (.none (N:=0)) .none<|cr<|cr X).au<|by simp+arith only)<|.cons ((y9 (N:=8*i+2) (.inr<|.inr<|.inr ⟨J,J⟩) (.some<|Jg.au<|hG ..) (.some<|d (dE<|dE<|dE X) k J)<|dE X).au<|by simp+arith only) .nil
 | @jI i a fl w F=>exact(Jq F).elim λpre h=>h.elim λmk h b=>fu<|wx (h.2.trans (cN _).symm) (λb=>Jl h.1 (.none (N:=0)) b) (by simp+arith only) b
 | @jc i a fl k w B F t d=>exact(Jq F).elim λpre h=>h.elim λmk h b=>fu<|wx (by rw[gM,h.2];rfl) (λb=>Jl h.1 (.some<|d (dE<|dE b) k J) b) (d8 _ 0) b
 |j=>exactλH=>aD [] .nil J
 | @jd i a lax p B hp Y h2 d=>exactλb=>za<|d b p J
 | @iI i a lax p q ks B m hp Y h2 X t g l=>exact wy rS (λb=>g b p J) l (λe=>jy e)
 | @ps i ks B t _ d=>
  exactλb=>have e:=rB
   (d<|dE<|cr<|L e b).elim λZ h=>cL ks Z J h.1<|h.2▸e
 | @eg i k B t d=>exactλb=>fu<|(d b k J).au<|ey _
 | @je i k B t d=>exactλb=>fu<|Ji (d (dE (a:=[120,32,105,115,32]) b) k J) b
 |q=>exactλb=>fu ((Vp b).au (by simp+arith only):Wx _ _ _)
 | @jf i k B t d=>exactλb=>fu<|Vq (d (dE (a:=[97,115,115,101,114,116,115,32,116,104,105,115,32,105,115,32]) b) k J) b
 | @jg i k B t d=>exactλb=>fu<|Ji (d (dE (a:=[97,115,115,101,114,116,115,32,105,115,32]) b) k J) b
 | @ig i a fl o p B m Y h2 g l=>
  intro b;have e:aY (B++m)=(aY B++aY m)++[]:=by rw[gM,cN]
  have b:=L e b;refine dn λkk=>cV (l<|dE<|cr b) λps Z ep R e2=>?_
  cases ep
  rw[e2] at b e;exact kk<|fu<|e▸CY (g<|cr<|cr b) (R.u λH H z=>z.au<|ey _) .none b
 | @g3 i a fl o p r B m A Y h2 X g l E=>
  intro b;have e:aY (B++(m++sg [58]::sp::A))=(aY B++aY m)++(kB++aY A):=by rw[gM,gM,f0,f0,b6];rfl
  have b:=L e b;refine dn λkk=>cV (l<|dE<|cr b) λps Z ep R e2=>?_
  cases ep
  rw[e2] at b e;exact kk<|fu<|e▸CY (g<|cr<|cr b) (R.u λH H z=>z.au<|ey _) (.some<|(E (dE<|dE b) r J).au<|ey _) b
 | @iJ i n w fl Q F=>exact(Jr F).elim λpre h=>h.elim λmk h b=>fu<|wx (h.2.trans (cN _).symm) (λb=>Jm h.1 (CZ Q) .none b) (by simp+arith only) b
 | @ii i n w fl k B Q F t d=>exact(Jr F).elim λpre h=>h.elim λmk h b=>fu<|wx (by rw[gM,h.2];rfl) (λb=>Jm h.1 ((CZ Q).au<|hG ..) (.some<|(d (dE<|dE b) k J).au ((by simp+arith only):_<=8*i+5+1)) b) (d8 _ 0) b
 | @g4 i n w fl ks B Q F hf t d=>
  intro b;rw[gM] at b;have s:=d (dE b) _ J;have hq:fl+32=32/\aY w=n.w++[]∨fl+32=4128/\aY w=n.w++[63]:=by
   rcases hf with rfl|rfl
   ·cases F;exact .inl ⟨rfl,rfl⟩
   ·cases F;exact .inr ⟨rfl,rfl⟩
  have hm:n.x=bI/\n.w=fM∨n.x≠bI/\Wr (8*i+6) 997 [.ah n.x] n.w:=by
   rcases Q with Q|rfl
   ·refine .inr ⟨?_,(CZ<|.inl Q).au<|hG ..⟩;have:∀n∈dY,n.x≠bI:=by decide
    exact this n Q
   ·exact .inl ⟨rfl,rfl⟩
  refine fu ?_;rw[gM]
  rcases hq with⟨e1,e2⟩|⟨e1,e2⟩<;>rw[e2] at b⊢
  ·exact(Jk (.inl ⟨e1,rfl⟩) hm s b)
  ·exact(Jk (.inr ⟨e1,J⟩) hm s b)
 | @ij i ks B t d=>exactλb=>fu<|Jj (.inl ⟨J,J⟩) (d b _ J) b
 | @ik i ks B t d=>exactλb=>fu<|Jj (s:=aY B) (.inr ⟨J,J⟩) (d (dE (a:=A0) b) _ J) b
 | @il i w fl a k B F R t d=>
  intro b;have key:∀pre,(fl=0/\pre=[91]∨fl=131072/\pre=OH)->aY (w++[sg [91]])=pre->Jo i .i [.nd 63 a [O (c7 80 kT 0),O k] fl 0] (w++sg [91]::nm a::sg [58]::sp::nm kT::sg [93]::sg [58]::sp::B):=λpre hf e1=>by
   have e:aY (w++sg [91]::nm a::sg [58]::sp::nm kT::sg [93]::sg [58]::sp::B)=((((pre++a)++kB)++kT)++[93,58,32])++aY B:=by
    rw[kR,gM,e1,b6,b6,b6,b6];rfl
   have b:=L e b;exact fu (by rw[e];exact(Vr hf (Jf.au<|by simp+arith only) (d (dE b) k J) b).au<|by simp+arith only)
  rcases F with⟨rfl,rfl⟩|⟨rfl,rfl⟩
  ·exact key _ (.inl ⟨rfl,rfl⟩) rfl
  ·exact key _ (.inr ⟨J,J⟩) J
 | @ms1 i k B t d=>exactλb=>za<|d b k J
 | @gA i k ks B m hm Y h2 g l=>exact wy rS (λb=>g b k J) l<|ui h2
 |iK hm=>exact ax hm (λe=>ax e<|D J)
 |iL hm=>exact ax hm λe=>ax e<|D J
noncomputable def kK:List Nat:=A3
noncomputable def zb:List Nat:=[48,49,50,51,52,53,54,55,56,57]
noncomputable def wz:List (List Nat):=[iS,x0,x4,f2,bI,eX]
class inductive j7:List Nat->List Nat->Prop where
 |nil:j7 [] []
 |ga {c e x}:c≠34->c≠92->j7 e x->j7 (c::e) (c::x)
 |Js {e x}:j7 e x->j7 (92::120::48::50::e) (2::x)
 |nl {e x}:j7 e x->j7 (92::110::e) (10::x)
 |wA {c e x}:c≠120->c≠110->j7 e x->j7 (92::c::e) (c::x)
inductive jL:W->Prop where
 |sp:jL sp
 |i {k c r}:k=1∨k=2->zb.contains c=false->(c::r).all kK.contains=true->wz.contains (c::r)=decide (k=2)->jL ⟨k,c::r,c::r,false,false⟩
 |kC {x}:x=[48]∨x=[52,50]->jL (nu x)
 |ah {e x}:j7 e x->jL (st x (34::(e++[34])))
 |sg {c o}:kK.contains c=false->c≠32->c≠34->jL ⟨5,[c],[c],false,o⟩
 |dots:jL (sg [46,46,46])
 |j:jL (sg [61,62])
noncomputable def Jt(w:W):Prop:=w.k=1∨w.k=2∨w.k=3
noncomputable def lh(s:List Nat):Prop:=∀c∈s.head?,kK.contains c=C
noncomputable def Lx:List W->Prop
 |[]=>True
 |w::r=>jL w/\(Jt w->lh (aY r))/\(w.x=[46]->r≠[]/\∀c∈(aY r).head?,c≠46)/\(w.x=[61]->r≠[]/\∀c∈(aY r).head?,c≠62)/\Lx r
theorem Ju{w:W}(h:jL w):w.w≠[]:=by
 induction h with
 |kC h=>rcases h with rfl|rfl<;>nofun
 |_=>nofun
theorem Vx:∀{r:List W},Lx r->r≠[]->∃c t,aY r=c::t
 |w::r,h,_=>by
  rw[f0]
  cases e:w.w with
  |nil=>exact ax e<|Ju h.1
  |cons c t=>exact gv c (t++aY r) J
theorem Lx.j(f:Lx b)(g:lh<|aY b):∀{a:List W},Lx a->Lx (a++b):=by
 intro r
 induction r with
 |nil=>
  intro l;exact f
 |cons w r h=>
  intro i;obtain⟨j,h2,k,h4,d⟩:=i;have hd:r≠[]->(aY<|r++b).head? =(aY r).head? :=λhr=>by
   refine jx (Vx d hr) λc t e=>?_;rw[gM,e];rfl
  refine⟨j,λq=>?_,λq=>?_,λq=>?_,h d⟩
  ·induction r using aV with
   |nil=>exact g
   |cons v r=>show∀c∈(aY<|v::r++b).head?,kK.contains c=C;rw[hd jy];exact h2 q
  ·obtain⟨x,y⟩:=k q;exact⟨λz=>x (xG.mp z).1,by show∀c∈(aY<|r++b).head?,c≠46;rw[hd x];exact y⟩
  ·obtain⟨x,y⟩:=h4 q;exact⟨λz=>x (xG.mp z).1,by show∀c∈(aY<|r++b).head?,c≠62;rw[hd x];exact y⟩
theorem Lx.sg{r:List W}(h:(!kK.contains c&&(c !=32&&(c !=34&&(c !=46&&c !=61))))=I)(a:Lx r):Lx (⟨5,[c],[c],C,o⟩::r):=by
 simp only[ol,Am,bne_iff_ne] at h;refine dn λb=>OM h λd h2 e h4 f=>b<|⟨.sg d h2 e,λq=>?_,λq=>ax (mW q).1 h4,λq=>ax (mW q).1 f,a⟩
 rcases q with q|q|q<;>exact ax q<|show¬(5:Int)=_ by decide
theorem Lx.sp{r:List W}(a:Lx r):Lx (sp::r):=⟨.sp,λq=>by rcases q with q|q|q<;>exact ax q (show¬(9:Int)=_ by decide),λq=>ax q (show¬[32]=[46] by decide),λq=>ax q (show¬[32]=[61] by decide),a⟩
theorem Lx.wd{w:W}{r:List W}(h:jL w)(a:w.x≠[46])(b:w.x≠[61])(c:lh<|aY r)(d:Lx r):Lx (w::r):=⟨h,λe=>c,λq=>ax q a,λq=>ax q b,d⟩
section
variable{m n:Nat}{X:R (Fl×Lc)->Prop}{j:Cf}{K:List Kf}{l:Lc}{H i:Hp}{pre t r s:List Nat}{c:Nat}
theorem kM(e:go j=.v v (.rE u a::K) l H)(h:lI u a v H=.ok w H')(q:Jd X m<|.v w K l H'):Jd X m j:=
 bv e (bf (c':=.v w K l H') (by show(lI u a v H).i _=_;rw[h];rfl) q)
theorem jM:f6 (.ah<|pre++c::t) (.aa pre.length) H=.ok (.ah [c]) H:=by
 have e:fP (pre.length:Int) (pre++c::t).length=O pre.length:=by
  unfold fP;rw[aN (qa _),aN (sN.mpr (by rw[bx,gQ];exact by simp+arith only))];rfl
 show cG ((fP (pre.length:Int) (pre++c::t).length).bind λj=>((pre++c::t)[j]?).map λc=>V.ah [c]) H=_;rw[e];show cG (((pre++c::t)[pre.length]?).map λc=>V.ah [c]) H=_;rw[ra (bF _),p9];rfl
theorem C1:decide ((pre.length:Int)<((pre++c::t).length:Nat))=true:=dH (by rw[bx,gQ];lia)
theorem nW{d:Nat}:lI (.ah<|pre++t) (.aa pre.length) (.aa ((pre.length+d:Nat):Int)) H=.ok (.ah<|t.take d) H:=by
 refine(aN ⟨d8 ..,by rw[bx];exact d8 ..⟩:(if pre.length<=pre.length+d/\pre.length<=(pre++t).length then R.ok (V.ah<|((pre++t).take<|pre.length+d).drop pre.length) H else .j)=_).trans ?_;rw[List.take_append,adl (d8 ..),Ni,List.drop_append_of_le_length (bF _),Ny];rfl
noncomputable def Jv:E:=.bN (.b9 .lt (.l 2)<|.bi .bK [.l 0])<|.b9 .i (.y (.l 0)<|.l 2)<|.c<|.ah kK
noncomputable def Jw:List S:=[.de 2 .i (.c<|.aa 1)]
noncomputable abbrev gj(s:List Nat)(a b:Nat)(d e f g:Option V):Lc:=[O (.ah s),O (.ae a),O (.aa b),d,e,f,g]
theorem zc:f7 .bK [.ah s] H=.ok (.aa s.length) H:=rfl
theorem Vy{R:List S}{l3 g l5 i:Option V}(j:lh t):∀(r:List Nat) (n:Nat) (pre:List Nat),s=pre++(r++t)->r.all kK.contains=I->r.length<n->Jd X m (.s R K (gj s a (pre.length+r.length) l3 g l5 i) H)->Jd X m (.lp n Jv Jw R K (gj s a pre.length l3 g l5 i) H):=by
 intro r
 induction r with
 |nil=>
  intro n pre e b b q
  induction n using fU with
  |zero=>exact ax ‹_+1<=0› (km _)
  |succ n=>
  refine i5<|fD J zc ?_
  induction t using aV with
  |nil=>exact eh J (λz=>ax (D z) (by rw[e];simp)) λb=>gz J bc λb=>q
  |cons d t=>
   subst e;exact eh (b:=decide ((pre.length:Int)<((pre++d::t).length:Nat))) J (λb=>b5 J jM<|gz J (λz=>ax (z.symm.trans<|j d J) c6) λb=>q) λz=>ax (C1.symm.trans z) c6
 |cons c r f=>
  intro n pre e h k q
  induction n using fU with
  |zero=>exact ax ‹_+1<=0› (km _)
  |succ n=>
  obtain⟨hc,hr⟩:=ed.mp h;have f:=f n (pre++[c]) (e.trans<|kR ..) hr (Nz k) (by
   rw[bx,kt,kq [c].length];exact q)
  rw[bx] at f;clear q;subst e;exact i5<|fD J zc<|eh J (λb=>b5 J jM<|gz J (λb=>fQ J J<|bv J f) λz=>ax (hc.symm.trans z) c6) λz=>ax (C1.symm.trans z) c6
noncomputable def j8:E:=.b9 .lt (.l 2)<|.bi .bK [.l 0]
noncomputable def C2:List S:=[.gH Jv Jw,.i 5 (.slc (.l 0) (.l 3)<|.l 2),.bQ (.b9 .i (.l 4)<|.c<|.ah zb) [.ex (.aO (.l 1) .q [.ce .j [.c (.aa 3),.l 5,.bi .aa [.l 5],.l 3,.l 2,.c (.i C)]])] [.ex (.aO (.l 1) .q [.ce .j [.bz (.b9 .i (.l 5)<|.c<|.u [.ah iS,.ah x0,.ah x4,.ah f2,.ah bI,.ah eX]) (.c<|.aa 2) (.c<|.aa 1),.l 5,.c (.aa 0),.l 3,.l 2,.c (.i C)]])]]
noncomputable def zd:E:=.b9 .ne (.y (.l 0)<|.l 2)<|.c<|.ah [34]
noncomputable def zf:List S:=[.bQ (.b9 .eq (.y (.l 0)<|.l 2)<|.c<|.ah [92]) [.de 2 .i (.c<|.aa 1),.bQ (.b9 .eq (.slc (.l 0) (.l 2)<|.bJ .i (.l 2)<|.c<|.aa 3)<|.c<|.ah [120,48,50]) [.de 6 .i (.c<|.ah [2]),.de 2 .i (.c<|.aa 3)] [.de 6 .i (.bz (.b9 .eq (.y (.l 0)<|.l 2)<|.c<|.ah [110]) (.c<|.ah [10])<|.y (.l 0)<|.l 2),.de 2 .i (.c<|.aa 1)]] [.de 6 .i (.y (.l 0)<|.l 2),.de 2 .i (.c<|.aa 1)]]
noncomputable def Jx:List S:=[.i 6 (.c<|.ah []),.gH zd zf,.de 2 .i (.c<|.aa 1),.ex (.aO (.l 1) .q [.ce .j [.c (.aa 4),.l 6,.c (.aa 0),.l 3,.l 2,.c (.i C)]])]
noncomputable def Vz:List S:=[.bQ (.b9 .eq (.slc (.l 0) (.l 3)<|.bJ .i (.l 3)<|.c<|.aa 3)<|.c<|.ah hN) [.i 2 (.bJ .i (.l 3)<|.c<|.aa 3)] [.bQ (.b9 .eq (.slc (.l 0) (.l 3)<|.bJ .i (.l 3)<|.c<|.aa 2)<|.c<|.ah fz) [.i 2 (.bJ .i (.l 3)<|.c<|.aa 2)] []],.ex (.aO (.l 1) .q [.ce .j [.c (.aa 5),.slc (.l 0) (.l 3) (.l 2),.c (.aa 0),.l 3,.l 2,.c (.i C)]])]
noncomputable def jN:List S:=[.i 3 (.l 2),.i 4 (.y (.l 0)<|.l 2),.de 2 .i (.c<|.aa 1),.bQ (.b9 .eq (.l 4)<|.c<|.ah [32]) [.q] [],.bQ (.b9 .i (.l 4)<|.c<|.ah kK) C2 [.bQ (.b9 .eq (.l 4)<|.c<|.ah [34]) Jx Vz]]
noncomputable def jO:List S:=[.ex (.aO (.l 1) .q [.ce .j [.c (.aa 0),.c (.ah []),.c (.aa 0),.l 2,.l 2,.c (.i C)]]),.am (.l 1)]
theorem pM{a:List aj}{tok:aj}{j:Cf}{R:List S}{l:Lc}(e:go j=.v v (.ce .j b []:: .hW (.ae i.length) .q [] []:: .ex R::K) l (i++[.af (a.map aj.v)]))(h:b++[v]=[.aa tok.aq,.ah tok.aP,.aa tok.kC,.aa tok.aJ,.aa tok.jz,.i tok.cC])(d:a.length<bg)(q:Jd X m<|.s R K l<|i++[.af ((a++[tok]).map aj.v)]):Jd X m j:=
 lP e (by rw[h];rfl) (i6 (c:=.v tok.v (.hW (.ae i.length) .q [] []:: .ex R::K) l<|i++[.af (a.map aj.v)]) J cD (by rw[c5];exact d)<|bf (by rw[iB,dz];rfl) q)
end
section
variable{m n:Nat}{X:R (Fl×Lc)->Prop}{q:Cf}{K:List Kf}{l:Lc}{H i:Hp}{pre t r s:List Nat}{c:Nat}{j:List aj}{B F y u:Option V}
theorem qI{a b:Nat}{x y:List Nat}(h:a≠b):decide ((a::x)=(b::y))=false:=dT λz=>h (mW z).1
noncomputable abbrev Hz(i:Hp)(j:List aj):Hp:=i++[.af (j.map aj.v)]
theorem uj(q:Jd X m<|.s (jN.drop 3) [.lN n j8 jN jO] (gj (pre++c::t) i.length (pre.length+1) (O<|.aa pre.length) (O<|.ah [c]) y u)<|Hz i j):Jd X m (.lp (n+1) j8 jN jO [] (gj (pre++c::t) i.length pre.length B F y u)<|Hz i j):=
 i5 (fD J zc<|gz J (λa=>b5 J jM<|fQ J J<|bf J q) λz=>ax (C1.symm.trans z) c6)
noncomputable abbrev Nx(X:R (Fl×Lc)->Prop)(m n:Nat)(s:List Nat)(i:Hp)(a:Nat)(j:List aj):Prop:=∀B F y u,Jd X m (.lp n j8 jN jO [] (gj s i.length a B F y u)<|Hz i j)
theorem VA(q:Nx X m n (pre++32::t) i (pre.length+1) j):Jd X m (.lp (n+1) j8 jN jO [] (gj (pre++32::t) i.length pre.length B F y u)<|Hz i j):=
 uj (cy J J<|bv J<|q ..)
theorem VB(x:List Nat):vt (.ah x) (.u [.ah iS,.ah x0,.ah x4,.ah f2,.ah bI,.ah eX])=O (wz.contains x):=by
 have f:∀a:List (List Nat),rD (.ah x) (a.map V.ah)=O (a.contains x):=λa=>by
  induction a with
  |nil=>rfl
  |cons w r d=>
   show ac5 (O<|decide (w=x)) (λb=>(rD (.ah x)<|r.map V.ah).map (b||·))=_;rw[d,nD,Ao,yv];rfl
 exact f wz
theorem C3{w:List Nat}(d:w=c::r)(f:w.all kK.contains=true)(a:c≠32)(g:lh t)(q:∀u,Jd X m<|.s (C2.drop 2) [.j [],.lN n j8 jN jO] (gj (pre++(w++t)) i.length (pre.length+w.length) (some<|.aa pre.length) (some<|.ah [c]) (some<|.ah w) u)<|Hz i j)(h:r.length<hU):
  Jd X m (.lp (n+1) j8 jN jO [] (gj (pre++(w++t)) i.length pre.length B F y u)<|Hz i j):=by
 subst d;obtain⟨hc,hr⟩:=ed.mp<|f;have e:(pre++[c]).length+r.length=pre.length+(c::r).length:=by simp only[bx,gQ,lj];exact by simp+arith only
 have sc:=Vy (s:=pre++(c::r++t)) (R:=C2.drop 1) (l3:=some<|.aa pre.length) (l5:=y) g r hU (pre++[c]) (kR ..) hr h (by
  rw[e];have b:=nW (H:=Hz i j) (pre:=pre) (t:=c::r++t) (d:=(c::r).length);rw[List.take_left] at b;exact kM rfl b<|bf rfl<|q u)
 rw[bx] at sc;exact uj<|bh rfl (qI a)<|cy rfl hc<|bv rfl sc
theorem VC{k:Int}(f:k=1∨k=2)(g:zb.contains c=C)(h:(c::r).all kK.contains=I)(d:wz.contains (c::r)=decide (k=2))(a:c≠32)(o:lh t)(p:r.length<hU)(e:j.length<bg)
  (q:Nx X m n (pre++(c::r++t)) i (pre.length+(c::r).length)<|j++[⟨k,c::r,0,pre.length,(pre.length+(c::r).length:Nat),C⟩]):Jd X m (.lp (n+1) j8 jN jO [] (gj (pre++(c::r++t)) i.length pre.length B F y u)<|Hz i j):=by
 have hb:=cT<|VB<|c::r;refine C3 J h a o (λu=>bh J g<|fZ J cD<|j2 J (λz=>?_) λz=>?_) p
 ·refine dn λb=>?_;obtain rfl:k=2:=D<|d▸hb▸z;exact b<|pM J J e<|bv J<|q ..
 ·refine dn λb=>?_;obtain rfl:k=1:=f.resolve_right<|jw<|d▸hb▸z;exact b<|pM J J e<|bv J<|q ..
theorem VD{x:List Nat}(d:x=[48]∨x=[52,50])(a:lh t)(b:j.length<bg)
  (q:∀k,Nx X m n (pre++(x++t)) i (pre.length+x.length)<|j++[⟨3,x,k,pre.length,(pre.length+x.length:Nat),C⟩]):Jd X m (.lp (n+1) j8 jN jO [] (gj (pre++(x++t)) i.length pre.length B F y u)<|Hz i j):=by
 rcases d with rfl|rfl
 ·exact C3 rfl rfl (D rfl) a (λu=>cy rfl rfl<|fZ rfl cD<|fD rfl rfl<|pM rfl rfl b<|bv rfl<|q 0 ..)<|D J
 ·exact C3 J J (D J) a (λu=>cy J J<|fZ J cD<|fD J J<|pM J J b<|bv J<|q 42 ..)<|D J
end
section
variable{m n:Nat}{X:R (Fl×Lc)->Prop}{q:Cf}{K:List Kf}{l:Lc}{H i:Hp}{pre t r s:List Nat}{c:Nat}{j:List aj}{l3 l4 l5 u:Option V}
theorem VE{x:List Nat}(h:c≠34):(!decide ([c]=[34]))=true:=by rw[qI h];rfl
theorem nS{P:Nat->List Nat->List Nat->Prop}(f:∀n a c,k<n+1->P (n+1) a c):∀n a c,k<n->P n a c:=λn=>n.casesOn (λa c h=>ax h<|Nk _) f
theorem VF{R:List S}{a:Nat}{e x:List Nat}(h:j7 e x):∀(n:Nat) (pre b:List Nat),e.length<n->(b++x).length<=dh->Jd X m (.s R K (gj (pre++(e++34::t)) a (pre.length+e.length) l3 l4 l5 (some (.ah (b++x)))) H)->Jd X m (.lp n zd zf R K (gj (pre++(e++34::t)) a pre.length l3 l4 l5 (some (.ah b))) H):=by
 have j:∀{d:Nat} {e x:List Nat} {n:Nat} {pre b pf:List Nat},(∀pre b,(b++x).length<=dh->Jd X m (.s R K (gj (pre++(e++34::t)) a (pre.length+e.length) l3 l4 l5 (some (.ah (b++x)))) H)->Jd X m (.lp n zd zf R K (gj (pre++(e++34::t)) a pre.length l3 l4 l5 (some (.ah b))) H))->(b++(d::x)).length<=dh->
   Jd X m (.s R K (gj (pre++((pf++e)++34::t)) a (pre.length+(pf++e).length) l3 l4 l5 (some (.ah (b++(d::x))))) H)->Jd X m (.lp n zd zf R K (gj (pre++((pf++e)++34::t)) a (pre.length+pf.length) l3 l4 l5 (some (.ah (b++[d])))) H):=λ{d e x n pre b pf} o f q=>by
  have e1:pre++((pf++e)++34::t)=(pre++pf)++(e++34::t):=by simp only[b6]
  rw[e1] at q⊢
  rw[(kR .. :b++(d::x)=(b++[d])++x)] at q f
  rw[bx,<-kt] at q
  have:=o (pre++pf) (b++[d])
  rw[bx (as:=pre)] at this
  exact this f q
 induction h with
 |nil=>exact nS λn pre b _ _ q=>i5 (b5 rfl jM (gz rfl bc λv=>by rw[cN] at q;exact q))
 | @ga c e x y h2 A o=>exact nS λn pre b i f q=>i5 (b5 rfl jM (gz rfl (λv=>b5 rfl jM (bh rfl (qI h2) (b5 rfl jM (fQ rfl (r9 (cr (by rw[<-kR];exact f))) (fQ rfl rfl (bv rfl (j (pf:=[c]) (λp k=>o n p k (Nz i)) f q))))))) λz=>absurd ((VE (x:=[]) y).symm.trans z) c6))
 | @Js e x A o=>
  exact nS λn pre b i f q=>by
   have u:=nW (H:=H) (pre:=pre++[92]) (t:=120::48::50::(e++34::t)) (d:=3)
   rw[<-kR,bx] at u
   refine i5 (b5 rfl jM (gz rfl (λv=>b5 rfl jM (cy rfl rfl (fQ rfl rfl (kM rfl u (cy rfl rfl (fQ rfl (r9 (cr (by rw[<-kR];exact f))) (fQ rfl rfl (bv rfl (j (pf:=[92,120,48,50]) (λp k=>o n p k ?_) f q))))))))) c6))
   simp only[gQ] at i;exact L1 i
 | @nl e x A o=>
  exact nS λn pre b i f q=>by
   have u:=nW (H:=H) (pre:=pre++[92]) (t:=110::(e++34::t)) (d:=3)
   have g:=jM (H:=H) (pre:=pre++[92]) (c:=110) (t:=e++34::t)
   rw[<-kR,bx] at u g
   refine i5 (b5 rfl jM (gz rfl (λv=>b5 rfl jM (cy rfl rfl (fQ rfl rfl (kM rfl u (bh rfl (qI (by decide)) (b5 rfl g (j2 rfl (λv=>fQ rfl (r9 (cr (by rw[<-kR];exact f))) (fQ rfl rfl (bv rfl (j (pf:=[92,110]) (λp k=>o n p k ?_) f q)))) c6))))))) c6))
   simp only[gQ] at i;exact L1 i
 | @wA c e x y h2 A o=>
  exact nS λn pre b i f q=>by
   have u:=nW (H:=H) (pre:=pre++[92]) (t:=c::(e++34::t)) (d:=3)
   have g:=jM (H:=H) (pre:=pre++[92]) (c:=c) (t:=e++34::t)
   rw[<-kR,bx] at u g
   refine i5 (b5 rfl jM (gz rfl (λv=>b5 rfl jM (cy rfl rfl (fQ rfl rfl (kM rfl u (bh rfl (qI y) (b5 rfl g (j2 rfl (λz=>absurd (of_decide_eq_true z) λw=>h2 (mW w).1) λv=>b5 rfl g (fQ rfl (r9 (cr (by rw[<-kR];exact f))) (fQ rfl rfl (bv rfl (j (pf:=[92,c]) (λp k=>o n p k ?_) f q))))))))))) c6))
   simp only[gQ] at i;exact L1 i
theorem VG{e x:List Nat}(h:j7 e x)(d:e.length<hU)(f:x.length<=dh)(g:j.length<bg)
  (q:Nx X m n (pre++(34::(e++[34])++t)) i (pre.length+(34::(e++[34])).length)<|j++[⟨4,x,0,pre.length,(pre.length+(34::(e++[34])).length:Nat),C⟩]):Jd X m (.lp (n+1) j8 jN jO [] (gj (pre++(34::(e++[34])++t)) i.length pre.length l3 l4 l5 u)<|Hz i j):=by
 have a:pre++(34::(e++[34])++t)=(pre++[34])++(e++34::t):=by simp only[b6,kS,E2]
 have e1:(pre++[34]).length+e.length+1=pre.length+(34::(e++[34])).length:=by simp only[bx,gQ,lj];exact by simp+arith only
 have b:=VF (K:=[.j [],.j [],.lN n j8 jN jO]) (R:=Jx.drop 2) (l3:=O<|.aa pre.length) (l4:=O<|.ah [34]) (l5:=l5) h hU (pre++[34]) [] d f<|fQ J J<|fZ J cD<|pM (tok:=⟨4,x,0,pre.length,((pre++[34]).length+e.length+1:Nat),C⟩) J J g<|bv (c':=.lp n j8 jN jO [] (gj ((pre++[34])++(e++34::t)) i.length ((pre++[34]).length+e.length+1) _ _ _ _) _) J (by rw[e1,<-a];exact q ..);rw[<-a,bx] at b;exact uj<|bh J J<|bh J J<|cy J J<|bv J b
theorem VH(f:kK.contains c=C)(a:c≠32)(b:c≠34)(e:c=46->∀d∈t.head?,d≠46)(g:c=61->∀d∈t.head?,d≠62)(h:j.length<bg)
  (q:Nx X m n (pre++c::t) i (pre.length+1)<|j++[⟨5,[c],0,pre.length,(pre.length+1:Nat),C⟩]):Jd X m (.lp (n+1) j8 jN jO [] (gj (pre++c::t) i.length pre.length l3 l4 l5 u)<|Hz i j):=by
 have n3:decide ((c::t).take 3=hN)=false:=dT λz=>by
  induction t using aV with
  |nil=>cases z
  |cons d t=>exact e (mW z).1 d J (mW (mW z).2).1
 have n2:decide ((c::t).take 2=fz)=false:=dT λz=>by
  clear e
  induction t using aV with
  |nil=>cases z
  |cons d t=>exact g (mW z).1 d J (mW (mW z).2).1
 exact uj<|bh J (qI a)<|bh J f<|bh J (qI b)<|kM J (nW)<|bh J n3<|kM J (nW)<|bh J n2<|fZ J cD<|kM J (nW)<|pM J J h<|bv J<|q ..
theorem VI(b:j.length<bg)(q:Nx X m n (pre++46::46::46::t) i (pre.length+3)<|j++[⟨5,hN,0,pre.length,(pre.length+3:Nat),C⟩]):Jd X m (.lp (n+1) j8 jN jO [] (gj (pre++46::46::46::t) i.length pre.length l3 l4 l5 u)<|Hz i j):=by
 have a:=nW (H:=Hz i j) (pre:=pre) (t:=46::46::46::t) (d:=3);exact uj<|bh J J<|bh J J<|bh J J<|kM J a<|cy J J<|fZ J cD<|kM J a<|pM J J b<|bv J<|q ..
theorem VJ(b:j.length<bg)(q:Nx X m n (pre++61::62::t) i (pre.length+2)<|j++[⟨5,fz,0,pre.length,(pre.length+2:Nat),C⟩]):Jd X m (.lp (n+1) j8 jN jO [] (gj (pre++61::62::t) i.length pre.length l3 l4 l5 u)<|Hz i j):=by
 have a:=nW (H:=Hz i j) (pre:=pre) (t:=61::62::t) (d:=2);exact uj<|bh J J<|bh J J<|bh J J<|kM J (nW)<|bh J (qI<|D J)<|kM J a<|cy J J<|fZ J cD<|kM J a<|pM J J b<|bv J<|q ..
end
noncomputable def Ps(q:Int):Int->List aj->Prop
 |_,[]=>True
 |p,t::r=>p<=t.aJ/\t.aJ<q/\Ps q (t.aJ+1) r
theorem Ps.nF{q p a:Int}(h:a<=p):∀{u:List aj},Ps q p u->Ps q a u:=by
 intro r
 induction r with
 |nil=>
  intro b;exact dr
 |cons t r c=>
  intro x;exact⟨E3 h x.1,x.2⟩
theorem Ps.dW{q:Int}(u:List aj):∀{p:Int},Ps q p u->∀t∈u,p<=t.aJ/\t.aJ<q:=by
 induction u with
 |nil=>exactλa a h=>ax h eW
 |cons t r b=>
  intro p x s hs
  rcases d4.mp hs with rfl|hs
  ·exact⟨x.1,x.2.1⟩
  ·have:=b x.2.2 s hs;exact⟨E3 x.1<|E3 (Int.le_add_one<|Nu _) this.1,this.2⟩
theorem Ps.i{q:Int}(u:List aj):∀{p:Int},Ps q p u->(u.map aj.aJ).Nodup:=by
 induction u with
 |nil=>exactλb=>xH
 |cons t r a=>
  intro p x;refine iR.mpr ⟨λh=>?_,a x.2.2⟩;exact aB (ej.mp h) λs hs e=>ax (Ps.dW r x.2.2 s hs).1<|E4.mpr<|e▸Int.lt_succ _
section
variable{m:Nat}{X:R (Fl×Lc)->Prop}{j:Hp}{s:List Nat}
theorem VK:∀(G:List W) (pre:List Nat) (n:Nat) (d:List aj) (f g l p:Option V),Lx G->s=pre++aY G->s.length<=dh->(aY G).length<n->d.length<=pre.length->
  (∀u os f g l p,tk G u os->Ps s.length pre.length u->Jd X m (.s jO [] (gj s j.length s.length f g l p)<|Hz j<|d++u))->Jd X m (.lp n j8 jN jO [] (gj s j.length pre.length f g l p)<|Hz j d):=by
 intro r
 induction r with
 |nil=>
  intro pre n d f g l p H e H H H q
  induction n using fU with
  |zero=>exact ax ‹_+1<=0› (km _)
  |succ n=>
  have e:=e.trans<|cN pre;subst e;have q:=q [] [] f g l p ⟨J,J⟩ dr;rw[cN] at q;exact i5<|fD J zc<|gz J (λz=>ax (D z)<|Int.lt_irrefl _) λH=>q
 |cons w r T=>
  intro pre n d f g l p p8 e L M Z q;obtain⟨E,h2,h3,h4,h5⟩:=p8;rw[f0] at e M;have t:=List.length_pos_iff.mpr<|Ju E;rw[bx] at M;obtain⟨n,rfl⟩:∃k,n=k+1:=⟨n-1,by lia⟩;have y:s.length=pre.length+(w.w.length+(aY r).length):=by rw[e,bx,bx]
  have hb:d.length<bg:=jt (aE Z<|aE (L1<|b7 y.symm) L)<|D J;have A:∀{k:Nat},k<=w.w.length->k<hU:=λ{k} h=>jt (aE h<|aE (L1<|b7 y.symm) L)<|D J;have nx:∀B:List aj,B.length<=d.length+1->(∀u os,tk r u os->Ps s.length (pre++w.w).length u->∃v ov,d++v=B++u/\tk (w::r) v ov/\Ps s.length pre.length v)->Nx X m n (pre++(w.w++aY r)) j (pre.length+w.w.length) B:=λB hy hv f g l p=>by
   have:=T (pre++w.w) n B f g l p h5 (e.trans (b6 ..).symm) L (L2 t M) (by rw[bx];exact L3 Z t hy) λu os f g l p ht hp=>by
    refine cV (hv u os ht hp) λv ov e1 e2 e3=>?_;rw[<-e1];exact q v ov f g l p e2 e3
   rw[bx,e] at this;exact this
  have a:∀k,decide (w.k=9)=C->w.l=C->Nx X m n (pre++(w.w++aY r)) j (pre.length+w.w.length) (d++[⟨w.k,w.x,k,pre.length,(pre.length+w.w.length:Nat),C⟩]):=λk b N=>nx _ (by rw[bx];exact bF _) λu os ht hp=>by
   refine⟨⟨w.k,w.x,k,pre.length,(pre.length+w.w.length:Nat),w.l⟩::u,if w.o then(pre.length:Int)::os else os,by rw[N];exact kR ..,?_,Nu _,by lia,hp.nF (by rw[bx];lia)⟩;rw[tk,a9 (jw b)];exact vd _ _ _ _ _ J J ht
  subst e
  induction E with
  |sp=>exact VA (nx d (ey _) λu os ht hp=>cL u os J ht<|hp.nF (by rw[bx];lia))
  |i b hd F K=>exact VC b hd F K (λz=>ax (ed.mp<|F).1 (by rw[z];decide)) (h2<|by rcases b with b|b<;>simp[Jt,b]) (A<|ey _) hb<|a 0 (by rcases b with b|b<;>rw[b]<;>rfl) J
  |kC P=>exact VD P (h2<|.inr<|.inr J) hb λk=>a k J J
  | @ah e x S=>
   refine VG S (A (by show e.length<=(34::(e++[34])).length;simp;exact by simp+arith only)) ?_ hb<|a 0 J J;have wA:∀{e x},j7 e x->x.length<=e.length:=λh=>by
    induction h with
    |nil=>exact bF _
    |_=>simp only[gQ] at*;exact L1 a_ih
   have:=wA S;have:e.length+2<=(34::(e++[34])).length:=by simp
   have K:(st x<|34::(e++[34])).w.length=(34::(e++[34])).length:=J;lia
  | @sg c o hc Q Y=>exact VH hc Q Y (λz=>(h3<|by rw[z]).2) (λz=>(h4<|by rw[z]).2) hb<|a 0 J J
  |dots=>exact VI hb<|a 0 J J
  |j=>exact VJ hb<|a 0 J J
noncomputable def C4(n:Nat):aj:=⟨0,[],0,n,n,C⟩
theorem VL(h:Lx a)(b:(aY a).length<=dh)(H:Hp):∃u os,tk a u os/\Ps (aY a).length 0 u/\ag (m+1) 1028 [.ah (aY a)] H=.ok (.ae H.length) (H++[.af ((u++[C4 (aY a).length]).map aj.v)]):=by
 have c:Jd (λr=>∃u os,tk a u os/\Ps (aY a).length 0 u/\r.i eg=.ok (.ae H.length) (H++[.af ((u++[C4 (aY a).length]).map aj.v)])) m (.s Gg [] [O (.ah<|aY a),U,U,U,U,U,U] H):=by
  refine bv J<|VK a [] hU [] U U U U h J b (jt b<|D J) (bF _) λu os k l o q ht hp=>?_;have e:∀{p:Int} {u:List aj},Ps (aY a).length p u->0<=p->p+u.length<=(aY a).length∨u=[]:=λ{p u}=>by
   induction u generalizing p with
   |nil=>exactλf f=>.inr J
   |cons t r g=>
    intro x v;have d:=x.1;have h2:=x.2.1
    left
    rcases g x.2.2 (by lia) with h|h
    ·rw[gQ];lia
    ·rw[h];simp only[gQ,lj];lia
  have hb:u.length<=(aY a).length:=by
   rcases e hp (D rfl) with h|h
   ·have h:=h;lia
   ·rw[h];exact dG _
  refine fZ J cD<|pM J J (jt (aE hb b)<|show dh<bg by decide)<|aL J<|cL u os ht hp J
 exact dn λi=>cV c λu os d h2 j=>i<|cL u os d h2<|(qq m J J).trans j
end
noncomputable def uk(a:List Nat):Bool:=match a with
 |[]=>C
 |c::r=> !zb.contains c&&((c::r).all kK.contains&& !wz.contains (c::r))
theorem qJ(h:uk a=I):jL (nm a):=by
 induction a using aV with
 |nil=>exact bc h
 |cons c r=>
  obtain⟨b,h2⟩:=ed.mp<|h;obtain⟨h2,d⟩:=ed.mp h2;exact .i (.inl J) (by simpa using b) h2<|by simpa using d
noncomputable def zg(a:List Nat):Bool:=decide (a=[46])||decide (a=[61])
theorem Lx.i{w:W}{r:List W}(h:jL w)(b:(decide (w.k=1)||(decide (w.k=2)||decide (w.k=3)))=C)(c:zg w.x=C)(d:Lx r):Lx (w::r):=by
 obtain⟨k1,a⟩:=kn.mp b;obtain⟨a,e⟩:=kn.mp a;obtain⟨f,g⟩:=kn.mp c;exact⟨h,λq=>by rcases q with q|q|q;exact ax q (jw k1);exact ax q (jw a);exact ax q<|jw e,λq=>ax q<|jw f,λq=>ax q<|jw g,d⟩
theorem Lx.w{w:W}{r:List W}(h:jL w)(a:zg w.x=C)(b:lh<|aY r)(c:Lx r):Lx (w::r):=by
 obtain⟨d,e⟩:=kn.mp a;exact .wd h (jw d) (jw e) b c
theorem cI{w:W}{r:List W}(e:w.w=c::x)(h:kK.contains c=C):lh (aY<|w::r):=λd hd=>by
 rw[f0,e] at hd
 cases hd;exact h
theorem Lx.nil:Lx []:=dr
theorem pN:lh (aY []):=(λ_=>ba)
theorem Lx.nm{r:List W}(h:uk a=I)(b:lh<|aY r)(e:Lx r):Lx (nm a::r):=.w (qJ h) (by
 induction a using aV with
 |nil=>exact bc h
 |cons c t=>
  obtain⟨_,h2⟩:=ed.mp<|h;have h2:=(ed.mp<|(ed.mp h2).1).1;have n:∀d,kK.contains d=C->decide ((c::t)=[d])=false:=λd hd=>dT λz=>by rw[(mW z).1,hd] at h2;exact bc h2
  show(decide ((c::t)=[46])||decide ((c::t)=[61]))=C;rw[n 46 J,n 61 J];rfl) b e
theorem zh:jL (wd f2):=.i (.inr J) J J J
theorem VM{n:W}(h:n∈dY∨n=wd bI∨n=st bI fM):jL n/\zg n.x=false:=by
 have p:∀{c e x},(c !=34&&c !=92)=I->j7 e x->j7 (c::e) (c::x):=λh=>by
  simp only[ol,bne_iff_ne] at h;exact .ga h.1 h.2
 have k:∀n∈dY++[wd bI,st bI fM],jL n/\zg n.x=false:=by
  unfold dY;simp only[kS,E2,adk];exact⟨⟨qJ J,J⟩,⟨qJ J,J⟩,⟨qJ J,J⟩,⟨qJ J,J⟩,⟨qJ J,J⟩,⟨.ah<|p J<|p J<|p J .nil,J⟩,⟨.ah .nil,J⟩,⟨.kC<|.inl J,J⟩,⟨.ah<|p J<|p J .nil,J⟩,⟨.ah<|p J<|p J<|p J .nil,J⟩,⟨zh,J⟩,⟨.ah<|.wA (D J) (D J)<|.wA (D J) (D J)<|.nl<|.Js .nil,J⟩,⟨qJ J,J⟩,⟨.kC<|.inr J,J⟩,⟨qJ J,J⟩,⟨.i (.inr J) J J J,J⟩,⟨.ah<|p J<|p J<|p J .nil,J⟩,λ_ h=>ax h eW⟩
 exact k n<|eV.mpr (h.imp id λh=>by rcases h with rfl|rfl;exact .head _;exact .tail _<|.head _)
theorem Jy(h:a∈iC∨a=gF):Lx (d7 a):=by
 unfold d7;split
 ·exact .nm J (cI J J) ⟨.sg J (D J)<|D J,λq=>(by rcases q with q|q|q<;>exact ax q<|show¬(5:Int)=_ by decide),λc=>⟨jy,λd hd=>by cases hd;decide⟩,λq=>ax q<|D J,.w zh J pN .nil⟩
 ·rename_i b
  have k:∀a∈iC,uk a=true:=by decide
  exact .nm (k a<|h.resolve_right b) pN .nil
theorem Jz{fl:Int}(b:fF w a fl):Lx w:=by
 have k:∀a∈nK,uk a=true:=by decide
 cases b with
 |dots h=>exact .i .dots J J<|.nm (k a h) pN .nil
 |i h=>exact .nm (k a h) (cI J J)<|.sg J .nil
 |ga h=>exact .nm (k a h) pN .nil
 |this=>exact .w (.i (.inr J) J J J) J pN .nil
theorem C5{fl:Int}(h:n∈dY∨n=wd bI∨n=st bI fM)(a:fR n w fl):Lx w:=by
 obtain⟨o,x⟩:=VM h
 induction a with
 |ga=>exact .w o x pN .nil
 |i=>exact .w o x (cI J J)<|.sg J .nil
 |ro=>exact .nm J (cI J J)<|.sp<|.w o x pN .nil
 |j=>exact .nm J (cI J J)<|.sp<|.w o x (cI J J)<|.sg J .nil
theorem VN(h:K C 0 i c H t):Lx t:=by
 have u:∀a∈qC,uk a=true:=by decide
 have A:∀a∈hZ,uk a=true:=by decide
 induction h with
 |i9 h=>exact .nm (u _ h) pN .nil
 |ae h=>exact Jy h
 |ja h _ _ f=>exact .j (.sg J<|.j (.sg J .nil) (cI J J) f) (cI J J)<|Jy h
 |gL _ f=>exact .sg J<|.j (.sg J .nil) (cI J J) f
 |jH=>exact .sg J<|.sg J .nil
 |gh _ _ f=>exact .sg J<|.sp<|.j (.sp<|.sg J .nil) (cI J J) f
 |gc _ f=>exact .j (.sg J<|.sg J .nil) (cI J J) f
 |aa _ _ g l=>exact .j (.sp<|.sg J<|.sp l) (cI J J) g
 |un _ _ _ g l=>exact .j (.sp<|.sg J<|.sp l) (cI J J) g
 | @fn i w fl o p r t v F m B h2 L g l s=>
  obtain⟨r,e⟩:=pJ h2;have G:∀z,lh (aY<|v++z):=λz=>by rw[e];exact cI J J
  have b1:=Lx.j (.j (.sp<|.i .j J J<|.sp s) (cI J J) l) (G _) g;have Q:∀z,lh (aY<|t++(v++z)):=λz=>by
   rcases pJ B with e1|⟨X,e1⟩
   ·rw[e1];exact G _
   ·rw[e1];exact cI J J
  rcases m with⟨rfl,_⟩|⟨rfl,_⟩
  ·exact b1
  ·exact .w (.i (.inr rfl) rfl rfl rfl) rfl (cI rfl rfl)<|.sp b1
 |iE _ _ f=>exact f
 |jb _ _ f=>exact .sg J<|.j (.sg J .nil) (cI J J) f
 |iF _ f=>exact f
 |ia _ _ g l=>exact .j (.sp<|.sg J<|.sp l) (cI J J) g
 |iG _ f=>exact f
 |ib _ _ g l=>exact .j (.sg J<|.sp l) (cI J J) g
 |i=>exact Lx.nil
 |iH h=>exact .sg J<|.nm J (cI J J)<|.sp<|.nm (A _ h) (cI J J)<|.sg J .nil
 |ic h _ f=>exact .sg J<|.nm (A _ h) (cI J J)<|.sp<|.w (.i (.inr J) J J J) J (cI J J)<|.sp<|.j (.sg J .nil) (cI J J) f
 |ie h _ f=>
  exact .sg J<|.w zh J (cI J J)<|.sp<|.nm (A _ h) (cI J J)<|.sg J<|.sp<|.w zh J (cI J J)<|.sp<|.nm J (cI J J)<|.sp<|.nm J (cI J J)<|.sp<|.w (.i (.inr J) J J J) J (cI J J)<|.sp<|.nm J (cI J J)<|.sp ⟨.sg J (D J)<|D J,λq=>(by rcases q with q|q|q<;>exact ax q<|show¬(5:Int)=_ by decide),λq=>ax q<|D J,λY=>⟨jy,λd hd=>by cases hd;decide⟩,.sp<|.j (.sg J .nil) (cI J J) f⟩
 |jI m=>exact Jz m
 |jc m _ f=>exact .j (.sg J<|.sp f) (cI J J)<|Jz m
 |j=>exact Lx.nil
 |jd _ _ _ f=>exact f
 |iI _ _ _ _ _ g l=>exact .j (.sg J<|.sp l) (cI J J) g
 |ps _ _ f=>exact .sg J<|.j (.sg J .nil) (cI J J) f
 |eg _ f=>exact f
 |je _ f=>exact .nm J (cI J J)<|.sp<|.nm J (cI J J)<|.sp f
 |q=>exact .nm J (cI J J)<|.sp<|.nm J pN .nil
 |jf _ f=>exact .nm J (cI J J)<|.sp<|.w (.i (.inr J) J J J) J (cI J J)<|.sp<|.nm J (cI J J)<|.sp f
 |jg _ f=>exact .nm J (cI J J)<|.sp<|.nm J (cI J J)<|.sp f
 |ig B h2 g l=>
  obtain⟨r,e⟩:=pJ h2;exact .j l (by rw[e];exact cI J J) g
 |g3 B h2 L g l s=>
  refine dn λu=>?_;obtain⟨r,e⟩:=pJ h2;exact u<|.j (.j (.sg J<|.sp s) (cI J J) l) (by rw[e];exact cI J J) g
 |iJ y m=>exact C5 (g5 y) m
 |ii y m _ f=>exact .j (.sg J<|.sp f) (cI J J)<|C5 (g5 y) m
 |g4 y m Z M f=>
  exact dn λu=>eC (pJ M) λx r e N=>u<|.j f (by rw[e];rcases N with rfl|rfl<;>exact cI rfl rfl)<|C5 (nU y) m
 |ij _ f=>exact f
 |ik _ f=>exact .w (.i (.inr J) J J J) J (cI J J)<|.sp f
 | @il i w fl a k t m P _ f=>
  have b:Lx (sg [91]::nm a::sg [58]::sp::nm kT::sg [93]::sg [58]::sp::t):=.sg J<|.nm (by rcases P with rfl|rfl<;>rfl) (cI J J)<|.sg J<|.sp<|.nm J (cI J J)<|.sg J<|.sg J<|.sp f
  rcases m with⟨rfl,_⟩|⟨rfl,_⟩
  ·exact b
  ·exact .nm rfl (cI rfl rfl)<|.sp b
 |ms1 _ f=>exact f
 |gA _ _ _ g l=>exact .j (.sg J<|.sp l) (cI J J) g
 |iK hm=>exact ax hm (λh=>ax h<|D J)
 |iL hm=>exact ax hm λh=>ax h<|D J
theorem VO(h:Lx a):Lx (gB a):=.sg J<|.sp<|.j (.sp<|.sg J .nil) (cI J J) h
theorem VP{m i:Nat}{r:List T}(h:K b m i c r s):K b m (i+1) c r s:=by
 induction h with
 |i9 h=>exact .i9 h
 |ae h=>exact .ae h
 |ja h _ g e=>exact .ja h e g
 |gL _ e=>exact .gL e
 |jH=>exact .jH
 |gh _ n e=>exact .gh e n
 |gc _ e=>exact .gc e
 |aa _ _ a c=>exact .aa a c
 |un _ _ g a c=>exact .un a c g
 |fn t _ _ _ a c d=>exact .fn t a c d
 |iE h _ e=>exact .iE h e
 |jb h _ e=>exact .jb h e
 |iF _ e=>exact .iF e
 |ia _ _ a c=>exact .ia a c
 |iG _ e=>exact .iG e
 |ib _ _ a c=>exact .ib a c
 |i=>exact .i
 |iH h=>exact .iH h
 |ic h _ e=>exact .ic h e
 |ie h _ e=>exact .ie h e
 |jI h=>exact .jI h
 |jc h _ e=>exact .jc h e
 |j=>exact .j
 |jd _ k h2 e=>exact .jd e k h2
 |iI _ k h2 u _ a c=>exact .iI a k h2 u c
 |ps _ n e=>exact .ps e n
 |eg _ e=>exact .eg e
 |je _ e=>exact .je e
 |q=>exact .q
 |jf _ e=>exact .jf e
 |jg _ e=>exact .jg e
 |ig _ _ a c=>exact .ig a c
 |g3 _ _ _ a c d=>exact .g3 a c d
 |iJ h f=>exact .iJ h f
 |ii h f _ e=>exact .ii h f e
 |g4 h f p _ e=>exact .g4 h f p e
 |ij _ e=>exact .ij e
 |ik _ e=>exact .ik e
 |il h f _ e=>exact .il h f e
 |ms1 _ e=>exact .ms1 e
 |gA h _ _ a c=>exact .gA h a c
 |iK h _ _ a c=>exact .iK h a c
 |iL h _ _ f a c=>exact .iL h a c f
mutual
noncomputable def br:T->Nat
 |.nd k _ ks _ _=>e8 ks+if k=85∨k=63 then 1 else 0
noncomputable def e8:List (Option T)->Nat
 |[]=>0
 |o::r=>j9 o+e8 r
noncomputable def j9:Option T->Nat
 |none=>0
 |some t=>br t
end
noncomputable def Kd(i:Nat)(k:T):Prop:=∃b,K C 0 i .kd [k] b
theorem Kd.up{i j:Nat}(h:Kd i k)(e:i<=j):Kd j k:=by
 induction e with
 |refl=>exact h
 |step _ b=>obtain⟨c,x⟩:=b;exact⟨c,VP x⟩
structure Kp(P:Nat->Prop)(H F:Hp):Prop where
 bK:H.length<=F.length
 jE:∀i,i<H.length->¬P i->F[i]? =H[i]?
section
variable{P:Nat->Prop}{H F B:Hp}{a:Nat}{o:bY}
theorem Kp.refl:Kp P H H:=⟨bF _,λb b b=>J⟩
theorem Kp.q(x:Kp P H F)(y:Kp P F B):Kp P H B:=⟨aE x.bK y.bK,λi h n=>(y.jE i (iP h x.bK) n).trans<|x.jE i h n⟩
theorem Kp.j{l:Hp}:Kp P H (H++l):=⟨by rw[bx];exact d8 ..,λi h b=>p7 h⟩
theorem Kp.y(h:P a∨H.length<=a)(x:Kp P H F):Kp P H (F.set a o):=⟨(sM ..).symm▸x.bK,λi b n=>(mT (λe=>by
 subst e;exact h.elim n λh=>ax b<|rc.mpr h)).trans<|x.jE i b n⟩
theorem Kp.cO{i:Nat}(x:Kp P H F)(h:H[i]? =O o)(n:¬P i):F[i]? =O o:=(x.jE i (hX h) n).trans h
theorem Kp.u{Q:Nat->Prop}(x:Kp P H F)(h:∀i,i<H.length->P i->Q i):Kp Q H F:=⟨x.bK,λi b n=>x.jE i b λp=>n<|h i b p⟩
theorem Gr.kp(g:Gr H F):Kp P H F:=by obtain⟨l,rfl⟩:=g;exact .j
end
noncomputable def GX(P:V->Hp->Prop)(r:R<|Fl×Lc):Prop:=∃v F,r.i eg=.ok v F/\P v F
section
variable{m n i:Nat}{X:R (Fl×Lc)->Prop}{P M:V->Hp->Prop}{G:Cf}{K:List Kf}{l:Lc}{H F:Hp}{v:V}{a:Nat}
theorem iM{as:List V}(e:iX f=(c,d,b))(g:as.length=c)(q:Jd (GX P) m<|.s b [] (as.map O++jq (d-c) U) H):∃v F,ag (m+1) f as H=.ok v F/\P v F:=by
 rw[qq m e g];exact q
theorem pO(e:go G=.ao f b K l H)(h:∃v F,ag m f b H=.ok v F/\M v F)(q:∀v F,M v F->Jd X m (.v v K l F)):Jd X m G:=dn λc=>eC h λv F d p=>c<|bn e d<|q v F p
theorem gk(e:go G=.fl (.am v) [] l H)(p:P v H):Jd (GX P) m G:=aL e<|cK v H J p
theorem C6(x:List Nat):ag (m+2) 1042 [.ah x] H=.ok (aK 81 x [] 0).v (H++[.i]):=cS J J<|qs [] J<|aL J J
noncomputable def JA:Option T->List V
 |none=>[]
 |some k=>[k.v]
noncomputable def JB(j:Nat):E:=.bz (.b9 .gt (.bi .bK [.l j])<|.c<|.aa 0) (.aO (.l j) .hQ [])<|.ao 1042 [.c (.ah [65])]
theorem nX{b:List V}(h:H[a]? =O (.af b)):f7 .bK [.ae a] H=.ok (.aa b.length) H:=by
 show cG ((match H[a]? with|some (.af b)=>O b|_=>U).map λ(b:List V)=>V.aa b.length) H=_;rw[h];rfl
theorem JC:Kd i (aK 81 [65] [] 0):=⟨_,.ae<|.inl<|D J⟩
theorem C7{j B:Nat}(d:l[j]? =O (O<|.ae a))(c:H[a]? =O (.af<|JA b))(e:∀k,b=O k->Kd i k)(f:j9 b<=B)(q:∀k F,Kd i k->br k<=B->F[a]? =O (.af [])->Kp (·=a) H F->Jd X (m+2) (.v k.v K l F)):Jd X (m+2) (.e (JB j) K l H):=by
 refine kG 3 J<|gJ (k8 d)<|fD J (nX c) ?_
 induction b using gC with
 |none=>exact j2 J bc λg=>bn J (C6 [65])<|q _ _ JC (dG _) (cR c) .j
 |some k=>exact j2 J (λg=>kG 1 J<|gJ (k8 d)<|yD J c<|q _ _ (e k J) f (fk c)<|.y (.inl J) .refl) c6
end
section
variable{m n i:Nat}{X:R (Fl×Lc)->Prop}{u:Cf}{q:List Kf}{l:Lc}{H j:Hp}{v:V}{a:Nat}{rest:Option T}
theorem JD{P:Int->Prop}(h:∀n,n<k->P (n:Nat)){y:Int}(b:0<=y/\y<k):P y:=by
 obtain⟨n,rfl⟩:=xI b.1;exact h n<|sN.mp b.2
theorem C8{d:Int}(h:0<=d/\d<7):d=0∨d=1∨d=2∨d=3∨d=4∨d=5∨d=6:=JD (k:=7) (P:=λd=>d=0∨d=1∨d=2∨d=3∨d=4∨d=5∨d=6) (D J) h
noncomputable def kb(i B:Nat)(a:Nat)(H:Hp):Prop:=∃rest:Option T,H[a]? =O (.af<|JA rest)/\(∀k,rest=O k->Kd i k)/\j9 rest<=B
theorem kb.kp{P:Nat->Prop}(h:kb i B a H)(x:Kp P H j)(n:¬P a):kb i B a j:=aB h λr b h2=>aD r (x.cO b n) h2
theorem C9(h:H[a]? =O (.af [])):kb i B a H:=dg U h (λ_=>ba)<|dG _
theorem JE(k:T):0+(0+br k)=br k:=by rw[da,da]
noncomputable def JF(i B a:Nat)(H:Hp)(v:V)(j:Hp):Prop:=∃o c b,v=ov o.head? /\K C 0 i .q o c/\j9 o.head? +b<=B/\kb i b a j/\Kp (·=a) H j
theorem VQ{B:Nat}{d:Int}{c:List Nat}(q:0<=d/\d<7)(o:c∈hZ)(e:kb i B a H):∃v j,ag (m+3) 1049 [.aa d,.ah c,.ae a] H=.ok v j/\JF i B a H v j:=by
 refine cF e λrest e f g=>?_;have lo:∀d:Int,(d=0∨d=1∨d=2∨d=3)->Jd (GX<|JF i B a H) (m+2) (.s Ge [] [O (.aa d),O (.ah c),O (.ae a),U,U] H):=λd h=>by
  rcases h with rfl|rfl|rfl|rfl<;>exact cy rfl rfl<|gk rfl<|m3 [] [] B rfl .i (b7<|da B) (dg rest e f g) .refl
 rcases C8 q with rfl|rfl|rfl|rfl|rfl|rfl|rfl
 ·exact iM rfl rfl<|lo 0<|D rfl
 ·exact iM rfl rfl<|lo 1<|D rfl
 ·exact iM rfl rfl<|lo 2<|D rfl
 ·exact iM rfl rfl<|lo 3<|D rfl
 ·refine iM rfl rfl<|bh rfl rfl<|cy rfl rfl<|gY [none,none] rfl<|bn rfl (qr (ks:=[some (.nd 100 c [none,none] 536870912 0)]) cD 0)<|gk rfl<|m3 [aK 71 [] [.nd 100 c [none,none] 536870912 0] 0] _ B rfl (.iH o) (b7<|da B) (dg rest ?_ f g) ?_
  ·rw[iB];exact cR<|cR e
  ·rw[iB];exact Kp.j.q .j
 ·refine iM J J<|bh J J<|bh J J<|kG 3 J<|C7 J e f g λk H1 b b1 e1 p=>?_;obtain⟨r,b⟩:=b;refine cy J J<|gY [O k,U] J<|bn J (qr (ks:=[O (.nd 100 c [O k,U] 0 0)]) cD 0)<|gk J<|m3 [aK 71 [] [.nd 100 c [O k,U] 0 0] 0] _ 0 J (.ic o b) b1 (C9 ?_) ?_
  ·rw[iB];exact cR<|cR e1
  ·rw[iB];exact p.q<|Kp.j.q .j
 ·refine iM J J<|bh J J<|bh J J<|kG 3 J<|C7 J e f g λk H1 b b1 e1 p=>?_;obtain⟨r,b⟩:=b;refine(bh J J<|bn J (C6 [84])<|gY [O (aK 81 [84] [] 0),O k] J<|gY [U,U] J<|bn J (qr (ks:=[O (.nd 100 c [U,U] 268435456 0),O (.nd 100 fd [O (aK 81 [84] [] 0),O k] 805306368 0)]) cD 0)<|gk J<|m3 [aK 71 [] [.nd 100 c [U,U] 268435456 0,.nd 100 fd [O (aK 81 [84] [] 0),O k] 805306368 0] 0] _ 0 J (.ie o b) (aE (b7<|JE k) b1) (C9 ?_) ?_)
  ·rw[iB];exact cR<|cR<|cR<|cR e1
  ·rw[iB];exact p.q<|Kp.j.q<|Kp.j.q<|Kp.j.q .j
noncomputable def JG(i B a:Nat)(b:Bool)(H:Hp)(v:V)(j:Hp):Prop:=∃r:Option T,v=ov r/\j9 r<=B/\(b=I->r≠U)/\(∀k,r=O k->∃c,K C 0 i .am [k] c)/\Kp (·=a) H j
theorem VR{d fl:Int}(u:0<=d/\d<7)(r:decide (fl%4096<2048)= !p)(q:kb i B a H):∃v j,ag (m+3) 1063 [.aa d,.aa fl,.ae a] H=.ok v j/\JG i B a p H v j:=by
 refine cF q λrest q w y=>?_;have f:∀{k:T} {H1 H2:Hp},Kp (·=a) H H1->Gr H1 H2->br k<=B->(∃o,K C 0 i .am [k] o)->JG i B a p H k.v H2:=λ{k _ _} x g b A=>F4 (O k) J b (λs=>ve) (λF e=>(by cases e;exact A))<|x.q g.kp;refine iM J J<|kG 1 (c':=.e (JB 2) [.i 3 (Gd.drop 1)] [O (.aa d),O (.aa fl),O (.ae a),U] H) J<|C7 J q w y λk H1 c b1 e1 h=>?_;obtain⟨o,c⟩:=c
 rcases C8 u with rfl|rfl|rfl|rfl|rfl|rfl|rfl
 ·exact cp 140 rfl<|gk rfl<|f h .refl b1 ⟨o,.eg c⟩
 ·refine eh rfl (λs=>ck rfl rfl<|ck rfl rfl<|et (b:=decide (fl%4096<2048)) rfl (λz=>gk rfl<|F4 none rfl (dG _) (λt=>?_) (λ_=>ba) h) λs=>cp 140 rfl<|gk rfl<|f h .refl b1 ⟨o,.eg c⟩) c6;rw[z,t] at r;exact c6 r
 ·exact cp 140 rfl<|gk rfl<|f h .refl b1 ⟨o,.eg c⟩
 ·exact cp 140 rfl<|qs [some k] rfl<|gk rfl<|f h .j b1 ⟨_,.je c⟩
 ·exact cp 140 rfl<|gY [none] rfl<|gk rfl<|f h .j (dG _) ⟨_,.q⟩
 ·exact cp 140 J<|gY [O k] J<|gk J<|f h .j b1 ⟨_,.jf c⟩
 ·exact cp 140 J<|qs [O k] J<|gk J<|f h .j b1 ⟨_,.jg c⟩
end
section
variable{m n u:Nat}{X:R (Fl×Lc)->Prop}{i:Cf}{j:List Kf}{l:Lc}{H y:Hp}{v:V}{a b o:Nat}
noncomputable def BX(P:Lc->Hp->Prop)(r:R<|Fl×Lc):Prop:=∃c y,r=.ok (.aU,c) y/\P c y
theorem Db{P:Lc->Hp->Prop}{r:List S}(q:Jd (BX P) m<|.s r [] l H):∃c y,aZ (ag m) r l H=.ok (.aU,c) y/\P c y:=dn λd=>eC q λc y e p=>d<|cK c y (qt e) p
theorem Dc{P:Lc->Hp->Prop}(e:go i=.fl .aU [] l H)(p:P l H):Jd (BX P) m i:=aL e<|cK l H J p
theorem ul{xs:List V}{j:Int}(f:0<=j)(c:j<xs.length):∃v∈xs,f6 (.u xs) (.aa j) H=.ok v H:=by
 obtain⟨k,rfl⟩:=xI f;have d:=sN.mp c;refine aD (xs[k]) (adm d) ?_;have e:fP (k:Int) xs.length=O k:=by
  unfold fP;rw[aN (qa k),aN c];rfl
 show cG ((fP (k:Int) xs.length).bind λj=>xs[j]?) H=_;rw[e];show cG xs[k]? H=_;rw[li d];rfl
theorem fT{x:Int}{k:Nat}(c:0<k):fO .y (.aa x) (.aa (k:Int)) H=.ok (.aa<|x%k) H:=aN<|by lia
theorem mN{x:Int}{k:Nat}(c:0<k/\k<bg):fO .q (.aa x) (.aa (k:Int)) H=.ok (.aa<|x/k) H:=aN<|by lia
theorem sb{x y:Int}(h:x.natAbs<bg*bg/\y.natAbs<bg*bg):fO .j (.aa x) (.aa y) H=.ok (.aa<|x*y) H:=aN h
theorem ji(x:Int){k:Nat}(c:0<k):0<=x%k/\x%k<k:=⟨Int.emod_nonneg _ (by lia),Int.emod_lt_of_pos _<|by lia⟩
noncomputable def mO:List S:=[.i 6 (.y (.l 0)<|.bJ .i (.c<|.aa 2)<|.l 5),.i 7 (.bz (.or (.l 3)<|.or (.b9 .eq (.l 6)<|.c<|.aa 1)<|.b9 .eq (.l 6)<|.c<|.aa 5) (.c<|.aa 4096)<|.c<|.aa 0),.bQ (.bN (.b9 .eq (.l 6)<|.c<|.aa 3)<|.b9 .eq (.l 5)<|.bJ .eA (.l 4)<|.c<|.aa 1) [.i 7 (.c<|.aa 8192)] [],.i 3 (.or (.l 3)<|.b9 .eq (.l 7)<|.c<|.aa 4096),.i 8 (.y (.u [.c (.ah [120]),.c (.ah eY),.c (.ah dO),.c (.ah fL),.c (.ah [121]),.c (.ah rj),.c (.ah [36,49])])<|.bJ .y (.bJ .i (.y (.l 0)<|.c<|.aa 6)<|.bJ .j (.c<|.aa 2)<|.l 5)<|.c<|.aa 7),.bQ (.bN (.b9 .eq (.l 6)<|.c<|.aa 4)<|.b9 .eq (.l 5)<|.c<|.aa 0) [.i 8 (.c<|.ah eX)] [],.i 9 (.c .none),.bQ (.bN (.b9 .ne (.l 6)<|.c<|.aa 2)<|.b9 .ne (.l 6)<|.c<|.aa 5) [.i 9 (.ao .c7 [.c (.aa 80),.c (.ah qe),.c (.aa 0)]),.bQ (.bN (.b9 .ne (.l 6)<|.c<|.aa 6)<|.b9 .gt (.bi .bK [.l 1])<|.c<|.aa 0) [.i 9 (.aO (.l 1) .hQ [])] []] [],.ex (.aO (.l 2) .q [.ao .i [.c (.aa 28),.c (.ah []),.af [.ao .c7 [.c (.aa 8),.l 8,.c (.aa 0)],.l 9,.c .none],.l 7,.c (.aa 0)]])]
structure JH(u i cnt:Nat)(lax:Bool)(p:T):Prop where
 k:∃ws,K false 0 u .pm [p] ws
 th:k7 p=true->i=0
 lx:lax=true->p.cj≠0
 rs:p.cj=8192->i+1=cnt
noncomputable abbrev mP(b a o:Nat)(c:Bool)(d i:Nat)(e f g h:Option V):Lc:=[O (.ae b),O (.ae a),O (.ae o),O (.i c),O (.aa d),O (.aa i),e,f,g,h]
theorem JI{a:List Nat}{f:Int}:br (lg a k f 0 0)=j9 k:=da _
noncomputable def pP(B u i c:Nat)(d:Bool)(b a o:Nat)(ps:List T)(H:Hp)(f:Lc)(y:Hp):Prop:=∃p g h j k,JH u i c d p/\f=mP b a o (d||decide (p.cj=4096)) c i g h j k/\y[o]? =O (.af<|(ps++[p]).map T.v)/\(∃e,br p+e<=B/\kb u e a y)/\Kp (λx=>x=a∨x=o) H y
theorem VS{B i g:Nat}{c:Bool}{d e:Int}{ds:List V}{ps:List T}{K l7 G j:Option V}(hd:0<=d/\d<7)(he:0<=e)(hb:H[b]? =O (.af ds))(M:ds[2+i]? =O (.aa d))(h6:ds[6]? =O (.aa e))(hi:i<=2)(hlx:i=0->c=C)(ha:kb u B a H)(ho:H[o]? =O (.af<|ps.map T.v))(hps:ps.length<bg)(N:a≠o)(hab:b≠a/\b≠o):
  ∃l' y,aZ (ag<|m+2) mO (mP b a o c g i K l7 G j) H=.ok (.aU,l') y/\pP B u i g c b a o ps H l' y:=by
 --S last part:name and aq are told
 have P:∀f nm p K H1 w,fF w nm f->(nm=eX->i=0)->(c=I->f≠0)->(f=8192->i+1=g)->(∀k,p=O k->Kd u k)->(∃W,j9 p+W<=B/\kb u W a H1)->Kp (λx=>x=a) H H1->
   Jd (BX<|pP B u i g c b a o ps H) (m+2) (.s (mO.drop 8) [] (mP b a o (c||decide (f=4096)) g i K (O<|.aa f) (O<|.ah nm)<|O<|ov p) H1):=by
  intro f nm p K H1 w E h1 M s h4 ⟨W,hB,hr⟩ x;have Q:=x.cO ho<|eH N;refine fZ J Q<|bn J (rP 8 nm 0)<|gY [O (c7 8 nm 0),p,U] J<|i6 J (cR<|cR Q) (by rw[c5];exact hps)<|Dc J<|OQ (lg nm p f 0 0) K _ _ _ ⟨?_,λz=>h1<|D z,M,s⟩ J ?_ ?_ ?_
  ·induction p using gC with
   |none=>exact⟨_,.jI E⟩
   |some k=>obtain⟨ws,hk⟩:=h4 k J;exact⟨_,.jc E hk⟩
  ·rw[fk (cR<|cR Q),dz];rfl
  ·exact aB hr λr r1 r2=>⟨W,aE (b7 (bH (·+W) JI)) hB,r,fm (eH N)<|cR<|cR r1,r2⟩
  ·exact Kp.y (.inl<|.inr J) ((x.u λt t z=>.inl z).q<|Kp.j.q .j)
 --S aq
 have dv:∀f nm j w,fF w nm f->(nm=eX->i=0)->(c=I->f≠0)->(f=8192->i+1=g)->Jd (BX<|pP B u i g c b a o ps H) (m+2) (.s (mO.drop 6) [] (mP b a o (c||decide (f=4096)) g i (O<|.aa d) (O<|.aa f) (O<|.ah nm) j) H):=by
  intro f nm j w E h1 M s;have non:Jd (BX<|pP B u i g c b a o ps H) (m+2) (.s (mO.drop 8) [] (mP b a o (c||decide (f=4096)) g i (O<|.aa d) (O<|.aa f) (O<|.ah nm)<|O<|ov U) H):=P f nm U _ H w E h1 M s (λ_=>ba) (aD B (b7<|da B) ha) .refl;have num:Jd (BX<|pP B u i g c b a o ps H) (m+2) (.s (mO.drop 8) [] (mP b a o (c||decide (f=4096)) g i (O<|.aa d) (O<|.aa f) (O<|.ah nm)<|O<|ov<|O<|c7 80 qe 0)<|H++[.i]):=P f nm (O _) _ _ w E h1 M s (λk e=>by cases e;exact⟨_,.i9<|D J⟩) (aD B (b7<|da B)<|ha.kp (P:=λx=>x=o) .j N) .j;have A:(d=0∨d=1∨d=3∨d=4)->Jd (BX<|pP B u i g c b a o ps H) (m+2) (.s (mO.drop 6) [] (mP b a o (c||decide (f=4096)) g i (O<|.aa d) (O<|.aa f) (O<|.ah nm) j) H):=λhq=>by
   refine cF ha λr r1 r2 r3=>?_;have go2:Jd (BX<|pP B u i g c b a o ps H) (m+2) (.e (.bi .bK [.l 1]) [.b9 .gt (.c<|.aa 0),.bQ [.i 9 (.aO (.l 1) .hQ [])] [] [],.j (mO.drop 8)] (mP b a o (c||decide (f=4096)) g i (O<|.aa d) (O<|.aa f) (O<|.ah nm)<|O (c7 80 qe 0).v)<|H++[.i]):=by
    refine fD J (nX<|cR r1) ?_
    induction r using gC with
    |none=>exact bh J J<|bf J num
    |some k=>exact cy J J<|yD J (cR r1)<|bf J<|P f nm (O k) _ _ w E h1 M s (λk' e=>by cases e;exact r2 k J) (aD 0 r3<|C9<|fk<|cR r1)<|Kp.y (.inl J) .j
   rcases hq with rfl|rfl|rfl|rfl<;>exact cp 28 rfl<|bn rfl (rP 80 _ 0)<|cp 10 rfl go2
  rcases C8 hd with h|h|h|h|h|h|h
  ·exact A<|.inl h
  ·exact A<|.inr<|.inl h
  ·subst h;exact cp 14 rfl non
  ·exact A<|.inr<|.inr<|.inl h
  ·exact A<|.inr<|.inr<|.inr h
  ·subst h;exact cp 19 rfl non
  ·subst h;exact cp 28 rfl (bn rfl (rP 80 _ 0)<|cp 14 rfl num)
 --S name
 have Y:∀f G j,(f=0∨f=4096∨f=8192)->(c=true->f≠0)->(f=8192->i+1=g)->(d=4->i=0->f=0)->Jd (BX<|pP B u i g c b a o ps H) (m+2) (.s (mO.drop 3) [] (mP b a o c g i (O<|.aa d) (O<|.aa f) G j) H):=by
  intro f G j hf Z s h4;refine dP J J<|aB (ul (H:=H) (xs:=nK.map V.ah) (j:=(e+2*(i:Int))%7) (ji _ (k:=7)<|D J).1 (ji _ (k:=7)<|D J).2) λv hv ev=>aB (ej.mp hv) ?_;rintro nm F rfl;have hth:nm≠eX:=by
   have:∀nm∈nK,nm≠eX:=by decide
   exact this nm F
  refine b5 J (hY hb h6)<|ck J (sb ⟨by decide,by unfold bg;lia⟩)<|ck J (fT<|D J)<|b5 J ev ?_;have pw:∃w,fF w nm f:=by
   rcases hf with rfl|rfl|rfl
   ·exact⟨_,.ga F⟩
   ·exact⟨_,.i F⟩
   ·exact⟨_,.dots F⟩
  clear hf;obtain⟨w,pw⟩:=pw;refine eh rfl (λz=>et rfl (λz2=>?_) λt=>bf rfl<|dv f nm j w pw (λz=>ax z hth) Z s) λt=>bh rfl rfl<|bf rfl<|dv f nm j w pw (λz=>ax z hth) Z s;have hi0:i=0:=by have:=D z2;lia
  have:=h4 (D z) hi0;clear h4;clear pw;subst this;exact bf J<|dv 0 _ j _ .this (λt=>hi0) Z s
 refine Db<|b5 J (hY hb M) ?_;have e7:∀q:Bool,q=(c||(decide (d=1)||decide (d=5)))->Jd (BX<|pP B u i g c b a o ps H) (m+2) (.v (.aa<|if q=I then 4096 else 0) [.i 7 (mO.drop 2)] (mP b a o c g i (O<|.aa d) l7 G j) H):=by
  intro q hq;have ok0:(if q=I then(4096:Int) else 0)=0∨(if q=I then(4096:Int) else 0)=4096∨(if q=I then(4096:Int) else 0)=8192:=by cases q;exact .inl J;exact .inr<|.inl J
  have L:c=I->(if q=I then(4096:Int) else 0)≠0:=λz=>by rw[hq,z,Bool.true_or];decide
  have h8:(if q=I then(4096:Int) else 0)=8192->i+1=g:=λz=>by cases q<;>cases z
  have h44:d=4->i=0->(if q=I then(4096:Int) else 0)=0:=λz z0=>by rw[hq,hlx z0,z];rfl
  refine eh J (λz=>et J (λz2=>?_) λt=>bf J<|Y _ G j ok0 L h8 h44) λt=>bh J J<|bf J<|Y _ G j ok0 L h8 h44;exact bf J<|Y 8192 G j (.inr<|.inr J) (λt=>by decide) (λt=>by lia) λz3 t=>by lia
 refine dP J (c9<|dP J J<|aL J J)<|j2 J (λz=>?_) λz=>?_
 ·have:=e7 I z.symm;exact bf J this
 ·have:=e7 C z.symm;exact bf J this
end
noncomputable def Dd(u c:Nat):Nat->Bool->List T->Prop
 |_,_,[]=>True
 |i,d,p::r=>JH u i c d p/\Dd u c (i+1) (d||decide (p.cj=4096)) r
theorem VT{u c:Nat}(ps:List T):∀(i:Nat) (d:Bool),Dd u c i d ps->i+ps.length=c->∃g,K C 0 u (.y (decide (i=0)) d) ps g:=by
 induction ps with
 |nil=>exactλi d h e=>⟨_,.j⟩
 |cons p r f=>
  intro i d h e;refine dn λj=>?_;obtain⟨w,k⟩:=h.1.k
  induction r using aV with
  |nil=>exact j ⟨_,.jd k (λz=>dH<|h.1.th z) h.1.lx⟩
  |cons q r=>
   have e:i+(r.length+1+1)=c:=e;obtain⟨g,f⟩:=f (i+1) _ h.2 (by show i+1+(r.length+1)=c;exact Aw (L1<|b7 e)<|L1<|b7 e.symm);exact j ⟨_,.iI k (λz=>dH<|h.1.th z) h.1.lx (λz=>F2 (b7 e)<|b7 (h.1.rs z).symm) f⟩
section
variable{m n u:Nat}{H j:Hp}{a b o:Nat}
theorem VU{w:List V}{e:Int}(W:0<=e)(y:∀i,i<=2->∃d:Int,(0<=d/\d<7)/\w[2+i]? =O (.aa d))(h6:w[6]? =O (.aa e))(E:f<=3)(A:a≠o)(g:b≠a/\b≠o):∀(k i:Nat) (c:Bool) (ps:List T) (H:Hp) (F q r s t:Option V) (B:Nat),i+k=f->(i=0->c=C)->H[b]? =O (.af w)->kb u B a H->H[o]? =O (.af<|ps.map T.v)->ps.length+k<=3->
  ∃l' j,dp (λv l H=>aZ (ag<|m+2) mO (l.set 5<|O v) H) ((ll i k).map λ(i:Nat)=>V.aa (i:Int)) [O (.ae b),O (.ae a),O (.ae o),O (.i c),O (.aa f),F,q,r,s,t] H=.ok (.aU,O (.ae b)::O (.ae a)::O (.ae o)::l') j/\
   ∃h,Dd u f i c h/\h.length=k/\j[o]? =O (.af<|(ps++h).map T.v)/\(∃K,e8 (h.map O)+K<=B/\kb u K a j)/\Kp (λx=>x=a∨x=o) H j:=by
 intro k
 induction k with
 |zero=>
  intro i c ps H F q r s t B R R hb G L R;exact⟨_,H,J,[],dr,J,by rw[cN];exact L,aD B (b7<|da B) G,.refl⟩
 |succ k ih=>
  intro i c ps H F q r s t B e1 hl hb G L hp;refine dn λkk=>aB (y i<|L2 E<|b7 e1) λd hd h2=>?_;obtain⟨l1,H1,r1,p,m6,m7,m8,m9,M,rfl,N,⟨B1,P,Q⟩,S⟩:=VS hd W hb h2 h6 (L2 E<|b7 e1) hl G L (jt (m:=3) (L1 hp)<|D J) A g;obtain⟨l2,H2,r2,h,hq,hlen,X,⟨B2,Y,Z⟩,x2⟩:=ih (i+1) (c||decide (p.cj=4096)) (ps++[p]) H1 (O<|.aa i) m6 m7 m8 m9 B1 (Aw (L1<|b7 e1)<|L1<|b7 e1.symm) nofun (S.cO hb λz=>z.elim g.1 g.2) Q N (by rw[bx];simp only[gQ,lj];exact L1 hp);refine kk<|⟨l2,H2,?_,p::h,⟨M,hq⟩,by rw[gQ,hlen],by rw[kR];exact X,aD B2 (aE (b7<|kt ..)<|aE (jp Y _) P) Z,S.q x2⟩;show(match aZ (ag<|m+2) mO (mP b a o c f i q r s t) H with|.ok (.aU,l) H=>_|.ok (.q,l) H=>_|.ok (.u,l) H=>_|.ok (.am v,l) H=>_|_=>_)=_;rw[r1];exact r2
noncomputable def VV(i B a:Nat)(H:Hp)(v:V)(j:Hp):Prop:=∃p d c,v=T.v p/\K C 0 i .ps [p] d/\br p+c<=B/\kb i c a j/\Kp (·=a) H j
theorem VW{k:List V}{l e:Int}(L:k[1]? =O (.aa l))(M:0<=e)(p:∀i,i<=2->∃d:Int,(0<=d/\d<7)/\k[2+i]? =O (.aa d))(h6:k[6]? =O (.aa e))(q:H[b]? =O (.af k))(F:kb u B a H)(s:b≠a):
  ∃v j,ag (m+3) 1056 [.ae b,.ae a] H=.ok v j/\VV u B a H v j:=by
 have f:a<H.length:=by refine aB F λt h t=>?_;exact hX h
 refine dn λw=>?_;obtain⟨c,g⟩:=xI (ji l (k:=4)<|D J).1;have hc:c<=3:=by have:=(ji l (k:=4)<|D J).2;lia
 obtain⟨N,j,e1,G,P,hlen,Q,⟨X,y,A⟩,x⟩:=VU (H:=H++[.af []]) M p h6 hc (fc f) ⟨s,fc<|hX q⟩ c 0 C [] U U U U U B (da _) (λt=>J) (cR q) (F.kp (P:=λt=>False) .j id) cD<|by simpa using hc
 obtain⟨S,Y⟩:=VT G 0 C P<|by rw[da,hlen]
 refine w<|iM J J<|b5 J (hY (cR q) L)<|ck J (fT<|D J)<|vO (l':=O (.ae b)::O (.ae a)::O (.ae H.length)::N) J (by rw[g];rfl) (aE hc<|D J) ?_ (bn J (qr (by rw[pj];exact Q) 0)<|gk J<|m3 (aK 71 [] G 0) _ X J (.ps Y<|aE (b7 hlen) hc) y ?_ ?_)
 ·rw[g,xF];exact e1
 ·exact dn λw=>aB A λr Z E=>w<|aD r (fm (mV f) Z) E
 ·have K:=Kp.j.q x;exact Kp.y (.inr<|bF _)<|K.u λi R z=>z.resolve_right<|fc R
end
section
variable{m n i:Nat}{H q:Hp}{a b o:Nat}{X:R (Fl×Lc)->Prop}{u:Cf}{j:List Kf}{l:Lc}
theorem JJ{f:V->Hp->R V}{g:V->V}:∀{c:List V},(∀x∈c,f x H=.ok (g x) H)->eZ f c H=.ok (c.map g) H:=by
 intro r
 induction r with
 |nil=>
  intro k;exact J
 |cons x r d=>
  intro h;show(match f x H with|.ok u H=>(eZ f r H).i λe H=>.ok (u::e) H|_=>.j)=_;rw[h x (.head _)];show R.i (eZ f r H) _=_;rw[d λy j=>h y (.tail _ j)];rfl
theorem JK{e x:E}{i k:Nat}{c:Hp}(f:az (ag m) x l H=.ok (.aa k) H)(g:k<=bg)(h:eZ (λv H=>az (ag m) e (l.set i<|O v) H) ((kl k).map λ(i:Nat)=>V.aa (i:Int)) H=.ok d c):az (ag m) (.lE e i x) l H=.ok (.ae c.length) (c++[.af d]):=by
 show R.i (az (ag m) x l H) _=_;rw[f];refine(aN ⟨qa k,sQ.mpr g⟩).trans ?_;rw[h];rfl
noncomputable def nY(r:Int):List V:=(kl 7).map λi=>V.aa<|r/((7^i:Nat):Int)%((7:Nat):Int)
noncomputable def JL:E:=.bJ .y (.bJ .q (.l 2)<|.bJ .rz (.c<|.aa 7)<|.l 8)<|.c<|.aa 7
theorem VX{r:Int}:az (ag m) (.lE JL 8<|.c<|.aa 7) [O d,O f,O (.aa r),O g,U,U,U,U,U] H=.ok (.ae H.length) (H++[.af (nY r)]):=by
 refine JK J (D J) ?_;have e:nY r=((kl 7).map λ(i:Nat)=>V.aa (i:Int)).map λv=>match v with|.aa i=>V.aa (r/((7^i.toNat:Nat):Int)%((7:Nat):Int))|v=>v:=by
  rfl
 rw[e];refine JJ λx h=>aB (ej.mp h) ?_;rintro j c rfl;have c:=adn.mp c;have hp:∀j,j<7->0<7^j/\7^j<bg:=by decide
 exact c9<|ck J ((aN ⟨by decide,by decide,by lia,by lia⟩).trans<|by rfl)<|ck J (mN<|hp j c)<|ck J (fT<|D J)<|aL J J
theorem wB{r:Int}:∀i,i<=6->∃d:Int,(0<=d/\d<7)/\(nY r)[i]? =O (.aa d):=λi c=>⟨_,ji _<|D J,by
 rw[qb,List.getElem?_range (Nat.lt_succ_of_le c)];rfl⟩
noncomputable def zi(i B:Nat)(e:List Nat)(fl:Int)(f:Bool)(H:Hp)(v:V)(q:Hp):Prop:=∃o p r g d,v=T.v (.nd 27 e [o.head?,O p,r,U] fl 0)/\K C 0 i .q o g/\K C 0 i .ps [p] d/\(f=I->r≠U)/\(∀k,r=O k->∃c,K C 0 i .am [k] c)/\j9 o.head? +(br p+j9 r)<=B/\Kp (λh=>False) H q
theorem wC{A:List Nat}{fl r:Int}{ty:Bool}{k:T}(Q:Kd i k)(Y:decide (fl%4096<2048)= !ty):∃v q,ag (m+4) 1068 [.ah A,.aa fl,.aa r,k.v] H=.ok v q/\zi i (br k) A fl ty H v q:=by
 refine dn λh=>aB (wB (r:=r) 0<|D J) λd0 q0 Z=>aB (wB (r:=r) 1<|D J) λd1 q1 e1=>aB (wB (r:=r) 5<|D J) λd5 E K=>aB (wB (r:=r) 6<|D J) λB S F=>h<|iM J J<|kG 1 (c':=.e (.lE JL 8<|.c<|.aa 7) [.i 4 (Gc.drop 1)] _ H) J<|gJ VX ?_;have hb:((H++[bY.af (nY r)])++[bY.af [k.v]])[H.length]? =O (.af<|nY r):=cR cD;have c:H.length≠(H++[bY.af (nY r)]).length:=by rw[bx];exact fc<|sP _
 refine dn λh=>aB (ul (H:=(H++[bY.af (nY r)])++[bY.af [k.v]]) (xs:=hZ.map V.ah) (ji B<|D J).1 (ji B<|D J).2) λnv W en=>aB (ej.mp W) ?_;rintro tn s rfl;refine h ?_;have d:∀{H1 H2:Hp},Kp (λG=>False) H H1->Kp (·=(H++[bY.af (nY r)]).length) H1 H2->Kp (λG=>False) H H2:=λx y=>by
  refine⟨aE x.bK y.bK,λj f G=>(y.jE j (iP f x.bK) λe=>?_).trans<|x.jE j f id⟩;rw[e,bx] at f;exact ax f<|rc.mpr<|d8 ..
 refine b5 J (hY hb Z)<|b5 J (hY hb F)<|ck J (fT<|D J)<|b5 J en<|pO J (VQ q0 s (dg (O k) cD (λk' e=>(by cases e;exact Q)) (bF _):kb i (br k) (H++[bY.af (nY r)]).length<|(H++[bY.af (nY r)])++[bY.af [k.v]])) λv1 H1 L=>?_;refine x7 L ?_;clear L;rintro o ws B1 rfl ko b1 t M;have g:=M.cO hb c;refine pO J (VW e1 S.1 (λj f=>by rw[kq];exact wB (j+2)<|L1 f) F g t c) λv2 H2 h2=>x7 h2 ?_;clear h2;rintro p u B2 rfl kp b2 w N;have z:=N.cO g c;refine b5 J (hY z K)<|pO J (VR E Y w) λv3 H3 h3=>?_;obtain⟨P,rfl,b3,t1,t2,x3⟩:=h3;exact gY [o.head?,O p,P,U] J<|gk J<|OR o p P ws u J ko kp t1 t2 (aE (jp (aE (jp b3 _) b2) _) b1)<|(d (d (d (Kp.j.q .j) M) N) x3).q .j
end
noncomputable def De:List (List Nat):=[[97],fL,bI,f3,gs,eY,[97,45,98],[],[48],[48,55],[49,101,51],f2,AV,fd,[52,50],[36,95]]
theorem VY(h:x∈De):x∈dY.map W.x∨x=bI:=by
 have:∀x∈De,x∈dY.map W.x∨x=bI:=by decide
 exact this x h
section
variable{m n i:Nat}{H u:Hp}
theorem JM(k:T):0+br k+1=br k+1:=by rw[da]
noncomputable def VZ(i B:Nat)(H:Hp)(v:V)(u:Hp):Prop:=∃t a,v=T.v t/\K C 0 i .i [t] a/\br t<=B+1/\Kp (λb=>False) H u
theorem zj(x:Int):x%((2:Nat):Int)=0∨x%((2:Nat):Int)=1:=by lia
theorem Df{B:Nat}{a:List Nat}{fl:Int}{v:V}(q:zi i B a fl C H v u):∃ks c,v=T.v (.nd 27 a ks fl 0)/\K C 0 i .sg [.nd 27 a ks fl 0] c/\br (.nd 27 a ks fl 0)<=B+1/\Kp (λj=>False) H u:=by
 refine dn λg=>?_;obtain⟨o,p,r,c,h,e,d,kp,_,kr,b,x⟩:=q;refine g ?_
 induction r using gC with
 |none=>exact m2 _ _ e (.ig d kp) (f1 b) x
 |some k=>obtain⟨f,kr⟩:=kr k J;exact m2 _ _ e (.g3 d kp kr) (f1 b) x
theorem JN{d:Int}{k:T}(g:Kd i k):∃v u,ag (m+5) 1075 [.aa d,k.v] H=.ok v u/\VZ i (br k) H v u:=by
 refine dn λe=>aB (ul (H:=H) (xs:=De.map V.ah) (j:=d/((6:Nat):Int)%((16:Nat):Int)) (ji _<|D J).1 (ji _<|D J).2) λB s en=>aB (ej.mp s) ?_;rintro x o rfl;refine e ?_;have o:=VY o;refine iM J J<|ck J (mN<|D J)<|ck J (fT<|D J)<|b5 J en<|ck J (mN<|D J)<|ck J (fT<|D J)<|et J (λj=>?_) λj=>?_
 all_goals generalize d/((96:Nat):Int)=c
 ·refine ck J (fT (k:=2)<|D J)<|ck J (sb ⟨by decide,by unfold bg;lia⟩)<|ck J (mN (k:=2)<|D J)<|ck J (fT (k:=2)<|D J)<|ck J (sb ⟨by decide,by unfold bg;lia⟩)<|ck J (mN<|D J)<|ck J (fT<|D J) ?_;have l:∀w,∃p,fR w p (4096*(c%((2:Nat):Int))+131072*(c/((2:Nat):Int)%((2:Nat):Int))):=λw=>by
   rcases zj c with h|h<;>rcases zj (c/((2:Nat):Int)) with h'|h'<;>rw[h,h']
   ·exact⟨_,.ga⟩
   ·exact⟨_,.ro⟩
   ·exact⟨_,.i⟩
   ·exact⟨_,.j⟩
  have f:∃n,(n∈dY∨n=wd bI)/\n.x=x:=o.elim (λh=>by
   refine aB (ej.mp h) λn y h2=>?_;exact aD n (.inl y) h2) λh=>aD _ (.inr J) h.symm
  refine dn λe=>aB f ?_;clear f;rintro n f rfl;obtain⟨w,l⟩:=l n;obtain⟨p,g⟩:=g;exact e<|j2 J (λj=>gY [U] J<|gk J<|m2 _ w J (.iJ f l) (dG _) .j) λj=>gY [O k] J<|gk J<|m2 _ _ J (.ii f l g) (ey _) .j
 refine ck J (fT<|D J)<|et J (λj=>?_) λj=>?_
 ·refine ck J (fT (k:=2)<|D J)<|ck J (sb ⟨by decide,by unfold bg;lia⟩)<|ck J (mN (k:=2)<|D J)<|pO J (wC (ty:=C) g<|dH<|by lia) λv u q=>gk J ?_;refine dn λe=>?_;clear s en;refine A6 (Df q) ?_;rintro ks p rfl q b r;have f:∃n,(n∈dY∨n=st bI fM)/\n.x=x:=o.elim (λh=>by
   refine aB (ej.mp h) λn y h2=>?_;exact aD n (.inl y) h2) λh=>aD _ (.inr J) h.symm
  clear o;clear o;refine aB f ?_;clear f;rintro n f rfl;refine e ?_
  rcases zj c with h|h<;>rw[h] at q⊢
  ·exact m2 _ _ J (.g4 f .ga (.inl J) q) b r
  ·exact m2 _ _ J (.g4 f .i (.inr J) q) b r
 refine ck J (fT<|D J)<|et J (λj=>?_) λj=>?_
 ·refine pO J (wC (ty:=C) g J) λv u q=>gk J<|dn λe=>A6 (Df q) ?_;rintro ks p rfl q b r;exact e<|m2 _ _ J (.ij q) b r
 refine ck J (fT<|D J)<|et J (λj=>?_) λj=>?_
 ·refine pO J (wC (ty:=C) g J) λv u q=>gk J<|dn λe=>A6 (Df q) ?_;rintro ks p rfl q b r;exact e<|m2 _ _ J (.ik q) b r
 refine dn λe=>aB (ul (H:=H) (xs:=[.ah [107],.ah fL]) (j:=c/((2:Nat):Int)%((2:Nat):Int)) (ji _<|D J).1 (ji _<|D J).2) λav z A=>?_;have t:∃a,av=.ah a/\(a=[107]∨a=fL):=by
  cases z with
  |head=>exact aD _ J<|.inl J
  |tail _ h=>cases h with
   |head=>exact aD _ J<|.inr J
   |tail _ h=>cases h
 refine aB t ?_;clear t;rintro a rfl t;have l:∃w,w=[]/\131072*(c%((2:Nat):Int))=0∨w=[nm fL,sp]/\131072*(c%((2:Nat):Int))=131072:=by
  rcases zj c with h|h<;>rw[h]
  ·exact⟨_,.inl ⟨J,J⟩⟩
  ·exact⟨_,.inr ⟨J,J⟩⟩
 obtain⟨w,l⟩:=l;obtain⟨p,g⟩:=g;exact e<|ck J (mN (k:=2)<|D J)<|ck J (fT<|D J)<|b5 J A<|bn J (rP 80 _ 0)<|ck J (fT (k:=2)<|D J)<|ck J (sb ⟨by decide,by unfold bg;lia⟩)<|gY [O (c7 80 kT 0),O k] J<|gk J<|m2 _ _ J (.il l t g) (b7<|JM _)<|Kp.j.q .j
end
theorem wD:∀(a b:List<|Option T),e8 (a++b)=e8 a+e8 b:=by
 intro r
 induction r with
 |nil=>
  intro b;exact(da _).symm
 |cons o r c=>
  intro b;show j9 o+e8 (r++b)=j9 o+e8 r+e8 b;rw[c b,kt]
noncomputable def sd(p:T×Nat):V:=.u [p.1.v,.aa p.2]
noncomputable def JO(p:T×Nat):Option T:=O p.1
structure V0(a b n B:Nat)(st:List (T×Nat))(rs:List T)(H:Hp):Prop where
 hs:H[a]? =some (.af (st.map sd))
 hr:H[b]? =some (.af (rs.map T.v))
 ks:∀p∈st,Kd (p.2-1) p.1/\1<=p.2/\p.2<=3
 kr:∀k∈rs,Kd 2 k
 ln:st.length+rs.length<=n
 bb:e8 (st.map JO)+e8 (rs.map some)<=B
inductive SR(a b n B:Nat)(H:Hp):Prop where
 |mk (st:List (T×Nat)) (rs:List T) (h:V0 a b n B st rs H)
section
variable{m n i a b o:Nat}{H j:Hp}{X:R (Fl×Lc)->Prop}{u:Cf}{q:List Kf}{l:Lc}{v:V}
theorem SR.kp{P:Nat->Prop}(h:SR a b n B H)(x:Kp P H j)(c:¬P a)(d:¬P b):SR a b n B j:=by
 obtain⟨st,rs,e,h2,f,h4,g,k⟩:=h;exact⟨st,rs,x.cO e c,x.cO h2 d,f,h4,g,k⟩
inductive JP(a b n B:Nat)(H:Hp)(v:V)(j:Hp):Prop where
 |mk (k:T) (h B':Nat) (hv:v=.u [k.v,.aa h]) (hk:Kd (h-1) k) (h1:1<=h/\h<=2) (hB:br k+B'<=B) (hr:SR a b n B' j) (x:Kp (λx=>x=a∨x=b) H j)
theorem V1(h:SR a b n B H)(f:a≠b)(y:n<bg):∃v j,ag (m+3) 1082 [.ae a,.ae b] H=.ok v j/\JP a b n B H v j:=by
 refine dn λA=>?_;obtain⟨st,rs,hs,hr,ks,kr,ln,bb⟩:=h;refine A ?_;have dflt:∀{H1:Hp} {u w:Option V},SR a b n B H1->Kp (λx=>x=a∨x=b) H H1->Jd (GX<|JP a b n B H) (m+2) (.s (Gb.drop 1) [] [O (.ae a),O (.ae b),u,w] H1):=λ{H1 u w} F x=>
  bn J (C6 [65]) (gk J ⟨_,1,B,J,JC,⟨bF _,ey _⟩,b7<|da B,F.kp (P:=λL=>False) .j id id,x.q .j⟩)
 rcases Nm st with rfl|⟨c,⟨k,h⟩,rfl⟩
 ·exact iM rfl rfl<|fD rfl (nX hs)<|bh rfl rfl<|bf rfl<|dflt ⟨_,rs,hs,hr,ks,kr,ln,bb⟩ .refl
 have e:H[a]? =O (.af<|c.map sd++[sd (k,h)]):=by rw[hs,Aq,dz];rfl
 rw[Aq] at ks ln bb;rw[dz,wD] at bb;rw[bx] at ln;have ka:=ks (k,h)<|dm _<|.head _;have g:∀p∈c,Kd (p.2-1) p.1/\1<=p.2/\p.2<=3:=λp hp=>ks p<|fh _ hp;have q:e8 (c.map JO)+br k+e8 (rs.map O)<=B:=bb;have r:c.length+1+rs.length<=n:=ln;have d:(H.set a<|.af<|c.map sd)[b]? =O (.af<|rs.map T.v):=fm f hr;have s:(H.set a<|.af<|c.map sd)[a]? =O (.af<|c.map sd):=fk hs;refine iM J J<|fD J (nX e)<|cy J (dH ?_)<|yD J e<|vP J J J<|et J (λz=>?_) λz=>?_
 ·rw[bx];exact ado.mpr<|NA _
 ·have z:=D z;exact gk J ⟨k,h,_,J,ka.1,⟨ka.2.1,by lia⟩,by rw[<-kt,kq (br k)];exact q,⟨c,rs,s,d,g,kr,L1 ln,bF _⟩,.y (.inl<|.inl J) .refl⟩
 ·have z:=jw z;have G:h=3:=by have:=ka.2.2;lia
  clear e ln bb ks z hs;clear z;subst G;refine fZ J d<|i6 J d (by rw[c5];exact L2 y r)<|bf J<|dflt ⟨c,rs++[k],fm (eH f) s,?_,g,?_,?_,?_⟩ ?_
  ·rw[fk d,dz];rfl
  ·intro M t
   rcases eV.mp t with h|h
   ·exact kr _ h
   ·clear t
    cases h with
    |head=>exact ka.1
    |tail _ h=>cases h
  ·rw[bx];show c.length+(rs.length+1)<=n;exact L1 r
  ·rw[dz,wD];show _+(_+(br k+0))<=B;exact L1 q
  ·exact .y (.inl<|.inr J)<|.y (.inl<|.inl J) .refl
end
noncomputable def Dg:List S:=[.iW [11,12] (.ao 1082 [.l 1,.l 2]),.ex (.aO (.l 7) .q [.l 11]),.i 8 (.bi .i [.l 8,.l 12])]
section
variable{m n i a b c:Nat}{H u:Hp}{M y F G N q j:Option V}
noncomputable abbrev kL(a b c f:Nat)(M y F G N g q d e j:Option V):Lc:=[M,O (.ae a),O (.ae b),y,F,G,N,O (.ae c),O (.aa f),g,q,d,e,j]
structure gN(a b c n B:Nat)(ks:List T)(k:Nat)(H u:Hp)(ks':List T)(mx B':Nat):Prop where
 sr:SR a b n B' u
 hc:u[c]? =some (.af (ks'.map T.v))
 kd:∀t∈ks',1<=mx/\Kd (mx-1) t
 hm:mx<=2
 ln:ks'.length=ks.length+k
 bb:e8 (ks'.map some)+B'<=e8 (ks.map some)+B
 kp:Kp (λx=>x=a∨x=b∨x=c) H u
inductive V2(a b c n B:Nat)(ks:List T)(k:Nat)(M y F G N q j:Option V)(H:Hp)(l':Lc)(u:Hp):Prop where
 |mk (ks':List T) (mx B':Nat) (l9 l11 l12:Option V) (hl:l'=kL a b c mx M y F G N l9 q l11 l12 j) (h:gN a b c n B ks k H u ks' mx B')
theorem V3(x y:Nat):f7 .i [.aa x,.aa y] H=.ok (.aa ((if x<y then y else x:Nat):Int)) H:=by
 show R.ok (V.aa<|if(x:Int)<y then(y:Int) else x) H=_
 by_cases h:x<y
 ·rw[aN h,aN (sN.mpr h)]
 ·rw[a9 h,a9 λz=>h (sN.mp z)]
theorem V4{l:List T}{r d e:Option V}(s:a≠b)(p:a≠c/\b≠c)(X:n<bg)(Y:SR a b n B H)(Z:H[c]? =O (.af<|l.map T.v))(P:∀t∈l,1<=g/\Kd (g-1) t)(E:g<=2)(K:l.length<bg):
  ∃Q u,aZ (ag<|m+3) Dg (kL a b c g M y F G N r q d e j) H=.ok (.aU,Q) u/\∃w o A r d e,Q=kL a b c o M y F G N r q d e j/\gN a b c n B l 1 H u w o A:=by
 refine Db<|pO J (V1 Y s X) λv H1 ⟨k,h,A,R,k1,L,S,hr,x⟩=>?_;refine dn λW=>?_;subst R;refine W ?_;have f:=x.cO Z λz=>z.elim (eH p.1)<|eH p.2;refine vP J J J<|fZ J f<|i6 J f (by rw[c5];exact K)<|fD J (V3 g h)<|Dc J ⟨l++[k],_,A,_,_,_,J,?_,?_,?_,?_,?_,?_,?_⟩
 ·exact hr.kp (P:=(·=c)) (.y (.inl J) .refl) p.1 p.2
 ·rw[fk f,dz];rfl
 ·intro t ht
  by_cases z:g<h
  ·rw[aN z];refine⟨L.1,?_⟩
   rcases eV.mp ht with ht|ht
   ·exact(P t ht).2.up<|by lia
   ·cases ht with
    |head=>exact k1
    |tail _ ht=>cases ht
  ·rw[a9 z];have z:=sO z
   rcases eV.mp ht with ht|ht
   ·exact P t ht
   ·cases ht with
    |head=>exact⟨aE L.1 z,k1.up<|Nat.sub_le_sub_right z 1⟩
    |tail _ ht=>cases ht
 ·split;exact L.2;exact E
 ·rw[bx];rfl
 ·rw[dz,wD,kt];exact jp S _
 ·exact .y (.inl<|.inr<|.inr J)<|x.u λξ ξ z=>z.elim .inl λz=>.inr<|.inl z
theorem V5(o:a≠b)(hc:a≠c/\b≠c)(hn:n<bg):∀(k s:Nat) (ks:List T) (f:Nat) (H:Hp) (h d e:Option V) (B:Nat),SR a b n B H->H[c]? =O (.af<|ks.map T.v)->(∀t∈ks,1<=f/\Kd (f-1) t)->f<=2->ks.length+k<=3->
  ∃l' u,dp (λv l H=>aZ (ag<|m+3) Dg (l.set 9<|O v) H) ((ll s k).map λ(i:Nat)=>V.aa (i:Int)) (kL a b c f M y F G N h q d e j) H=.ok (.aU,l') u/\V2 a b c n B ks k M y F G N q j H l' u:=by
 intro k
 induction k with
 |zero=>
  intro s ks f H h d e B sr p kd hm r;exact⟨_,H,J,ks,f,B,h,d,e,J,sr,p,kd,hm,J,bF _,.refl⟩
 |succ k ih=>
  intro s ks f H h d e B sr p kd hm r;refine dn λkk=>?_;obtain⟨l1,H1,r1,w,x,B1,m9,z,A,rfl,L,P,Q,X,g,Y,x1⟩:=V4 o hc hn sr p kd hm<|jt (aE (d8 _ _) r)<|D J;obtain⟨l2,H2,r2,Z,E,B2,o9,K,R,rfl,S,W,kd2,hm2,ln2,bb2,x2⟩:=ih (s+1) w x H1 m9 z A B1 L P Q X<|L2 r<|b7 g;refine kk<|⟨_,H2,?_,Z,E,B2,o9,K,R,J,S,W,kd2,hm2,by rw[ln2,g,kt,kq 1],aE bb2 Y,x1.q x2⟩;show(match aZ (ag<|m+3) Dg (kL a b c f M y F G N (O<|.aa s) q d e j) H with|.ok (.aU,l) H=>_|.ok (.q,l) H=>_|.ok (.u,l) H=>_|.ok (.am v,l) H=>_|_=>_)=_;rw[r1];exact r2
end
section
variable{m n i a b c:Nat}{H j:Hp}{l:Lc}
theorem V6{P:T->T->Prop}{f:V->Hp->R V}{g:List T}(o:∀(j:Nat) (k:T),g[j]? =O k->∀H1,Kp (λd=>False) H H1->∃t H2,f (.aa (j:Int)) H1=.ok (T.v t) H2/\P k t/\Kp (λd=>False) H1 H2):∀(r pre:List T) (H1:Hp),g=pre++r->Kp (λd=>False) H H1->∃ts H2,eZ f ((ll pre.length r.length).map λ(i:Nat)=>V.aa (i:Int)) H1=.ok (ts.map T.v) H2/\A2 P r ts/\Kp (λd=>False) H1 H2:=by
 intro r
 induction r with
 |nil=>
  intro pre H1 d d;exact cL [] H1 J .nil .refl
 |cons k r p=>
  intro pre H1 e x;refine dn λq=>cV (o pre.length k (by rw[e];exact(ra<|bF _).trans (by rw[p9];rfl)) H1 x) λt H2 e1 s h=>cV (p (pre++[k]) H2 (by rw[e,b6];rfl)<|x.q h) λts v e2 rs w=>q<|cL (t::ts) v ?_ (.cons s rs)<|h.q w;show(match f (.aa ((pre.length:Nat):Int)) H1 with|.ok u H=>(eZ f ((ll (pre.length+1) r.length).map λ(i:Nat)=>V.aa (i:Int)) H).i λy H=>.ok (u::y) H|_=>.j)=_;rw[e1];rw[bx] at e2;show R.i (eZ f ((ll (pre.length+[k].length) r.length).map λ(i:Nat)=>V.aa (i:Int)) H2) _=_;rw[e2];rfl
theorem JQ{P:T->T->Prop}{i:Nat}{e x:E}{d:List T}(g:az (ag m) x l H=.ok (.aa (d.length:Nat)) H)(h:d.length<=bg)(o:∀(j:Nat) (k:T),d[j]? =O k->∀H1,Kp (λf=>False) H H1->∃t H2,az (ag m) e (l.set i<|O<|.aa (j:Int)) H1=.ok (T.v t) H2/\P k t/\Kp (λf=>False) H1 H2):
  ∃ts H1,az (ag m) (.lE e i x) l H=.ok (.ae H1.length) (H1++[.af (ts.map T.v)])/\A2 P d ts/\Kp (λf=>False) H H1:=by
 refine dn λp=>cV (V6 (f:=λv H=>az (ag m) e (l.set i<|O v) H) o d [] H J .refl) λts H1 e1 rs q=>p<|cL ts H1 ?_ rs q;rw[lj,<-xF] at e1;exact JK g h e1
theorem JR:∀(ks:List T),ks≠[]->(∀k∈ks,Kd i k)->∃d,K C 0 i .nN ks d
 |[],h,_=>ax J h
 |[k],_,h=>by obtain⟨d,h⟩:=h k (.head _);exact⟨_,.iG h⟩
 |k::e::r,_,h=>by
  obtain⟨f,g⟩:=JR (e::r) jy λx j=>h x<|.tail _ j;obtain⟨d,h⟩:=h k (.head _);exact⟨_,.ib h g⟩
theorem um{j:Bool}(h:Kd i k):∃d,K C 0 i (.u j) [k] d:=by
 refine dn λf=>?_;obtain⟨d,h⟩:=h;refine f ?_
 cases e:gf j k.aq with
 |true=>exact⟨_,.jb e h⟩
 |false=>exact⟨_,.iE (.inr e) h⟩
theorem JS:∀(ks:List T),ks≠[]->(∀k∈ks,Kd i k)->∃d,K C 0 i .nO ks d
 |[],h,_=>ax J h
 |[k],_,h=>by obtain⟨d,h⟩:=um (h k<|.head _);exact⟨_,.iF h⟩
 |k::e::r,_,h=>by
  obtain⟨f,g⟩:=JS (e::r) jy λx j=>h x<|.tail _ j;obtain⟨d,h⟩:=um (h k<|.head _);exact⟨_,.ia h g⟩
structure wE(i:Nat)(k t:T):Prop where
 w:∃ws,K false 0 i .i [t] ws
 b:br t<=br k+1
theorem JT{e f:List T}(h:A2 (wE i) e f):e≠[]->∃g,K C 0 i .j f g:=by
 induction h with
 |nil=>exactλh=>ax J h
 | @cons k t r s h hr d=>
  intro _;obtain⟨g,j⟩:=h.w
  induction hr with
  |nil=>exact⟨_,.ms1 j⟩
  |cons q o=>obtain⟨p,d⟩:=d jy;exact⟨_,.gA (.inl J) j d⟩
theorem JU{d e:List T}(h:A2 (wE i) d e):e8 (e.map O)<=e8 (d.map O)+d.length/\e.length=d.length:=by
 induction h with
 |nil=>exact⟨bF _,J⟩
 | @cons k t r s h hr f=>
  refine⟨?_,bH (·+1) f.2⟩;have:=h.b;show br t+e8 (s.map O)<=br k+e8 (r.map O)+(r.length+1);exact L2 f.1 this
end
noncomputable def qK:List S:=match Ga with
 |[_,_,.y _ _ b,_]=>b
 |_=>[]
noncomputable def zk:E:=.u [.l 10,.bJ .i (.l 8) (.c<|.aa 1)]
inductive zm(a b:Nat):Lc->Prop where
 |mk (N q X Y l6 l7 l8 M u j y G:Option V):zm a b [N,some (.ae a),some (.ae b),q,X,Y,l6,l7,l8,M,u,j,y,G]
structure sf(a b n B:Nat)(H:Hp)(l':Lc)(F:Hp):Prop where
 lc:zm a b l'
 sr:SR a b n B F
 kp:Kp (λx=>x=a∨x=b) H F
 ne:F[a]? ≠some (.af [])
section
variable{m n i a b c:Nat}{H B F:Hp}{N q X Y l6 M u j y G:Option V}{Q:Cf}
theorem zo{d B g:Nat}{t:T}(e:go Q=.v (.ae a) [.dK .q [zk],.ex []] (kL a b c d N q X Y l6 M (O t.v) j y G) F)(f:a≠b)(k:n<bg)(l:Kd d t)(o:d<=2)(r:br t+g<=B)(s:SR a b n g F)(x:Kp (λx=>x=a∨x=b) H F):Jd (BX<|sf a b (n+1) B H) m Q:=by
 refine dn λu=>?_;obtain⟨st,rs,hs,hr,ks,kr,ln,bb⟩:=s;refine u<|fZ e hs<|i6 (u:=sd (t,d+1)) J hs (by rw[c5];exact L2 k ln)<|Dc J ⟨.mk ..,⟨st++[(t,d+1)],rs,?_,?_,?_,kr,?_,?_⟩,.y (.inl<|.inl J) x,?_⟩
 ·rw[fk hs,dz];rfl
 ·exact fm f hr
 ·intro p hp
  rcases eV.mp hp with hp|hp
  ·exact ks p hp
  ·cases hp with
   |head=>exact⟨l,NA _,gp o⟩
   |tail _ h=>cases h
 ·rw[bx];show st.length+1+rs.length<=n+1;exact L1 ln
 ·rw[dz,wD];show _+(br t+0)+_<=B;exact L2 r bb
 ·rw[fk hs];intro h;exact ax (bH NB<|by injection cT h) (by rw[bx];exact Nat.succ_ne_zero _)
noncomputable abbrev JV(q:Int):V:=.u [.aa 0,.aa (q%((3:Nat):Int)),.aa (2+q%((2:Nat):Int)),.aa 2,.aa 1,.aa (q%((4:Nat):Int)),.aa 1,.aa 1,.aa 1,.aa 1]
theorem V7{Q:Lc->Hp->Prop}{x d:Int}{cn B:Nat}(f:a≠b)(v:n<bg)(w:x%((10:Nat):Int)=d)(z:∀H,f6 (JV<|x/((10:Nat):Int)) (.aa d) H=.ok (.aa (cn:Int)) H)(r:cn<=3)(A:SR a b n B H)(g:a<H.length)(k:b<H.length)
  (q:∀ks e l F M j y,gN a b H.length n B [] cn (H++[.af []]) F ks e l->Jd (BX Q) (m+5) (.s (qK.drop 6) [] (kL a b H.length e N (O<|.aa x) (O<|.aa d) (O<|.aa<|x/((10:Nat):Int)) (O<|.aa (cn:Int)) M u j y G) F)):
  Jd (BX Q) (m+5) (.s qK [] [N,O (.ae a),O (.ae b),O (.aa x),X,Y,l6,s,t,M,u,j,y,G] H):=by
 refine dn λL=>?_;obtain⟨E,F,e1,ks,e,l,P,o,p,rfl,Z⟩:=V5 (m:=m+2) f ⟨fc g,fc k⟩ v cn 0 [] 0 (H++[.af []]) M j y B (A.kp (P:=λK=>False) .j id id) cD (λ_ h=>ax h eW) (dG _) (by rw[lj,da];exact r);refine L<|ck J ((fT<|D J).trans<|by rw[w])<|ck J (mN<|D J)<|ck J (fT<|D J)<|ck J (fT<|D J)<|ck J (fT<|D J)<|b5 J (z H)<|vO J J (aE r<|D J) ?_ (bf J<|q ks e l F P o p Z);rw[xF];exact e1
end
section
variable{m n i a b B cn u Q:Nat}{H y:Hp}{X l3 l4 l5 l6 Y N G M F:Option V}{cf:Cf}{ks:List T}{q:Int}
theorem gN.j(c:gN a b H.length n B [] cn (H++[.af []]) y ks u Q):Kp (λx=>x=a∨x=b) H y:=(Kp.j.q c.kp).u λi d z=>z.elim .inl λz=>.inr<|z.resolve_right<|fc d
theorem gN.br(c:gN a b H.length n B [] cn (H++[.af []]) y ks u Q):e8 (ks.map O)+Q<=B:=aE c.bb<|b7<|da B
theorem gN.bK(c:gN a b H.length n B [] cn (H++[.af []]) y ks u Q):ks.length=cn:=c.ln.trans<|da cn
theorem gN.up(c:gN a b H.length n B [] cn (H++[.af []]) y ks u Q)(h:ks≠[]):∃j,u=j+1/\∀t∈ks,Kd j t:=by
 induction ks using aV with
 |nil=>exact ax J h
 |cons t r=>exact aD (u-1) (by have:=(c.kd t<|.head _).1;lia) λt ht=>(c.kd t ht).2
theorem wF{k:Int}{d:List Nat}{j:List Kf}{l:Lc}(e:go cf=.ao .aK [.aa k,.ah d,.ae H.length,.aa 0] j l y)(o:∀v H2,go (.v v j l H2)=.v (.ae a) [.dK .q [zk],.ex []] (kL a b H.length u X l3 l4 l5 l6 Y (O v) G M F) H2)(f:a≠b)(g:a<H.length)(h:b<H.length)(p:n<bg)
  (c:gN a b H.length n B [] cn (H++[.af []]) y ks u Q)(r:Kd u<|aK k d ks 0):Jd (BX<|sf a b (n+1) (B+3) H) (m+5) cf:=by
 refine bn e (vK (by rw[pj];exact c.hc) k d 0) (zo (o _ _) f p r c.hm ?_ (c.sr.kp (P:=(·=H.length)) (.y (.inl J) .refl) (fc g)<|fc h)<|.y (.inr<|bF _) c.j);show e8 (ks.map O)+(if k=85∨k=63 then 1 else 0)+Q<=B+3;have:=c.br;split<;>exact L1 this<|by simp+arith only
noncomputable abbrev pQ(m n a b B u:Nat)(H:Hp)(X l3:Option V)(d q:Int)(cn:Nat)(Y N G M F:Option V)(y:Hp):Prop:=Jd (BX<|sf a b (n+1) (B+3) H) (m+5)<|.s (qK.drop 6) [] (kL a b H.length u X l3 (O<|.aa d) (O<|.aa q) (O<|.aa (cn:Int)) Y N G M F) y
theorem V8(d:a≠b)(f:n<bg)(c:gN a b H.length n B [] cn (H++[.af []]) y ks u Q):pQ m n a b B u H X l3 0 q cn Y N G M F y:=by
 refine dn λg=>aB (ul (H:=y) (xs:=(qC.take 4).map V.ah) (j:=q%((4:Nat):Int)) (ji _<|D J).1 (ji _<|D J).2) λj e en=>aB (ej.mp e) ?_;rintro x h rfl;exact g<|cp 20 J<|ck J (fT (k:=4)<|D J)<|b5 J en<|bn J (rP 80 _ 0)<|zo J d f ⟨_,.i9<|adp h⟩ c.hm (by show 0+Q<=B+3;have:=c.br;exact L1 this) (c.sr.kp (P:=λk=>False) .j id id)<|c.j.q .j
theorem V9(e:a≠b)(f:a<H.length)(g:b<H.length)(o:n<bg)(p:cn<=3)(k:gN a b H.length n B [] cn (H++[.af []]) y ks u Q):pQ m n a b B u H X l3 1 q cn Y N G M F y:=by
 refine dn λl=>aB (ul (H:=y) (xs:=[[66],gF,eY,rj].map V.ah) (j:=q/((3:Nat):Int)%((4:Nat):Int)) (ji _<|D rfl).1 (ji _<|D rfl).2) λv c en=>aB (ej.mp c) ?_;rintro x d rfl;refine l ?_;have d:x∈iC∨x=gF:=by
  have:∀x∈[[66],gF,eY,rj],x∈iC∨x=gF:=by decide
  exact this x d
 refine cp 20 rfl<|ck rfl (mN (k:=3)<|D rfl)<|ck rfl (fT<|D rfl)<|b5 rfl en<|wF rfl (λr r=>rfl) e f g o k ?_
 by_cases h:ks=[]
 ·subst h;exact⟨_,.ae d⟩
 ·clear l c;refine aB (k.up h) ?_;rintro j rfl s;obtain⟨w,t⟩:=JR ks h s;exact⟨_,.ja d t ⟨h,aE (b7 k.bK) p⟩⟩
theorem Wa(c:a≠b)(d:a<H.length)(e:b<H.length)(l:n<bg)(o:2<=cn/\cn<=3)(f:gN a b H.length n B [] cn (H++[.af []]) y ks u Q):pQ m n a b B u H X l3 2 q cn Y N G M F y:=by
 refine cp 200 rfl<|wF rfl (λp p=>rfl) c d e l f ?_;have g:=f.bK
 induction ks using aV with
 |nil=>exact ax g (by show¬0=cn;lia)
 |cons t r=>
  refine aB (f.up jy) ?_;rintro j rfl k
  induction r using aV with
  |nil=>exact ax g (by show¬1=cn;lia)
  |cons s r=>
   obtain⟨A,v⟩:=um<|k t<|.head _;obtain⟨w,h⟩:=JS (s::r) jy λx z=>k x<|.tail _ z;exact⟨_,.un v h (by have:r.length+1+1=cn:=g;show r.length+1<=2;exact L2 o.2<|b7 this)⟩
theorem Wb{l:List T}(h:l.length=2):∃x y,l=[x,y]:=by
 induction l using aV with
 |nil=>exact ax h<|D J
 |cons x l=>exact(ND.mp<|E5 h).elim λy e=>gv x y<|bH _ e
theorem Wc(c:a≠b)(d:a<H.length)(e:b<H.length)(k:n<bg)(f:gN a b H.length n B [] 2 (H++[.af []]) y ks u Q):pQ m n a b B u H X l3 3 q 2 Y N G M F y:=by
 refine cp 200 rfl<|wF rfl (λl l=>rfl) c d e k f ?_
 ·refine jx (Wb f.bK) ?_;rintro t o rfl;refine aB (f.up jy) ?_;rintro j rfl h;obtain⟨s,p⟩:=um<|h t<|.head _;obtain⟨r,g⟩:=um<|h o<|.tail _<|.head _;exact⟨_,.aa p g⟩
theorem Wd(c:a≠b)(d:a<H.length)(e:b<H.length)(g:n<bg)(f:gN a b H.length n B [] 1 (H++[.af []]) y ks u Q):pQ m n a b B u H X l3 4 q 1 Y N G M F y:=by
 refine cp 200 rfl<|wF rfl (λh h=>rfl) c d e g f ?_
 ·obtain⟨t,rfl⟩:=ND.mp f.bK;refine aB (f.up jy) ?_;rintro j rfl k;obtain⟨o,l⟩:=um<|k t<|.head _;exact⟨_,.gc l⟩
theorem We(c:a≠b)(d:a<H.length)(e:b<H.length)(g:n<bg)(f:gN a b H.length n B [] 1 (H++[.af []]) y ks u Q):pQ m n a b B u H X l3 8 q 1 Y N G M F y:=by
 refine cp 200 rfl<|wF rfl (λh h=>rfl) c d e g f ?_
 ·obtain⟨t,rfl⟩:=ND.mp f.bK;refine aB (f.up jy) ?_;rintro j rfl k;obtain⟨o,l⟩:=k t<|.head _;exact⟨_,.gL l⟩
end
noncomputable def Wf:E:=.ao 1075 [.bJ .q (.l 5) (.bJ .i (.c<|.aa 2)<|.bJ .j (.c<|.aa 3)<|.l 9),.y (.l 7) (.l 9)]
section
variable{m n i a b B cn M B':Nat}{H G:Hp}{X l3 j l5 l6 Y Q y F u:Option V}{N:Cf}{ks:List T}{q:Int}
theorem Wh{fl:Int}{k:T}{v:V}{c d:Hp}(j:fl=2048∨fl=3072)(h:zi i (br k) [] fl I c v d):∃t,v=T.v t/\Kd (i+1) t/\br t<=br k/\Kp (λs=>False) c d:=by
 refine dn λe=>?_;obtain⟨o,p,r,u,l,rfl,f,kp,hr,kr,b,x⟩:=h;refine e ?_;clear e
 induction r using gC with
 |none=>exact ax J<|hr J
 |some r=>
  obtain⟨g,kr⟩:=kr r J
  rcases j with rfl|rfl
  ·exact F3 _ rfl ⟨_,.fn (.inl ⟨rfl,rfl⟩) f kp kr⟩ b x
  ·exact F3 _ rfl ⟨_,.fn (.inr ⟨rfl,rfl⟩) f kp kr⟩ b x
theorem JW{d fl:Int}(p:d=6/\fl=2048∨d=7/\fl=3072)(g:a≠b)(r:a<H.length)(s:b<H.length)(w:n<bg)(c:gN a b H.length n B [] 1 (H++[.af []]) G ks M B'):pQ m n a b B M H X l3 d q 1 Y Q y F u G:=by
 obtain⟨k,rfl⟩:∃k,ks=[k]:=by
  match ks,c.bK with
  |[t],_=>exact⟨t,J⟩
 refine aB (c.up jy) ?_;rintro j rfl l;have bb:br k+B'<=B:=c.br;have f:∀{fl:Int} {N:Cf} {v:V} {H1:Hp},fl=2048∨fl=3072->zi j (br k) [] fl I G v H1->go N=.v (.ae a) [.dK .q [zk],.ex []] (kL a b H.length (j+1) X l3 (O<|.aa d) (O<|.aa q) (O<|.aa 1) Y (O v) y F u) H1->Jd (BX<|sf a b (n+1) (B+3) H) (m+5) N:=by
  intro fl N v H1 A h e;refine dn λL=>F0 (Wh A h) ?_;rintro t rfl ht P x;exact L<|zo e g w ht c.hm (L2 bb P) (c.sr.kp x id id)<|c.j.q<|x.u λZ Z z=>z.elim
 have o:f6 (.ae H.length) (.aa 0) G=.ok k.v G:=hY c.hc J
 rcases p with⟨rfl,rfl⟩|⟨rfl,rfl⟩
 ·exact bh rfl rfl<|bh rfl rfl<|dP rfl rfl<|bh rfl rfl<|dP rfl rfl<|cy rfl rfl<|ck (v:=.aa 0) rfl rfl<|ck rfl rfl<|b5 rfl o<|pO rfl (wC (l k<|.head _) rfl) λv H1 h=>f (.inl rfl) h rfl
 ·exact bh J J<|bh J J<|dP J J<|bh J J<|dP J J<|cy J J<|ck (H':=G) J J<|ck J J<|b5 J o<|pO J (wC (l k<|.head _) J) λv H1 h=>f (.inr J) h J
theorem Wi{j c:Nat}{l:Lc}{d:Hp}(g:l[5]? =O (O<|.aa q))(h:l[7]? =O (O<|.ae c))(o:l[9]? =O (O<|.aa (j:Int)))(e:j<3)(p:d[c]? =O (.af<|ks.map T.v))(r:ks[j]? =O k)(s:Kd i k):∃t H2,az (ag<|m+5) Wf l d=.ok (T.v t) H2/\wE i k t/\Kp (λM=>False) d H2:=by
 refine dn λu=>?_;obtain⟨v,H2,e1,t,y,rfl,w,z,x⟩:=JN s (H:=d);refine u ?_;have f:az (ag<|m+5) (.l 9) l d=.ok (.aa (j:Int)) d:=k8 o;have A:az (ag<|m+5) (.bJ .q (.l 5)<|.bJ .i (.c<|.aa 2)<|.bJ .j (.c<|.aa 3)<|.l 9) l d=.ok (.aa<|q/((2+3*j:Nat):Int)) d:=by
  have z1:az (ag<|m+5) (.bJ .j (.c<|.aa 3)<|.l 9) l d=.ok (.aa<|3*(j:Int)) d:=by
   show(az (ag<|m+5) (.l 9) l d).i (λw H=>fO .j (.aa 3) w H)=_;rw[f];exact sb ⟨by decide,by unfold bg;lia⟩
  have F:az (ag<|m+5) (.bJ .i (.c<|.aa 2)<|.bJ .j (.c<|.aa 3)<|.l 9) l d=.ok (.aa<|2+3*(j:Int)) d:=by
   show(az (ag<|m+5) (.bJ .j (.c<|.aa 3)<|.l 9) l d).i (λw H=>fO .i (.aa 2) w H)=_;rw[z1];rfl
  show(az (ag<|m+5) (.l 5) l d).i (λv H=>(az (ag<|m+5) (.bJ .i (.c<|.aa 2)<|.bJ .j (.c<|.aa 3)<|.l 9) l H).i λw H=>fO .q v w H)=_;rw[k8 g,jD,F];exact mN ⟨(by simp+arith only),by unfold bg;exact L3 e e e⟩
 have G:az (ag<|m+5) (.y (.l 7)<|.l 9) l d=.ok k.v d:=by
  show(az (ag<|m+5) (.l 7) l d).i (λv H=>(az (ag<|m+5) (.l 9) l H).i λw H=>f6 v w H)=_;rw[k8 h,jD,f];exact hY p (by rw[qb,r];rfl)
 refine cL t H2 ?_ ⟨⟨y,w⟩,z⟩ x;show(cu (ag<|m+5) [.bJ .q (.l 5) (.bJ .i (.c<|.aa 2)<|.bJ .j (.c<|.aa 3)<|.l 9),.y (.l 7) (.l 9)] l d).i (λL H=>ag (m+5) 1075 L H)=_;rw[tJ A (tJ G J)];exact e1
theorem JX{d:Int}(t:d=5∨d=9)(o:a≠b)(v:a<H.length)(w:b<H.length)(A:n<bg)(l:cn<=3)(c:gN a b H.length n B [] cn (H++[.af []]) G ks M B'):pQ m n a b B M H X l3 d q cn Y Q y F u G:=by
 have f:=c.bK;refine cV (JQ (m:=m+5) (i:=9) (P:=wE<|M-1) (x:=.l 6) (l:=kL a b H.length M X l3 (O<|.aa d) (O<|.aa q) (O<|.aa (cn:Int)) Y Q y F u) (by rw[f];rfl) (aE (b7 f)<|aE l<|D J) λj k p H1 x=>Wi J J J (iP ((fK.mp p).1)<|aE (b7 f) l) (x.cO c.hc id) p (c.kd k<|mi p).2) λts H1 e1 r x=>?_
 have hm:=JU r;have kd:Kd M (aK 88 [] ts 0):=by
  by_cases h:ks=[]
  ·subst h;cases r;exact⟨_,.jH⟩
  ·refine aB (c.up h) ?_;rintro j rfl Z;obtain⟨E,L⟩:=JT r h;exact⟨_,.gh L (by rw[hm.2,f];exact l)⟩
 have g:∀{N:Cf},go N=.v (.ae a) [.dK .q [zk],.ex []] (kL a b H.length M X l3 (O<|.aa d) (O<|.aa q) (O<|.aa (cn:Int)) Y (O (aK 88 [] ts 0).v) y F u) (H1++[.i])->Jd (BX<|sf a b (n+1) (B+3) H) (m+5) N:=λ{N} e=>by
  refine zo e o A kd c.hm ?_ (c.sr.kp (x.q .j) id id)<|c.j.q<|(x.q .j).u λP P z=>z.elim;show e8 (ts.map O)+0+B'<=B+3;exact L4 l (b7 f) c.br hm.1
 have s:ag (m+5) .aK [.aa 88,.ah [],.ae H1.length,.aa 0] (H1++[.af (ts.map T.v)])=.ok (aK 88 [] ts 0).v (H1++[.i]):=by
  rw[vK (ks:=ts.map O) (by rw[pj];exact cD),iB];rfl
 rcases t with rfl|rfl
 ·exact cp 30 rfl<|bv rfl<|gJ e1<|bn rfl s<|g rfl
 ·exact cp 30 J<|bv J<|gJ e1<|bn J s<|g J
end
section
variable{m n i a b B:Nat}{H u:Hp}{G q M N l6 Q Y F y l11 j l13:Option V}{cf:Cf}{X:R (Fl×Lc)->Prop}{K':List Kf}{l:Lc}
theorem uo{x:Int}{k:Nat}(d:0<k):∃c:Nat,x%(k:Int)=(c:Int)/\c<k:=by
 have h:=ji x d;obtain⟨c,hc⟩:=xI h.1;exact aD c hc<|sN.mp<|hc▸h.2
theorem Wj(x:Int):x%((10:Nat):Int)=0∨x%((10:Nat):Int)=1∨x%((10:Nat):Int)=2∨x%((10:Nat):Int)=3∨x%((10:Nat):Int)=4∨x%((10:Nat):Int)=5∨x%((10:Nat):Int)=6∨x%((10:Nat):Int)=7∨x%((10:Nat):Int)=8∨x%((10:Nat):Int)=9:=JD (k:=10) (P:=λd=>d=0∨d=1∨d=2∨d=3∨d=4∨d=5∨d=6∨d=7∨d=8∨d=9) (D J)<|ji x<|D J
theorem Wk{x:Int}(e:a≠b)(f:a<H.length)(g:b<H.length)(o:n<bg)(z:SR a b n B H):Jd (BX<|sf a b (n+1) (B+3) H) (m+5) (.s qK [] [G,O (.ae a),O (.ae b),O (.aa x),M,N,l6,Q,Y,F,y,l11,j,l13] H):=by
 refine dn λA=>aB (uo (x:=x/((10:Nat):Int)) (k:=3)<|D J) λP r t=>aB (uo (x:=x/((10:Nat):Int)) (k:=2)<|D J) λZ h2 v=>aB (uo (x:=x/((10:Nat):Int)) (k:=4)<|D J) λE h4 w=>A ?_;have it:∀{d:Int} {cn:Nat},x%((10:Nat):Int)=d->(∀H,f6 (JV<|x/((10:Nat):Int)) (.aa d) H=.ok (.aa (cn:Int)) H)->cn<=3->(∀ks p s u F l11 j,gN a b H.length n B [] cn (H++[.af []]) u ks p s->pQ m n a b B p H G (O<|.aa x) d (x/((10:Nat):Int)) cn F y l11 j l13 u)->Jd (BX<|sf a b (n+1) (B+3) H) (m+5) (.s qK [] [G,O (.ae a),O (.ae b),O (.aa x),M,N,l6,Q,Y,F,y,l11,j,l13] H):=
  λL h2 r q=>V7 e o L h2 r z f g λks p s u F l11 j k=>q ks p s u F l11 j k
 rcases Wj x with h|h|h|h|h|h|h|h|h|h
 ·exact it h (λc=>rfl) (D rfl) λc c c c c c c k=>V8 e o k
 ·exact it h (λc=>(show _=R.ok (V.aa<|x/((10:Nat):Int)%((3:Nat):Int)) _ from rfl).trans<|by rw[r]) (sU t) λc c c c c c c k=>V9 e f g o (sU t) k
 ·exact it h (λc=>(show _=R.ok (V.aa<|2+x/((10:Nat):Int)%((2:Nat):Int)) _ from rfl).trans (by rw[h2];rfl)) (jp (Ax v) 2) λc c c c c c c k=>Wa e f g o ⟨d8 ..,jp (Ax v) 2⟩ k
 ·exact it h (λc=>rfl) (D rfl) λc c c c c c c k=>Wc e f g o k
 ·exact it h (cn:=1) (λc=>J) (D J) λc c c c c c c k=>Wd e f g o k
 ·exact it h (λc=>(show _=R.ok (V.aa<|x/((10:Nat):Int)%((4:Nat):Int)) _ from J).trans<|by rw[h4]) (Ax w) λc c c c c c c k=>JX (.inl J) e f g o (Ax w) k
 ·exact it h (cn:=1) (λc=>J) (D J) λc c c c c c c k=>JW (.inl ⟨J,J⟩) e f g o k
 ·exact it h (cn:=1) (λc=>J) (D J) λc c c c c c c k=>JW (.inr ⟨J,J⟩) e f g o k
 ·exact it h (cn:=1) (λc=>J) (D J) λc c c c c c c k=>We e f g o k
 ·exact it h (cn:=1) (λc=>J) (D J) λc c c c c c c k=>JX (.inr J) e f g o (D J) k
theorem Wl(k:a≠b):∀(c:List Int) (n B:Nat) (l:Lc) (H:Hp),zm a b l->SR a b n B H->n+c.length<=100->∃L u,dp (λv l H=>aZ (ag<|m+5) qK (l.set 3<|O v) H) (c.map V.aa) l H=.ok (.aU,L) u/\zm a b L/\SR a b (n+c.length) (B+3*c.length) u/\Kp (λx=>x=a∨x=b) H u/\(c≠[]->u[a]? ≠O (.af [])):=by
 intro c
 induction c with
 |nil=>
  intro n B l H lc sr o;exact A7 l H J lc sr .refl (λh=>ax J h)
 |cons x c P=>
  intro n B o H E sr e;obtain⟨G,q,M,N,l6,Q,Y,F,y,l11,j,l13⟩:=E;have p:a<H.length:=by obtain⟨_,_,h⟩:=sr;exact hX h.hs
  have r:b<H.length:=by obtain⟨_,_,h⟩:=sr;exact hX h.hr
  have e:n+(c.length+1)<=100:=e;refine dn λZ=>?_;obtain⟨K,H1,e1,s,t,w,z⟩:=Db<|Wk (l11:=l11) (l13:=l13) k p r (jt (aE (d8 ..) e)<|D J) sr;refine x6 (P (n+1) (B+3) K H1 s t<|L1 e) λS H2 e2 f d g A=>Z<|A7 S H2 ?_ f ?_ (w.q g) λo=>?_
  ·show(match aZ (ag<|m+5) qK [G,O (.ae a),O (.ae b),O (.aa x),M,N,l6,Q,Y,F,y,l11,j,l13] H with|.ok (.aU,l) H=>_|.ok (.q,l) H=>_|.ok (.u,l) H=>_|.ok (.am v,l) H=>_|_=>_)=_;rw[e1];exact e2
  ·rw[kt,kq 1] at d;rw[kt B,kq 3] at d;exact d
  ·by_cases h:c=[]
   ·clear o e d P Z g f;clear e;subst h;cases e2;exact z
   ·exact A h
theorem JY{i s:Nat}{b r:List S}(e:go cf=.s (.y i x b::r) K' l H)(f:az (ag m) x l H=.ok (.ae s) H)(g:H[s]? =O (.af c))(h:dp (λv l H=>aZ (ag m) b (l.set i<|O v) H) c l (H.set s .i)=.ok (.aU,d) u)(q:Jd X m<|.s r K' d<|u.set s<|.af c):Jd X m cf:=
 bv e (bf (by
  have e1:fY (ag m) (.y i x b) l H=.ok (.aU,d) (u.set s<|.af c):=by
   show R.i (az (ag m) x l H) _=_;rw[f];show(match H[s]? with|some (.af c)=>(dp (λv l H=>aZ (ag m) b (l.set i<|O v) H) c l<|H.set s .i).i λr H=>R.ok r (H.set s<|.af c)|_=>.j)=_;rw[g];dsimp only;rw[h];rfl
  show R.i (R.i (fY (ag m) (.y i x b) l H) _) _=_;rw[e1];rfl) q)
end
section
variable{m n i a b B:Nat}{H q:Hp}{u:Cf}{X:R (Fl×Lc)->Prop}{j:List Kf}{l:Lc}
theorem ry(h:H[a]? =O (.af c)):(H.set a .i).set a (.af c)=H:=by
 refine dn λd=>?_;obtain⟨f,e⟩:=fK.mp h;refine d ?_;rw[oo,<-e,NE]
theorem Dh{e f:E}{c:List V}{g:V->V}(j:az (ag m) f l d=.ok (.ae a) H)(k:H[a]? =O (.af c))(h:∀u∈c,az (ag m) e (l.set x<|O u) (H.set a .i)=.ok (g u) (H.set a .i)):az (ag m) (.i e x f) l d=.ok (.ae H.length) (H++[.af (c.map g)]):=by
 show R.i (az (ag m) f l d) _=_;rw[j];show R.i (match H[a]? with|some (.af o)=>(eZ (λv H=>az (ag m) e (l.set x<|O v) H) o<|H.set a .i).i λr H=>R.ok r (H.set a<|.af o)|_=>.j) _=_;rw[k]
 dsimp only
 rw[JJ h];show R.ok (V.ae ((H.set a .i).set a<|.af c).length) (((H.set a .i).set a<|.af c)++[.af (c.map g)])=_;rw[ry k]
noncomputable def sh(p:T×Nat):V:=p.1.v
structure Wm(n:Nat)(H q:Hp)(r:Nat)(ks:List T):Prop where
 hr:q[r]? =some (.af (ks.map T.v))
 ne:ks≠[]
 kd:∀k∈ks,Kd 2 k
 ln:ks.length<=n
 bb:e8 (ks.map some)<=3*n
 kp:Kp (λξ=>False) H q
inductive Wn(n:Nat)(H:Hp)(v:V)(q:Hp):Prop where
 |mk (r:Nat) (ks:List T) (hv:v=.ae r) (h:Wm n H q r ks)
theorem Wo{c:List Int}(g:H[s]? =O (.af<|c.map V.aa))(N:c.length<=100)(W:c≠[]):∃v q,ag (m+6) 1087 [.ae s] H=.ok v q/\Wn c.length H v q:=by
 have o:=hX g;have as:=fc o;have P:s≠(H++[bY.af []]).length:=by rw[bx];exact fc<|NG o
 have ab:H.length≠(H++[bY.af []]).length:=by rw[bx];exact fc<|sP _
 refine dn λr=>x6 (Wl (m:=m) ab c 0 0 [O (.ae s),O (.ae H.length),O (.ae (H++[bY.af []]).length),U,U,U,U,U,U,U,U,U,U,U] (((H++[bY.af []])++[bY.af []]).set s .i) (.mk ..) ⟨[],[],fm as<|cR cD,fm P cD,λ_ h=>ax h eW,λ_ h=>ax h eW,bF _,bF _⟩ (by rw[da];exact N)) λl' H1 e1 lc sr kp ne=>?_
 rw[da] at sr;clear o;obtain⟨l0,l3,l4,l5,l6,l7,l8,l9,t,y,A,F⟩:=lc;have G:Kp (λQ=>False) H (H1.set s<|.af<|c.map V.aa):=by
  have L:=kp.bK;rw[sM] at L;have x:=Kp.j (P:=λQ=>False) (H:=H) (l:=[bY.af []]);have z:=x.q<|Kp.j (l:=[bY.af []]);refine⟨by rw[sM];exact aE z.bK L,λj d Q=>?_⟩
  by_cases e:j=s
  ·subst e;rw[oi (iP d<|aE z.bK L),g]
  ·rw[mT (eH e),kp.jE j (by rw[sM];exact iP d z.bK) (λw=>w.elim (fc d) λw=>by rw[bx] at w;exact ax w<|fc<|NG d),mT (eH e)];exact z.jE j d id
 have M:(H1.set s<|.af<|c.map V.aa)[H.length]? ≠O (.af []):=by rw[mT as];exact ne W
 obtain⟨st,rs,Y,s2,s3,s4,Z,E⟩:=(sr.kp (P:=(·=s)) (.y (.inl J) .refl) (eH as)<|eH P);refine r<|iM J J<|JY (b:=qK) J J (cR<|cR g) e1 ?_;generalize H1.set s (.af<|c.map V.aa)=H2 at*;have K:∀f,az (ag<|m+5) (.i (.y (.l 13)<|.c<|.aa 0) 13<|.l 1) [l0,O (.ae H.length),O (.ae (H++[bY.af []]).length),l3,l4,l5,l6,l7,l8,f,t,y,A,F] H2=.ok (.ae H2.length) (H2++[bY.af (st.map sh)]):=λf=>by
  rw[Dh (g:=λv=>match v with|.u (x::_)=>x|v=>v) J Y λu hu=>?_,rf]
  ·rfl
  ·refine dn λr=>aB (ej.mp hu) ?_;rintro p hp rfl;refine r ?_
   rfl
 refine bv J<|gJ (K _)<|ck J (H':=(H2++[bY.af (st.map sh)])++[bY.af ((rs++st.map adq).map T.v)]) ?_ (gk J ⟨_,rs++st.map adq,J,cD,?_,?_,?_,?_,G.q<|Kp.j.q .j⟩)
 ·show(match(H2++[bY.af (st.map sh)])[(H++[bY.af []]).length]?,(H2++[bY.af (st.map sh)])[H2.length]? with|some (.af c),O (.af S)=>if(c++S).length<=bg then R.ok (V.ae (H2++[bY.af (st.map sh)]).length) ((H2++[bY.af (st.map sh)])++[bY.af (c++S)]) else .j|_,_=>.j)=_;rw[cR s2,cD]
  dsimp only
  have:(rs.map T.v++st.map sh).length<=bg:=by
   rw[bx,c5,c5];exact aE (aE (b7<|kq ..)<|aE Z N)<|D J
  rw[aN this,dz,rf];rfl
 ·intro h;have h:=xG.mp h;have h:=adr.mp h.2;clear K;subst h;exact M Y
 ·intro k hk
  rcases eV.mp hk with hk|hk
  ·exact s4 k hk
  ·refine aB (ej.mp hk) ?_;rintro p hp rfl;have:=s3 p hp;exact this.1.up<|by lia
 ·rw[bx,c5,kq];exact Z
 ·rw[dz,wD,rf,kq];rw[da] at E;exact E
end
noncomputable def rl:List W->Nat
 |[]=>0
 |w::r=>rl r+w.w.length
noncomputable def bw(w:W):Bool:=decide (w.k=5)&&decide (w.x=[91])
noncomputable def cw:List W->Nat
 |[]=>0
 |w::r=>cw r+if bw w then 1 else 0
theorem e9:∀a b:List W,rl (a++b)=rl a+rl b
 |[],b=>(da _).symm
 |w::r,b=>by show rl (r++b)+_=rl r+_+_;rw[e9 r b,EW]
theorem eU:∀a b:List W,cw (a++b)=cw a+cw b
 |[],b=>(da _).symm
 |w::r,b=>by show cw (r++b)+_=cw r+_+_;rw[eU r b,EW]
theorem JZ:∀a:List W,(aY a).length=rl a
 |[]=>rfl
 |w::r=>by rw[f0,bx,JZ r,kq];rfl
noncomputable def Bz:Nat->Nat
 |0=>12
 |i+1=>15*Bz i+500
noncomputable def LB(i n:Nat):gu->Nat
 |.kd=>Bz i
 |.u _=>Bz i+2
 |.nN=>n*(Bz i+2)
 |.nO=>n*(Bz i+5)
 |.q=>Bz i+40
 |.pm=>Bz i+16
 |.y _ _=>n*(Bz i+18)
 |.ps=>3*Bz i+56
 |.am=>Bz i+16
 |.sg=>5*Bz i+114
 |.i=>5*Bz i+160
 |.j=>n*(5*Bz i+162)
theorem Di(h:a∈iC∨a=gF):rl (d7 a)<=4/\cw (d7 a)=0:=by
 have:∀a∈gF::iC,rl (d7 a)<=4/\cw (d7 a)=0:=by decide
 exact this a<|h.elim (.tail _) λe=>e▸ .head _
theorem Dj{fl:Int}(h:fF w a fl):rl w<=11/\cw w=0:=by
 have:∀a∈nK,a.length<=8:=by decide
 cases h with
 |dots h=>exact⟨sR (aE (b7<|da _)<|this a h) 3,J⟩
 |i h=>have:=this a h;exact⟨by show 0+1+a.length<=11;exact L1 this,J⟩
 |ga h=>have:=this a h;exact⟨by show 0+a.length<=11;exact L1 this,J⟩
 |this=>exact⟨by decide,J⟩
theorem Wp{n:W}(h:n∈dY∨n=wd bI∨n=st bI fM):n.w.length<=12/\bw n=false:=by
 have:∀n∈wd bI::st bI fM::dY,n.w.length<=12/\bw n=false:=by decide
 exact this n<|h.elim (λh=>.tail _<|.tail _ h) λh=>h.elim (λe=>e▸ .head _) λe=>e▸ .tail _ (.head _)
theorem Dk{fl:Int}(h:n∈dY∨n=wd bI∨n=st bI fM)(b:fR n w fl):rl w<=22/\cw w=0:=by
 obtain⟨a,h2⟩:=Wp h;have e:(if bw n=I then 1 else 0)=0:=by rw[h2];rfl
 induction b with
 |ga=>exact⟨by show 0+n.w.length<=22;exact L1 a,by show 0+_=0;rw[e]⟩
 |i=>exact⟨by show 0+1+n.w.length<=22;exact L1 a,by show 0+0+_=0;rw[e]⟩
 |ro=>exact⟨by show 0+n.w.length+1+8<=22;exact L1 a,by show 0+(if bw n=I then 1 else 0)+0+0=0;rw[e]⟩
 |j=>exact⟨by show 0+1+n.w.length+1+8<=22;exact L1 a,by show 0+0+(if bw n=I then 1 else 0)+0+0=0;rw[e]⟩
theorem J0(a:List W):rl (eb I a)=rl a/\cw (eb I a)=cw a:=by
 cases a<;>exact⟨J,J⟩
structure KB(i:Nat)(c:gu)(ks:List T)(ws:List W):Prop where
 l:rl ws<=LB i ks.length c
 b:cw ws<=e8 (ks.map some)
theorem Dl(i:Nat):12<=Bz i:=by
 induction i using fU with
 |zero=>exact bF _
 |succ i=>show 12<=15*Bz i+500;exact by simp+arith only
theorem Dm(h:n<=3):n*B<=3*B:=EX _ h
theorem zp(h:l<=B):l<=1*B:=by rw[E1];exact h
theorem wG(h:l<=a)(c:b<=n*B)(e:a+2<=B):l+(b+1+1)<=(n+1)*B:=by rw[ads];exact L3 h c e
noncomputable def Wq(c:gu)(o:List T):Prop:=match c with
 |.q=>e8 (o.map O)=j9 o.head?
 |_=>True
theorem Dn(h:K b m i c o a):Wq c o:=by
 induction h with
 |i|iH|ic|ie=>exact rfl
 |_=>exact dr
theorem Do{a:List Nat}(h:a∈hZ):a.length<=3:=by
 have:∀a∈hZ,a.length<=3:=by decide
 exact this a h
theorem Dp(h:K b m i c u f):KB i c u f:=by
 induction h with
 | @i9 i a h=>
  have:∀a∈qC,a.length<=12:=by decide
  exact⟨aE (b7<|da _)<|aE (this a h)<|Dl i,bF _⟩
 | @ae i a h=>exact⟨aE (Di h).1<|aE (D J)<|Dl i,b7 (Di h).2⟩
 | @ja i a u f h _ A d=>
  have r:=Di h;have l:=d.l;have z:=Dm (B:=Bz i+2) A.2;refine⟨?_,?_⟩
  ·rw[e9];show rl (d7 a)+(rl (f++[sg [62]])+1)<=15*Bz i+500
   rw[e9];show rl (d7 a)+(rl f+1+1)<=_
   have l:rl f<=u.length*(Bz i+2):=l;exact L3 r.1 z l
  ·rw[eU,r.2,da];rw[eU];exact d.b
 | @gL i k f _ d=>
  refine⟨?_,?_⟩
  ·show rl (f++[sg [41]])+1<=15*Bz i+500;rw[e9];have l:rl f<=Bz i:=d.l;show rl f+1+1<=_;exact L1 l
  ·rw[eU];exact d.b
 | @jH i=>exact⟨aE (D J)<|Dl i,bF _⟩
 | @gh i u f _ A d=>
  have z:=Dm (B:=5*Bz i+162) A;refine⟨?_,?_⟩
  ·show rl (f++[sp,sg [125]])+1+1<=15*Bz i+500;rw[e9];have l:rl f<=u.length*(5*Bz i+162):=d.l;show rl f+2+1+1<=_;exact L2 z l
  ·rw[eU];exact d.b
 | @gc i k f _ d=>
  refine⟨?_,?_⟩
  ·rw[e9];have l:rl f<=Bz i+2:=d.l;show rl f+2<=15*Bz i+500;exact L1 l
  ·rw[eU];exact sR d.b 1
 | @aa i k L f s _ _ d g=>
  refine⟨?_,?_⟩
  ·rw[e9];have l:rl f<=Bz i+2:=d.l;have x:rl s<=Bz i+2:=g.l;show rl f+(rl s+1+1+1)<=15*Bz i+500;exact L2 l x
  ·rw[eU];show cw f+cw s<=br k+(br L+0);exact gn d.b g.b
 | @un i k u f s _ _ A d g=>
  refine⟨?_,?_⟩
  ·rw[e9];have l:rl f<=Bz i+2:=d.l;have x:rl s<=u.length*(Bz i+5):=g.l
   have z:u.length*(Bz i+5)<=2*(Bz i+5):=EX _ A;show rl f+(rl s+1+1+1)<=15*Bz i+500;exact L3 l x z
  ·rw[eU];show cw f+cw s<=br k+e8 (u.map O);exact gn d.b g.b
 | @fn i w fl o p r f s t M B _ _ F G v=>
  have e:rl w<=4/\cw w=0:=by rcases M with⟨rfl,_⟩|⟨rfl,_⟩<;>exact⟨by decide,rfl⟩
  refine⟨?_,?_⟩
  ·rw[e9,e9,e9];have N:rl f<=Bz i+40:=F.l;have P:rl s<=3*Bz i+56:=G.l;have H:rl t<=Bz i+16:=v.l
   show rl w+(rl f+(rl s+(rl t+1+2+1)))<=15*Bz i+500;exact L4 e.1 N P H
  ·rw[eU,eU,eU,e.2,da];show cw f+(cw s+cw t)<=j9 o.head? +(br p+br r);exact gn (aE F.b<|b7<|Dn B)<|gn G.b v.b
 |iE _ _ d=>exact⟨f1<|f1 d.l,d.b⟩
 | @jb i j k f _ _ d=>
  refine⟨?_,?_⟩
  ·show rl (f++[sg [41]])+1<=Bz i+2;rw[e9];exact sR d.l 2
  ·rw[eU];exact d.b
 | @iF i k f _ d=>exact⟨zp<|aE d.l<|jp (D J) _,d.b⟩
 | @ia i k u f s _ _ d g=>
  refine⟨?_,?_⟩
  ·rw[e9];show rl f+(rl s+1+1+1)<=(u.length+1)*(Bz i+5);have l:rl f<=Bz i+2:=d.l;have x:rl s<=u.length*(Bz i+5):=g.l;rw[ads];exact L2 l x
  ·rw[eU];exact gn d.b g.b
 |iG _ d=>exact⟨zp<|f1<|f1 d.l,d.b⟩
 |ib _ _ d g=>exact⟨by rw[e9];exact wG d.l g.l<|bF _,by rw[eU];exact gn d.b g.b⟩
 |i=>exact⟨dG _,dG _⟩
 | @iH i a h=>exact⟨by have:=Do h;show 0+1+a.length+1+3+1<=Bz i+40;exact L1 this,dG _⟩
 | @ic i a k f h _ d=>
  refine⟨?_,?_⟩
  ·have:=Do h;show rl (f++[sg [62]])+1+7+1+a.length+1<=Bz i+40;rw[e9];have l:rl f<=Bz i:=d.l;show rl f+1+1+7+1+a.length+1<=_;exact L2 this l
  ·rw[eU];exact d.b
 | @ie i a k f h _ d=>
  refine⟨?_,?_⟩
  ·have:=Do h;show rl (f++[sg [62]])+25+a.length+4<=Bz i+40;rw[e9];have l:rl f<=Bz i:=d.l;show rl f+1+25+a.length+4<=_;exact L2 this l
  ·rw[eU];exact aE d.b<|b7 (JE k).symm
 |jI h=>exact⟨aE (Dj h).1<|aE (D J)<|hG ..,aE (b7 (Dj h).2)<|dG _⟩
 | @jc i a fl k w f h _ d=>
  have e:=Dj h;refine⟨?_,?_⟩
  ·rw[e9];have l:rl f<=Bz i:=d.l;show rl w+(rl f+1+1)<=Bz i+16;exact L2 e.1 l
  ·rw[eU,e.2,da];exact aE d.b<|b7 (JI (f:=fl)).symm
 |j=>exact⟨dG _,dG _⟩
 |jd _ Q h2 d=>exact⟨zp<|f1<|f1 d.l,d.b⟩
 |iI _ Q h2 Y _ d g=>exact⟨by rw[e9];exact wG d.l g.l<|bF _,by rw[eU];exact gn d.b g.b⟩
 | @ps i u f _ A d=>
  have z:=Dm (B:=Bz i+18) A;refine⟨?_,?_⟩
  ·show rl (f++[sg [41]])+1<=3*Bz i+56;rw[e9];have l:rl f<=u.length*(Bz i+18):=d.l;show rl f+1+1<=_;exact L2 z l
  ·rw[eU];exact d.b
 |eg _ d=>exact⟨aE d.l<|d8 ..,d.b⟩
 | @je i k f _ d=>exact⟨by show rl f+5<=Bz i+16;exact gn d.l<|D J,d.b⟩
 |q=>exact⟨aE (D J)<|hG ..,dG _⟩
 | @jf i k f _ d=>exact⟨by show rl f+16<=Bz i+16;exact gn d.l<|D J,d.b⟩
 | @jg i k f _ d=>exact⟨by show rl f+11<=Bz i+16;exact gn d.l<|D J,d.b⟩
 | @ig i a fl o p f s B _ d g=>
  refine⟨?_,?_⟩
  ·rw[e9];have l:rl f<=Bz i+40:=d.l;have x:rl s<=3*Bz i+56:=g.l;show rl f+rl s<=5*Bz i+114;exact L2 l x
  ·rw[eU];show cw f+cw s<=j9 o.head? +br p;exact gn (aE d.b<|b7<|Dn B) g.b
 | @g3 i a fl o p r f s t B _ _ d g v=>
  refine⟨?_,?_⟩
  ·rw[e9,e9];have l:rl f<=Bz i+40:=d.l;have x:rl s<=3*Bz i+56:=g.l;have H:rl t<=Bz i+16:=v.l;show rl f+(rl s+(rl t+1+1))<=5*Bz i+114;exact L3 l x H
  ·rw[eU,eU];show cw f+(cw s+cw t)<=j9 o.head? +(br p+br r);exact gn (aE d.b<|b7<|Dn B)<|gn g.b v.b
 |iJ h y=>
  have e:=Dk (g5 h) y;exact⟨aE e.1<|aE (D J)<|hG ..,aE (b7 e.2)<|dG _⟩
 | @ii i n w fl k f h y _ d=>
  have e:=Dk (g5 h) y;refine⟨?_,?_⟩
  ·rw[e9];have l:rl f<=Bz i:=d.l;have e:=e.1;show rl w+(rl f+1+1)<=5*Bz i+160;exact L2 l e
  ·rw[eU,e.2,da];exact d.b
 | @g4 i n w fl u f h y _ _ d=>
  have e:=Dk (nU h) y;refine⟨?_,?_⟩
  ·rw[e9];have l:rl f<=5*Bz i+114:=d.l;have e:=e.1;show rl w+rl f<=5*Bz i+160;exact L2 l e
  ·rw[eU,e.2,da];exact d.b
 |ij _ d=>exact⟨aE d.l<|jp (D J) _,d.b⟩
 | @ik i u f _ d=>exact⟨by show rl f+4<=5*Bz i+114+46;exact gn d.l<|D J,d.b⟩
 | @il i w fl a k f h y _ d=>
  have e:rl w<=9/\cw w=0:=by rcases h with⟨rfl,_⟩|⟨rfl,_⟩<;>exact⟨by decide,rfl⟩
  have X:a.length<=8:=by rcases y with rfl|rfl<;>decide
  refine⟨?_,?_⟩
  ·rw[e9];have l:rl f<=Bz i:=d.l;have e:=e.1;show rl w+(rl f+11+a.length+1)<=5*Bz i+160;exact L3 X l e
  ·rw[eU,e.2,da];exact aE (sR d.b 1)<|b7 (JM k).symm
 |ms1 _ d=>exact⟨zp<|f1<|f1 d.l,d.b⟩
 |gA h _ _ d g=>exact⟨by rw[e9];exact wG d.l g.l<|bF _,by rw[eU];exact gn d.b g.b⟩
 |iK h _ _ d g=>exact⟨by rw[e9];exact wG d.l g.l<|bF _,by rw[eU];exact gn d.b g.b⟩
 | @iL i k u f s h _ _ y d g=>
  refine⟨?_,?_⟩
  ·rw[e9];show rl f+(rl (eb I s)+1)<=_;rw[(J0 s).1];exact aE (ey _)<|wG d.l g.l<|bF _
  ·rw[eU];rw[(J0 s).2];exact gn d.b g.b
mutual
noncomputable def J1:T->Prop
 |.nd k _ ks _ _=>(k=98->∃t,ks=[O t])/\qL ks
noncomputable def qL:List (Option T)->Prop
 |[]=>True
 |o::r=>zq o/\qL r
noncomputable def zq:Option T->Prop
 |none=>True
 |some t=>J1 t
end
theorem fw{k f p:Int}(c:k≠98)(h:qL b):qL [O (.nd k a b f p)]:=⟨⟨λe=>ax e c,h⟩,bl⟩
theorem Dq{o:List T}(h:qL<|o.map O):zq o.head? :=by
 induction o using aV with
 |nil=>trivial
 |cons t r=>exact h.1
theorem Ds{k:List T}(h:K b m i c k l):qL (k.map O):=by
 induction h with
 |i9 h=>exact fw (D J) bl
 |ae h=>exact fw (D J) bl
 |ja h _ o f=>exact fw (D J) f
 |gL _ f=>exact⟨⟨λs=>⟨_,J⟩,f⟩,bl⟩
 |jH=>exact fw (D J) bl
 |gh _ _ f=>exact fw (D J) f
 |gc _ f=>exact fw (D J) f
 |aa _ _ a c=>exact fw (D J) ⟨a.1,c⟩
 |un _ _ o a c=>exact fw (D J) ⟨a.1,c⟩
 |fn t _ _ _ a c d=>exact fw (D J) ⟨Dq a,c.1,d.1,bl,bl⟩
 |iE h _ f=>exact f
 |jb h _ f=>exact f
 |iF _ f=>exact f
 |ia _ _ a c=>exact⟨a.1,c⟩
 |iG _ f=>exact f
 |ib _ _ a c=>exact⟨a.1,c⟩
 |i=>exact bl
 |iH h=>exact fw (D J)<|fw (D J) ⟨bl,bl,bl⟩
 |ic h _ f=>exact fw (D J)<|fw (D J) ⟨f.1,bl,bl⟩
 |ie h _ f=>exact fw (D J) ⟨⟨λe=>ax e<|D J,bl,bl,bl⟩,fw (D J) ⟨⟨λe=>ax e<|D J,bl⟩,f.1,bl⟩⟩
 |jI h=>exact fw (D J) ⟨⟨λe=>ax e<|D J,bl⟩,bl,bl,bl⟩
 |jc h _ f=>exact fw (D J) ⟨⟨λe=>ax e<|D J,bl⟩,f.1,bl,bl⟩
 |j=>exact bl
 |jd _ p h2 f=>exact f
 |iI _ p h2 u _ a c=>exact⟨a.1,c⟩
 |ps _ n f=>exact fw (D J) f
 |eg _ f=>exact f
 |je _ f=>exact fw (D J) f
 |q=>exact fw (D J) ⟨bl,bl⟩
 |jf _ f=>exact fw (D J) f
 |jg _ f=>exact fw (D J) f
 |ig _ _ a c=>exact fw (D J) ⟨Dq a,c.1,bl,bl,bl⟩
 |g3 _ _ _ a c d=>exact fw (D J) ⟨Dq a,c.1,d.1,bl,bl⟩
 |iJ h g=>exact fw (D J) ⟨bl,bl⟩
 |ii h g _ f=>exact fw (D J) f
 |g4 h g r _ f=>exact f
 |ij _ f=>exact f
 |ik _ f=>exact f
 |il h g _ f=>exact fw (D J) ⟨⟨λe=>ax e<|D J,bl⟩,f.1,bl⟩
 |ms1 _ f=>exact f
 |gA h _ _ a c=>exact⟨a.1,c⟩
 |iK h _ _ a c=>exact⟨a.1,c⟩
 |iL h _ _ g a c=>exact⟨a.1,c⟩
noncomputable def pR:List S:=match rA with
 |[_,_,_,.jA _ _ b,_]=>b
 |_=>[]
noncomputable def Dt:Option T->Prop
 |none=>True
 |some t=>tV t
noncomputable def Du:Option T->Nat
 |none=>0
 |some t=>ht t
noncomputable def wH:Option T->Nat
 |none=>1
 |some t=>sz t
section
variable{m n i a b c:Nat}{H j:Hp}{y:Cf}{X:R (Fl×Lc)->Prop}{u:List Kf}{l:Lc}{v:V}
theorem Ws{i n:Nat}{b r:List S}(e:go y=.s (.jA i x b::r) u l H)(f:az (ag m) x l H=.ok (.aa (n:Nat)) H)(g:n<=bg)(h:dp (λv l H=>aZ (ag m) b (l.set i<|O v) H) ((kl n).map λ(i:Nat)=>V.aa (i:Int)) l H=.ok (.am v,d) j)(q:Jd X m<|.fl (.am v) u d j):Jd X m y:=
 bv e (bf (by
  have e1:fY (ag m) (.jA i x b) l H=.ok (.am v,d) j:=by
   show R.i (az (ag m) x l H) _=_;rw[f];exact(aN ⟨qa n,sQ.mpr g⟩).trans<|h
  show R.i (R.i (fY (ag m) (.jA i x b) l H) _) _=_;rw[e1];rfl) q)
theorem Dv{d:List V}{i:Nat}{v:V}(e:d[i]? =O v):f6 (.af d) (.aa i) H=.ok v H:=by
 have p:fP (i:Int) d.length=O i:=by
  unfold fP;rw[aN (qa i),aN (sN.mpr<|(fK.mp e).1)];rfl
 show cG ((fP (i:Int) d.length).bind λj=>d[j]?) H=_;rw[p];show cG d[i]? H=_;rw[e];rfl
theorem Dw{i:Nat}:∀{ks:List<|Option T} {i:Nat},ks[i]? =O o->(fi ks)[i]? =O (ov o)
 |o::r,0,h=>by obtain rfl:=cT h;rfl
 |_::r,i+1,h=>Dw (ks:=r) (i:=i) h
 |[],_,h=>ba h
theorem wI:∀(ks:List<|Option T),(fi ks).length=ks.length:=by
 intro r
 induction r with
 |nil=>
  exact J
 |cons _ r d=>
  exact bH (·+1)<|d
theorem si(h:H[c]? =O (.af d)):H.set c (.af d)=H:=by
 obtain⟨f,e⟩:=fK.mp h;rw[<-e,NE]
inductive lS(c:Nat)(xs:List V)(H:Hp)(f:Option (List Int))(z:Nat)(r:R V):Prop where
 |mk (js:List V) (hr:r=.ok (.i f.isSome) (H.set c (.af (xs++js)))) (h:∀os,f=some os->js=os.map V.aa) (hz:js.length<=z)
noncomputable def Wu:Option (List Int)->Fl
 |none=>.am<|.i C
 |some _=>.aU
inductive Wv(c:Nat)(xs:List V)(H:Hp)(f:Option (List Int))(z:Nat)(d q:V)(r:R (Fl×Lc)):Prop where
 |mk (js:List V) (l3:Option V) (hr:r=.ok (Wu f,[some d,some q,some (.ae c),l3]) (H.set c (.af (xs++js)))) (h:∀os,f=some os->js=os.map V.aa) (hz:js.length<=z)
set_option tactic.hygienic true in
theorem Ww{k f p A B F:Int}{a G:List Nat}(ih:∀(d r:Option T) (s:List V) (H:Hp),Du r<=n->zq d->Dt r->H[c]? =O (.af s)->s.length+wH r<=bg->lS c s H (i8 d r) (wH r) (ag m 1101 [ov d,ov r,.ae c] H))(hb:k=98->(∀o∈ks,o≠U)/\∀o∈ks',o≠U):
  ∀(u rs g Z:List<|Option T) (s:List V) (H:Hp) (E:Option V),ks=g++u->ks'=Z++rs->g.length=Z.length->u.length=rs.length->qL u->nG rs->hO rs<=n->H[c]? =O (.af s)->s.length+fj rs<=bg->
   Wv c s H (gK (decide (k=98)) u rs) (fj rs) (T.nd k a ks f p).v (T.nd A G ks' B F).v (dp (λv l H=>aZ (ag m) pR (l.set 3<|O v) H) ((ll g.length u.length).map λ(i:Nat)=>V.aa (i:Int)) [O (T.nd k a ks f p).v,O (T.nd A G ks' B F).v,O (.ae c),E] H):=by
 intro u
 induction u with
 |nil=>
  intro rs g Z s H E _ _ _ hl _ _ _ hc _;rw[xJ hl.symm];exact⟨[],E,by rw[cN,si hc];rfl,λos h=>by obtain rfl:=cT h;rfl,bF _⟩
 |cons o u ihd=>
  intro rs g Z s H E e1 e2 el hl K S L hc hz
  induction rs using aV with
  |nil=>cases hl
  |cons q rs=>
  have g1:ks[g.length]? =O o:=by rw[e1];exact(ra<|bF _).trans (by rw[p9];rfl)
  have g2:ks'[g.length]? =O q:=by rw[e2,el];exact(ra<|bF _).trans (by rw[p9];rfl)
  have i1:∀H:Hp,f6 (.af<|fi ks) (.aa g.length) H=.ok (ov o) H:=λH=>Dv<|Dw (i:=0) g1;have i2:∀H:Hp,f6 (.af<|fi ks') (.aa g.length) H=.ok (ov q) H:=λH=>Dv<|Dw (i:=0) g2;have h1:Du q<=n/\hO rs<=n:=by
   induction q using gC with
   |none=>exact⟨dG _,L⟩
   |some t=>exact⟨aE (Nj ..) L,aE (ac6 ..) L⟩
  have h2:fj (q::rs)=wH q+fj rs:=by
   induction q using gC with
   |none=>exact kq ..
   |some t=>rfl
  have h3:Dt q/\nG rs:=by
   induction q using gC with
   |none=>exact⟨bl,S⟩
   |some t=>exact S
  rw[h2] at hz⊢;have M:∀{y:Fl} {l':Lc} {H1:Hp} {Y:R<|Fl×Lc},aZ (ag m) pR [O (T.nd k a ks f p).v,O (T.nd A G ks' B F).v,O (.ae c),O (.aa g.length)] H=.ok (y,l') H1->(match(R.ok (y,l') H1:R<|Fl×Lc) with|.ok (.aU,l) H=>dp (λv l H=>aZ (ag m) pR (l.set 3<|O v) H) ((ll (g.length+1) u.length).map λ(i:Nat)=>V.aa (i:Int)) l H|.ok (.q,l) H=>dp (λv l H=>aZ (ag m) pR (l.set 3<|O v) H) ((ll (g.length+1) u.length).map λ(i:Nat)=>V.aa (i:Int)) l H|.ok (.u,l) H=>.ok (.aU,l) H|.ok (.am v,l) H=>.ok (.am v,l) H|_=>.j)=Y->
    dp (λv l H=>aZ (ag m) pR (l.set 3<|O v) H) ((ll g.length (o::u).length).map λ(i:Nat)=>V.aa (i:Int)) [O (T.nd k a ks f p).v,O (T.nd A G ks' B F).v,O (.ae c),E] H=Y:=λe y=>by
   show(match aZ (ag m) pR [O (T.nd k a ks f p).v,O (T.nd A G ks' B F).v,O (.ae c),O (.aa g.length)] H with|.ok (.aU,l) H=>_|.ok (.q,l) H=>_|.ok (.u,l) H=>_|.ok (.am v,l) H=>_|_=>_)=_;rw[e];exact y
  --past the first test
  have past:∀{Y:R (Fl×Lc)->Prop},(∀b:Bool,(decide (k=98)&&wi o q)=b->b=I->Jd Y m (.fl (.am<|.i C) [] [O (T.nd k a ks f p).v,O (T.nd A G ks' B F).v,O (.ae c),O (.aa g.length)] H))->((decide (k=98)&&wi o q)=C->Jd Y m (.s (pR.drop 1) [] [O (T.nd k a ks f p).v,O (T.nd A G ks' B F).v,O (.ae c),O (.aa g.length)] H))->Jd Y m (.s pR [] [O (T.nd k a ks f p).v,O (T.nd A G ks' B F).v,O (.ae c),O (.aa g.length)] H):=by
   intro Y q1 q2;refine eh J (λz=>?_) λz=>bh J J<|bf J<|q2 (by rw[z];rfl);have hk:=D z;have n1:=(hb hk).1 o<|mi g1;have n2:=(hb hk).2 q<|mi g2
   induction o using gC with
   |none=>exact ax J n1
   |some x=>
    induction q using gC with
    |none=>exact ax J n2
    |some y=>
     refine dn λkk=>?_;obtain⟨xk,xa,xs',xf,xp⟩:=x;obtain⟨yk,ya,ys',yf,yp⟩:=y;refine kk<|b5 J (i1 H)<|b5 J (i2 H)<|et J (λw=>?_) λw=>?_
     ·exact bv J<|q1 I (by rw[z];show decide (xk≠yk)=I;rw[decide_not];exact w) J
     ·exact bf J<|q2 (by rw[z];show decide (xk≠yk)=C;rw[decide_not];exact w)
  refine dn λkk=>?_;obtain⟨P,er,hj,N⟩:=ih o q s H h1.1 K.1 h3.1 hc<|L1 hz;refine kk ?_;have second:∀{Y:R (Fl×Lc)->Prop} {b:Bool},(i8 o q).isSome=b->(b=C->Y (.ok (.am<|.i C,[O (T.nd k a ks f p).v,O (T.nd A G ks' B F).v,O (.ae c),O (.aa g.length)])<|H.set c<|.af<|s++P))->(b=I->Y (.ok (.aU,[O (T.nd k a ks f p).v,O (T.nd A G ks' B F).v,O (.ae c),O (.aa g.length)])<|H.set c<|.af<|s++P))->Jd Y m (.s (pR.drop 1) [] [O (T.nd k a ks f p).v,O (T.nd A G ks' B F).v,O (.ae c),O (.aa g.length)] H):=by
   intro Y b hb' q1 q2;rw[hb'] at er;refine b5 J (i1 H)<|b5 J (i2 H)<|bn J er<|et J (λz=>?_) λz=>?_
   ·exact aL J<|q1 (by cases b;rfl;exact bc z)
   ·exact aL J<|q2 (by cases b;exact c6 z;rfl)
  rw[yW];split
  ·rename_i j
   refine⟨[],O<|.aa g.length,M (Y:=.ok (.am<|.i C,_) H) (qt (past (λQ Q Q=>aL J J) λz=>by rw[z] at j;exact bc j)) J|>.trans ?_,λ_=>ba,dG _⟩;rw[cN,si hc];rfl
  ·rename_i j
   have j:=qc.mpr j;split
   ·rename_i hf
    exact⟨P,O<|.aa g.length,M (qt<|past (λb e e'=>by rw[j] at e;cases e;exact bc e') λQ=>second (by rw[hf];rfl) (λQ=>J) bc) J,λ_=>ba,aE N<|d8 ..⟩
   ·rename_i os hf
    obtain⟨js2,l3',W,hj2,hz2⟩:=ihd rs (g++[o]) (Z++[q]) (s++P) (H.set c<|.af<|s++P) (O<|.aa g.length) (by rw[e1,b6];rfl) (by rw[e2,b6];rfl) (by rw[bx,bx,el];rfl) (E5 hl) K.2 h3.2 h1.2 (fk hc) (by rw[bx];exact L2 hz N);rw[bx] at W;refine⟨P++js2,l3',M (qt<|past (λb e e'=>by rw[j] at e;cases e;exact bc e') λQ=>second (by rw[hf];rfl) c6 λQ=>J)<|W.trans ?_,λos' e=>?_,by rw[bx];exact gn N hz2⟩
    ·rw[oo,b6]
     cases gK (decide (k=98)) u rs<;>rfl
    ·refine aB (fV.mp e) ?_;rintro os2 e2 rfl;rw[hj os hf,hj2 os2 e2,dz]
end
section
variable{m n i a b c:Nat}{H u:Hp}{q:Cf}{j:List V}
noncomputable def J2(n c m:Nat):Prop:=∀(d r:Option T) (j:List V) (H:Hp),Du r<=n->zq d->Dt r->H[c]? =O (.af j)->j.length+wH r<=bg->lS c j H (i8 d r) (wH r) (ag m 1101 [ov d,ov r,.ae c] H)
theorem Dx:∀ks:List (Option T),ks.length<=fj ks
 |[]=>bF _
 |none::r=>gp<|Dx r
 |some t::r=>by have:=Dx r;have:=Ht t;show r.length+1<=sz t+fj r;lia
theorem lS.no(h:H[c]? =O (.af j)){r:R V}(d:r=.ok (.i C) H):lS c j H U z r:=⟨[],by rw[d,cN,si h];rfl,λ_=>ba,dG _⟩
theorem J3:∀o∈[some t],o≠none:=λo d=>by
 cases d with
 |head=>nofun
 |tail _ h=>cases h
theorem J4{k f p h l x:Int}{a o:List Nat}{g d:List<|Option T}(X:J2 n c m)(s:J1<|.nd k a g f p)(u:tV<|.nd h o d l x)(Y:hO d<=n)(y:H[c]? =O (.af j))(M:j.length+fj d<=bg):
  Jd (λr=>lS c j H (if k=h/\a=o/\f=l/\g.length=d.length then gK (decide (k=98)) g d else U) (fj d)<|r.i eg) m (.s (rA.drop 2) [] [O (T.nd k a g f p).v,O (T.nd h o d l x).v,O (.ae c),l3] H):=by
 have no:∀{q:Cf},¬(k=h/\a=o/\f=l/\g.length=d.length)->go q=.v (.i I) (.bQ [.am (.c<|.i C)] [] (rA.drop 3)::[]) [O (T.nd k a g f p).v,O (T.nd h o d l x).v,O (.ae c),l3] H->Jd (λr=>lS c j H (if k=h/\a=o/\f=l/\g.length=d.length then gK (decide (k=98)) g d else U) (fj d)<|r.i eg) m q:=λz e=>by
  rw[a9 z];exact cy e J<|aL J<|lS.no y J
 refine vC (b:= !decide (k=h)) J (λz=>no (λw=>by rw[dH w.1] at z;exact bc z) J) λz1=>vC (b:= !decide (a=o)) J (λz=>no (λw=>by rw[dH w.2.1] at z;exact bc z) J) λA=>vC (b:= !decide (f=l)) J (λz=>no (λw=>by rw[dH w.2.2.1] at z;exact bc z) J) λB=>fD J J<|fD (b:=.bK) J J<|et (b:= !decide (((fi g).length:Int)=(fi d).length)) J (λz=>?_) λF=>?_
 ·rw[a9 λw=>by rw[wI,wI,dH (bH _ w.2.2.2)] at z;exact bc z];exact aL J<|lS.no y J
 ·clear no;obtain rfl:k=h:=by by_cases e:k=h;exact e;rw[dT e] at z1;exact c6 z1
  obtain rfl:a=o:=by by_cases e:a=o;exact e;rw[dT e] at A;exact c6 A
  obtain rfl:f=l:=by by_cases e:f=l;exact e;rw[dT e] at B;exact c6 B
  have G:g.length=d.length:=by
   by_cases e:((fi g).length:Int)=(fi d).length
   ·rw[wI,wI] at e;exact Int.ofNat.inj e
   ·rw[dT e] at F;exact c6 F
  rw[aN ⟨J,J,J,G⟩];clear B z1 F A;obtain⟨N,Z,hr,L,v⟩:=Ww (ks:=g) (ks':=d) X (λe=>by
   obtain⟨t,rfl⟩:=s.1 e;obtain⟨E,rfl⟩:=u.2.2.2 e;exact⟨J3,J3⟩) g d [] [] j H l3 J J J G s.2 u.1 Y y M
  rw[lj,<-xF] at hr;have P:az (ag m) (.bi .bK [.q (.l 0) .bO]) [O (T.nd k a g f p).v,O (T.nd k a d f x).v,O (.ae c),l3] H=.ok (.aa (g.length:Nat)) H:=by
   show R.ok (V.aa (fi g).length) H=_;rw[wI]
  have hbig:g.length<=bg:=by rw[G];exact aE (Dx d)<|aE (hG ..) M
  cases Q:gK (decide (k=98)) g d with
  |none=>
   rw[Q] at hr L;exact Ws J P hbig hr<|aL J ⟨N,J,λ_=>ba,v⟩
  |some os=>
   rw[Q] at hr L;exact vO J P hbig hr<|aL J ⟨N,J,L,v⟩
theorem J5{k f p h g:Int}{a j:List Nat}{d:List<|Option T}{t:T}(l:k≠98):fq (.nd k a d f p) (.nd 98 j [O t] h g)=(if k=t.aq/\a=t.a/\f=t.cj/\d.length=t.bO.length then gK (decide (k=98)) d t.bO else U).map (g::·):=by
 have e:(decide ((T.nd 98 j [O t] h g).aq=98)&&decide (k≠98))=true:=by rw[dH l];rfl
 rw[yV];simp only[e,if_true];show(if k=t.aq/\a=t.a/\f=t.cj/\d.length=t.bO.length then(gK (decide (k=98)) d t.bO).map (g::·) else U)=_;split<;>rfl
theorem J6:∀(n:Nat),J2 n c (n+1)
 |n,U,U,j,H,_,_,_,hc,_=>⟨[],cS J J<|dP J J<|cy J J<|fC J J<|aL J (by rw[cN,si hc];rfl),λos e=>by cases e;rfl,dG _⟩
 |n,U,O (.nd g q d s l),j,H,_,_,_,hc,_=>lS.no hc<|cS J J<|dP J J<|cy J J<|fC J J<|aL J J
 |n,O (.nd k a ks f p),U,j,H,_,_,_,hc,_=>lS.no hc<|cS J J<|dP J J<|cy J J<|fC J J<|aL J J
 |0,O _,O (.nd g q d s l),j,H,h,_,_,_,_=>ax h<|km _
 |n+1,O (.nd k a ks f p),O (.nd g q d s l),j,H,Q,v,u,hc,X=>by
  have Y:=J6 n;have x:j.length+(fj d+1)<=bg:=X;rw[qq (n+1) (f:=1101) J J];have main:(g=98->k=98)->Jd (λr=>lS c j H (fq (.nd k a ks f p)<|.nd g q d s l) (fj d+1)<|r.i eg) (n+1) (.s (rA.drop 2) [] [O (T.nd k a ks f p).v,O (T.nd g q d s l).v,O (.ae c),U] H):=λE=>by
   refine dn λK=>?_;obtain⟨y,A,h2,B⟩:=J4 (l3:=U) Y v u (jr Q) hc<|L1 x;refine K ?_;have e:fq (.nd k a ks f p) (.nd g q d s l)=if k=g/\a=q/\f=s/\ks.length=d.length then gK (decide (k=98)) ks d else none:=wj E
   refine⟨y,?_,?_,f1 B⟩
   ·rw[e];exact A
   ·rw[e];exact h2
  refine dP J J<|bh J J<|eh J (λz=>et (b:= !decide (k=98)) J (λw=>?_) λw=>?_) λz=>bh J J<|bf (c':=.s (rA.drop 2) [] _ H) J (main λe=>by rw[dH e] at z;exact c6 z)
  ·obtain rfl:=D z;have Z:k≠98:=λe=>by rw[dH e] at w;exact bc w
   obtain⟨t,rfl⟩:=u.2.2.2 J;obtain⟨g,F,o,G,L⟩:=t;have M:j.length+(fj o+1+0+1)<=bg:=X;obtain⟨y,A,h2,B⟩:=J4 Y v u.1.1 (iy<|aE (Nj ..)<|jr Q) (fk hc:(H.set c<|.af<|j++[.aa l])[c]? =O (.af<|j++[.aa l])) (by rw[bx];show j.length+1+_<=_;exact L1 M);have N:lS c j H (fq (.nd k a ks f p)<|.nd 98 q [O (.nd g F o G L)] s l) (fj [O (.nd g F o G L)]+1) ((d6 (ag<|n+1)<|.s (rA.drop 2) [] [O (T.nd k a ks f p).v,O (T.nd g F o G L).v,O (.ae c),U]<|H.set c<|.af<|j++[.aa l]).i eg):=by
    refine⟨.aa l::y,?_,λos e=>?_,gp<|aE B<|ey _⟩
    ·rw[A,J5 Z,oo,b6,Option.isSome_map];rfl
    ·rw[J5 Z] at e;refine aB (fV.mp e) ?_;rintro P e2 rfl;rw[h2 P e2];rfl
   exact fZ J hc<|i6 J hc (L1 x)<|b5 J (Dv J)<|bf J N
  ·exact bf J (main λR=>by by_cases e:k=98;exact e;rw[dT e] at w;exact c6 w)
end
noncomputable def uq:List S:=match Gi with
 |[_,_,.y _ _ b,_]=>b
 |_=>[]
section
variable{m n i a b o:Nat}{H j:Hp}{u:Cf}{q:List V}{p d:Int}
noncomputable abbrev pS(a o:Nat)(p d:Int)(c:Option V):Lc:=[O (.ae a),O (.aa p),O (.ae o),O (.aa d),c]
theorem Wz{t:aj}{Y:R (Fl×Lc)->Prop}{g:List aj}(u:H[o]? =O (.af<|g.map aj.v))(y:g.length<bg)
  (A:(t.is 5 [41]=I/\(if t.is 5 [41]=I then d-1 else d)=0)->Y (.ok (.q,pS a o p 99<|O t.v) H))(B:¬(t.is 5 [41]=I/\(if t.is 5 [41]=I then d-1 else d)=0)->t.aJ=p->Y (.ok (.q,pS a o p 1<|O t.v) H))
  (F:¬(t.is 5 [41]=I/\(if t.is 5 [41]=I then d-1 else d)=0)->¬t.aJ=p->Y (.ok (.aU,pS a o p (if(if t.is 5 [41]=I then d-1 else d)>0/\t.is 5 [40]=I then(if t.is 5 [41]=I then d-1 else d)+1 else(if t.is 5 [41]=I then d-1 else d))<|O t.v)<|H.set o<|.af<|(g++[t]).map aj.v)):
  Y (aZ (ag m) uq (pS a o p d<|O t.v) H):=by
 obtain⟨k,x,nu,c,en,ln⟩:=t;have G:∀{Y:R (Fl×Lc)->Prop} {r:List S} {l:Lc} {H:Hp},Jd Y m (.s r [] l H)->Y (aZ (ag m) r l H):=λ{Y r l H} q=>by
  have e:(aZ (ag m) r l H).i (dq (ag m) [])=aZ (ag m) r l H:=by cases aZ (ag m) r l H<;>rfl
  have q:Y ((aZ (ag m) r l H).i<|dq (ag m) []):=q;rwa [e] at q
 refine G ?_;have last:∀f,f=(if(aj.mk k x nu c en ln).is 5 [41]=I then d-1 else d)->¬((aj.mk k x nu c en ln).is 5 [41]=I/\(if(aj.mk k x nu c en ln).is 5 [41]=I then d-1 else d)=0)->Jd Y m (.s (uq.drop 1) [] (pS a o p f<|O (aj.mk k x nu c en ln).v) H):=by
  intro f hd v;have h:∀j,j=(if f>0/\(aj.mk k x nu c en ln).is 5 [40]=I then f+1 else f)->¬c=p->Jd Y m (.s (uq.drop 3) [] (pS a o p j<|O (aj.mk k x nu c en ln).v) H):=by
   intro j s hp;refine fZ J u<|i6 J u (by rw[c5];exact y)<|aL J ?_;rw[s,hd];have:=F v hp;rw[dz] at this;exact this
  refine et J (λz=>aL J<|B v<|D z) λz=>?_;have hp:=jw z;refine eh (b:=decide (0<f)) J (λz=>fC J J<|et J (λw=>fQ J J<|bf J<|h (f+1) (by rw[aN ⟨D z,w⟩]) hp) λw=>bf J<|h f (by rw[a9 λe=>by rw[show(aj.mk k x nu c en ln).is 5 [40]=C from w] at e;cases e.2]) hp) λz=>bh J J<|bf J<|h f (by rw[a9 λe=>by rw[dH e.1] at z;exact c6 z]) hp
 refine fC J J<|et J (λw=>fQ J J<|et J (λz=>aL J<|A ⟨w,(aN<|show(aj.mk k x nu c en ln).is 5 [41]=I from w).trans<|D z⟩) λz=>?_) λw=>?_
 ·have w:(aj.mk k x nu c en ln).is 5 [41]=true:=w;exact bf J (last (d-1) (by rw[aN w]) λe=>by rw[aN w] at e;exact jw z e.2)
 ·have w:(aj.mk k x nu c en ln).is 5 [41]=false:=w;exact bf J (last d (by rw[w];rfl) λe=>by rw[w] at e;cases e.1)
theorem WA:∀(ts c:List aj) (d:Int) (q:Option V) (H:Hp),H[o]? =O (.af<|c.map aj.v)->c.length+ts.length<=bg->∃k f,dp (λv l H=>aZ (ag m) uq (l.set 4<|O v) H) (ts.map aj.v) (pS a o p d q) H=.ok (.aU,pS a o p k f) (H.set o<|.af<|(c++wo p d ts).map aj.v):=by
 intro r
 induction r with
 |nil=>
  intro c d q H g u;exact gv d q (by rw[U0,cN,si g];rfl)
 |cons t r s=>
  intro c d q H g j;have j:c.length+(r.length+1)<=bg:=j;rw[wu];refine Wz (Y:=λz=>∃k f,(match z with|.ok (.aU,l) H=>dp (λv l H=>aZ (ag m) uq (l.set 4<|O v) H) (r.map aj.v) l H|.ok (.q,l) H=>dp (λv l H=>aZ (ag m) uq (l.set 4<|O v) H) (r.map aj.v) l H|.ok (.u,l) H=>.ok (.aU,l) H|.ok (.am v,l) H=>.ok (.am v,l) H|_=>.j)=R.ok (Fl.aU,pS a o p k f) _) g (L1 j) (λh=>?_) (λh hp=>?_) λh hp=>?_
  ·rw[aN h];exact s c 99 _ H g<|L1 j
  ·rw[a9 h,aN hp];exact s c 1 _ H g<|L1 j
  ·rw[a9 h,a9 hp];refine jx (s (c++[t]) (if(if t.is 5 [41]=I then d-1 else d)>0/\t.is 5 [40]=I then(if t.is 5 [41]=I then d-1 else d)+1 else(if t.is 5 [41]=I then d-1 else d)) (O t.v) (H.set o<|.af<|(c++[t]).map aj.v) (fk g) (by rw[bx];show c.length+1+_<=_;exact L1 j)) λk f e=>?_;rw[oo,b6] at e;exact gv k f e
theorem WB{c:List aj}(f:H[a]? =O (.af<|c.map aj.v))(g:c.length<=bg):ag (m+1) 1108 [.ae a,.aa p] H=.ok (.ae H.length) (H++[.af ((wo p 0 c).map aj.v)]):=by
 have ne:=fc<|hX f;refine dn λh=>jx (WA (m:=m) (a:=a) (p:=p) c [] 0 U ((H++[bY.af []]).set a .i) (fm ne cD) (by rw[lj,da];exact g)) λk j e=>h<|cS J J<|JY J J (cR f) e<|aL J ?_;rw[List.set_comm _ _ (eH ne),ry (cR f),iB];rfl
end
noncomputable def sj:List S:=match Gh with
 |[_,_,.jA _ _ b,_]=>b
 |_=>[]
noncomputable def mQ:List aj->Prop
 |[]=>True
 |[t]=>t.is 5 [59]=C
 |_::r=>mQ r
theorem mQ.tl{r:List aj}(h:mQ<|t::r):mQ r:=by
 induction r using aV with
 |nil=>trivial
 |cons u r=>exact h
theorem mQ.jz:∀{u:List aj} {e:aj},e.is 5 [59]=C->mQ (u++[e])
 |[],e,h=>h
 |t::u,e,h=>by
  have b:=mQ.jz (u:=u) h
  induction u using aV with
  |nil=>exact h
  |cons v w=>exact b
section
variable{m n a o:Nat}{H i:Hp}{q:Cf}{j:List V}{fr:Bool}
noncomputable abbrev lT(a o M:Nat)(fr:Bool)(b c d e:Option V):Lc:=[O (.ae a),O (.aa (M:Int)),O (.ae o),O (.i fr),b,c,d,e]
theorem J7{t:aj}{Y:R (Fl×Lc)->Prop}{acc p:List aj}{M i:Nat}(hM:M=1∨M=2)(ha:H[a]? =O (.af<|p.map aj.v))(N:p[i]? =O t)(F:H[o]? =O (.af<|acc.map aj.v))(P:acc.length<bg)
  (Q:t.is 5 [59]=I->∃pv nx j,i=j+1/\p[j]? =O pv/\p[i+1]? =O nx/\(mL pv nx=I->M=2->∀s d f,Y<|.ok (.q,lT a o M I (O<|.aa i) s d f) H)/\(mL pv nx=C->M=2->∀s d f,Y<|.ok (.aU,lT a o M C (O<|.aa i) s d f)<|H.set o<|.af<|(acc++[({t with cC:=fr}:aj)]).map aj.v))
  (q1:t.is 5 [59]=I->M=1->∀s d f,Y<|.ok (.q,lT a o M fr (O<|.aa i) s d f)<|H.set o<|.af<|(acc++[(⟨5,[44],0,t.aJ,t.jz,C⟩:aj)]).map aj.v)
  (X:t.is 5 [59]=C->∀s d f,Y<|.ok (.aU,lT a o M C (O<|.aa i) s d f)<|H.set o<|.af<|(acc++[({t with cC:=fr}:aj)]).map aj.v):
  Y (aZ (ag m) sj (lT a o M fr (O<|.aa i) s d f) H):=by
 obtain⟨k,x,nu,c,en,ln⟩:=t;have ss:∀{Y:R (Fl×Lc)->Prop} {r:List S} {l:Lc} {H:Hp},Jd Y m (.s r [] l H)->Y (aZ (ag m) r l H):=λ{Y r l H} q=>by
  have e:(aZ (ag m) r l H).i (dq (ag m) [])=aZ (ag m) r l H:=by cases aZ (ag m) r l H<;>rfl
  have q:Y ((aZ (ag m) r l H).i<|dq (ag m) []):=q;rwa [e] at q
 refine ss ?_;have v:∀{j:Nat} {u:aj},p[j]? =O u->f6 (.ae a) (.aa (j:Int)) H=.ok u.v H:=λ{j u} h=>hY ha (by rw[qb,h];rfl);have y:∀d f,(∀s d f,Y<|.ok (.aU,lT a o M C (O<|.aa i) s d f)<|H.set o<|.af<|(acc++[(⟨k,x,nu,c,en,fr⟩:aj)]).map aj.v)->Jd Y m (.s (sj.drop 2) [] (lT a o M fr (O<|.aa i) (O (aj.mk k x nu c en ln).v) d f) H):=λd f q=>by
  refine fZ J F<|lP (v:=(aj.mk k x nu c en fr).v) J J<|i6 J F (by rw[c5];exact P)<|aL J ?_;have:=q (O (aj.mk k x nu c en ln).v) d f;rw[dz] at this;exact this
 refine b5 J (v N)<|eh J (λz=>eh (b:=decide (x=[59])) J (λw=>?_) λw=>?_) λz=>?_
 ·have e:(aj.mk k x nu c en ln).is 5 [59]=true:=by
   show(decide (k=5)&&decide (x=[59]))=I;rw[z,w];rfl
  clear N;refine x7 (Q e) ?_;rintro pv nx j rfl G L h1 h2;clear Q
  rcases hM with rfl|rfl
  ·refine cy rfl rfl<|cy rfl rfl<|fZ rfl F<|lP (v:=(aj.mk 5 [44] 0 c en false).v) rfl rfl<|i6 rfl F (by rw[c5];exact P)<|aL rfl ?_;have:=q1 e J (O (aj.mk k x nu c en ln).v) d f;rw[dz] at this;exact this
  ·refine dn λkk=>?_;obtain⟨Z,A,pn,E,K,T⟩:=pv;obtain⟨W,g,nn,na,ne,nl⟩:=nx;refine kk ?_;have aU:=v L;have B:f6 (.ae a) (.aa ((j+1:Nat)-1:Int)) H=.ok (aj.mk Z A pn E K T).v H:=by
    rw[show((j+1:Nat)-1:Int)=(j:Int) by lia];exact v G
   refine cy J J<|bh J J<|b5 J aU<|fC (b':=decide ([40]=g)||(decide ([60]=g)||C)) J (c9<|b5 J aU<|aL J J)<|b5 J B ?_;refine fC J (c9<|fC J (c9<|b5 J B<|dP J (c9<|b5 J aU<|aL J J)<|aL J J)<|aL J J) ?_;have lo:(!(decide (W=5)&&(decide ([40]=g)||(decide ([60]=g)||C)))&&(!(decide (f3=A)||(decide (gs=A)||C))&&(!decide (A=dO)|| !decide (g=eY))))=mL (aj.mk Z A pn E K T) (aj.mk W g nn na ne nl):=by
    unfold mL;rw[nD [40],nD [60],nD f3,nD gs,oj,oj]
   rw[lo];refine et J (λb=>aL J<|h1 b J _ _ _) λb=>bf J<|y _ _<|h2 b J
 ·have e:(aj.mk k x nu c en ln).is 5 [59]=false:=by
   show(decide (k=5)&&decide (x=[59]))=C;rw[z,w];rfl
  exact bh J J<|bf J<|y _ _<|X e
 ·have e:(aj.mk k x nu c en ln).is 5 [59]=false:=by
   show(decide (k=5)&&decide (x=[59]))=C;rw[z];rfl
  exact bh J J<|bf J<|y _ _<|X e
end
noncomputable def zs(f:Lc->Hp->R (Fl×Lc))(z:R<|Fl×Lc):R (Fl×Lc):=match z with
 |.ok (.aU,l) H=>f l H
 |.ok (.q,l) H=>f l H
 |.ok (.u,l) H=>.ok (.aU,l) H
 |.ok (.am v,l) H=>.ok (.am v,l) H
 |_=>.j
inductive ur(a o M:Nat)(H:Hp)(ts:List aj)(r:R (Fl×Lc)):Prop where
 |mk (fr:Bool) (l4 l5 l6 l7:Option V) (h:r=.ok (.aU,lT a o M fr l4 l5 l6 l7) (H.set o (.af (ts.map aj.v))))
section
variable{m n a o M:Nat}{H y:Hp}{q:List aj}
theorem WC(L:M=1∨M=2)(N:a≠o):∀(ts pre b:List aj) (p:aj) (fr:Bool) (H:Hp) (x d g k:Option V),q=pre++p::ts->mQ ts->H[a]? =O (.af<|q.map aj.v)->H[o]? =O (.af<|b.map aj.v)->b.length+ts.length<=bg->
  ur a o M H (b++en M p fr ts) (dp (λv l H=>aZ (ag m) sj (l.set 4<|O v) H) ((ll (pre.length+1) ts.length).map λ(i:Nat)=>V.aa (i:Int)) (lT a o M fr x d g k) H):=by
 intro r
 induction r with
 |nil=>
  intro pre b p fr H x d g k P P P B P;exact⟨fr,x,d,g,k,by rw[U7,cN,si B];rfl⟩
 |cons t r A=>
  intro pre b p fr H x d g k e F Q B G;have G:b.length+(r.length+1)<=bg:=G;have A:∀acc' c y d g k,y[a]? =O (.af<|q.map aj.v)->y[o]? =O (.af<|acc'.map aj.v)->acc'.length<=b.length+1->ur a o M y (acc'++en M t c r) (dp (λv l H=>aZ (ag m) sj (l.set 4<|O v) H) ((ll (pre.length+1+1) r.length).map λ(i:Nat)=>V.aa (i:Int)) (lT a o M c (O<|.aa ((pre.length+1:Nat):Int)) d g k) y):=λacc' c y d g k s h2 X=>by
   have:=A (pre++[p]) acc' t c y (O<|.aa ((pre.length+1:Nat):Int)) d g k (by rw[e,b6];rfl) F.tl s h2<|L2 G X;rw[bx] at this;exact this
  have w:∀u c d g k (Z:List aj),Z=u::en M t c r->ur a o M H (b++Z) (dp (λv l H=>aZ (ag m) sj (l.set 4<|O v) H) ((ll (pre.length+1+1) r.length).map λ(i:Nat)=>V.aa (i:Int)) (lT a o M c (O<|.aa ((pre.length+1:Nat):Int)) d g k)<|H.set o<|.af<|(b++[u]).map aj.v):=λu c d g k Z Y=>by
   obtain⟨f,x,d,g,k,h⟩:=A (b++[u]) c _ d g k (fm (eH N) Q) (fk B) (by rw[bx];exact bF _);rw[oo,b6] at h;exact⟨f,x,d,g,k,by rw[Y];exact h⟩
  have gt:∀j u,(p::t::r)[j]? =O u->q[pre.length+j]? =O u:=λj u h=>by rw[e];exact(ra<|d8 ..).trans (by rw[Ni];exact h)
  refine J7 (Y:=λz=>ur a o M H (b++en M p fr (t::r))<|zs _ z) L Q (gt 1 t J) B (L1 G) (λht=>?_) (λht s d g k=>?_) λht d g k=>?_
  ·clear L
   induction r using aV with
   |nil=>rw[F] at ht;exact bc ht
   |cons nx r=>
    refine m3 p nx pre.length J (gt 0 p J) (gt 2 nx J) (λs h2 d g k=>?_) λs h2 d g k=>?_
    ·subst h2;rw[show en 2 p fr (t::nx::r)=en 2 t I (nx::r) by rw[qF,ht];exact aN s];exact A b I H _ _ _ Q B<|ey _
    ·subst h2;exact w {t with cC:=fr} C _ _ _ _ (by rw[qF,ht];exact a9 (c:=mL p nx=I) (by rw[s];nofun))
  ·clear A L;clear A;subst s;exact w ⟨5,[44],0,t.aJ,t.jz,C⟩ fr _ _ _ _ (by rw[qF,ht];rfl)
  ·exact w {t with cC:=fr} C _ _ _ _ (uh ht ..)
theorem WD{t:aj}{r:List aj}(p:M=1∨M=2)(j:t.is 5 [59]=C)(k:mQ r)(c:H[a]? =O (.af<|(t::r).map aj.v))(q:r.length<bg):ag (m+1) 1035 [.ae a,.aa (M:Int)] H=.ok (.ae H.length) (H++[.af ((en M kZ C<|t::r).map aj.v)]):=by
 have ne:=fc<|hX c;obtain⟨f,s,d,e,g,h⟩:ur a H.length M (H++[bY.af []]) (en M kZ C<|t::r) (dp (λv l H=>aZ (ag m) sj (l.set 4<|O v) H) ((ll 0<|r.length+1).map λ(i:Nat)=>V.aa (i:Int)) (lT a H.length M C U U U U)<|H++[.af []]):=by
  refine J7 (acc:=[]) (Y:=λz=>ur a H.length M (H++[bY.af []]) (en M kZ C<|t::r)<|zs _ z) p (cR c) J cD (D J) (λw=>by rw[j] at w;exact bc w) (λw=>by rw[j] at w;exact bc w) λu d e g=>?_;obtain⟨f,s,d,e,g,h⟩:=WC p ne r [] [({t with cC:=C}:aj)] t C ((H++[bY.af []]).set H.length<|.af<|[({t with cC:=C}:aj)].map aj.v) (O<|.aa (0:Nat)) d e g J k (fm (eH ne)<|cR c) (fk cD) (by show 1+_<=_;exact L1 q);rw[oo] at h;exact⟨f,s,d,e,g,by rw[uh j];exact h⟩
 have b:az (ag m) (.bi .bK [.l 0]) [O (.ae a),O (.aa (M:Int)),O (.ae H.length),O (.i C),U,U,U,U] (H++[.af []])=.ok (.aa ((r.length+1:Nat):Int)) (H++[.af []]):=by
  show f7 .bK [.ae a] (H++[.af []])=_;rw[nX (cR c),c5];rfl
 refine cS J J<|vO (b:=sj) J b (NJ q) (by rw[xF];exact h)<|aL J ?_;show R.ok (V.ae H.length) _=_;rw[iB]
end
section
variable{m n a o:Nat}{H i B G:Hp}{X:R (Fl×Lc)->Prop}{j:Cf}{l:Lc}{u v:V}
theorem WE{a:At}{u:V}:∀{c:List<|At×V},fe c a=U->fB c a u=c++[(a,u)]:=by
 intro r
 induction r with
 |nil=>
  intro g;exact J
 |cons d r f=>
  obtain⟨b,v⟩:=d;intro h
  by_cases e:b=a
  ·rw[show fe ((b,v)::r) a=O v from aN e] at h;exact ve h
  ·rw[show fe ((b,v)::r) a=fe r a from a9 e] at h;exact(a9 e).trans<|bH _<|f h
theorem ip{x:Nat}{a:At}{r:List S}{c:eJ}{fs:List<|At×V}(e:go j=.v (.ae x) (.tF u a r::[]) l G)(h:G[x]? =O (.aQ c fs))(k:Kp (·=x) B G)(d:fe fs a=U)(q:∀b,b[x]? =O (.aQ c<|fs++[(a,u)])->Kp (·=x) B b->Jd X m (.s r [] l b)):Jd X m j:=
 rN e h (by rw[WE d];exact q _ (fk h)<|.y (.inl J) k)
theorem ut{x:Nat}{a:At}{r:List S}{c:eJ}{fs:List<|At×V}(e:go j=.e (.dct [] []) [.cQ (.l 0) a r] l G)(d:l[0]? =O (O<|.ae x))(h:G[x]? =O (.aQ c fs))(k:Kp (·=x) B G)(f:fe fs a=U)(q:∀b,b[x]? =O (.aQ c<|fs++[(a,.dct [])])->Kp (·=x) B b->Jd X m (.s r [] l b)):Jd X m j:=
 bv e (gJ J<|kG 1 J<|gJ (k8 d)<|ip J h k f q)
theorem WF(h:H[a]? =O (.af b)):lI (.ae a) .none .none H=.ok (.ae H.length) (H++[.af b]):=by
 show(match(match H[a]? with|some (.af b)=>O b|_=>U) with|some b=>Bt b U U H|.none=>.j)=_;rw[h];rfl
noncomputable abbrev qM(c:PA):List (At×V):=[(.iA,.ae c.tl),(.aJ,.aa 0),(.dU,.ae c.dl),(.gT,.dct []),(.qh,.dct []),(.qi,.dct []),(.fW,.dct []),(.bS,.aa 0),(.rn,.u [.ah [],.aa 0,.aa 0]),(.lD,.i I),(.rq,.aa 0),(.rt,.aa 0),(.tg,.aa 0),(.ti,.ae c.lb),(.hR,.i C),(.tj,.i C),(.vg,.aa 0),(.vh,.ae c.cv),(.vi,.dct []),(.vj,.dct []),(.tm,.ae c.sp),(.x9,.ae c.sv)]
inductive WG(x d:Nat)(xs:List V)(B i:Hp):Prop where
 |mk (c:PA) (h1:c.ap=x) (h2:c.dl=d) (h:i[x]? =some (.aQ .i (qM c))) (ht:i[c.tl]? =some (.af xs)) (hx:B.length<=c.tl) (k:Kp (·=x) B i)
theorem WH{x d:Nat}{j:List V}(p:B[x]? =O (.aQ .i []))(q:B[a]? =O (.af j)):∃v i,ag (m+1) 306 [.ae x,.ae a,.ae d] B=.ok v i/\WG x d j B i:=by
 refine iM J J<|kM J (WF q) ?_;refine ip J (cR p) .refl J λG h k=>ip J h k J λN h k=>ip J h k J λP h k=>(ut J J h k J λr h k=>?_);replace h:r[x]? =O (.aQ .i [(.iA,.ae B.length),(.aJ,.aa 0),(.dU,.ae d),(.gT,.dct [])]):=h;refine(ut J J h k J λQ h k=>?_);refine(ut J J h k J λY h k=>?_);refine(ut J J h k J λZ h k=>?_);refine ip J h k J λs h k=>?_;replace h:s[x]? =O (.aQ .i [(.iA,.ae B.length),(.aJ,.aa 0),(.dU,.ae d),(.gT,.dct []),(.qh,.dct []),(.qi,.dct []),(.fW,.dct []),(.bS,.aa 0)]):=h;refine ip J h k J λE h k=>ip J h k J λt h k=>ip J h k J λw h k=>ip J h k J λc h k=>?_;replace h:c[x]? =O (.aQ .i [(.iA,.ae B.length),(.aJ,.aa 0),(.dU,.ae d),(.gT,.dct []),(.qh,.dct []),(.qi,.dct []),(.fW,.dct []),(.bS,.aa 0),(.rn,.u [.ah [],.aa 0,.aa 0]),(.lD,.i I),(.rq,.aa 0),(.rt,.aa 0)]):=h;refine ip J h k J λb h k=>ip J (cR h) (k.q .j) J λy h k=>ip J h k J λz h k=>ip J h k J λe h k=>?_;replace h:e[x]? =O (.aQ .i [(.iA,.ae B.length),(.aJ,.aa 0),(.dU,.ae d),(.gT,.dct []),(.qh,.dct []),(.qi,.dct []),(.fW,.dct []),(.bS,.aa 0),(.rn,.u [.ah [],.aa 0,.aa 0]),(.lD,.i I),(.rq,.aa 0),(.rt,.aa 0),(.tg,.aa 0),(.ti,.ae b.length),(.hR,.i C),(.tj,.i C)]):=h;refine ip J h k J λf h k=>ip J (cR h) (k.q .j) J λA h k=>(ut J J h k J λF h k=>?_);refine(ut J J h k J λg h k=>?_);replace h:g[x]? =O (.aQ .i [(.iA,.ae B.length),(.aJ,.aa 0),(.dU,.ae d),(.gT,.dct []),(.qh,.dct []),(.qi,.dct []),(.fW,.dct []),(.bS,.aa 0),(.rn,.u [.ah [],.aa 0,.aa 0]),(.lD,.i I),(.rq,.aa 0),(.rt,.aa 0),(.tg,.aa 0),(.ti,.ae b.length),(.hR,.i C),(.tj,.i C),(.vg,.aa 0),(.vh,.ae f.length),(.vi,.dct []),(.vj,.dct [])]):=h;exact ip J (cR h) (k.q .j) J λL h k=>ip J (cR h) (k.q .j) J λM h k=>aL J<|cK _ _ J ⟨⟨x,B.length,d,d,_,_,_,_⟩,J,J,h,k.cO cD<|mV<|hX p,bF _,Kp.j.q k⟩
end
section
variable{m n a o:Nat}{H j B G:Hp}{X:R (Fl×Lc)->Prop}{M:Cf}{l:Lc}{u v:V}{F:List Kf}
theorem WI{b r:List S}(e:go M=.s (.m5 i x b::r) F l H)(c:az (ag m) x l H=.ok v j)(q:Jd X m<|.s r F (l.set i<|O v) j):Jd X m M:=
 bv e (bf (by
  have e1:fY (ag m) (.m5 i x b) l H=.ok (.aU,l.set i<|O v) j:=by
   show(match az (ag m) x l H with|.ok v H=>R.ok (Fl.aU,l.set i<|O v) H|.q H=>kY (aZ (ag m) b l H)|.j=>.j)=_;rw[c]
  show R.i (R.i (fY (ag m) (.m5 i x b) l H) _) _=_;rw[e1];rfl) q)
theorem WJ{b r:List S}(e:go M=.s (.m5 i x b::r) F l H)(f:az (ag m) x l H=.q j)(g:aZ (ag m) b l j=.ok (.am y,c) d)(q:Jd X m<|.fl (.am y) F c d):Jd X m M:=
 bv e (bf (by
  have e1:fY (ag m) (.m5 i x b) l H=.ok (.am y,c) d:=by
   show(match az (ag m) x l H with|.ok v H=>R.ok (Fl.aU,l.set i<|O v) H|.q H=>kY (aZ (ag m) b l H)|.j=>.j)=_;rw[f];show kY (aZ (ag m) b l j)=_;rw[g];rfl
  show R.i (R.i (fY (ag m) (.m5 i x b) l H) _) _=_;rw[e1];rfl) q)
structure J8(H j:Hp):Prop where
 d:j[H.length]? =some (.aQ .q [(.lC,.ae (H.length+1)),(.rm,.ah [])])
 r:j[H.length+1]? =some (.af [])
 k:Kp (λξ=>False) H j
theorem WK:∃j,az (ag<|m+1) (.ce .q []) l H=.ok (.ae H.length) j/\J8 H j:=by
 have hr:((H++[bY.aQ .q []])++[bY.af []])[H.length+1]? =O (.af []):=by
  have e:H.length+1=(H++[bY.aQ .q []]).length:=by rw[bx];rfl
  rw[e];exact cD
 have ln:(H++[bY.aQ .q []]).length=H.length+1:=by rw[bx];rfl
 refine dn λb=>?_;obtain⟨v,j,e1,q⟩:∃v j,ag (m+1) 194 [.ae H.length,.ah []] (H++[.aQ .q []])=.ok v j/\J8 H j:=by
  refine iM J J<|ip J (cR cD) .refl J λG h k=>?_;refine ip J h k J λd h k=>aL J ⟨_,_,J,?_,k.cO hr<|NK _,((Kp.j.q .j).q k).u λi c e=>ax c (by rw[e];exact NL _)⟩;rw[h,ln];rfl
 refine b<|aD j ?_ q;show R.i (ag (m+1) 194 [.ae H.length,.ah []]<|H++[.aQ .q []]) _=_;rw[e1];rfl
structure WM(m a:Nat)(ts:List aj)(H H1 H2 H4:Hp)(c:PA):Prop where
 e1:∀l,az (ag (m+2)) (.ce .q []) l H=.ok (.ae H.length) H1
 e2:iZ (ag (m+2)) .i [.ae a,.ae H.length] H1=.ok (.ae c.ap) H2
 hp:H2[c.ap]? =some (.aQ .i (qM c))
 h4:H4=(H2.set c.ap (.aQ .i (fB (qM c) .gT gX))).set c.ap (.aQ .i (fB (fB (qM c) .gT gX) .fW i3))
 ps:PS c ts ⟨0,false,true⟩ ⟨ts,[]⟩ H4
 kx:∀j,bT c H4 j->Kp (λξ=>False) H j
theorem J9{s u:List aj}{e:aj}(Q:H[a]? =O (.af<|s.map aj.v))(f:s=u++[e])(Y:e.aq=0)(P:s.length<4000000):∃H1 H2 Z c,WM m a s H H1 H2 Z c:=by
 refine dn λE=>aB (WK (m:=m+1) (H:=H) (l:=[])) λH1 e1 k=>eC (WH (m:=m+1) (d:=H.length) cD<|cR<|k.k.cO Q id) ?_;rintro v2 H2 e2 ⟨⟨x,tl,d,S,lb,cv,sp,sv⟩,y,A,hp,ht,F,L⟩;obtain rfl:x=H1.length:=y;obtain rfl:d=H.length:=A;have g:=hX k.d;have b:=hX k.r;have h:=iP (by rw[bx];exact sP _) F;obtain⟨t,r,w⟩:∃t r,s=t::r:=by
  induction u using aV with
  |nil=>exact gv e [] f
  |cons t r=>exact gv t (r++[e]) f
 refine E<|⟨H1,H2,_,⟨H1.length,tl,H.length,H.length+1,lb,cv,sp,sv⟩,λl=>e1,?_,hp,J,?_,?_⟩
 ·show R.i (ag (m+2) 306 [.ae H1.length,.ae a,.ae H.length]<|H1++[.aQ .i []]) _=_;rw[e2];rfl
 ·have M:(H2.set H1.length<|.aQ .i<|fB (qM ⟨H1.length,tl,H.length,H.length+1,lb,cv,sp,sv⟩) .gT gX)[H1.length]? =O (.aQ .i<|fB (qM ⟨H1.length,tl,H.length,H.length+1,lb,cv,sp,sv⟩) .gT gX):=fk hp;rw[w];rw[w] at ht f P;exact .mk [] r t [] [] _ ⟨cK u e f Y,P,fc h,mV g,mV b,fc<|uO b h,NK _⟩ J (fk M) (fm (fc h)<|fm (fc h) ht) (fm (mV g)<|fm (mV g)<|L.cO (cR k.d)<|fc g) (fm (mV b)<|fm (mV b)<|L.cO (cR k.r)<|fc b) .nil
 ·have K:Kp (λx=>x=H1.length) H1 ((H2.set H1.length<|.aQ .i<|fB (qM ⟨H1.length,tl,H.length,H.length+1,lb,cv,sp,sv⟩) .gT gX).set H1.length<|.aQ .i<|fB (fB (qM ⟨H1.length,tl,H.length,H.length+1,lb,cv,sp,sv⟩) .gT gX) .fW i3):=.y (.inl J)<|.y (.inl J)<|Kp.j.q L;have p:=(Kp.q (k.k.u λN N z=>z.elim) K).u (Q:=λN=>False) λi q e=>ax q (by rw[e];exact rc.mpr k.k.bK);exactλj x=>⟨aE p.bK x.bK,λi q N=>(x.jE i (iP q p.bK) (fc<|iP q k.k.bK)<|fc<|NG q).trans<|p.jE i q id⟩
noncomputable def WN(H:Hp)(w:V)(r:R V):Prop:=∃j,r=.ok w j/\Kp (λb=>False) H j
theorem zt{f u:List aj}{e:aj}(y:H[a]? =O (.af<|f.map aj.v))(g:f=u++[e])(p:e.aq=0)(z:f.length<4000000)
  (A:(∃t,gI (be 15) ⟨f,[]⟩=.ok t ⟨[e],[]⟩/\w=t.v)∨∃ns,gI (be 15) ⟨f,[]⟩=.d9 ns/\w=.none):WN H w (ag (m+325) 1094 [gX,i3,.ae a] H):=by
 refine dn λh=>F5 (J9 (m:=m+322) y g p z) λH1 H2 s c mr=>h ?_;have pre:∀{Y:R (Fl×Lc)->Prop},Jd Y (m+324) (.s (Bp.drop 3) [] [O gX,O i3,O (.ae a),O (.ae c.ap),U] s)->Jd Y (m+324) (.s Bp [] ([gX,i3,.ae a].map O++jq 2 U) H):=λq=>
  bv J (gJ (mr.e1 _)<|lP J mr.e2<|rN J mr.hp<|rN J (fk mr.hp)<|bf J<|mr.h4▸q)
 have ro:=HA (m:=m+312) (f:=15) (D J) (by simp+arith only) J mr.ps;generalize hr:ag (m+312+12) 824 _ s=M at ro;clear g
 rcases A with⟨t,k,rfl⟩|⟨ns,k,rfl⟩
 ·rw[k] at ro
  cases ro with
  | @ok v j _ _ F d x=>
   obtain rfl:v=t.v:=F;refine aD j (cS rfl rfl<|pre<|WI rfl hr ?_)<|mr.kx _ x;refine dn λh=>?_;obtain⟨L,ex,en,N,Q,Z⟩:=e;obtain rfl:L=0:=p;refine h<|dQ J d<|dP J (c9 ?_)<|bh J J<|aL J J;have b:=d
   cases d with
   |mk i r t E ns H P e hp ht hd hr R=>
    refine dn λh=>?_;obtain rfl:=xJ R.j;exact h<|cZ J (vG b)<|cZ J (f9 hd J)<|fD J (nX hr)<|dP J (c9<|cZ J (b.i λK=>J)<|aL J J)<|aL J J
 ·rw[k] at ro
  cases ro with
  | @d9 j _ n x=>exact aD j (cS J J<|pre<|WJ J hr J<|aL J J)<|mr.kx _ x
end
noncomputable def Ka:List Nat:=A3
noncomputable def Dy:List (List Nat):=[iS,x0,x4,f2,bI,eX]
noncomputable def zu(w:List Nat):List (List Nat)->Bool
 |[]=>C
 |x::r=>decide (x=w)||zu w r
noncomputable def uu(w:List Nat)(n:Nat)(a:Bool):aj:=⟨if Ka.contains (w.headD 0)=I then(if zu w Dy=I then 2 else 1) else 5,w,0,n,n,a⟩
noncomputable def kN:List (List Nat)->Nat->Bool->List aj
 |[],_,_=>[]
 |w::r,n,fr=>if w=[47] then kN r n I else uu w n fr::kN r (n+1) C
theorem WP:kN [] n a=[]:=rfl
theorem Kb{r:List<|List Nat}:kN (w::r) n a=if w=[47] then kN r n I else uu w n a::kN r (n+1) false:=rfl
noncomputable def wJ:aj:=⟨0,[],0,99,99,C⟩
noncomputable def WQ(p:PR T)(a:List Int):Bool:=match p with
 |.ok _ s=>decide (s.ns=a)&&decide (s.i.aq=0)
 |.d9 b=>decide (b=a)&&(decide (9002=a.headD 0)||(decide (1005=a.headD 0)||(decide (1003=a.headD 0)||C)))
 |.j=>C
noncomputable def Dz(b:List<|List Nat)(a:List Int):Bool:=WQ (gI (be 15) ⟨kN b 0 C++[wJ],[]⟩) a
noncomputable def wK:List (List (List Nat)×List Int):=[([[123],f3,[47],[97],[125]],[9002]),([[123],gs,[97],[125]],[9002]),([[123],[109],[40],hN,[120],[44],[41],[125]],[1014]),([[123],[109],[40],[120],[63],[44],[121],[41],[125]],[1016]),([[123],[109],[40],[120],[44],eX,[41],[125]],[2680]),([[123],[97],[98],[125]],[1005]),([[123],[109],[60],tc,[62],[40],[41],[125]],[2368]),([[123],[40],hN,[120],[63],[41],[125]],[1005]),([[123],[109],[40],[120],[63],[44],hN,[121],[44],[41],[125]],[1014]),([[123],[63],[125]],[1003])]
theorem WR:∀x∈wK,Dz x.1 x.2=true:=by decide+kernel
noncomputable def wL:List S:=match yg with
 |[_,_,_,.y _ _ b,_,_,_,_,_,_]=>b
 |_=>[]
section
variable{m n a o nr:Nat}{H i:Hp}{X:R (Fl×Lc)->Prop}{q:Cf}{l:Lc}{u v l2:V}{j:List Kf}{l7:Option V}
noncomputable abbrev wM(o nr:Nat)(l2:V)(l7:Option V)(b:Bool)(c d:Option V):Lc:=[O gX,O i3,O l2,O (.ae o),O (.i b),c,U,l7,O (.ae nr),d,U]
theorem WS:∀(p:List<|List Nat) (b:List aj) (fr:Bool) (H:Hp) (A B:Option V),H[o]? =O (.af<|b.map aj.v)->(∀w∈p,w≠[])->b.length+p.length<=100->∃g i d,dp (λv l H=>aZ (ag m) wL (l.set 5<|O v) H) (p.map V.ah) (wM o nr l2 l7 fr A B) H=.ok (.aU,wM o nr l2 l7 g i d) (H.set o<|.af<|(b++kN p b.length fr).map aj.v):=by
 intro p
 induction p with
 |nil=>
  intro b fr H A B j _ _;exact A9 fr A B (by rw[WP,cN,si j];rfl)
 |cons w r F=>
  intro b fr H A B j G s
  induction w using aV with
  |nil=>exact ax J<|G []<|.head _
  |cons c w=>
  have s:b.length+(r.length+1)<=100:=s;have t:∀w∈r,w≠[]:=λw h=>G w<|.tail _ h;rw[Kb];have wo:∀k:Int,k=(if Ka.contains c=I then(if zu (c::w) Dy=I then 2 else 1) else 5)->∀d,(wM o nr l2 l7 fr (O<|.ah<|c::w)<|O<|.aa k)=d->¬(c::w)=[47]->Jd (λz=>∃g i d,zs (dp (λv l H=>aZ (ag m) wL (l.set 5<|O v) H)<|r.map V.ah) z=.ok (.aU,wM o nr l2 l7 g i d) (H.set o<|.af<|(b++uu (c::w) b.length fr::kN r (b.length+1) C).map aj.v)) m (.s (wL.drop 3) [] d H):=λk L d e P=>by
   subst e;have M:uu (c::w) b.length fr=⟨k,c::w,0,b.length,b.length,fr⟩:=by rw[L];rfl
   refine A8 (F (b++[uu (c::w) b.length fr]) C (H.set o<|.af<|(b++[uu (c::w) b.length fr]).map aj.v) (O<|.ah<|c::w) (O<|.aa k) (fk j) t (by rw[bx];show b.length+1+_<=_;exact L1 s)) λf x y e2=>?_;rw[oo,bx,b6] at e2;have ln:f7 .bK [.ae o] H=.ok (.aa (b.length:Nat)) H:=by rw[nX j,c5]
   refine fZ J j<|fD J ln<|fD J ln<|lP (v:=(aj.mk k (c::w) 0 b.length b.length fr).v) J J<|i6 J j (jt (m:=100) (by rw[c5];exact L1 s)<|D J)<|aL J<|A9 f x y ?_;rw[M] at e2⊢;rw[dz] at e2;exact e2
  have N:∀{Y:R (Fl×Lc)->Prop} {r:List S} {l:Lc} {H:Hp},Jd Y m (.s r [] l H)->Y (aZ (ag m) r l H):=λ{Y r l H} q=>by
   have e:(aZ (ag m) r l H).i (dq (ag m) [])=aZ (ag m) r l H:=by cases aZ (ag m) r l H<;>rfl
   have q:Y ((aZ (ag m) r l H).i<|dq (ag m) []):=q;rwa [e] at q
  refine N (Y:=λz=>∃g i d,zs (dp (λv l H=>aZ (ag m) wL (l.set 5<|O v) H)<|r.map V.ah) z=R.ok (Fl.aU,wM o nr l2 l7 g i d) _)<|et J (λz=>aL J ?_) λz=>?_
  ·rw[aN (D z)];exact F b I H _ _ j t<|L1 s
  ·have z:=jw z;rw[a9 z];refine b5 J (jM (pre:=[]))<|et J (λy=>j2 (b:=zu (c::w) Dy) J (λx=>bf J<|wo 2 (by rw[aN y,aN x]) _ J z) λx=>bf J<|wo 1 (by rw[aN y,x];rfl) _ J z) λy=>bf J<|wo 5 (by rw[y];rfl) _ J z
end
section
variable{m n a o nr:Nat}{H j:Hp}{X:R (Fl×Lc)->Prop}{F:Cf}{l:Lc}{u v i:V}{B:List Kf}{q:Option V}
theorem WT{b r:List S}(e:go F=.s (.nb x b::r) B l H)(c:az (ag m) x l H=.ok v j)(q:Jd X m<|.s r B l j):Jd X m F:=
 bv e (bf (by
  have e1:fY (ag m) (.nb x b) l H=.ok (.aU,l) j:=by
   show(match az (ag m) x l H with|.ok _ H=>R.ok (Fl.aU,l) H|.q H=>kY (aZ (ag m) b l H)|.j=>.j)=_;rw[c]
  show R.i (R.i (fY (ag m) (.nb x b) l H) _) _=_;rw[e1];rfl) q)
theorem WU{b r:List S}(e:go F=.s (.nb x b::r) B l H)(f:az (ag m) x l H=.q j)(g:aZ (ag m) b l j=.ok (.am y,c) d)(q:Jd X m<|.fl (.am y) B c d):Jd X m F:=
 bv e (bf (by
  have e1:fY (ag m) (.nb x b) l H=.ok (.am y,c) d:=by
   show(match az (ag m) x l H with|.ok _ H=>R.ok (Fl.aU,l) H|.q H=>kY (aZ (ag m) b l H)|.j=>.j)=_;rw[f];show kY (aZ (ag m) b l j)=_;rw[g];rfl
  show R.i (R.i (fY (ag m) (.nb x b) l H) _) _=_;rw[e1];rfl) q)
noncomputable def WV(v:V):V:=match v with
 |.aQ _ ((_,n)::_)=>n
 |v=>v
theorem nA.g{b:List V}{c:List Int}(h:nA b c):b.map WV=c.map V.aa/\∀u∈b,∃n p as,u=yl n p as:=by
 induction h with
 |nil=>exact⟨J,λ_ h=>ax h eW⟩
 |eM _ d=>
  refine⟨by rw[dz,dz,d.1];rfl,λu hu=>?_⟩
  rcases eV.mp hu with hu|hu
  ·exact d.2 u hu
  ·cases hu with
   |head=>exact A9 _ _ _ rfl
   |tail _ h=>cases h
theorem zv:∀ns:List Int,ni (ns.map V.aa)=O ns
 |[]=>rfl
 |n::r=>by show(ni<|r.map V.aa).map (n::·)=_;rw[zv r];rfl
theorem Kc{c:PA}{e d:List Int}{j r:Option V}(t:NS c e H)(w:H[nr]? =O (.af<|d.map V.aa)):az (ag m) (.b9 .eq (.i (.q (.l 10) .oG) 10<|.q (.q (.l 6) .dU) .lC)<|.l 8) [O gX,O i3,O i,O (.ae o),O (.i b),j,O (.ae c.ap),q,O (.ae nr),r,U] H=.ok (.i<|decide (e=d)) (H++[.af (e.map V.aa)]):=by
 refine dn λf=>ek t λg k B hp hd h x=>f ?_;have s:=x.g;have y:az (ag m) (.i (.q (.l 10) .oG) 10<|.q (.q (.l 6) .dU) .lC) [O gX,O i3,O i,O (.ae o),O (.i b),j,O (.ae c.ap),q,O (.ae nr),r,U] H=.ok (.ae H.length) (H++[.af (e.map V.aa)]):=by
  rw[<-s.1];refine Dh (c9<|cZ J (f9 hp J)<|cZ J (f9 hd J)<|aL J J) h λu z=>dn λf=>A8 (s.2 u z) ?_;rintro n p as rfl;refine f ?_
  rfl
 show R.i (az (ag m) (.i (.q (.l 10) .oG) 10<|.q (.q (.l 6) .dU) .lC) _ H) _=_;rw[y];have A:ql (H++[bY.af (e.map V.aa)]) H.length=O (e.map V.aa):=by unfold ql;rw[cD]
 have i:ql (H++[bY.af (e.map V.aa)]) nr=O (d.map V.aa):=by unfold ql;rw[cR w]
 show cG ((vu H.length nr<|H++[bY.af (e.map V.aa)]).map V.i) _=_;unfold vu;rw[A,E6,i,E6,zv,E6,zv];rfl
theorem WW{i:Nat}{b r:List S}(e:go F=.s (.y i x b::r) B l H)(f:az (ag m) x l H=.ok (.u d) H)(g:dp (λv l H=>aZ (ag m) b (l.set i<|O v) H) d l H=.ok (.aU,c) j)(q:Jd X m<|.s r B c j):Jd X m F:=
 bv e (bf (by
  have e1:fY (ag m) (.y i x b) l H=.ok (.aU,c) j:=by
   show R.i (az (ag m) x l H) _=_;rw[f];exact g
  show R.i (R.i (fY (ag m) (.y i x b) l H) _) _=_;rw[e1];rfl) q)
theorem WX{d:List<|List Nat}{e:List Int}(L:H[nr]? =O (.af<|e.map V.aa))(Y:∀w∈d,w≠[])(A:d.length<=99)(h:Dz d e=I):Jd (λr=>∃j,r.i eg=.ok (.i I) j) (m+324) (.s (yg.drop 1) [] [O gX,O i3,O i,U,U,U,U,O (.u<|d.map V.ah),O (.ae nr),U,U] H):=by
 refine dn λf=>A8 (WS (m:=m+324) (nr:=nr) (l2:=i) (l7:=O<|.u<|d.map V.ah) d [] C (H++[.af []]) U U cD Y<|aE (b7<|da _)<|f1 A) λfr M N e1=>?_;rw[iB] at e1;have tl:(kN d 0 C).length<=d.length:=by
  have:∀d n b,(kN d n b).length<=d.length:=by
   intro d
   induction d with
   |nil=>exactλB B=>bF _
   |cons w r P=>
    intro n b;rw[Kb];split
    ·exact f1<|P _ _
    ·exact gp<|P _ _
  exact this d 0 C
 refine F5 (J9 (m:=m+322) (cD:(H++[bY.af ((kN d 0 C++[wJ]).map aj.v)])[H.length]? =O (.af<|(kN d 0 C++[wJ]).map aj.v)) J J<|jt (by rw[bx];exact gp<|aE tl A)<|D J) λH1 H2 Q c mr=>f ?_;have g:∀j,bT c Q j->j[nr]? =O (.af<|e.map V.aa):=λj x=>(mr.kx j x).cO (cR L) id;have ro:=HA (m:=m+312) (f:=15) (D J) (by simp+arith only) J mr.ps;generalize k:ag (m+312+12) 824 _ Q=K at ro;refine WW (b:=wL) J J e1<|fZ J cD<|lP (v:=wJ.v) J J<|i6 J cD (by
  rw[c5];exact jt (aE tl A)<|D J) ?_
 rw[iB];rw[dz] at mr;refine bv J<|gJ (mr.e1 _)<|lP J mr.e2<|rN J mr.hp<|rN J (fk mr.hp) ?_;rw[<-mr.h4];unfold Dz at h;generalize hp:gI (be 15) ⟨kN d 0 C++[wJ],[]⟩=p at h ro;clear L
 induction ro with
 | @ok v j t s S y x=>
  refine dn λf=>?_;obtain⟨F,h2⟩:=ed.mp h;refine f<|WT J k<|kG 2 J<|gJ (Kc y.ns<|g j x) (eh J (λB=>?_) λz=>by rw[F] at z;exact c6 z);generalize G:s.i=nw at h2;refine dn λf=>?_;obtain⟨sk,T,W,sa,se,sl⟩:=nw;exact f<|dQ J (y.j [.af (s.ns.map V.aa)]) (by rw[G];exact aL J ⟨_,by show R.ok (V.i<|decide (sk=0)) _=_;rw[h2]⟩)
 | @d9 j ns n x=>
  refine dn λf=>?_;obtain⟨F,h2⟩:=ed.mp h;obtain⟨n0,Z,rfl⟩:∃n0 r,e=n0::r:=by
   induction e using aV with
   |nil=>exact ax h2<|D J
   |cons a r=>exact gv a r J
  refine f ?_;have E:aZ (ag<|m+324) [.am (.bN (.b9 .eq (.i (.q (.l 10) .oG) 10<|.q (.q (.l 6) .dU) .lC)<|.l 8)<|.b9 .i (.y (.l 8)<|.c<|.aa 0)<|.u [.c (.aa 9002),.c (.aa 1005),.c (.aa 1003)])] [O gX,O i3,O i,O (.ae H.length),O (.i fr),M,O (.ae c.ap),O (.u<|d.map V.ah),O (.ae nr),N,U] j=.ok (.am<|.i I,[O gX,O i3,O i,O (.ae H.length),O (.i fr),M,O (.ae c.ap),O (.u<|d.map V.ah),O (.ae nr),N,U]) (j++[.af (ns.map V.aa)]):=
   qt (kG 2 J<|gJ (Kc n<|g j x) (eh J (λB=>b5 J (hY (cR<|g j x) J)<|aL J (by show R.ok (Fl.am<|V.i<|decide (9002=n0)||(decide (1005=n0)||(decide (1003=n0)||C)),_) _=_;rw[h2])) λz=>by rw[F] at z;exact c6 z))
  exact WU J k E<|aL J ⟨_,J⟩
 |j=>exact bc h
end
noncomputable abbrev DA(r:List (List Nat)×List Int):bY:=.af<|r.2.map V.aa
noncomputable def Ke(l:List<|List (List Nat)×List Int):Hp->Hp:=l.rec (λH=>H) λr _ b H=>b<|H++[DA r]
noncomputable def DB(l:List<|List (List Nat)×List Int):Hp->List V->List V:=l.rec (λ_ a=>a) λr _ b H a=>b (H++[DA r])<|a++[.u [.u (r.1.map V.ah),.ae H.length]]
theorem WY(l:List<|List (List Nat)×List Int):∀{H:Hp} {i:Nat} {o:bY},H[i]? =O o->(Ke l H)[i]? =O o:=by
 induction l with
 |nil=>exactλh=>h
 |cons r l b=>exactλh=>b<|cR h
theorem WZ(l:List<|List (List Nat)×List Int):∀{H:Hp} {a:List V} {i:Nat} {v:V},a[i]? =O v->(DB l H a)[i]? =O v:=by
 induction l with
 |nil=>exactλh=>h
 |cons r l b=>exactλh=>b<|(p7 (fK.mp h).1).trans h
theorem W0(l:List<|List (List Nat)×List Int):∀{H:Hp} {a:List V} {i:Nat} {r:List (List Nat)×List Int},l[i]? =O r->∃n,(DB l H a)[a.length+i]? =O (.u [.u (r.1.map V.ah),.ae n])/\(Ke l H)[n]? =O (DA r):=by
 induction l with
 |nil=>exactλh=>ba h
 |cons r l b=>
  intro H a i q h
  induction i using fU with
  |zero=>exact cT h▸⟨H.length,WZ l mU,WY l cD⟩
  |succ i=>
   refine(b (a:=a++[.u [.u (r.1.map V.ah),.ae H.length]]) h).elim λn h=>⟨n,?_,h.2⟩;rw[<-h.1,bx,kt,kq _ i]
   rfl
section
variable{m n a o nr:Nat}{H j:Hp}
theorem W2{q:Int}:∃v j,ag (m+325) 1113 [gX,i3,.aa q] H=.ok v j/\v=.i true:=by
 have b:∀{c:List<|List Nat} {nums:List Int} {nr:Nat} {H1:Hp} {d:Cf},(c,nums)∈wK->H1[nr]? =O (.af<|nums.map V.aa)->go d=.v (.u [.u (c.map V.ah),.ae nr]) [.iW [7,8] (yg.drop 1)] [O gX,O i3,O (.aa q),U,U,U,U,U,U,U,U] H1->Jd (GX λv p=>v=.i I) (m+324) d:=λ{c nums nr H1 d} hm hr e=>by
  have g:∀x∈wK,(∀w∈x.1,w≠[])/\x.1.length<=99:=by decide
  obtain⟨l,h2⟩:=g _ hm;refine vP e J J ?_;obtain⟨j,h⟩:=WX hr l h2<|WR _ hm;exact cK _ j h J
 refine iM J J<|kG 400 J ?_;refine(uo (x:=q) (k:=10)<|D J).elim λi f=>ck J (fT (k:=10)<|D J) ?_;rw[f.1];refine(W0 wK<|li<|f.2).elim λn h=>b5 J (Gw<|(bH (λk=>(DB wK H [])[k]?) (da i).symm).trans h.1)<|b (adm _) h.2 J
end
theorem Kg:∀{j:List W} {u:List aj} {os:List Int},tk j u os->cb u=cw j:=by
 intro j
 induction j with
 |nil=>
  intro u;intro os;intro h;rw[(mH h).1];rfl
 |cons w j a=>
  intro u;intro os;intro h;rw[tk] at h;split at h
  ·rename_i q
   have e:bw w=false:=by show(decide (w.k=5)&&decide (w.x=[91]))=C;rw[q];rfl
   rw[a h];show cw j=cw j+if bw w=I then 1 else 0;rw[e];rfl
  ·refine dn λb=>lB h ?_;clear h;rintro n p e d c rfl _ h;refine b ?_;rw[rV,a h];rfl
theorem W4:∀j:List W,∀w∈j,w.k=9->qD w=false:=λa w a e=>by
 show(decide (w.x=[40])&&(decide (w.k=5)||decide (w.k=2)))=C;rw[e];exact mX _
theorem Ps.bK{q:Int}:∀{p:Int} {u:List aj},Ps q p u->u=[]∨p+u.length<=q
 |p,[],_=>.inl J
 |p,t::r,⟨b,h2,a⟩=>.inr (by
   rcases Ps.bK a with rfl|h
   ·show p+((1:Nat):Int)<=q;lia
   ·show p+((r.length+1:Nat):Int)<=q;lia)
theorem wN(M:Nat):∀(pv:aj) (fr:Bool) (ts:List aj),(en M pv fr ts).length<=ts.length
 |pv,fr,[]=>bF _
 |pv,fr,t::r=>by
  rw[en];split
  ·split
   ·exact gp<|wN ..
   ·split
    ·exact f1<|wN ..
    ·exact gp<|wN ..
  ·exact gp<|wN ..
theorem W7{j:List W}{u:List aj}{os:List Int}{p:Int}(h:tk j u os)(b:p∈os):∃t∈u,t.aJ=p:=by
 refine dn λd=>?_;obtain⟨a,w,c,f,g,i,k,n,e,_,_,rfl,_⟩:=I7 h b;exact d<|aD _ (dm _<|.head _) J
structure Dr(ts:List T)(j:List W)(u:List aj)(os:List Int)(e:aj):Prop where
 k:K false 0 2 .j ts j
 tk:tk (gB j) u os
 ln:u.length<490000
 cb:e8 (ts.map some)<=49
 nd:(u.map aj.aJ).Nodup
 lt:∀t∈u,t.aJ<e.aJ
 ke:e.aq=0
 le:e.cC=false
structure uv(ts:List T)(e:aj)(f:Option (List Int))(v:List aj)(t:T):Prop where
 e:gI (be 15) ⟨v,[]⟩=.ok t ⟨[e],[]⟩
 f:fq (aK 71 [] ts 0) t=f
 h:ht t<=150
 s:tV t
 z:sz t<=4000000
section
variable{ts:List T}{j:List W}{u:List aj}{os:List Int}{e:aj}
theorem Kh(h:e.aq=0):cb (u++[e])=cb u:=by
 rw[v9];have:qu e=false:=by show(decide (e.aq=5)&&decide (e.aP=[91]))=C;rw[h];rfl
 show _+adt qu [e]=_;rw[Ar,this];rfl
theorem W8(h:e.aq=0):cl (u++[e])=cl u:=by
 rw[wt];have:rU e=false:=by show(decide (e.aP=[40])&&(decide (e.aq=5)||decide (e.aq=2)))=C;rw[h];exact mX _
 show _+adt rU [e]=_;rw[Ar,this];rfl
theorem Ki(h:gI (be 15) ⟨v,[]⟩=.ok t ⟨[e],[]⟩):In 65 ⟨v,[]⟩ t ⟨[e],[]⟩:=by
 have:=Cj (yK 15) (D J) ⟨v,[]⟩;rw[h] at this;exact this
theorem Kj(h:gI (be 15) ⟨u++[e],[]⟩=.ok t ⟨[e],[]⟩)(a:eE<|u++[e])(b:fq (aK 71 [] ts 0) t=f):uv ts e f (u++[e]) t:=by
 have i:=Ki h;refine dn λc=>?_;obtain⟨d,h2⟩:=a;refine c ?_;have z:sz t+1+5*1<=5*(u++[e]).length:=i.n;exact⟨h,b,L2 h2 i.b,i.p,by lia⟩
theorem Kk(d:Dr ts j u os e){c:List aj}(f:K C m 2 .j ts a)(g:tk (gB a) c os)(h:c.length<=u.length):∃t,uv ts e (O os) (c++[e]) t:=by
 have b:eE (c++[e]):=by
  refine⟨by rw[bx];exact NJ<|jt h d.ln,?_⟩;rw[Kh d.ke,Kg g];rw[eU];exact aE (Dp f).b d.cb
 exact dn λi=>aB (UJ (bF 2) f g b) λt k h2=>i<|⟨t,Kj k b h2⟩
theorem W9(d:Dr ts j u os e):∃t,uv ts e (O os) (u++[e]) t:=Kk d d.k d.tk<|bF _
theorem Xa(d:Dr ts j u os e)(f:M<=2):∃a t,en M kZ C (u++[e])=a++[e]/\a.length<490000/\uv ts e (O os) (a++[e]) t:=by
 refine dn λg=>cV (Vg (pv:=kZ) f d.k d.tk d.ke d.le) λh a b h2 i=>?_;have c:a.length<=u.length:=by
  have:=wN M kZ C<|u++[e];rw[b,bx,bx] at this;exact acY this
 obtain⟨t,r⟩:=Kk d h2 i c;exact g<|cL a t b (jt c d.ln) r
theorem Xb(d:Dr ts j u os e){p:Int}(g:p∈os):∃a,wo p 0 (u++[e])=a++[e]/\a.length<490000/\((∃t,uv ts e U (a++[e]) t)∨∃ns,gI (be 15) ⟨a++[e],[]⟩=.d9 ns):=by
 refine dn λc=>aB (W7 d.tk g) ?_;rintro l f rfl;refine x8 (U6 (bF 2) d.k d.tk g d.nd (NM<|d.lt l f) d.ke) λm a o r h2 v h4 h x=>c ?_;have y:cb u<=49:=by
  rw[Kg d.tk];rw[eU];exact aE (Dp d.k).b d.cb
 have b:eE (a++[e]):=⟨by rw[bx];exact NJ<|jt h d.ln,by rw[Kh d.ke,x];exact y⟩;refine dg a r (jt h d.ln) ?_;have w:=UK (bF 2) h2 v b;generalize k:gI (be 15) ⟨a++[e],[]⟩=q at w
 induction q using PR.casesOn with
 |j=>exact w.elim
 |d9 ns=>exact .inr ⟨ns,J⟩
 |ok t s=>
  refine dn λc=>?_;obtain rfl:s=⟨[e],[]⟩:=w;refine c<|.inl ⟨t,Kj k b ?_⟩
  cases z:fq (aK 71 [] ts 0) t with
  |none=>rfl
  |some A=>
   have i:=Ki k;have B:=i.l;rw[W8 d.ke] at B;have F:=IT _ _ _ z i.p;have G:=UM (W4 _) d.tk;have H:dR j=cW 71 (ts.map O):=UX d.k;have L:dR (gB j)=dR j:=by
    rw[ue,ue,y3];rfl
   have M:nd (aK 71 [] ts 0)=cW 71 (ts.map O)+0:=uf ..;lia
end
section
variable{a tl c:Nat}{H i:Hp}{ts:List T}{j:List W}{u:List aj}{os:List Int}{e:aj}{y:Cf}{q:List Kf}{l:Lc}{X:R (Fl×Lc)->Prop}
theorem DC{f:Option<|List Int}{t:T}{xs:List V}(r:uv ts e f v t)(g:qL<|ts.map O)(h:H[c]? =O (.af [])):∃b,ag 339 1101 [(aK 71 [] ts 0).v,t.v,.ae c] H=.ok (.i f.isSome) (H.set c<|.af b)/\∀os,f=O os->b=os.map V.aa:=by
 refine dn λi=>?_;obtain⟨b,d,h2,_⟩:=J6 338 (O<|aK 71 [] ts 0) (O t) [] H (aE r.h<|D J) ⟨λe=>ax e<|D J,g⟩ r.s h<|aE (b7<|da _)<|aE r.z<|D J;refine i ?_;have d:ag 339 1101 [(aK 71 [] ts 0).v,t.v,.ae c] H=.ok (.i (fq (aK 71 [] ts 0) t).isSome) (H.set c<|.af b):=d;have h2:∀os,fq (aK 71 [] ts 0) t=O os->b=os.map V.aa:=h2;rw[r.f] at d h2;exact aD b d h2
theorem uw{b:List aj}(h:b.length<490000):(b++[e]).length<4000000:=by rw[bx];exact uO (Nat.add_lt_add_right h 1)<|D J
noncomputable abbrev DD(tl:Nat)(d:T)(q:Int)(i j k m o b f g h:Option V):Lc:=[i,j,k,O (.aa q),O d.v,O gX,O i3,O (.ae tl),m,o,b,f,g,h]
noncomputable abbrev DE(r:R<|Fl×Lc):Prop:=∃v i,r.i eg=.ok v i/\v=.i I
theorem DF{q:Int}{A B F G L f g h i:Option V}(d:Dr ts j u os e)(s:H[tl]? =O (.af<|(u++[e]).map aj.v)):Jd DE 339 (.s (lF.drop 12) [] (DD tl (aK 71 [] ts 0) q A B F G L f g h i) H):=by
 refine dn λM=>aB (uo (x:=q) (k:=2)<|D J) λN h2 w=>cV (Xa d<|jp (Ax w) 1) λx t e1 P r=>?_;obtain⟨k,y,Q,m⟩:∃k y,u++[e]=k::y/\k.is 5 [59]=false:=by
  refine vc (Ck d.tk) ?_;rintro n p en u3 rfl _;exact cK _ _ J J
 have z:mQ (u++[e]):=mQ.jz (by show(decide (e.aq=5)&&decide (e.aP=[59]))=C;rw[d.ke];rfl);have b:(u++[e]).length<4000000:=uw d.ln;have o:ag 339 1035 [.ae tl,.aa ((1+N:Nat):Int)] H=.ok (.ae H.length) (H++[.af ((x++[e]).map aj.v)]):=by
  rw[<-e1];rw[Q] at s z b⊢;exact WD (by have:=w;lia) m z.tl s<|uO (Nat.lt_of_succ_lt b)<|D J
 refine aB (zt (m:=14) (H:=H++[.af ((x++[e]).map aj.v)]) cD J d.ke (uw P)<|.inl<|aD t r.e J) λH1 e2 k1=>aB (DC (xs:=[]) r (Ds d.k) (c:=H1.length) cD) λY Z E=>eC (W2 (m:=14) (q:=q) (H:=(H1++[bY.af []]).set H1.length<|.af Y)) λv H3 K S=>?_;obtain⟨tk,ta,tks,tf,tp⟩:=t;refine M<|ck J ((fT (k:=2)<|D J).trans<|by rw[h2])<|bn J o<|bn J e2<|vC J bc λE=>bn J Z<|bh J J<|bn J K<|aL J<|cK _ _ J S
end
section
variable{a tl c:Nat}{H j:Hp}{ts:List T}{i:List W}{u:List aj}{os:List Int}{e:aj}
theorem Xc{q:Int}{F G L M m o s v:Option V}(d:Dr ts i u os e)(l:H[tl]? =O (.af<|(u++[e]).map aj.v))(y:H[c]? =O (.af<|os.map V.aa)):Jd DE 339 (.s (lF.drop 11) [] (DD tl (aK 71 [] ts 0) q F G L (O<|.ae c) M m o s v) H):=by
 have b:f7 .bK [.ae c] H=.ok (.aa (os.length:Nat)) H:=by rw[nX y,c5]
 cases g:os with
 |nil=>
  rw[g] at b;exact fD J b<|bh J J<|bf J<|DF d l
 |cons Z E=>
  have f:0<os.length:=by rw[g];exact NA _
  refine dn λh=>?_;refine aB (uo (x:=q) f) λj N P=>?_;have hp:=li P;generalize os[j]=p at hp;refine cF (Xb d<|mi hp) λw e1 z r=>?_;refine h ?_;have w1:ag 339 1108 [.ae tl,.aa p] H=.ok (.ae H.length) (H++[.af ((w++[e]).map aj.v)]):=by
   rw[<-e1];exact WB l<|aE (sU<|uw d.ln)<|D J
  have A:=hY y (by rw[qb,hp];rfl);have md:fO .y (.aa q) (.aa (os.length:Nat)) H=.ok (.aa (j:Int)) H:=(fT f).trans<|by rw[N]
  have k:=dH<|ado.mpr f
  rcases r with⟨t,r⟩|⟨ns,r⟩
  ·refine dn λh=>?_;refine aB (zt (m:=14) (H:=H++[.af ((w++[e]).map aj.v)]) cD rfl d.ke (uw z)<|.inl<|aD t r.e rfl) λH1 e2 k1=>?_;refine aB (DC (xs:=[]) r (Ds d.k) (c:=H1.length) cD) λQ X B=>?_;have x:((H1++[bY.af []]).set H1.length<|.af Q)[tl]? =O (.af<|(u++[e]).map aj.v):=by
    rw[iB];exact cR<|k1.cO (cR l) id
   obtain⟨tk,ta,Y,K,R⟩:=t;refine h ?_;exact fD J b<|cy J k<|fD J b<|ck J md<|b5 J A<|bn J w1<|bn J e2<|eh J (λB=>bn J X<|bh J J<|bf J<|DF d x) c6
  ·refine dn λh=>?_;refine aB (zt (m:=14) (H:=H++[.af ((w++[e]).map aj.v)]) cD J d.ke (uw z)<|.inr<|aD ns r J) λH1 e2 k1=>?_;refine h ?_;exact fD J b<|cy J k<|fD J b<|ck J md<|b5 J A<|bn J w1<|bn J e2<|eh J bc λB=>bh J J<|bf J<|DF d<|k1.cO (cR l) id
theorem Xd{q:Int}(d:Dr ts i u os e)(j:H[tl]? =some (.af<|(u++[e]).map aj.v)):Jd DE 339 (.s (lF.drop 8) [] (DD tl (aK 71 [] ts 0) q k l m o p b f g h) H):=by
 refine dn λs=>?_;obtain⟨t,r⟩:=W9 d;refine aB (zt (m:=14) (H:=H++[.af []]) (cR j) rfl d.ke (uw d.ln)<|.inl<|aD t r.e rfl) λH1 e2 k1=>?_;have hc:=k1.cO cD id;refine aB (DC (xs:=[]) r (Ds d.k) hc) λy v w=>?_;obtain rfl:=w os rfl;obtain⟨tk,ta,x,z,A⟩:=t;exact s<|bv rfl<|bn rfl e2<|vC rfl bc λB=>bn rfl v<|bh rfl rfl<|bf rfl<|Xc d (fm (mV<|hX j)<|k1.cO (cR j) id)<|fk hc
end
noncomputable def Xe:E:=.ao 1075 [.bJ .i (.bJ .q (.l 3)<|.c<|.aa 3) (.bJ .j (.c<|.aa 12347)<|.l 13),.y (.l 2) (.l 13)]
noncomputable def ux(a:List Int):List Int:=(a.take 9).map (·%((1000000007:Nat):Int))++[1160,6,4].drop ((a.take 9).map (·%((1000000007:Nat):Int))).length
theorem Xf(a:List Int):ux a≠[]/\(ux a).length<=9:=by
 have h:((a.take 9).map (·%((1000000007:Nat):Int))).length<=9:=by rw[c5];exact adu ..
 unfold ux;generalize(a.take 9).map (·%((1000000007:Nat):Int))=b at h⊢;have e:(b++[1160,6,4].drop b.length).length=b.length+(3-b.length):=by rw[bx,Ay];rfl
 exact⟨λz=>by rw[z] at e;simp only[lj] at e;lia,by lia⟩
section
variable{m:Nat}{H H1:Hp}{l:Lc}
theorem Xg{j c:Nat}{a:List T}{q:Int}(d:l[3]? =O (O<|.aa q))(e:l[2]? =O (O<|.ae c))(f:l[13]? =O (O<|.aa (j:Int)))(A:j<100)(g:H1[c]? =O (.af<|a.map T.v))(h:a[j]? =O k)(i:Kd 2 k):∃t H2,az (ag<|m+5) Xe l H1=.ok (T.v t) H2/\wE 2 k t/\Kp (λB=>False) H1 H2:=by
 refine dn λo=>?_;obtain⟨v,H2,e1,t,p,rfl,w,r,x⟩:=JN i;refine o ?_;have b:az (ag<|m+5) (.l 13) l H1=.ok (.aa (j:Int)) H1:=k8 f;have s:az (ag<|m+5) (.bJ .i (.bJ .q (.l 3)<|.c<|.aa 3)<|.bJ .j (.c<|.aa 12347)<|.l 13) l H1=.ok (.aa<|q/((3:Nat):Int)+12347*(j:Int)) H1:=by
  have z1:az (ag<|m+5) (.bJ .j (.c<|.aa 12347)<|.l 13) l H1=.ok (.aa<|12347*(j:Int)) H1:=by
   show(az (ag<|m+5) (.l 13) l H1).i (λw H=>fO .j (.aa 12347) w H)=_;rw[b];exact sb ⟨by decide,by unfold bg;lia⟩
  have u:az (ag<|m+5) (.bJ .q (.l 3)<|.c<|.aa 3) l H1=.ok (.aa<|q/((3:Nat):Int)) H1:=by
   show(az (ag<|m+5) (.l 3) l H1).i (λw H=>fO .q w (.aa ((3:Nat):Int)) H)=_;rw[k8 d];exact mN (k:=3)<|D J
  show(az (ag<|m+5) (.bJ .q (.l 3)<|.c<|.aa 3) l H1).i (λv H=>(az (ag<|m+5) (.bJ .j (.c<|.aa 12347)<|.l 13) l H).i λw H=>fO .i v w H)=_;rw[u,jD,z1];rfl
 have y:az (ag<|m+5) (.y (.l 2)<|.l 13) l H1=.ok k.v H1:=by
  show(az (ag<|m+5) (.l 2) l H1).i (λv H=>(az (ag<|m+5) (.l 13) l H).i λw H=>f6 v w H)=_;rw[k8 e,jD,b];exact hY g (by rw[qb,h];rfl)
 refine cL t H2 ?_ ⟨⟨p,w⟩,r⟩ x;show(cu (ag<|m+5) [.bJ .i (.bJ .q (.l 3)<|.c<|.aa 3) (.bJ .j (.c<|.aa 12347)<|.l 13),.y (.l 2) (.l 13)] l H1).i (λz H=>ag (m+5) 1075 z H)=_;rw[tJ s (tJ y J)];exact e1
theorem Xh{b:List T}(f:K C 0 2 .j b a)(j:(aY<|gB a).length<490000)(g:e8 (b.map O)<=49)(i:tk (gB a) u d)(c:Ps (aY<|gB a).length 0 u):Dr b a u d (C4 (aY<|gB a).length):=
 ⟨f,i,c.bK.elim (λe=>by rw[e];decide) λh=>by lia,g,Ps.i _ c,λt h=>(Ps.dW _ c t h).2,J,J⟩
theorem Xi{b:List T}(c:K C 0 2 .j b a)(e:b.length<=9):(aY<|gB a).length<490000:=by
 have h:rl a<=b.length*(5*Bz 2+162):=(Dp c).l;have h2:rl (gB a)=rl a+4:=by
  show rl (a++[sp,sg [125]])+1+1=_;rw[e9];rfl
 have d:5*Bz 2+162=53662:=J;rw[d] at h;rw[JZ,h2];lia
theorem Xj{c:List T}{a:List W}(d:K C 0 2 .j c a)(b:(aY<|gB a).length<490000):Wr 25 1021 [(aK 88 [] c 0).v] (aY<|gB a):=by
 have e:aY (gB a)=([123,32]++aY a)++[32,125]:=by
  rw[f0,f0,gM];rfl
 have b:(([123,32]++aY a)++[32,125]).length<=dh:=by rw[<-e];exact aE (sU b)<|D J
 refine aB (Vw d<|dE<|cr b) λg f h2=>?_;rw[h2] at b e;rw[e];exact Jh f (ui d) b
noncomputable def Xk(v:V):V:=match v with
 |.aa x=>.aa<|x%((1000000007:Nat):Int)
 |v=>v
theorem Kl:∀is:List Int,(is.map V.aa).map Xk=(is.map (·%((1000000007:Nat):Int))).map V.aa
 |[]=>rfl
 |x::r=>bH (_::·)<|Kl r
theorem Xl{X:R (Fl×Lc)->Prop}{a:List Int}(q:∀H,H[4]? =O (.af<|(ux a).map V.aa)->Jd X m (.s (lF.drop 2) [] [O (.af<|a.map V.aa),O (.ae 4),U,U,U,U,U,U,U,U,U,U,U,U] H)):Jd X m (.s lF [] [O (.af<|a.map V.aa),U,U,U,U,U,U,U,U,U,U,U,U,U] []):=by
 have e1:az (ag m) (.i (.bJ .y (.l 12)<|.c<|.aa 1000000007) 12<|.slc (.l 0) (.c .none)<|.c<|.aa 9) [O (.af<|a.map V.aa),U,U,U,U,U,U,U,U,U,U,U,U,U] []=.ok (.ae 1) [.af ((a.map V.aa).take 9),.af (((a.take 9).map (·%((1000000007:Nat):Int))).map V.aa)]:=by
  rw[Dh J (show([.af ((a.map V.aa).take 9)]:Hp)[0]? =O (.af<|(a.map V.aa).take 9) from J) λu d=>?_,<-List.map_take,Kl]
  ·rfl
  ·refine dn λe=>aB (ej.mp<|adp d) ?_;rintro x _ rfl;exact e<|fT (k:=1000000007)<|D J
 refine bv (c':=.e (.i (.bJ .y (.l 12)<|.c<|.aa 1000000007) 12<|.slc (.l 0) (.c .none)<|.c<|.aa 9) [.i 1 (lF.drop 1)] _ []) J<|gJ e1 ?_;generalize c:(a.take 9).map (·%((1000000007:Nat):Int))=b;have f:b.length<=9:=by rw[<-c,c5];exact adu ..
 refine fD J (nX J)<|kM (w:=.ae 3) (H':=[.af ((a.map V.aa).take 9),.af (b.map V.aa),.af [.aa 1160,.aa 6,.aa 4],.af ((([1160,6,4]:List Int).drop b.length).map V.aa)]) J ?_ ?_
 ·rw[c5,List.map_drop]
  rfl
 ·refine ck J (H':=[.af ((a.map V.aa).take 9),.af (b.map V.aa),.af [.aa 1160,.aa 6,.aa 4],.af ((([1160,6,4]:List Int).drop b.length).map V.aa)]++[.af ((b++[1160,6,4].drop b.length).map V.aa)]) ?_ (bf J<|q _ (by unfold ux;rw[c];exact cD));rw[dz];refine aN ?_;rw[bx,c5,c5,Ay];show b.length+(3-b.length)<=16777216;lia
theorem Xm(c:List Int):∃v s,ag 340 .j [.af (c.map V.aa)] []=.ok v s/\v=.i true:=by
 refine iM J J<|Xl λH i=>?_;refine dn λe=>?_;obtain⟨t,o⟩:=Xf c;generalize ux c=d at*;refine eC (Wo (m:=333) i (aE o<|D J) t) ?_;rintro v H1 e1 ⟨r,ks,rfl,b⟩;refine e ?_;have sm:f7 .j [.ae 4] H1=.ok (.aa d.sum) H1:=by
  show cG (((hS (.ae 4) H1).bind ni).map λc=>V.aa c.sum) H1=_;have:hS (.ae 4) H1=O (d.map V.aa):=by
   show(match H1[4]? with|some (.af d)=>O d|_=>U)=_;rw[b.kp.cO i id]
  rw[this];show cG ((ni<|d.map V.aa).map _) H1=_;rw[zv];rfl
 refine bn J e1<|fD J sm ?_;generalize d.sum=q;have f:=aE b.ln o;refine dn λe=>cV (JQ (i:=13) (x:=.bi .bK [.l 2]) (l:=[O (.af<|c.map V.aa),O (.ae 4),O (.ae r),O (.aa q),U,U,U,U,U,U,U,U,U,U]) ((nX b.hr).trans<|by rw[c5]) (aE f<|D J) λj k a z x=>Xg (m:=334) J J J (iP ((fK.mp a).1)<|aE f<|D J) (x.cO b.hr id) a (b.kd k<|mi a)) λts H2 e2 p A=>?_
 obtain⟨B,a⟩:=JT p b.ne;obtain⟨hb,g⟩:=JU p;refine e ?_;have hb:e8 (ts.map O)<=49:=by have:=b.bb;lia
 have h:=Xi a (by rw[g];exact f);refine bv J<|gJ e2<|bn J (qr (by rw[pj];exact cD) 0)<|bv J<|gJ (v:=gX) J<|bv J<|gJ (v:=i3) J<|bn J (GJ (ts.map O) 88 [] 0)<|gi (Xj a h) (D J) J λw F=>?_;exact dn λe=>cV (VL (m:=338) (VO<|VN a) (aE (sU h)<|D J) w) λu os ht hp y=>e<|bn J y<|bf J<|Xd (Xh a h hb ht hp) cD
end
theorem ae8:AB.Holds:=acX λis b=>by
 obtain⟨v,a,h,rfl⟩:=Xm is;exact⟨a,h⟩
end
end Internal.Mine
theorem PySem.Challenge.cw_pq0589_01_holds : PySem.Challenge.rw_pq0589_01.Holds :=
 Internal.Mine.ae8
