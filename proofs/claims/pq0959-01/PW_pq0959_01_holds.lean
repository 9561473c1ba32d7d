import PyProof.Rows.All
import Wide.All
import OpenK.AllK
import Wide.FinOn
import Lean
import PySem.Challenge.RW_pq0959_01
set_option linter.all false
set_option Elab.async false
set_option maxRecDepth 100000
namespace Hd
open And renaming imp_left→t9
open Array renaming length_toList→bB,getElem?_toList→b5,toList_append→dI,getElem?_eq_getElem→eH,mem_toList_iff→fY,mk→gB,toList_extract→iE,toList_inj→iT,toList_push→jV,isEmpty_iff→nE,contains_toList→qv,find?_toList→s8,any_toList→vi,casesOn→zY
open Bool renaming casesOn→aY,not_eq_true'→bK,eq_iff_iff→cG,false_ne_true→cY,or_eq_false_iff→dt,and_eq_true→dF,and_eq_true_iff→eV,eq_false_iff→fZ,false_eq_true→gU,or_eq_true→ia,and_true→sD,noConfusion→vj,and_assoc→xY,and_false→xZ,true→ah,false→ac
open Char renaming toNat→mA
open Classical renaming em→jX
open Eq renaming symm→aZ
open Exists renaming imp→s9
open ForInStep renaming yield→cR
open Int renaming ofNat→aD,ofNat_lt→bQ,natCast_nonneg→cw,ofNat_le→dG,le_trans→gV,not_lt→gW,max_eq_right→iU,toNat_natCast→jY,le_of_lt→lT,lt_of_lt_of_le→mB,min_eq_right→oO,min_eq_left→qg,toNat→rH,toNat_of_nonneg→r9,lt_of_le_of_lt→tb,add_zero→uc,natAbs_add_le→ue,toNat_lt→ug,zero_add→uh,le_refl→wz,le_max_left→xh
open Int.ofNat renaming inj→sG
open List renaming length_append→aj,casesOn→am,length_cons→aq,length_map→au,append_assoc→ay,cons_ne_nil→az,length_nil→aC,append_nil→aG,all_eq_true→aP,mem_map→aQ,toArray→aR,mem_of_getElem?→aT,length_singleton→aW,mem_cons→bc,append_eq_nil_iff→bl,map_map→bx,map_cons→bz,mem_singleton→bF,mem_map_of_mem→bM,map_append→bS,mem_append→bT,getElem?_eq_getElem→b8,nil_append→cq,getElem?_eq_some_iff→cF,cons_append→cH,isEmpty_iff→cI,eq_nil_of_length_eq_zero→cW,getElem?_map→dm,length→dK,nodup_cons→dO,getElem?_append_right→eh,take_of_length_le→ew,map_eq_nil_iff→eF,forIn_cons→eG,length_take→eK,length_drop→fA,extract_eq_take_drop→fP,range→gh,flatMap_append→gv,map_congr_left→gw,filter_cons→gC,find?_cons→ib,getElem?_eq_none→iu,length_filter_le→iw,mem_of_mem_drop→iG,take_length→iV,drop_eq_getElem_cons→i4,getElem?_append_left→i5,getElem?_take_of_lt→jo,foldl_cons→jx,getElem?_drop→jB,drop_take→j0,drop_zero→j1,size_toArray→j2,take_left→j3,any_eq_true→kJ,map_reverse→kK,map_id→lm,mem_of_mem_take→lq,take_length_add_append→lV,forIn_nil→mD,nodup_nil→mE,getElem?_eq_none_iff→nu,getElem?_zip_eq_some→nv,any_eq_false→nF,map_take→ob,lookup_cons→oP,zipIdx_cons→oQ,dropWhile_sublist→pG,range_succ_eq_map→pH,length_set→qh,cons_lt_cons_iff→qx,getElem?_toArray→qy,mem_iff_getElem?→qz,set_append_right→qA,drop_left→qJ,mem_range→qK,take_zero→qL,any_cons→sH,map_drop→sI,contains_cons→ti,findIdx?_cons→tj,forIn_toArray→tm,getElem?_take→tn,map_inj_right→tp,nodup_append→ui,take_sublist→uj,range'_succ→vo,all_append→xi,zipIdx_nil→xj,drop_drop→ye,find?_map→yf,replicate→yg,drop→Ar,map→CF
open List.Mem renaming head→z6
open List.cons renaming inj→ij
open Nat renaming le_trans→ao,le_of_ble_eq_true→ar,le_add_left→aE,lt_trans→aH,eq_of_beq_eq_true→aN,le_add_right→aU,le_refl→bj,beq→bo,add_right_comm→bt,zero_le→bD,exists_eq_add_of_le→bE,lt_of_le_of_lt→bG,le_of_eq→bV,lt_of_lt_of_le→bW,add_sub_cancel_left→bZ,add_assoc→b9,lt_succ_self→cn,ble→cr,succ_add→cy,casesOn→cX,le_of_lt→cZ,add_comm→dn,succ_le_succ→dH,le_succ_of_le→dL,beq_refl→ez,not_lt→eA,ne_of_gt→eP,zero_add→eQ,blt→fJ,min_eq_left→fX,toDigitsCore→gD,le_of_succ_le_succ→gX,lt_of_succ_lt_succ→gY,ne_of_lt→gZ,sub_self→iW,add_sub_cancel'→jd,ble_eq_true_of_le→ky,sub_eq_zero_of_le→kz,mod_lt→mF,le_of_succ_le→nG,le_succ→nH,lt_succ_of_lt→nK,succ_add_eq_add_succ→og,le_of_not_le→oS,max_eq_right→oU,min_eq_right→oV,le_of_add_right_le→pI,not_le→pJ,succ_pos→pK,le_antisymm→qi,add_le_add_right→qM,mul_le_mul_right→qN,not_succ_le_zero→qO,add_le_add_left→se,ble_eq→tq,lt_trichotomy→um,mod_eq_of_lt→vp,log2_lt→wA,min_le_left→xk,not_lt_zero→xm,blt_eq→yh
open Nat.succ renaming inj→j4
open Ne renaming symm→Bs
open Option renaming none→ag,casesOn→bg,map_eq_some_iff→cj,isNone_iff_eq_none→fQ,map→hV,bind_some→kL,bind→lr,some→aa
open Prod renaming fst→dq,snd→dX
open PyProof.Rows renaming callWith_type→iH,slicePart_none→qP
open PySem renaming wpAny_bind→ai,wpAny_pure→aw,builtinLookup_eq_fast→bw,eval→bC,wpAny_of_eq→bH,wpAny_holding→cb,typeLookup_type→cc,wpAny_newObj_type→ct,wpAny_field→cA,wpAny_seqItems→db,mainGlobals→dy,assignEach→dJ,codeAny_builtin→dP,wpAny_rule→dU,wpAny_call_entry→dZ,wpAny_typeOf→eD,sysModules→eM,wpAny_callSpecial?_slot→fg,wpAny_truthy_bool→fh,typeLookup→fE,wpAny_setField_rec→fG,KeyKind→gi,builtinType_eq_fast→gy,compareOp→gL,entryFor_of_tree→gM,codeAny_mono→hX,letOwnedTupleGo→ie,wpAny_specialOf→ig,signature?_of→ik,wpAny_standAt→ip,assignInOrder→jr,plainId_quiet→jt,importedModules→jy,builtinsNs→jE,getattributeRaised→jF,execs→jN,isSubtype_type→j8,strKind_is→kO,strKind→lg,wpAny_execs_nil→lJ,firstArgMember→mJ,wpAny_pyIter_tuple→mK,builtinType→nM,getMethod_builtin→nO,sizeLine_eq→nP,wpAny_assignInOrder_more→oj,wpAny_mkBytes→om,cellsFrom→pb,treeTable→pd,wpAny_execs_cons→pe,wpAny_list_append_plain→pg,call_meets→pQ,isTrue→pR,wpAny_ite_false→qk,wpAny_updateSeq→ql,callType_codes→qS,codeAny_call_builtin→qT,raiseErrorMade→qU,slicePicked→qW,wpAny_letTemporaryGo→qX,wpAny_updateSeq_pair→qY,swapsWith→rJ,wpAny_contains_slot→sm,typeNameOfCut→sK,wpAny_attempt→sN,wpAny_onRaise→sP,typeIs_str→tC,wpAny_load→tD,wpAny_mono→tE,seqIndex?→vx,wpAny_ite→vy,bm_if_false→wG,wpAny_letGo→wH,wpAny_mkInt→wI,wpAny_throw→wJ
open PySem.Around renaming under_plainId→cJ
open PySem.Builtin renaming bitAnd→yj
open PySem.Builtin.Bytes renaming find?→dw,window→eB,occurrences→ix,containsIn→kM,joined→lW,bound?→pL,takeBufferQuiet?→pM,bytesLike→xn
open PySem.Builtin.Int renaming intBits→sf
open PySem.Builtin.List renaming listExtendWith→lX,listSameRef→oh
open PySem.Builtin.ObjectAttr.Found renaming missing→qQ,value→sg
open PySem.Builtin.Range renaming rangeFitsLong→lY,small→si
open PySem.Builtin.Slice renaming slicePlaces→fR,sliceAdjust→i6,sliceApplied→mG
open PySem.Builtin.SmallTypes renaming nextOf→b0,ownedTupleIsFree→ck,ownedTupleHandOut→je
open PySem.Builtin.Str renaming strSliceIndices→iy,tooLong→sj
open PySem.Builtin.Tuple renaming tupleExact→eR
open PySem.Calls renaming callWith_builtin→oW,evalArgs_plain→qR,spliced_cons→uo
open PySem.Challenge renaming rw_pq0959_01→ic
open PySem.ClassData renaming mk→eC
open PySem.Code renaming quiet_builtin→tu
open PySem.Const renaming casesOn→gx
open PySem.Data renaming casesOn→mH
open PySem.Data.dict renaming inj→Aa
open PySem.Data.seq renaming inj→Bt
open PySem.Expr renaming casesOn→dS
open PySem.F renaming slot_tuple_iterator_next→fD,plain_extend_loop→fS,plain_list_iadd→gF,slot_zip_next→iS,slot_tuple_getattribute→i7,slot_list_getattribute→jq,called_tuple→lu,args_tuple_iterator_next_1→lG,entry_proto_collect→lZ,entry_tuple_iterator_next→l0,plain_proto_collect→l8,entry_extend_loop→nw,args_object_init_2→oX,entry_list_iadd→oY,plain_tuple_new→oZ,entry_object_init→pN,slot_zip_iter→qC,args_tuple_add_2→tv,slot_list_extend→tw,args_zip_next_1→uq,entry_tuple_add→ur,plainAttrs_list→ut,bm_called→wB
open PySem.Flow renaming next→rI
open PySem.Heap renaming get?_push_of_some→aF,get?_push_size→aL,get?_update_self→eI,lt_size→eU,size_push→eW,get?_none_of_le→iI,SameBut→j5,get?_update_other→j6,get?→mo
open PySem.Heap.Ns renaming of_isNs→lH,eq_nsMap→vq
open PySem.Heap.SameBut renaming update→jf
open PySem.IsRange renaming new→wC
open PySem.NameKind renaming casesOn→dY
open PySem.Obj renaming mapSeq→mI,data→o8,data_mapFields→tz,putName→wD
open PySem.PyData renaming keyHash→cS
open PySem.SeqAt renaming EqAt→jC
open PySem.Shared renaming TypeIs→sJ
open PySem.Str renaming ofString→aJ,join→yk
open PySem.TablesWhole renaming holds→fe,wSs→lI,noTwice→sk,gather→tA
open PySem.Value renaming casesOn→cg,ref→di,isStrOf→gj,none→iJ,type→kN,isInt→lw,isStrOf_shape→lP,bytes→nL,bool→tB,builtin→Ab
open PySem.Value.ref renaming inj→dC
open PySem.W renaming typeIs_bytes→b6,piece_app→dj,boot_drawn→gm,behindTheImports→gJ,boot_heap→gK,InstAt→j7,boot_o_10→vt,emptyDict→vv,noRoadLSs→vw,copiedNames→wF,boot_o_0→ym,boot_o_1→yn,boot_o_4→yo,boot_o_5→yp,boot_o_6→yq,boot_o_7→yr,boot_o_8→yt,boot_o_9→yu
open PySem.W.FB renaming slot_bytes_contains→c8,args_bytes_contains_2→gk,entry_bytes_contains→gG,owner_bytes→gH,args_bytes_getitem_2→o9,entry_bytes_getitem→pP,slot_bytes_getitem→qD
open PySem.W.Fast renaming te8920871248978507458→dT,te8326940854005059898→jD
open PySem.W.KBd renaming like_eq→wE
open PySem.W.KBy renaming buffer_eq→lf
open PySem.W.OpenLaw renaming wellSaid→vr
open PySem.W.WShape renaming hasItems→qj
open Std.Legacy renaming Range→vB
open Std.Legacy.Range renaming forIn_eq_forIn_range'→q5,size→Cy
open UInt8 renaming toNat→bp,toNat_inj→lK,ofNat→wK
section
set_option maxHeartbeats 0
open PySem PySem.W PySem.Calls PyProof.Rows
noncomputable abbrev pw:Program:=PySem.Challenge.pw_pq0959_01
noncomputable abbrev zzf:=@PySem.W.Fast.tw10110043849684766642
theorem NW:@segRunT= @zzf:=PySem.W.Fast.te10110043849684766642
noncomputable abbrev Ic:=PySem.W.Fast.tw14364793385576792824
theorem xV:pd=Ic:=PySem.W.Fast.te14364793385576792824
noncomputable abbrev GX:=@PySem.W.Fast.tw14082659384304107361
theorem Fv:@topRun= @GX:=PySem.W.Fast.te14082659384304107361
noncomputable abbrev LB:=@PySem.W.Fast.tw15667345088766844465
theorem Ie:@topGo= @LB:=PySem.W.Fast.te15667345088766844465
noncomputable abbrev zze:=@PySem.W.Fast.tw11892475500146522536
theorem NV:@denote= @zze:=PySem.W.Fast.te11892475500146522536
noncomputable abbrev GW:=@PySem.W.Fast.tw14374325043358763698
theorem Fu:@segRun= @GW:=PySem.W.Fast.te14374325043358763698
noncomputable def QX:List Stmt->Nat->Stmt
 |[],_=>.Pass default
 |x::_,0=>x
 |_::r,n+1=>QX r n
noncomputable def pO:Stmt->Arguments
 | .FunctionDef _ a _ _ _ _ _ _ _ _=>a
 |_=>default
noncomputable def bO:Stmt->List Stmt
 | .FunctionDef _ _ b _ _ _ _ _ _ _=>b
 | .ClassDef _ _ _ b _ _ _ _ _ _ _=>b
 |_=>[]
noncomputable def sO:Stmt->Scope
 | .FunctionDef _ _ _ _ _ _ s _ _ _=>s
 |_=>default
noncomputable def dQ(i:Nat):Stmt:=QX pw.main.body i
noncomputable def qF(i j:Nat):Stmt:=QX (bO (dQ i)) j
noncomputable def sv(x:String)(t:Nat):Value:=.str (aJ x) t
noncomputable def bv(l:List UInt8)(t:Nat):Value:=.bytes l.toArray t
noncomputable def oT(vs:List Value):Obj:=⟨.type "tuple",ag,.seq vs.toArray 0,#[]⟩
noncomputable def oD(n:Nat)(es:List DictEntry):Obj:=⟨.type "dict",ag,.dict es.toArray n,#[]⟩
noncomputable def oF(vs:List Value):Obj:=⟨.none,ag,.fields vs.toArray,#[]⟩
noncomputable def oC(vs:List Value):Obj:=⟨.type "code",ag,.fields vs.toArray,#[]⟩
noncomputable def Y4(cls:Value)(name qual:String)(s:Stmt)(g:Nat)(code dflt kwd doc mod:Value)(ann:Option Addr)(cloT:Value)(b:Nat):Obj:=
 ⟨cls,ag,.func {name:=aJ name,qualname:=aJ qual,params:=pO s,body:=.stmts (bO s),scope:=sO s,globals:=g,closure:=[],defaults:=dflt,kwdefaults:=kwd,doc:=doc,pyModule:=mod,annotations:=ann,code:=code,closureTuple:=cloT,builtins:=b},#[]⟩
noncomputable def rv:Nat->Value
 |0=>.none
 |n+1=>.ref (n+1)
noncomputable def oA(n q:String)(s:Stmt):Obj:=Y4 .none n q s 0 .none .none .none .none .none ag .none 0
noncomputable def oB(n q:String)(s:Stmt)(g c d:Nat)(m:Value):Obj:=Y4 (.type "function") n q s g (.ref c) (rv d) .none .none m ag .none 0
noncomputable def Y5(u:Nat)(b:Bool)(n q:String)(a l k r1 r2 x y z t:Nat):Obj:=oC [sv n a,sv q (a+1),sv "/claim/cut.py" (a+2),.int l 0,.int k 0,.int 0 0,.int 0 0,.int u 0,.ref r1,.bool b,.int 181 0,.ref r2,.none,rv x,rv y,rv z,.int t 0,.int l 0,sv "/claim/cut.py" (t+1)]
noncomputable def oK:=Y5 3 ah
noncomputable def oL:=Y5 0 ac
noncomputable def YV(n q:String)(s:Stmt)(a l k r t:Nat)(m:Value)(d:Nat):List Obj:=[oA n q s,oK n q a l k r (r+1) 0 0 (r+2) t,oB n q s 3 (r+3) d m]
noncomputable def Qv(n q:String)(s:Stmt)(a l k r t:Nat)(m:Value)(d:Nat):List Obj:=[oA n q s,oK n q a l k r (r+1) (r+2) (r+3) (r+4) t,oB n q s 3 (r+5) d m]
noncomputable def h1(n q:String)(s:Stmt)(a l k r t:Nat)(m:Value):List Obj:=YV n q s a l k r t m 0
noncomputable def h2(n q:String)(s:Stmt)(a l k r t:Nat)(m:Value):List Obj:=Qv n q s a l k r t m 0
noncomputable def f1(n:String):=h1 n n
noncomputable def f2(n:String):=h2 n n
noncomputable def ZG(n:String):=YV n n
noncomputable def VH(n:String):=Qv n n
noncomputable def c3:List (Nat×Nat)->List Value
 |[]=>[]
 |(a,b)::r=>.int a 0:: .int 0 0:: .ref b::c3 r
noncomputable def oE:List Obj:=[oT [],oF []]
noncomputable def Ho:List (List Obj)->List Obj
 |[]=>[]
 |a::r=>a++Ho r
noncomputable def m0:Value:=sv "__main__" 164
noncomputable def m1:Value:=sv "postkeep.base64" 194
noncomputable def m2:Value:=sv "postkeep.errors" 264
noncomputable def m3:Value:=sv "postkeep.octets" 338
noncomputable def m4:Value:=sv "postkeep.headers" 492
noncomputable def m5:Value:=sv "postkeep.charsets" 644
noncomputable def m6:Value:=sv "postkeep.tokens" 775
noncomputable def m7:Value:=sv "postkeep.params" 837
noncomputable def m8:Value:=sv "postkeep.quoted" 1141
noncomputable def m9:Value:=sv "postkeep.parts" 1270
noncomputable def oz:Value:=sv "postkeep.build" 1405
noncomputable def Ki:Value:=sv "law_pq0959_01" 1694
noncomputable def de(P:Params)(k:String)(t:Nat)(v:Value):DictEntry:=⟨cS P (aJ k),.str (aJ k) t,v⟩
noncomputable def UH{α:Type}:List α->Nat->α->List α
 |[],_,_=>[]
 |_::r,0,y=>y::r
 |x::r,n+1,y=>x::UH r n y
noncomputable def mj{α:Type}:List (Nat×α)->List α->List α
 |[],l=>l
 |(i,y)::r,l=>mj r (UH l i y)
mutual
noncomputable def Uk:List Obj->List Obj
 |[]=>[]
 |_::r=>OJ r
noncomputable def OJ:List Obj->List Obj
 |[]=>[]
 |x::r=>x::Uk r
end
noncomputable def E4:Nat->List Obj->BT
 |0,_=>.nil
 |_+1,[]=>.nil
 |n+1,x::r=>.node x (E4 n (OJ r)) (E4 n (Uk r))
noncomputable def tZ:List (Nat×Obj)->BT->BT
 |[],t=>t
 |(i,o)::r,t=>tZ r (t.set i λu=>o)
noncomputable def Kb:Life:=(gK {strHash:=λu=>0,shareClass:=λu=>0,mergeTok:=id,idOf:=λu=>0,idOfShared:=λn u=>n,followText:=λu=>ac,idOfImm:=λu=>0}).life
noncomputable def Bx:Option Value:=aa (.ref 6)
noncomputable def SR(P:Params):Obj:=⟨.none,ag,.dict (aR [de P "type.__subclasses__.Exception.0" 302 (.int 95 0),de P "type.__subclasses__.Exception.n" 303 (.int 1 0)]) 2,#[]⟩
noncomputable def zX(a b:Nat):List Stmt:=((gJ pw).drop a).take b
noncomputable def sM(T:Params->BT)(a b:Nat)(w:World)(os:OsState):SharedT:=SharedT.mk (T w.params) a Kb (gB []) gm b os
noncomputable def gE(P:Params):List DictEntry:=[de P "__name__" 165 Ki,de P "__doc__" 166 .none,de P "__package__" 167 .none,de P "__loader__" 168 (.builtin "__main__.__loader__#opaque"),de P "__spec__" 169 .none,de P "__annotations__" 170 (.ref 6),de P "__builtins__" 171 (.ref 4),de P "__file__" 173 (sv "/claim/cut.py" 172),de P "__cached__" 174 .none,de P "_wall" 193 (.ref 21),de P "SIGNS" 197 (bv [65,66,67,68,69,70,71,72,73,74,75,76,77,78,79,80,81,82,83,84,85,86,87,88,89,90,97,98,99,100,101,102,103,104,105,106,107,108,109,110,111,112,113,114,115,116,117,118,119,120,121,122,48,49,50,51,52,53,54,55,56,57,43,47] 196),de P "PAD" 199 (.int 61 198),de P "LINE_END" 201 (bv [13,10] 200),de P "worth_table" 207 (.ref 26),de P "group_codes" 213 (.ref 31),de P "group_octets" 219 (.ref 36),de P "part_encoded" 229 (.ref 43),de P "one_line" 236 (.ref 50),de P "in_lines" 242 (.ref 55),de P "encoded" 251 (.ref 63),de P "decoded" 263 (.ref 70),de P "PostError" 305 (.ref 95),de P "WordFault" 321 (.ref 108),de P "MimeFault" 337 (.ref 120),de P "CRLF" 341 (bv [13,10] 340),de P "RETURN_octets" 343 (.int 13 342),de P "MOST_FIGURES" 345 (.int 20 344),de P "Cursor" 455 (.ref 204),de P "lower_code" 462 (.ref 215),de P "lower" 468 (.ref 220),de P "lower_text" 474 (.ref 225),de P "line_spans" 491 (.ref 233),de P "WHITE_headers" 496 (.ref 234),de P "Field" 540 (.ref 263),de P "line_at" 550 (.ref 274),de P "is_name" 558 (.ref 281),de P "colon_in" 568 (.ref 288),de P "read_spans" 586 (.ref 296),de P "read_fields" 595 (.ref 302),de P "rows_of" 606 (.ref 309),de P "unfolded" 613 (.ref 316),de P "first_body" 623 (.ref 323),de P "without_words" 629 (.ref 328),de P "is_sound" 637 (.ref 335),de P "write_fields" 643 (.ref 340),de P "ASCII" 647 (sv "us-ascii" 646),de P "LATIN" 649 (sv "iso-8859-1" 648),de P "UTF8" 651 (sv "utf-8" 650),de P "CHARSETS" 652 (.ref 341),de P "UNKNOWN_SIGN" 655 (sv "�" 654),de P "charset_names" 663 (.ref 348),de P "charset_name" 670 (.ref 355),de P "need_charset" 677 (.ref 362),de P "utf8_length" 683 (.ref 367),de P "utf8_octets" 694 (.ref 374),de P "follower_span" 701 (.ref 381),de P "utf8_sign" 715 (.ref 388),de P "sign_at" 724 (.ref 395),de P "text_in" 736 (.ref 402),de P "strict_text" 748 (.ref 409),de P "guessed_text" 755 (.ref 416),de P "has_sign" 763 (.ref 423),de P "octets_in" 774 (.ref 430),de P "MOST_DEPTH_tokens" 778 (.int 20 777),de P "NEVER_ESCAPED" 782 (.ref 431),de P "line_end" 790 (.ref 438),de P "inside_at" 800 (.ref 445),de P "closed_at" 813 (.ref 452),de P "comment_at" 826 (.ref 459),de P "escaped_octets" 836 (.ref 466),de P "WHITE_params" 843 (.ref 467),de P "SEMICOLON" 845 (.int 59 844),de P "EQUALS_params" 847 (.int 61 846),de P "QUOTE" 849 (.int 34 848),de P "BRACKET" 851 (.int 40 850),de P "PER_CENT" 853 (.int 37 852),de P "BARRED" 855 (bv [40,41,60,62,64,44,59,58,92,34,47,91,93,63,61] 854),de P "BARRED_IN_NAMES" 857 (bv [42,39,37] 856),de P "HEX_FIGURES" 859 (bv [48,49,50,51,52,53,54,55,56,57,65,66,67,68,69,70] 858),de P "WIDTH" 861 (.int 78 860),de P "MOST_NAME" 863 (.int 40 862),de P "MOST_PARTS" 865 (.int 1000 864),de P "ROOM" 867 (.int 66 866),de P "Kind" 927 (.ref 510),de P "plain_kind" 933 (.ref 521),de P "is_token_code" 940 (.ref 528),de P "skip_between" 947 (.ref 535),de P "take_token" 955 (.ref 542),de P "is_worth_code" 962 (.ref 549),de P "take_worth" 971 (.ref 556),de P "small_word" 977 (.ref 561),de P "take_pairs" 986 (.ref 568),de P "part_number" 995 (.ref 575),de P "part_of" 1005 (.ref 582),de P "hex_worth" 1011 (.ref 695),de P "hex_worth_params" 1012 (.ref 587),de P "percent_decoded" 1022 (.ref 594),de P "charset_cut" 1028 (.ref 599),de P "joined_worth" 1040 (.ref 606),de P "params_of" 1055 (.ref 613),de P "strict_kind" 1065 (.ref 620),de P "read_kind" 1072 (.ref 627),de P "is_token" 1078 (.ref 632),de P "is_plain" 1084 (.ref 709),de P "is_plain_params" 1085 (.ref 637),de P "percent_encoded" 1094 (.ref 644),de P "in_rows" 1104 (.ref 651),de P "encoded_rows" 1110 (.ref 656),de P "quoted_rows" 1116 (.ref 661),de P "number_octets" 1122 (.ref 666),de P "param_rows" 1128 (.ref 671),de P "write_params" 1134 (.ref 676),de P "write_kind" 1140 (.ref 681),de P "EQUALS_quoted" 1144 (.int 61 1143),de P "BLANK" 1146 (.int 32 1145),de P "TAB" 1148 (.int 9 1147),de P "RETURN_quoted" 1150 (.int 13 1149),de P "LEAST_WIDTH" 1152 (.int 4 1151),de P "HEX" 1154 (bv [48,49,50,51,52,53,54,55,56,57,65,66,67,68,69,70] 1153),de P "quoted_code" 1161 (.ref 688),de P "hex_worth_quoted" 1169 (.ref 695),de P "quoted_at" 1179 (.ref 702),de P "is_plain_quoted" 1187 (.ref 709),de P "line_pieces" 1197 (.ref 716),de P "soft_lines" 1209 (.ref 723),de P "text_lines" 1217 (.ref 730),de P "quoted_encoded" 1229 (.ref 738),de P "joined_lines" 1238 (.ref 745),de P "line_parts" 1248 (.ref 752),de P "unquoted" 1258 (.ref 759),de P "quoted_decoded" 1269 (.ref 766),de P "MOST_DEPTH_parts" 1273 (.int 20 1272),de P "PLAIN_ENCODING" 1275 (sv "7bit" 1274),de P "OPEN_ENCODINGS" 1279 (.ref 767),de P "WORD_ENDS" 1281 (bv [32,9,40,59] 1280),de P "BLANKS" 1283 (bv [32,9] 1282),de P "Part" 1329 (.ref 789),de P "encoding_of" 1335 (.ref 798),de P "boundary_way" 1345 (.ref 805),de P "part_spans" 1362 (.ref 812),de P "kid_spans" 1368 (.ref 817),de P "has_inner" 1375 (.ref 824),de P "read_part" 1381 (.ref 829),de P "read_message" 1388 (.ref 836),de P "undone" 1396 (.ref 843),de P "body_octets" 1404 (.ref 850),de P "MOST_LINE" 1408 (.int 998 1407),de P "OWN_WORDS" 1412 (.ref 851),de P "BOUNDARY_LEAD" 1414 (sv "=_part" 1413),de P "fields_told" 1420 (.ref 856),de P "bare_piece" 1427 (.ref 863),de P "Leaf" 1474 (.ref 896),de P "Many" 1519 (.ref 929),de P "Letter822" 1565 (.ref 966),de P "is_seven_bit" 1571 (.ref 975),de P "choose_encoding" 1579 (.ref 982),de P "in_encoding" 1588 (.ref 989),de P "begins_line" 1594 (.ref 994),de P "boundary_for" 1600 (.ref 999),de P "check_fields" 1607 (.ref 1006),de P "head_octets" 1613 (.ref 1011),de P "leaf_octets" 1622 (.ref 1018),de P "joined_bodies" 1628 (.ref 1023),de P "many_octets" 1634 (.ref 1028),de P "letter_octets" 1641 (.ref 1035),de P "built" 1648 (.ref 1042),de P "letter_whole" 1656 (.ref 1049),de P "check_depth" 1664 (.ref 1056),de P "message" 1672 (.ref 1063),de P "own_fields" 1679 (.ref 1070),de P "tree_of" 1685 (.ref 1075),de P "letter_tree" 1693 (.ref 1082),de P "_law_kinds" 1720 (.ref 1100),de P "_law_bodies" 1746 (.ref 1106),de P "_law_fields" 1762 (.ref 1116),de P "_law_subs" 1768 (.ref 1117),de P "_law_strip" 1774 (.ref 1122),de P "_law_pick" 1783 (.ref 1129),de P "_law_node" 1789 (.ref 1134),de P "_law_told" 1795 (.ref 1139),de P "_law_due" 1801 (.ref 1144),de P "_law_piece" 1807 (.ref 1149),de P "_law_rows" 1813 (.ref 1154),de P "_law_ours" 1819 (.ref 1159),de P "_law_theirs" 1825 (.ref 1164),de P "law" 1831 (.ref 1169)]
noncomputable def cE:List Value:=c3 [(1,20),(8,25),(10,30),(17,35),(25,42),(30,49),(32,54),(36,62),(38,69),(52,76),(61,104),(63,116),(69,128),(116,214),(118,219),(120,224),(122,232),(137,240),(148,273),(155,280),(160,287),(163,295),(179,301),(182,308),(191,315),(193,322),(199,327),(202,334),(209,339),(220,347),(229,354),(231,361),(234,366),(238,373),(248,380),(256,387),(270,394),(276,401),(285,408),(296,415),(301,422),(305,429),(320,437),(324,444),(337,451),(346,458),(361,465),(384,473),(402,520),(404,527),(406,534),(414,541),(421,548),(423,555),(433,560),(435,567),(451,574),(460,581),(469,586),(475,593),(483,598),(488,605),(499,612),(517,619),(527,626),(534,631),(536,636),(539,643),(547,650),(554,655),(562,660),(569,665),(571,670),(585,675),(590,680),(605,687),(607,694),(616,701),(622,708),(625,715),(634,722),(644,729),(646,737),(654,744),(661,751),(673,758),(685,765),(700,773),(716,797),(725,804),(733,811),(749,816),(756,823),(758,828),(769,835),(771,842),(777,849),(783,855),(785,862),(787,869),(799,906),(811,939),(823,974),(831,981),(835,988),(839,993),(841,998),(849,1005),(852,1010),(858,1017),(864,1022),(867,1027),(874,1034),(876,1041),(880,1048),(883,1055),(886,1062),(889,1069),(891,1074),(897,1081),(904,1121),(907,1128),(917,1133),(938,1138),(940,1143),(947,1148),(955,1153),(957,1158),(971,1163),(992,1168)]
noncomputable def ob0(P:Params):List Obj:=Ho [[oT [],oF [],oT [sv "k" 190],oT []],
 f2 "_wall" (dQ 0) 187 1 1 15 191 m0,
 oE,
 f1 "worth_table" (dQ 5) 202 8 1 22 205 m1,
 oE,
 f1 "group_codes" (dQ 6) 208 10 2 27 211 m1,
 oE,
 f1 "group_octets" (dQ 7) 214 17 1 32 217 m1,
 [oT [],oF [],oT [sv "octets" 223,sv "alphabet" 224,sv "codes" 225,sv "begin" 226],oT []],
 f2 "part_encoded" (dQ 8) 220 25 2 37 227 m1,
 [oT [],oF [],oT [sv "octets" 233],oT []],
 f2 "one_line" (dQ 9) 230 30 1 44 234 m1,
 oE,
 f1 "in_lines" (dQ 10) 237 32 2 51 240 m1,
 [oT [.int 76 243],oT [],oF [],oT [sv "octets" 247,sv "width" 248],oT []],
 VH "encoded" (dQ 11) 244 36 2 57 249 m1 56,
 [oT [],oF [],oT [sv "data" 255,sv "worths" 256,sv "worth_row" 257,sv "code" 258,sv "found" 259,sv "begin" 260],oT []],
 f2 "decoded" (dQ 12) 252 38 1 64 261 m1,
 [oT [.type "Exception"],⟨.type "builtin_function_or_method",ag,.fields (aR [.builtin "type.__prepare__",.type "type"]),#[]⟩,oD 6 [de P "__module__" 273 m2,de P "__qualname__" 275 (sv "PostError" 274),de P "__firstlineno__" 277 (.int 52 276),de P "__init__" 288 (.ref 85),de P "told" 295 (.ref 92),de P "__static_attributes__" 298 (.ref 93)],oT [],oF [.int 54 0,.int 4 0,.ref 84,.int 59 0,.int 4 0,.ref 91],oL "PostError" "PostError" 268 52 0 74 75 0 0 0 271,⟨.type "frame",ag,.plain,#[aa (.ref 76),aa (.ref 3),aa (.ref 73),ag,aa m2,ag,aa (.ref 0)]⟩,oT [.int (-1) 279],oT [],oF [],oT [sv "self" 283,sv "what" 284,sv "at" 285],oT []],
 Qv "__init__" "PostError.__init__" (qF 14 0) 280 54 3 79 286 m2 78,
 [oT [],oF [],oT [sv "self" 292],oT []],
 h2 "told" "PostError.told" (qF 14 1) 289 59 1 86 293 m2,
 [oT [(sv "at" 296),(sv "what" 297)],oD 3 [de P "__module__" 273 m2,de P "__firstlineno__" 277 (.int 52 276),de P "__init__" 288 (.ref 85),de P "told" 295 (.ref 92),de P "__static_attributes__" 298 (.ref 93),de P "__weakref__" 300 (.ref 96),de P "__doc__" 301 .none],⟨(.type "type"),ag,(.cls (eC (aJ "PostError") [(.type "Exception")] [(.ref 95),(.type "Exception"),(.type "BaseException"),(.type "object")] 94 (aJ "PostError") ah [] [(.ref 108),(.ref 120)] ac ag ac)),#[(aa (.ref 71)),ag,(aa (sv "PostError" 266)),(aa (sv "PostError" 274)),(aa (.builtin "Exception.__new__")),(aa (.bool ah))]⟩,⟨(.type "getset_descriptor"),ag,(.fields (aR [(sv "__weakref__" 299),(.ref 95),(.builtin "ExceptionGroup.__weakref__"),.none])),#[]⟩,⟨(.type "super"),ag,(.fields (aR [(.ref 95),(.ref 95),(.ref 95)])),#[]⟩,⟨(.type "builtin_function_or_method"),ag,(.fields (aR [(.builtin "object.__init_subclass__"),(.ref 95)])),#[]⟩,oT [(.ref 95)],⟨(.type "builtin_function_or_method"),ag,(.fields (aR [(.builtin "type.__prepare__"),(.type "type")])),#[]⟩,oD 4 [de P "__module__" 313 m2,de P "__qualname__" 315 (sv "WordFault" 314),de P "__firstlineno__" 317 (.int 61 316),de P "__static_attributes__" 318 (.ref 106)],oT [],oF [],oL "WordFault" "WordFault" 308 61 0 102 103 0 0 0 311,⟨(.type "frame"),ag,.plain,#[(aa (.ref 104)),(aa (.ref 3)),(aa (.ref 101)),ag,(aa m2),ag,(aa (.ref 0))]⟩,oT [],oD 2 [de P "__module__" 313 m2,de P "__firstlineno__" 317 (.int 61 316),de P "__static_attributes__" 318 (.ref 106),de P "__doc__" 319 .none],⟨(.type "type"),ag,(.cls (eC (aJ "WordFault") [(.ref 95)] [(.ref 108),(.ref 95),(.type "Exception"),(.type "BaseException"),(.type "object")] 107 (aJ "WordFault") ah [] [] ac ag ac)),#[(aa (.ref 99)),ag,(aa (sv "WordFault" 306)),(aa (sv "WordFault" 314)),(aa (.builtin "Exception.__new__")),(aa (.bool ah))]⟩,⟨(.type "super"),ag,(.fields (aR [(.ref 108),(.ref 108),(.ref 108)])),#[]⟩,⟨(.type "builtin_function_or_method"),ag,(.fields (aR [(.builtin "object.__init_subclass__"),(.ref 108)])),#[]⟩,oT [(.ref 95)],⟨(.type "builtin_function_or_method"),ag,(.fields (aR [(.builtin "type.__prepare__"),(.type "type")])),#[]⟩,oD 4 [de P "__module__" 329 m2,de P "__qualname__" 331 (sv "MimeFault" 330),de P "__firstlineno__" 333 (.int 63 332),de P "__static_attributes__" 334 (.ref 118)],oT []]]
noncomputable def ob1(P:Params):List Obj:=Ho [[oF [],oL "MimeFault" "MimeFault" 324 63 0 114 115 0 0 0 327,⟨.type "frame",ag,.plain,#[aa (.ref 116),aa (.ref 3),aa (.ref 113),ag,aa m2,ag,aa (.ref 0)]⟩,oT [],oD 2 [de P "__module__" 329 m2,de P "__firstlineno__" 333 (.int 63 332),de P "__static_attributes__" 334 (.ref 118),de P "__doc__" 335 .none],⟨.type "type",ag,.cls (eC (aJ "MimeFault") [.ref 95] [.ref 120,.ref 95,.type "Exception",.type "BaseException",.type "object"] 119 (aJ "MimeFault") ah [] [] ac ag ac),#[aa (.ref 111),ag,aa (sv "MimeFault" 322),aa (sv "MimeFault" 330),aa (.builtin "Exception.__new__"),aa (.bool ah)]⟩,⟨.type "super",ag,.fields (aR [.ref 120,.ref 120,.ref 120]),#[]⟩,⟨.type "builtin_function_or_method",ag,.fields (aR [.builtin "object.__init_subclass__",.ref 120]),#[]⟩,oT [],⟨.type "builtin_function_or_method",ag,.fields (aR [.builtin "type.__prepare__",.type "type"]),#[]⟩,oD 14 [de P "__module__" 353 m3,de P "__qualname__" 355 (sv "Cursor" 354),de P "__firstlineno__" 357 (.int 69 356),de P "__init__" 370 (.ref 137),de P "is_done" 377 (.ref 144),de P "peek" 387 (.ref 152),de P "take" 395 (.ref 159),de P "starts" 403 (.ref 166),de P "skip" 411 (.ref 173),de P "take_while" 419 (.ref 180),de P "take_until" 427 (.ref 187),de P "number" 436 (.ref 194),de P "find" 444 (.ref 201),de P "__static_attributes__" 448 (.ref 202)],oT [],oF [.int 71 0,.int 4 0,.ref 136,.int 76 0,.int 4 0,.ref 143,.int 79 0,.int 4 0,.ref 151,.int 83 0,.int 4 0,.ref 158,.int 89 0,.int 4 0,.ref 165,.int 92 0,.int 4 0,.ref 172,.int 98 0,.int 4 0,.ref 179,.int 101 0,.int 4 0,.ref 186,.int 104 0,.int 4 0,.ref 193,.int 114 0,.int 4 0,.ref 200],oL "Cursor" "Cursor" 348 69 0 126 127 0 0 0 351,⟨.type "frame",ag,.plain,#[aa (.ref 128),aa (.ref 3),aa (.ref 125),ag,aa m3,ag,aa (.ref 0)]⟩,oT [.int 0 358,.int (-1) 360],oT [],oF [],oT [sv "self" 364,sv "data" 365,sv "at" 366,sv "end" 367],oT []],
 Qv "__init__" "Cursor.__init__" (qF 21 0) 361 71 4 131 368 m3 130,
 [oT [],oF [],oT [sv "self" 374],oT []],
 h2 "is_done" "Cursor.is_done" (qF 21 1) 371 76 1 138 375 m3,
 [oT [.int 0 378],oT [],oF [],oT [sv "self" 382,sv "ahead" 383,sv "place" 384],oT []],
 Qv "peek" "Cursor.peek" (qF 21 2) 379 79 2 146 385 m3 145,
 [oT [],oF [],oT [sv "self" 391,sv "code" 392],oT []],
 h2 "take" "Cursor.take" (qF 21 3) 388 83 1 153 393 m3,
 [oT [],oF [],oT [sv "self" 399,sv "word" 400],oT []],
 h2 "starts" "Cursor.starts" (qF 21 4) 396 89 2 160 401 m3,
 [oT [],oF [],oT [sv "self" 407,sv "word" 408],oT []],
 h2 "skip" "Cursor.skip" (qF 21 5) 404 92 2 167 409 m3,
 [oT [],oF [],oT [sv "self" 415,sv "codes" 416],oT []],
 h2 "take_while" "Cursor.take_while" (qF 21 6) 412 98 2 174 417 m3,
 [oT [],oF [],oT [sv "self" 423,sv "codes" 424],oT []],
 h2 "take_until" "Cursor.take_until" (qF 21 7) 420 101 2 181 425 m3,
 [oT [],oF [],oT [sv "self" 431,sv "first" 432,sv "number" 433],oT []],
 h2 "number" "Cursor.number" (qF 21 8) 428 104 1 188 434 m3,
 [oT [],oF [],oT [sv "self" 440,sv "word" 441],oT []],
 h2 "find" "Cursor.find" (qF 21 9) 437 114 2 195 442 m3,
 [oT [(sv "at" 445),(sv "data" 446),(sv "end" 447)],oD 4 [de P "__module__" 353 m3,de P "__firstlineno__" 357 (.int 69 356),de P "__init__" 370 (.ref 137),de P "is_done" 377 (.ref 144),de P "peek" 387 (.ref 152),de P "take" 395 (.ref 159),de P "starts" 403 (.ref 166),de P "skip" 411 (.ref 173),de P "take_while" 419 (.ref 180),de P "take_until" 427 (.ref 187),de P "number" 436 (.ref 194),de P "find" 444 (.ref 201),de P "__static_attributes__" 448 (.ref 202),de P "__dict__" 450 (.ref 205),de P "__weakref__" 452 (.ref 206),de P "__doc__" 453 .none],⟨(.type "type"),ag,(.cls (eC (aJ "Cursor") [(.type "object")] [(.ref 204),(.type "object")] 203 (aJ "Cursor") ah [] [] ac ag ac)),#[ag,ag,(aa (sv "Cursor" 346)),(aa (sv "Cursor" 354)),(aa (.builtin "object.__new__")),(aa (.bool ah))]⟩,⟨(.type "getset_descriptor"),ag,(.fields (aR [(sv "__dict__" 449),(.ref 204),(.builtin "function.__dict__"),(.builtin "function.__dict__#set")])),#[]⟩,⟨(.type "getset_descriptor"),ag,(.fields (aR [(sv "__weakref__" 451),(.ref 204),(.builtin "ExceptionGroup.__weakref__"),.none])),#[]⟩,⟨(.type "super"),ag,(.fields (aR [(.ref 204),(.ref 204),(.ref 204)])),#[]⟩,⟨(.type "builtin_function_or_method"),ag,(.fields (aR [(.builtin "object.__init_subclass__"),(.ref 204)])),#[]⟩,oT [],oF [],oT [(sv "code" 459)],oT [],oA "lower_code" "lower_code" (dQ 22),oK "lower_code" "lower_code" 456 116 1 209 210 211 212 213 460]]
noncomputable def ob2(P:Params):List Obj:=Ho [[oB "lower_code" "lower_code" (dQ 22) 3 214 0 m3,oT [],oF []],
 f1 "lower" (dQ 23) 463 118 1 216 466 m3,
 oE,
 f1 "lower_text" (dQ 24) 469 120 1 221 472 m3,
 [oT [.int 0 475,.int (-1) 477],oT [],oF [],oT [sv "data" 481,sv "at" 482,sv "end" 483,sv "behind" 484,sv "found" 485,sv "begin" 486,sv "feed" 487,sv "last" 488],oT []],
 VH "line_spans" (dQ 25) 478 122 3 227 489 m3 226,
 [oT [.int 32 494,.int 9 495],oT [],⟨.type "builtin_function_or_method",ag,.fields (aR [.builtin "type.__prepare__",.type "type"]),#[]⟩,oD 7 [de P "__module__" 504 m4,de P "__qualname__" 506 (sv "Field" 505),de P "__firstlineno__" 508 (.int 137 507),de P "__init__" 517 (.ref 248),de P "word" 523 (.ref 253),de P "told" 530 (.ref 260),de P "__static_attributes__" 533 (.ref 261)],oT [],oF [.int 139 0,.int 4 0,.ref 247,.int 143 0,.int 4 0,.ref 252,.int 146 0,.int 4 0,.ref 259],oL "Field" "Field" 499 137 0 238 239 0 0 0 502,⟨.type "frame",ag,.plain,#[aa (.ref 240),aa (.ref 3),aa (.ref 237),ag,aa m4,ag,aa (.ref 0)]⟩,oT [],oF [],oT [sv "self" 512,sv "name" 513,sv "raw" 514],oT []],
 h2 "__init__" "Field.__init__" (qF 28 0) 509 139 3 242 515 m4,
 oE,
 h1 "word" "Field.word" (qF 28 1) 518 143 1 249 521 m4,
 [oT [],oF [],oT [sv "self" 527],oT []],
 h2 "told" "Field.told" (qF 28 2) 524 146 1 254 528 m4,
 [oT [sv "name" 531,sv "raw" 532],oD 4 [de P "__module__" 504 m4,de P "__firstlineno__" 508 (.int 137 507),de P "__init__" 517 (.ref 248),de P "word" 523 (.ref 253),de P "told" 530 (.ref 260),de P "__static_attributes__" 533 (.ref 261),de P "__dict__" 535 (.ref 264),de P "__weakref__" 537 (.ref 265),de P "__doc__" 538 .none],⟨.type "type",ag,.cls (eC (aJ "Field") [.type "object"] [.ref 263,.type "object"] 262 (aJ "Field") ah [] [] ac ag ac),#[ag,ag,aa (sv "Field" 497),aa (sv "Field" 505),aa (.builtin "object.__new__"),aa (.bool ah)]⟩,⟨.type "getset_descriptor",ag,.fields (aR [sv "__dict__" 534,.ref 263,.builtin "function.__dict__",.builtin "function.__dict__#set"]),#[]⟩,⟨.type "getset_descriptor",ag,.fields (aR [sv "__weakref__" 536,.ref 263,.builtin "ExceptionGroup.__weakref__",.none]),#[]⟩,⟨.type "super",ag,.fields (aR [.ref 263,.ref 263,.ref 263]),#[]⟩,⟨.type "builtin_function_or_method",ag,.fields (aR [.builtin "object.__init_subclass__",.ref 263]),#[]⟩,oT [],oF [],oT [sv "data" 544,sv "at" 545,sv "end" 546,sv "spot" 547],oT []],
 f2 "line_at" (dQ 29) 541 148 3 268 548 m4,
 [oT [],oF [],oT [sv "octets" 554,sv "code" 555],oT []],
 f2 "is_name" (dQ 30) 551 155 1 275 556 m4,
 [oT [],oF [],oT [sv "data" 562,sv "at" 563,sv "end" 564,sv "spot" 565],oT []],
 f2 "colon_in" (dQ 31) 559 160 3 282 566 m4,
 [oT [.int 0 569,.int (-1) 571],oT [],oF [],oT [sv "data" 575,sv "at" 576,sv "end" 577,sv "stop" 578,sv "rows" 579,sv "here" 580,sv "last" 581,sv "later" 582,sv "colon" 583],oT []],
 VH "read_spans" (dQ 32) 572 163 3 290 584 m4 289,
 [oT [.int 0 587,.int (-1) 589],oT [],oF []],
 ZG "read_fields" (dQ 33) 590 179 3 298 593 m4 297,
 [oT [],oF [],oT [sv "raw" 599,sv "rows" 600,sv "at" 601,sv "last" 602,sv "later" 603],oT []],
 f2 "rows_of" (dQ 34) 596 182 1 303 604 m4,
 [oT [],oF [],oT [(sv "raw" 610)],oT [],oA "unfolded" "unfolded" (dQ 35)]]
noncomputable def ob3(P:Params):List Obj:=Ho [[oK "unfolded" "unfolded" 607 191 1 310 311 312 313 314 611,oB "unfolded" "unfolded" (dQ 35) 3 315 0 m4,oT [],oF [],oT [sv "fields" 617,sv "word" 618,sv "wanted" 619,sv "field" 620],oT []],
 f2 "first_body" (dQ 36) 614 193 2 317 621 m4,
 oE,
 f1 "without_words" (dQ 37) 624 199 2 324 627 m4,
 [oT [],oF [],oT [sv "field" 633,sv "row" 634],oT []],
 f2 "is_sound" (dQ 38) 630 202 1 329 635 m4,
 oE,
 f1 "write_fields" (dQ 39) 638 209 1 336 641 m4,
 [oT [sv "us-ascii" 646,sv "iso-8859-1" 648,sv "utf-8" 650],oT [],oF [],oT [sv "found" 659,sv "alias" 660],oT []],
 f2 "charset_names" (dQ 46) 656 220 0 342 661 m5,
 [oT [],oF [],oT [sv "text" 667],oT []],
 f2 "charset_name" (dQ 47) 664 229 1 349 668 m5,
 [oT [],oF [],oT [sv "charset" 674],oT []],
 f2 "need_charset" (dQ 48) 671 231 1 356 675 m5,
 oE,
 f1 "utf8_length" (dQ 49) 678 234 1 363 681 m5,
 [oT [],oF [],oT [sv "code" 687,sv "length" 688,sv "found" 689,sv "left" 690,sv "place" 691],oT []],
 f2 "utf8_octets" (dQ 50) 684 238 1 368 692 m5,
 [oT [],oF [],oT [sv "lead" 698],oT []],
 f2 "follower_span" (dQ 51) 695 248 1 375 699 m5,
 [oT [],oF [],oT [sv "octets" 705,sv "at" 706,sv "lead" 707,sv "least" 708,sv "most" 709,sv "count" 710,sv "code" 711,sv "place" 712],oT []],
 f2 "utf8_sign" (dQ 52) 702 256 2 382 713 m5,
 [oT [],oF [],oT [sv "charset" 719,sv "octets" 720,sv "at" 721],oT []],
 f2 "sign_at" (dQ 53) 716 270 3 389 722 m5,
 [oT [],oF [],oT [sv "charset" 728,sv "octets" 729,sv "signs" 730,sv "at" 731,sv "code" 732,sv "length" 733],oT []],
 f2 "text_in" (dQ 54) 725 276 2 396 734 m5,
 [oT [],oF [],oT [sv "charset" 740,sv "octets" 741,sv "signs" 742,sv "at" 743,sv "code" 744,sv "length" 745],oT []],
 f2 "strict_text" (dQ 55) 737 285 2 403 746 m5,
 [oT [],oF [],oT [(sv "octets" 752)],oT [],oA "guessed_text" "guessed_text" (dQ 56)]]
noncomputable def ob4(P:Params):List Obj:=Ho [[oK "guessed_text" "guessed_text" 749 296 1 410 411 412 413 414 753,oB "guessed_text" "guessed_text" (dQ 56) 3 415 0 m5,oT [],oF [],oT [sv "charset" 759,sv "code" 760],oT []],
 f2 "has_sign" (dQ 57) 756 301 2 417 761 m5,
 [oT [],oF [],oT [sv "charset" 767,sv "text" 768,sv "row" 769,sv "at" 770,sv "code" 771],oT []],
 f2 "octets_in" (dQ 58) 764 305 2 424 772 m5,
 [oT [.int 0 779,.int 10 780,.int 13 781],oT [],oF [],oT [sv "data" 786,sv "at" 787],oT []],
 f2 "line_end" (dQ 62) 783 320 2 432 788 m6,
 [oT [],oF [],oT [sv "data" 794,sv "at" 795,sv "begun" 796,sv "behind" 797],oT []],
 f2 "inside_at" (dQ 63) 791 324 3 439 798 m6,
 [oT [],oF [],oT [sv "data" 804,sv "begun" 805,sv "closing" 806,sv "barred" 807,sv "parts" 808,sv "at" 809,sv "octets" 810],oT []],
 f2 "closed_at" (dQ 64) 801 337 4 446 811 m6,
 [oT [],oF [],oT [sv "data" 817,sv "begun" 818,sv "parts" 819,sv "depth" 820,sv "at" 821,sv "sign" 822,sv "octets" 823],oT []],
 f2 "comment_at" (dQ 65) 814 346 2 453 824 m6,
 [oT [],oF [],oT [sv "octets" 830,sv "signs" 831,sv "parts" 832,sv "at" 833],oT []],
 f2 "escaped_octets" (dQ 66) 827 361 2 460 834 m6,
 [oT [.int 9 839,.int 10 840,.int 13 841,.int 32 842],oT [],⟨.type "builtin_function_or_method",ag,.fields (aR [.builtin "type.__prepare__",.type "type"]),#[]⟩,oD 9 [de P "__module__" 875 m7,de P "__qualname__" 877 (sv "Kind" 876),de P "__firstlineno__" 879 (.int 384 878),de P "__init__" 889 (.ref 481),de P "told" 895 (.ref 486),de P "is_multi" 902 (.ref 493),de P "is_letter" 909 (.ref 500),de P "is_text" 916 (.ref 507),de P "__static_attributes__" 920 (.ref 508)],oT [],oF [.int 386 0,.int 4 0,.ref 480,.int 391 0,.int 4 0,.ref 485,.int 394 0,.int 4 0,.ref 492,.int 397 0,.int 4 0,.ref 499,.int 400 0,.int 4 0,.ref 506],oL "Kind" "Kind" 870 384 0 471 472 0 0 0 873,⟨.type "frame",ag,.plain,#[aa (.ref 473),aa (.ref 3),aa (.ref 470),ag,aa m7,ag,aa (.ref 0)]⟩,oT [],oF [],oT [sv "self" 883,sv "top" 884,sv "sub" 885,sv "params" 886],oT []],
 h2 "__init__" "Kind.__init__" (qF 81 0) 880 386 4 475 887 m7,
 oE,
 h1 "told" "Kind.told" (qF 81 1) 890 391 1 482 893 m7,
 [oT [],oF [],oT [sv "self" 899],oT []],
 h2 "is_multi" "Kind.is_multi" (qF 81 2) 896 394 1 487 900 m7,
 [oT [],oF [],oT [sv "self" 906],oT []],
 h2 "is_letter" "Kind.is_letter" (qF 81 3) 903 397 1 494 907 m7,
 [oT [],oF [],oT [sv "self" 913],oT []],
 h2 "is_text" "Kind.is_text" (qF 81 4) 910 400 1 501 914 m7,
 [oT [(sv "params" 917),(sv "sub" 918),(sv "top" 919)],oD 4 [de P "__module__" 875 m7,de P "__firstlineno__" 879 (.int 384 878),de P "__init__" 889 (.ref 481),de P "told" 895 (.ref 486),de P "is_multi" 902 (.ref 493),de P "is_letter" 909 (.ref 500),de P "is_text" 916 (.ref 507),de P "__static_attributes__" 920 (.ref 508),de P "__dict__" 922 (.ref 511),de P "__weakref__" 924 (.ref 512),de P "__doc__" 925 .none],⟨(.type "type"),ag,(.cls (eC (aJ "Kind") [(.type "object")] [(.ref 510),(.type "object")] 509 (aJ "Kind") ah [] [] ac ag ac)),#[ag,ag,(aa (sv "Kind" 868)),(aa (sv "Kind" 876)),(aa (.builtin "object.__new__")),(aa (.bool ah))]⟩,⟨(.type "getset_descriptor"),ag,(.fields (aR [(sv "__dict__" 921),(.ref 510),(.builtin "function.__dict__"),(.builtin "function.__dict__#set")])),#[]⟩,⟨(.type "getset_descriptor"),ag,(.fields (aR [(sv "__weakref__" 923),(.ref 510),(.builtin "ExceptionGroup.__weakref__"),.none])),#[]⟩,⟨(.type "super"),ag,(.fields (aR [(.ref 510),(.ref 510),(.ref 510)])),#[]⟩,⟨(.type "builtin_function_or_method"),ag,(.fields (aR [(.builtin "object.__init_subclass__"),(.ref 510)])),#[]⟩]]
noncomputable def ob5(P:Params):List Obj:=Ho [[oT [],oF [],oT [],oT []],
 f2 "plain_kind" (dQ 82) 928 402 0 515 931 m7,
 [oT [],oF [],oT [sv "code" 937],oT []],
 f2 "is_token_code" (dQ 83) 934 404 1 522 938 m7,
 [oT [],oF [],oT [sv "cursor" 944],oT []],
 f2 "skip_between" (dQ 84) 941 406 1 529 945 m7,
 [oT [],oF [],oT [sv "cursor" 951,sv "first" 952],oT []],
 f2 "take_token" (dQ 85) 948 414 1 536 953 m7,
 [oT [],oF [],oT [sv "code" 959],oT []],
 f2 "is_worth_code" (dQ 86) 956 421 1 543 960 m7,
 [oT [],oF [],oT [sv "cursor" 966,sv "worth" 967,sv "first" 968],oT []],
 f2 "take_worth" (dQ 87) 963 423 1 550 969 m7,
 oE,
 f1 "small_word" (dQ 88) 972 433 1 557 975 m7,
 [oT [],oF [],oT [sv "cursor" 981,sv "pairs" 982,sv "name" 983],oT []],
 f2 "take_pairs" (dQ 89) 978 435 1 562 984 m7,
 [oT [],oF [],oT [sv "figures" 990,sv "number" 991,sv "sign" 992],oT []],
 f2 "part_number" (dQ 90) 987 451 1 569 993 m7,
 [oT [],oF [],oT [sv "name" 999,sv "spot" 1000,sv "is_encoded" 1001,sv "number" 1002],oT []],
 f2 "part_of" (dQ 91) 996 460 1 576 1003 m7,
 oE,
 f1 "hex_worth" (dQ 92) 1006 469 1 583 1009 m7,
 [oT [],oF [],oT [sv "octets" 1016,sv "found" 1017,sv "at" 1018,sv "worth" 1019],oT []],
 f2 "percent_decoded" (dQ 94) 1013 475 1 588 1020 m7,
 oE,
 f1 "charset_cut" (dQ 95) 1023 483 1 595 1026 m7,
 [oT [],oF [],oT [sv "parts" 1032,sv "charset" 1033,sv "octets" 1034,sv "number" 1035,sv "is_encoded" 1036,sv "worth" 1037],oT []],
 f2 "joined_worth" (dQ 96) 1029 488 1 600 1038 m7,
 [oT [],oF [],oT [sv "pairs" 1044,sv "plain" 1045,sv "parted" 1046,sv "name" 1047,sv "worth" 1048,sv "part" 1049,sv "base" 1050,sv "number" 1051,sv "is_encoded" 1052],oT []],
 f2 "params_of" (dQ 97) 1041 499 1 607 1053 m7,
 [oT []]]
noncomputable def ob6(P:Params):List Obj:=Ho [[oF [],oT [sv "octets" 1059,sv "cursor" 1060,sv "top" 1061,sv "sub" 1062],oT []],
 f2 "strict_kind" (dQ 98) 1056 517 1 614 1063 m7,
 [oT [],oF [],oT [sv "octets" 1069],oT []],
 f2 "read_kind" (dQ 99) 1066 527 1 621 1070 m7,
 oE,
 f1 "is_token" (dQ 100) 1073 534 1 628 1076 m7,
 oE,
 f1 "is_plain" (dQ 101) 1079 536 1 633 1082 m7,
 [oT [],oF [],oT [sv "octets" 1089,sv "found" 1090,sv "code" 1091],oT []],
 f2 "percent_encoded" (dQ 103) 1086 539 1 638 1092 m7,
 [oT [],oF [],oT [sv "pieces" 1098,sv "room" 1099,sv "rows" 1100,sv "piece" 1101],oT []],
 f2 "in_rows" (dQ 104) 1095 547 2 645 1102 m7,
 oE,
 f1 "encoded_rows" (dQ 105) 1105 554 2 652 1108 m7,
 oE,
 f1 "quoted_rows" (dQ 106) 1111 562 2 657 1114 m7,
 oE,
 f1 "number_octets" (dQ 107) 1117 569 1 662 1120 m7,
 oE,
 f1 "param_rows" (dQ 108) 1123 571 2 667 1126 m7,
 oE,
 f1 "write_params" (dQ 109) 1129 585 2 672 1132 m7,
 oE,
 f1 "write_kind" (dQ 110) 1135 590 1 677 1138 m7,
 [oT [],oF [],oT [sv "code" 1158],oT []],
 f2 "quoted_code" (dQ 118) 1155 605 1 682 1159 m8,
 [oT [],oF [],oT [sv "code" 1165],oT []],
 f2 "hex_worth" (dQ 119) 1162 607 1 689 1166 m8,
 [oT [],oF [],oT [sv "data" 1173,sv "at" 1174,sv "high" 1175,sv "low" 1176],oT []],
 f2 "quoted_at" (dQ 121) 1170 616 2 696 1177 m8,
 [oT [],oF [],oT [sv "code" 1183],oT []],
 f2 "is_plain" (dQ 122) 1180 622 1 703 1184 m8,
 [oT [],oF [],oT [(sv "line" 1191),(sv "pieces" 1192),(sv "at" 1193),(sv "is_white" 1194)],oT [],oA "line_pieces" "line_pieces" (dQ 124)]]
noncomputable def ob7(P:Params):List Obj:=Ho [[oK "line_pieces" "line_pieces" 1188 625 1 710 711 712 713 714 1195,oB "line_pieces" "line_pieces" (dQ 124) 3 715 0 m8,oT [],oF [],oT [sv "pieces" 1201,sv "width" 1202,sv "lines" 1203,sv "line" 1204,sv "at" 1205,sv "room" 1206],oT []],
 f2 "soft_lines" (dQ 125) 1198 634 2 717 1207 m8,
 [oT [],oF [],oT [sv "octets" 1213,sv "is_text" 1214],oT []],
 f2 "text_lines" (dQ 126) 1210 644 2 724 1215 m8,
 [oT [.bool ah,.int 76 1218],oT [],oF [],oT [sv "octets" 1222,sv "is_text" 1223,sv "width" 1224,sv "lines" 1225,sv "line" 1226],oT []],
 VH "quoted_encoded" (dQ 127) 1219 646 3 732 1227 m8 731,
 [oT [],oF [],oT [sv "lines" 1233,sv "parts" 1234,sv "line" 1235],oT []],
 f2 "joined_lines" (dQ 128) 1230 654 1 739 1236 m8,
 [oT [],oF [],oT [sv "data" 1242,sv "found" 1243,sv "begin" 1244,sv "at" 1245],oT []],
 f2 "line_parts" (dQ 129) 1239 661 1 746 1246 m8,
 [oT [],oF [],oT [sv "line" 1252,sv "codes" 1253,sv "at" 1254,sv "code" 1255],oT []],
 f2 "unquoted" (dQ 130) 1249 673 1 753 1256 m8,
 [oT [],oF [],oT [sv "data" 1262,sv "parts" 1263,sv "line" 1264,sv "end" 1265,sv "kept" 1266],oT []],
 f2 "quoted_decoded" (dQ 131) 1259 685 1 760 1267 m8,
 [oT [sv "7bit" 1276,sv "8bit" 1277,sv "binary" 1278],oT [],⟨.type "builtin_function_or_method",ag,.fields (aR [.builtin "type.__prepare__",.type "type"]),#[]⟩,oD 6 [de P "__module__" 1291 m9,de P "__qualname__" 1293 (sv "Part" 1292),de P "__firstlineno__" 1295 (.int 700 1294),de P "__init__" 1307 (.ref 781),de P "told" 1313 (.ref 786),de P "__static_attributes__" 1322 (.ref 787)],oT [],oF [.int 702 0,.int 4 0,.ref 780,.int 712 0,.int 4 0,.ref 785],oL "Part" "Part" 1286 700 0 771 772 0 0 0 1289,⟨.type "frame",ag,.plain,#[aa (.ref 773),aa (.ref 3),aa (.ref 770),ag,aa m9,ag,aa (.ref 0)]⟩,oT [],oF [],oT [sv "self" 1299,sv "begin" 1300,sv "body" 1301,sv "end" 1302,sv "fields" 1303,sv "kind" 1304],oT []],
 h2 "__init__" "Part.__init__" (qF 138 0) 1296 702 6 775 1305 m9,
 oE,
 h1 "told" "Part.told" (qF 138 1) 1308 712 1 782 1311 m9,
 [oT [sv "begin" 1314,sv "body" 1315,sv "encoding" 1316,sv "end" 1317,sv "fields" 1318,sv "inner" 1319,sv "kids" 1320,sv "kind" 1321],oD 4 [de P "__module__" 1291 m9,de P "__firstlineno__" 1295 (.int 700 1294),de P "__init__" 1307 (.ref 781),de P "told" 1313 (.ref 786),de P "__static_attributes__" 1322 (.ref 787),de P "__dict__" 1324 (.ref 790),de P "__weakref__" 1326 (.ref 791),de P "__doc__" 1327 .none],⟨.type "type",ag,.cls (eC (aJ "Part") [.type "object"] [.ref 789,.type "object"] 788 (aJ "Part") ah [] [] ac ag ac),#[ag,ag,aa (sv "Part" 1284),aa (sv "Part" 1292),aa (.builtin "object.__new__"),aa (.bool ah)]⟩,⟨.type "getset_descriptor",ag,.fields (aR [sv "__dict__" 1323,.ref 789,.builtin "function.__dict__",.builtin "function.__dict__#set"]),#[]⟩,⟨.type "getset_descriptor",ag,.fields (aR [sv "__weakref__" 1325,.ref 789,.builtin "ExceptionGroup.__weakref__",.none]),#[]⟩,⟨.type "super",ag,.fields (aR [.ref 789,.ref 789,.ref 789]),#[]⟩,⟨.type "builtin_function_or_method",ag,.fields (aR [.builtin "object.__init_subclass__",.ref 789]),#[]⟩,oT [],oF []],
 f1 "encoding_of" (dQ 139) 1330 716 1 794 1333 m9,
 [oT [],oF [],oT [sv "line" 1339,sv "boundary" 1340,sv "mark" 1341,sv "rest" 1342],oT []],
 f2 "boundary_way" (dQ 140) 1336 725 2 799 1343 m9,
 [oT [],oF [],oT [sv "data" 1349,sv "at" 1350,sv "end" 1351,sv "boundary" 1352,sv "found" 1353,sv "begun" 1354,sv "before" 1355,sv "first" 1356,sv "last" 1357,sv "behind" 1358,sv "way" 1359],oT []],
 f2 "part_spans" (dQ 141) 1346 733 4 806 1360 m9,
 oE]
noncomputable def ob8(P:Params):List Obj:=Ho [f1 "kid_spans" (dQ 142) 1363 749 2 813 1366 m9,
 [oT [],oF [],oT [sv "part" 1372],oT []],
 f2 "has_inner" (dQ 143) 1369 756 1 818 1373 m9,
 oE,
 f1 "read_part" (dQ 144) 1376 758 5 825 1379 m9,
 [oT [],oF [],oT [sv "data" 1385],oT []],
 f2 "read_message" (dQ 145) 1382 769 1 830 1386 m9,
 [oT [],oF [],oT [sv "encoding" 1392,sv "octets" 1393],oT []],
 f2 "undone" (dQ 146) 1389 771 2 837 1394 m9,
 [oT [],oF [],oT [sv "data" 1400,sv "part" 1401],oT []],
 f2 "body_octets" (dQ 147) 1397 777 2 844 1402 m9,
 [oT [sv "content-type" 1409,sv "content-transfer-encoding" 1410,sv "mime-version" 1411],oT [],oF []],
 f1 "fields_told" (dQ 152) 1415 783 1 852 1418 oz,
 [oT [],oF [],oT [sv "told_piece" 1424],oT []],
 f2 "bare_piece" (dQ 153) 1421 785 1 857 1425 oz,
 [oT [],⟨.type "builtin_function_or_method",ag,.fields (aR [.builtin "type.__prepare__",.type "type"]),#[]⟩,oD 7 [de P "__module__" 1435 oz,de P "__qualname__" 1437 (sv "Leaf" 1436),de P "__firstlineno__" 1439 (.int 787 1438),de P "__init__" 1449 (.ref 879),de P "told" 1456 (.ref 886),de P "depth" 1463 (.ref 893),de P "__static_attributes__" 1467 (.ref 894)],oT [],oF [.int 789 0,.int 4 0,.ref 878,.int 794 0,.int 4 0,.ref 885,.int 797 0,.int 4 0,.ref 892],oL "Leaf" "Leaf" 1430 787 0 867 868 0 0 0 1433,⟨.type "frame",ag,.plain,#[aa (.ref 869),aa (.ref 3),aa (.ref 866),ag,aa oz,ag,aa (.ref 0)]⟩,oT [],oT [.ref 871],oT [],oF [],oT [sv "self" 1443,sv "kind" 1444,sv "octets" 1445,sv "fields" 1446],oT []],
 Qv "__init__" "Leaf.__init__" (qF 154 0) 1440 789 4 873 1447 oz 872,
 [oT [],oF [],oT [sv "self" 1453],oT []],
 h2 "told" "Leaf.told" (qF 154 1) 1450 794 1 880 1454 oz,
 [oT [],oF [],oT [sv "self" 1460],oT []],
 h2 "depth" "Leaf.depth" (qF 154 2) 1457 797 1 887 1461 oz,
 [oT [(sv "fields" 1464),(sv "kind" 1465),(sv "octets" 1466)],oD 4 [de P "__module__" 1435 oz,de P "__firstlineno__" 1439 (.int 787 1438),de P "__init__" 1449 (.ref 879),de P "told" 1456 (.ref 886),de P "depth" 1463 (.ref 893),de P "__static_attributes__" 1467 (.ref 894),de P "__dict__" 1469 (.ref 897),de P "__weakref__" 1471 (.ref 898),de P "__doc__" 1472 .none],⟨(.type "type"),ag,(.cls (eC (aJ "Leaf") [(.type "object")] [(.ref 896),(.type "object")] 895 (aJ "Leaf") ah [] [] ac ag ac)),#[ag,ag,(aa (sv "Leaf" 1428)),(aa (sv "Leaf" 1436)),(aa (.builtin "object.__new__")),(aa (.bool ah))]⟩,⟨(.type "getset_descriptor"),ag,(.fields (aR [(sv "__dict__" 1468),(.ref 896),(.builtin "function.__dict__"),(.builtin "function.__dict__#set")])),#[]⟩,⟨(.type "getset_descriptor"),ag,(.fields (aR [(sv "__weakref__" 1470),(.ref 896),(.builtin "ExceptionGroup.__weakref__"),.none])),#[]⟩,⟨(.type "super"),ag,(.fields (aR [(.ref 896),(.ref 896),(.ref 896)])),#[]⟩,⟨(.type "builtin_function_or_method"),ag,(.fields (aR [(.builtin "object.__init_subclass__"),(.ref 896)])),#[]⟩,oT [],⟨(.type "builtin_function_or_method"),ag,(.fields (aR [(.builtin "type.__prepare__"),(.type "type")])),#[]⟩,oD 7 [de P "__module__" 1482 oz,de P "__qualname__" 1484 (sv "Many" 1483),de P "__firstlineno__" 1486 (.int 799 1485),de P "__init__" 1496 (.ref 916),de P "told" 1502 (.ref 921),de P "depth" 1508 (.ref 926),de P "__static_attributes__" 1512 (.ref 927)],oT [],oF [(.int 801 0),(.int 4 0),(.ref 915),(.int 806 0),(.int 4 0),(.ref 920),(.int 809 0),(.int 4 0),(.ref 925)],oL "Many" "Many" 1477 799 0 904 905 0 0 0 1480,⟨(.type "frame"),ag,.plain,#[(aa (.ref 906)),(aa (.ref 3)),(aa (.ref 903)),ag,(aa oz),ag,(aa (.ref 0))]⟩,oT [],oT [(.ref 908)],oT [],oF [],oT [(sv "self" 1490),(sv "sub" 1491),(sv "pieces" 1492),(sv "fields" 1493)],oT [],oA "__init__" "Many.__init__" (qF 155 0)]]
noncomputable def ob9(P:Params):List Obj:=Ho [[oK "__init__" "Many.__init__" 1487 801 4 910 911 912 913 914 1494,oB "__init__" "Many.__init__" (qF 155 0) 3 915 909 oz,oT [],oF []],
 h1 "told" "Many.told" (qF 155 1) 1497 806 1 917 1500 oz,
 oE,
 h1 "depth" "Many.depth" (qF 155 2) 1503 809 1 922 1506 oz,
 [oT [sv "fields" 1509,sv "pieces" 1510,sv "sub" 1511],oD 4 [de P "__module__" 1482 oz,de P "__firstlineno__" 1486 (.int 799 1485),de P "__init__" 1496 (.ref 916),de P "told" 1502 (.ref 921),de P "depth" 1508 (.ref 926),de P "__static_attributes__" 1512 (.ref 927),de P "__dict__" 1514 (.ref 930),de P "__weakref__" 1516 (.ref 931),de P "__doc__" 1517 .none],⟨.type "type",ag,.cls (eC (aJ "Many") [.type "object"] [.ref 929,.type "object"] 928 (aJ "Many") ah [] [] ac ag ac),#[ag,ag,aa (sv "Many" 1475),aa (sv "Many" 1483),aa (.builtin "object.__new__"),aa (.bool ah)]⟩,⟨.type "getset_descriptor",ag,.fields (aR [sv "__dict__" 1513,.ref 929,.builtin "function.__dict__",.builtin "function.__dict__#set"]),#[]⟩,⟨.type "getset_descriptor",ag,.fields (aR [sv "__weakref__" 1515,.ref 929,.builtin "ExceptionGroup.__weakref__",.none]),#[]⟩,⟨.type "super",ag,.fields (aR [.ref 929,.ref 929,.ref 929]),#[]⟩,⟨.type "builtin_function_or_method",ag,.fields (aR [.builtin "object.__init_subclass__",.ref 929]),#[]⟩,oT [],⟨.type "builtin_function_or_method",ag,.fields (aR [.builtin "type.__prepare__",.type "type"]),#[]⟩,oD 7 [de P "__module__" 1527 oz,de P "__qualname__" 1529 (sv "Letter822" 1528),de P "__firstlineno__" 1531 (.int 811 1530),de P "__init__" 1540 (.ref 949),de P "told" 1548 (.ref 956),de P "depth" 1555 (.ref 963),de P "__static_attributes__" 1558 (.ref 964)],oT [],oF [.int 813 0,.int 4 0,.ref 948,.int 817 0,.int 4 0,.ref 955,.int 821 0,.int 4 0,.ref 962],oL "Letter822" "Letter822" 1522 811 0 937 938 0 0 0 1525,⟨.type "frame",ag,.plain,#[aa (.ref 939),aa (.ref 3),aa (.ref 936),ag,aa oz,ag,aa (.ref 0)]⟩,oT [],oT [.ref 941],oT [],oF [],oT [sv "self" 1535,sv "piece" 1536,sv "fields" 1537],oT []],
 Qv "__init__" "Letter822.__init__" (qF 156 0) 1532 813 3 943 1538 oz 942,
 [oT [],oF [],oT [sv "self" 1544,sv "rest" 1545],oT []],
 h2 "told" "Letter822.told" (qF 156 1) 1541 817 1 950 1546 oz,
 [oT [],oF [],oT [sv "self" 1552],oT []],
 h2 "depth" "Letter822.depth" (qF 156 2) 1549 821 1 957 1553 oz,
 [oT [sv "fields" 1556,sv "piece" 1557],oD 4 [de P "__module__" 1527 oz,de P "__firstlineno__" 1531 (.int 811 1530),de P "__init__" 1540 (.ref 949),de P "told" 1548 (.ref 956),de P "depth" 1555 (.ref 963),de P "__static_attributes__" 1558 (.ref 964),de P "__dict__" 1560 (.ref 967),de P "__weakref__" 1562 (.ref 968),de P "__doc__" 1563 .none],⟨.type "type",ag,.cls (eC (aJ "Letter822") [.type "object"] [.ref 966,.type "object"] 965 (aJ "Letter822") ah [] [] ac ag ac),#[ag,ag,aa (sv "Letter822" 1520),aa (sv "Letter822" 1528),aa (.builtin "object.__new__"),aa (.bool ah)]⟩,⟨.type "getset_descriptor",ag,.fields (aR [sv "__dict__" 1559,.ref 966,.builtin "function.__dict__",.builtin "function.__dict__#set"]),#[]⟩,⟨.type "getset_descriptor",ag,.fields (aR [sv "__weakref__" 1561,.ref 966,.builtin "ExceptionGroup.__weakref__",.none]),#[]⟩,⟨.type "super",ag,.fields (aR [.ref 966,.ref 966,.ref 966]),#[]⟩,⟨.type "builtin_function_or_method",ag,.fields (aR [.builtin "object.__init_subclass__",.ref 966]),#[]⟩,oT [],oF []],
 f1 "is_seven_bit" (dQ 157) 1566 823 1 971 1569 oz,
 [oT [],oF [],oT [sv "octets" 1575,sv "is_text" 1576],oT []],
 f2 "choose_encoding" (dQ 158) 1572 831 2 976 1577 oz,
 [oT [],oF [],oT [sv "encoding" 1583,sv "octets" 1584,sv "is_text" 1585],oT []],
 f2 "in_encoding" (dQ 159) 1580 835 3 983 1586 oz,
 oE,
 f1 "begins_line" (dQ 160) 1589 839 2 990 1592 oz,
 oE,
 f1 "boundary_for" (dQ 161) 1595 841 1 995 1598 oz,
 [oT [],oF [],oT [sv "fields" 1604],oT []],
 f2 "check_fields" (dQ 162) 1601 849 1 1000 1605 oz,
 oE,
 f1 "head_octets" (dQ 163) 1608 852 3 1007 1611 oz,
 [oT [],oF [],oT [(sv "leaf" 1617),(sv "kind" 1618),(sv "encoding" 1619)]]]
noncomputable def Xq(P:Params):List Obj:=Ho [[oT []],
 f2 "leaf_octets" (dQ 164) 1614 858 1 1012 1620 oz,
 oE,
 f1 "joined_bodies" (dQ 165) 1623 864 2 1019 1626 oz,
 oE,
 f1 "many_octets" (dQ 166) 1629 867 1 1024 1632 oz,
 [oT [],oF [],oT [sv "letter" 1638],oT []],
 f2 "letter_octets" (dQ 167) 1635 874 1 1029 1639 oz,
 [oT [],oF [],oT [sv "piece" 1645],oT []],
 f2 "built" (dQ 168) 1642 876 1 1036 1646 oz,
 [oT [],oF [],oT [sv "piece" 1652,sv "fields" 1653],oT []],
 f2 "letter_whole" (dQ 169) 1649 880 2 1043 1654 oz,
 [oT [],oF [],oT [sv "piece" 1660,sv "most" 1661],oT []],
 f2 "check_depth" (dQ 170) 1657 883 2 1050 1662 oz,
 [oT [],oF [],oT [sv "piece" 1668,sv "fields" 1669],oT []],
 f2 "message" (dQ 171) 1665 886 2 1057 1670 oz,
 [oT [],oF [],oT [sv "part" 1676],oT []],
 f2 "own_fields" (dQ 172) 1673 889 1 1064 1677 oz,
 oE,
 f1 "tree_of" (dQ 173) 1680 891 2 1071 1683 oz,
 [oT [],oF [],oT [sv "data" 1689,sv "part" 1690],oT []],
 f2 "letter_tree" (dQ 174) 1686 897 2 1076 1691 oz,
 [oT [(sv "charset" 1698),(sv "utf-8" 1699)],oT [(.ref 1083)],oT [(sv "text" 1696),(sv "plain" 1697),(.ref 1084)],oT [(.ref 1085),(bv [116,101,120,116,47,112,108,97,105,110,59,13,10,32,99,104,97,114,115,101,116,61,117,116,102,45,56] 1700),(bv [84,69,88,84,47,80,108,97,105,110,32,40,99,41,59,32,67,104,97,114,83,101,116,61,34,117,116,102,45,56,34] 1701)],oT [],oT [(sv "text" 1702),(sv "html" 1703),(.ref 1087)],oT [(.ref 1088),(bv [116,101,120,116,47,104,116,109,108] 1704),(bv [84,101,120,116,47,72,84,77,76,59] 1705)],oT [(sv "name" 1708),(sv "x.y" 1709)],oT [(.ref 1090)],oT [(sv "application" 1706),(sv "octet-stream" 1707),(.ref 1091)],oT [(.ref 1092),(bv [97,112,112,108,105,99,97,116,105,111,110,47,111,99,116,101,116,45,115,116,114,101,97,109,59,13,10,32,110,97,109,101,61,120,46,121] 1710),(bv [65,112,112,108,105,99,97,116,105,111,110,47,79,99,116,101,116,45,83,116,114,101,97,109,59,13,10,9,110,97,109,101,42,49,61,46,121,59,78,65,77,69,42,48,61,120] 1711)],oT [],oT [(sv "image" 1712),(sv "png" 1713),(.ref 1094)],oT [(.ref 1095),(bv [105,109,97,103,101,47,112,110,103] 1714),(bv [105,109,97,103,101,47,40,112,41,112,110,103] 1715)],oT [],oT [(sv "message" 1716),(sv "delivery-status" 1717),(.ref 1097)],oT [(.ref 1098),(bv [109,101,115,115,97,103,101,47,100,101,108,105,118,101,114,121,45,115,116,97,116,117,115] 1718),(bv [77,101,115,115,97,103,101,47,68,101,108,105,118,101,114,121,45,83,116,97,116,117,115] 1719)],oT [(.ref 1086),(.ref 1089),(.ref 1093),(.ref 1096),(.ref 1099)],oT [(bv [] 1721),(bv [] 1722),(bv [] 1723),(bv [] 1724),(bv [] 1725)],oT [(bv [97,13,10,98] 1726),(bv [] 1727),(bv [97,13,10,98] 1728),(bv [89,81,48,75,89,103,61,61] 1729),(bv [97,13,10,98] 1730)],oT [(bv [45,45,61,95,112,97,114,116,48,13,10,120] 1731),(bv [] 1732),(bv [45,45,61,95,112,97,114,116,48,13,10,120] 1733),(bv [76,83,48,57,88,51,66,104,99,110,32,81,119,68,81,112,52] 1734),(bv [45,45,61,51,68,95,112,97,114,116,48,13,10,120] 1735)],oT [(bv [255,254,253] 1736),(bv [98,97,115,101,54,52] 1737),(bv [47,47,55,57] 1738),(bv [47,47,55,57] 1739),(bv [61,70,70,61,102,101,61,13,10,61,70,68] 1740)],oT [(bv [99,97,102,233] 1741),(bv [113,117,111,116,101,100,45,112,114,105,110,116,97,98,108,101] 1742),(bv [99,97,102,61,69,57] 1743),(bv [89,50,70,109,54,81,61,61] 1744),(bv [99,97,102,61,69,57] 1745)],oT [(.ref 1101),(.ref 1102),(.ref 1103),(.ref 1104),(.ref 1105)],oT [],oT [(bv [88,45,65] 1747),(bv [32,49,13,10,32,50,32] 1748),(bv [49,32,50] 1749)],oT [(.ref 1108)],oT [(bv [83,117,98,106,101,99,116] 1750),(bv [32,115,13,10,9,116] 1751),(bv [115,9,116] 1752)],oT [(bv [120,45,97] 1753),(bv [] 1754),(bv [] 1755)],oT [(.ref 1110),(.ref 1111)],oT [(bv [67,111,110,116,101,110,116,45,73,68] 1756),(bv [32,60,99,62] 1757),(bv [60,99,62] 1758)],oT [(bv [67,111,110,116,101,110,116,45,68,101,115,99,114,105,112,116,105,111,110] 1759),(bv [32,100,32,101] 1760),(bv [100,32,101] 1761)]]]
noncomputable def Xr(P:Params):List Obj:=Ho [[oT [.ref 1113,.ref 1114],oT [.ref 1107,.ref 1109,.ref 1112,.ref 1115],oT [sv "mixed" 1763,sv "digest" 1764,sv "alternative" 1765,sv "related" 1766,sv "x-any" 1767],oT [],oF []],
 f1 "_law_strip" (dQ 180) 1769 904 1 1118 1772 Ki,
 [oT [],oF [],oT [sv "strip" 1778,sv "most" 1779,sv "found" 1780],oT []],
 f2 "_law_pick" (dQ 181) 1775 907 2 1123 1781 Ki,
 oE,
 f1 "_law_node" (dQ 182) 1784 917 3 1130 1787 Ki,
 oE,
 f1 "_law_told" (dQ 183) 1790 938 1 1135 1793 Ki,
 oE,
 f1 "_law_due" (dQ 184) 1796 940 1 1140 1799 Ki,
 oE,
 f1 "_law_piece" (dQ 185) 1802 947 1 1145 1805 Ki,
 oE,
 f1 "_law_rows" (dQ 186) 1808 955 1 1150 1811 Ki,
 oE,
 f1 "_law_ours" (dQ 187) 1814 957 2 1155 1817 Ki,
 oE,
 f1 "_law_theirs" (dQ 188) 1820 971 4 1160 1823 Ki,
 oE,
 f1 "law" (dQ 189) 1826 992 1 1165 1829 Ki]
noncomputable def KD(P:Params):List Obj:=ob0 P++(ob1 P++(ob2 P++(ob3 P++(ob4 P++(ob5 P++(ob6 P++(ob7 P++(ob8 P++(ob9 P++(Xq P++(Xr P)))))))))))
noncomputable def Hx:Env:={scope:=pw.main.scope,locals:=mainNs,globals:=mainNs,cells:=[],code:=(.ref 13),frame:=aa 14}
noncomputable def cM:Code:=Code.body (gJ pw) Hx
noncomputable def Fd:Pos:=⟨0,0,0,0⟩
noncomputable def B8:Pos:=⟨0,0,0,0⟩
noncomputable def JN(P:Params):Heap:=⟨⟨[ym P,yn P,boot_o_2 P,oD 9 (mj [(0,de P "__name__" 165 m0)] ((gE P).take 9)),yo P,yp P,yq P,yr P,yt P,yu P,vt P,oT [],oF (cE.take 0),oL "<module>" "<module>" 182 1 0 11 12 0 0 0 185,⟨.type "frame",ag,.plain,#[aa (.ref 13),aa (.ref 3),aa (.ref 3),ag,aa m0,ag,aa (.ref 0)]⟩]⟩,Kb⟩
noncomputable def LG:Nat:=187
noncomputable def KN:Pos:=⟨0,0,0,0⟩
noncomputable def hp(P:Params)(n k:Nat)(x y:Obj):List Obj:=ym P::yn P::x::y::([yo P,yp P,yq P,yr P,yt P,yu P,vt P,oT [],oF (cE.take n),oL "<module>" "<module>" 182 1 0 11 12 0 0 0 185,⟨.type "frame",ag,.plain,#[aa (.ref 13),aa (.ref 3),aa (.ref 3),ag,aa m0,ag,aa (.ref 0)]⟩]++(KD P).take k)
noncomputable def T0(P:Params):BT:=tZ [] (E4 20 (hp P 0 0 (boot_o_2 P) (oD 9 (mj [(0,de P "__name__" 165 m0)] ((gE P).take 9)))))
noncomputable def S0:=sM T0 15 187
noncomputable def UQ:=zX 0 14
noncomputable def O5:Pos:=⟨51,0,51,8⟩
noncomputable def T1(P:Params):BT:=tZ [] (E4 20 (hp P 27 56 (boot_o_2 P) (oD 21 (mj [(0,de P "__name__" 165 m2)] ((gE P).take 21)))))
noncomputable def S1:=sM T1 71 266
noncomputable def G(k:Nat)(S S':World->OsState->SharedT)(st:List Stmt)(p p':Pos):Prop:=∀w,(λos=>zzf Ic pw w 11 Bx 1 k (S w os) (piecesOf st Hx cM p [topFrame Fd]))=λos=>aa (rI,S' w os,cM,p')
theorem G.r{k:Nat}{S S':World->OsState->SharedT}{st:List Stmt}{p p':Pos}(g:G k S S' st p p')(w:World)(os:OsState):segRun pd pw w 11 Bx 1 k (S w os).abs (piecesOf st Hx cM p [topFrame Fd])=aa (rI,(S' w os).abs,cM,p'):=segRun_of (by rw[NW,xV];exact congrFun (g w) os)
theorem g0:G 306 S0 S1 UQ KN O5:=λw=>by kernel_rfl
noncomputable def UR:=zX 14 1
noncomputable def O6:Pos:=⟨52,0,60,35⟩
noncomputable def T2(P:Params):BT:=tZ [(95,⟨.type "type",ag,.cls (eC (aJ "PostError") [.type "Exception"] [.ref 95,.type "Exception",.type "BaseException",.type "object"] 94 (aJ "PostError") ah [] [] ac ag ac),#[aa (.ref 71),ag,aa (sv "PostError" 266),aa (sv "PostError" 274),aa (.builtin "Exception.__new__"),aa (.bool ah)]⟩)] (E4 20 (hp P 30 84 (SR P) (oD 22 (mj [(0,de P "__name__" 165 m2)] ((gE P).take 22)))))
noncomputable def S2:=sM T2 99 306
theorem g1:G 269 S1 S2 UR O5 O6:=λw=>by kernel_rfl
noncomputable def US:=zX 15 1
noncomputable def O7:Pos:=⟨61,0,62,8⟩
noncomputable def T3(P:Params):BT:=tZ [(95,⟨.type "type",ag,.cls (eC (aJ "PostError") [.type "Exception"] [.ref 95,.type "Exception",.type "BaseException",.type "object"] 94 (aJ "PostError") ah [] [.ref 108] ac ag ac),#[aa (.ref 71),ag,aa (sv "PostError" 266),aa (sv "PostError" 274),aa (.builtin "Exception.__new__"),aa (.bool ah)]⟩)] (E4 20 (hp P 33 96 (SR P) (oD 23 (mj [(0,de P "__name__" 165 m2)] ((gE P).take 23)))))
noncomputable def S3:=sM T3 111 322
theorem g2:G 214 S2 S3 US O6 O7:=λw=>by kernel_rfl
noncomputable def UT:=zX 16 5
noncomputable def O8:Pos:=⟨68,0,68,12⟩
noncomputable def tM(a b n:Nat)(X:Params->List (Nat×DictEntry))(P:Params):BT:=tZ [] (E4 20 (hp P a b (SR P) (oD n (mj (X P) ((gE P).take n)))))
noncomputable def T4:=tM 36 108 27 λP=>[(0,de P "__name__" 165 m3)]
noncomputable def S4:=sM T4 123 346
theorem g3:G 250 S3 S4 UT O7 O8:=λw=>by kernel_rfl
noncomputable def UU:=zX 21 1
noncomputable def O9:Pos:=⟨69,0,115,54⟩
noncomputable def T5:=tM 39 194 28 λP=>[(0,de P "__name__" 165 m3)]
noncomputable def S5:=sM T5 209 456
theorem g4:G 526 S4 S5 UU O8 O9:=λw=>by kernel_rfl
noncomputable def UV:=zX 22 6
noncomputable def Pa:Pos:=⟨136,0,136,13⟩
noncomputable def T6:=tM 51 220 33 λP=>[(0,de P "__name__" 165 m4)]
noncomputable def S6:=sM T6 235 497
theorem g5:G 147 S5 S6 UV O9 Pa:=λw=>by kernel_rfl
noncomputable def UW:=zX 28 4
noncomputable def Pb:Pos:=⟨160,0,162,63⟩
noncomputable def T7:=tM 63 274 37 λP=>[(0,de P "__name__" 165 m4)]
noncomputable def S7:=sM T7 289 569
theorem g6:G 378 S6 S7 UW Pa Pb:=λw=>by kernel_rfl
noncomputable def UX:=zX 32 16
noncomputable def Pc:Pos:=⟨229,0,230,52⟩
noncomputable def T8:=tM 93 341 52 λP=>[(0,de P "__name__" 165 m5)]
noncomputable def S8:=sM T8 356 671
theorem g7:G 385 S7 S8 UX Pb Pc:=λw=>by kernel_rfl
noncomputable def UY:=zX 48 14
noncomputable def Pd:Pos:=⟨319,0,319,13⟩
noncomputable def T9:=tM 126 417 65 λP=>[(0,de P "__name__" 165 m6)]
noncomputable def S9:=sM T9 432 783
theorem g8:G 376 S8 S9 UY Pc Pd:=λw=>by kernel_rfl
noncomputable def UZ:=zX 62 19
noncomputable def KO:Pos:=⟨383,0,383,4⟩
noncomputable def Zf:=tM 141 453 83 λP=>[(0,de P "__name__" 165 m7)]
noncomputable def Yh:=sM Zf 468 868
theorem g9:G 296 S9 Yh UZ Pd KO:=λw=>by kernel_rfl
noncomputable def Pn:=zX 81 2
noncomputable def KQ:Pos:=⟨402,0,403,57⟩
noncomputable def Zg:=tM 147 507 85 λP=>[(0,de P "__name__" 165 m7)]
noncomputable def Yi:=sM Zg 522 934
theorem WM:G 376 Yh Yi Pn KO KQ:=λw=>by kernel_rfl
noncomputable def Po:=zX 83 14
noncomputable def KR:Pos:=⟨488,0,498,72⟩
noncomputable def Zh:=tM 186 592 99 λP=>[(0,de P "__name__" 165 m7),(94,de P "hex_worth" 1011 (.ref 587))]
noncomputable def Yj:=sM Zh 607 1041
theorem WN:G 397 Yi Yj Po KQ KR:=λw=>by kernel_rfl
noncomputable def Pp:=zX 97 16
noncomputable def KS:Pos:=⟨599,0,599,13⟩
noncomputable def Zi:=tM 225 667 114 λP=>[(0,de P "__name__" 165 m8),(94,de P "hex_worth" 1011 (.ref 587)),(103,de P "is_plain" 1084 (.ref 637))]
noncomputable def Yk:=sM Zi 682 1145
theorem WO:G 398 Yj Yk Pp KR KS:=λw=>by kernel_rfl
noncomputable def Pq:=zX 113 17
noncomputable def KT:Pos:=⟨661,0,672,22⟩
noncomputable def Zj:=tM 255 738 129 λP=>[(0,de P "__name__" 165 m8)]
noncomputable def Yl:=sM Zj 753 1249
theorem WP:G 379 Yk Yl Pq KS KT:=λw=>by kernel_rfl
noncomputable def Pr:=zX 130 9
noncomputable def KU:Pos:=⟨700,0,715,95⟩
noncomputable def Zk:=tM 264 779 137 λP=>[(0,de P "__name__" 165 m9)]
noncomputable def Ym:=sM Zk 794 1330
theorem WQ:G 385 Yl Ym Pr KT KU:=λw=>by kernel_rfl
noncomputable def Ps:=zX 139 15
noncomputable def KW:Pos:=⟨785,0,786,79⟩
noncomputable def Zl:=tM 297 849 151 λP=>[(0,de P "__name__" 165 oz)]
noncomputable def Yn:=sM Zl 864 1428
theorem WR:G 363 Ym Yn Ps KU KW:=λw=>by kernel_rfl
noncomputable def Pt:=zX 154 1
noncomputable def KX:Pos:=⟨787,0,798,16⟩
noncomputable def Zm:=tM 300 886 152 λP=>[(0,de P "__name__" 165 oz)]
noncomputable def Yo:=sM Zm 901 1475
theorem WS:G 292 Yn Yo Pt KW KX:=λw=>by kernel_rfl
noncomputable def Pu:=zX 155 1
noncomputable def KY:Pos:=⟨799,0,810,70⟩
noncomputable def Zn:=tM 303 919 153 λP=>[(0,de P "__name__" 165 oz)]
noncomputable def Yp:=sM Zn 934 1520
theorem WT:G 286 Yo Yp Pu KX KY:=λw=>by kernel_rfl
noncomputable def Pv:=zX 156 4
noncomputable def KZ:Pos:=⟨835,0,838,88⟩
noncomputable def Zo:=tM 315 975 157 λP=>[(0,de P "__name__" 165 oz)]
noncomputable def Yq:=sM Zo 990 1589
theorem g18:G 378 Yp Yq Pv KY KZ:=λw=>by kernel_rfl
noncomputable def Pw:=zX 160 14
noncomputable def K0:Pos:=⟨891,0,896,87⟩
noncomputable def Zp:=tM 357 1061 171 λP=>[(0,de P "__name__" 165 oz)]
noncomputable def Yr:=sM Zp 1076 1686
theorem g19:G 394 Yq Yr Pw KZ K0:=λw=>by kernel_rfl
noncomputable def Px:=zX 174 13
noncomputable def K1:Pos:=⟨955,0,956,71⟩
noncomputable def Zq:=tM 381 1140 183 λP=>[]
noncomputable def Ys:=sM Zq 1155 1814
theorem g20:G 398 Yr Ys Px K0 K1:=λw=>by kernel_rfl
noncomputable def Py:=zX 187 3
noncomputable def K2:Pos:=⟨992,0,1009,127⟩
noncomputable def Zr(P:Params):BT:=tZ [] (E4 20 ([ym P,yn P,SR P,oD 186 (mj [] ((gE P).take 186)),yo P,yp P,yq P,yr P,yt P,yu P,vt P,oT [],oF (cE.take 390),oL "<module>" "<module>" 182 1 0 11 12 0 0 0 185,⟨.type "frame",ag,.plain,#[aa (.ref 13),aa (.ref 3),aa (.ref 3),ag,aa m0,ag,aa (.ref 0)]⟩]++KD P))
noncomputable def Yt:=sM Zr 1170 1832
theorem g21:G 79 Ys Yt Py K1 K2:=λw=>by kernel_rfl
noncomputable def Kc(P:Params):List Obj:=[ym P,yn P,SR P,oD 186 (mj [] ((gE P).take 186)),yo P,yp P,yq P,yr P,yt P,yu P,vt P,oT [],oF (cE.take 390),oL "<module>" "<module>" 182 1 0 11 12 0 0 0 185,⟨.type "frame",ag,.plain,#[aa (.ref 13),aa (.ref 3),aa (.ref 3),ag,aa m0,ag,aa (.ref 0)]⟩]++KD P
noncomputable def dE(P:Params):Heap:=⟨⟨Kc P⟩,Kb⟩
noncomputable def GY:Nat:=1832
theorem Qz(w:World):(λos=>LB Ic pw w 11 Bx 12 ⟨gK w.params,gB [],gm,boot_toks,os⟩ (topStub pw))=λos=>aa (⟨JN w.params,gB [],gm,LG,os⟩,Thread.mk (zze Ic cM) cM B8 [topFrame Fd]):=by kernel_rfl
theorem Qx(w:World):(λos=>GW Ic pw w 11 Bx 1 1 ⟨JN w.params,gB [],gm,LG,os⟩ (blockOf (gJ pw) Hx cM B8 [topFrame Fd]))=λos=>aa (rI,(S0 w os).abs,cM,KN):=by kernel_rfl
theorem JO(w:World):(λos=>GX Ic pw w 11 Bx 2 (Yt w os).abs ⟨doneF rI,cM,K2,[topFrame Fd]⟩)=λos=>aa ⟨dE w.params,gB [],gm,GY,os⟩:=by kernel_rfl
theorem TF:gJ pw=UQ++(UR++(US++(UT++(UU++(UV++(UW++(UX++(UY++(UZ++(Pn++(Po++(Pp++(Pq++(Pr++(Ps++(Pt++(Pu++(Pv++(Pw++(Px++(Py++[]))))))))))))))))))))):=by kernel_rfl
theorem TH(w:World)(os:OsState):topRun pd pw w 11 Bx (306+(269+(214+(250+(526+(147+(378+(385+(376+(296+(376+(397+(398+(379+(385+(363+(292+(286+(378+(394+(398+(79+2)))))))))))))))))))))) (S0 w os).abs (restOf (gJ pw) Hx cM KN [topFrame Fd])=aa ⟨dE w.params,gB [],gm,GY,os⟩:=by
 rw[TF]
 exact dj (g0.r w os) (dj (g1.r w os) (dj (g2.r w os) (dj (g3.r w os) (dj (g4.r w os) (dj (g5.r w os) (dj (g6.r w os) (dj (g7.r w os) (dj (g8.r w os) (dj (g9.r w os) (dj (WM.r w os) (dj (WN.r w os) (dj (WO.r w os) (dj (WP.r w os) (dj (WQ.r w os) (dj (WR.r w os) (dj (WS.r w os) (dj (WT.r w os) (dj (g18.r w os) (dj (g19.r w os) (dj (g20.r w os) (dj (g21.r w os) (piece_nil (by rw[Fv,xV];exact congrFun (JO w) os)))))))))))))))))))))))
theorem Ds(w:World)(os:OsState):topRun pd pw w 11 Bx (12+(1+(306+(269+(214+(250+(526+(147+(378+(385+(376+(296+(376+(397+(398+(379+(385+(363+(292+(286+(378+(394+(398+(79+2)))))))))))))))))))))))) ⟨gK w.params,gB [],gm,boot_toks,os⟩ (topStub pw)=aa ⟨dE w.params,gB [],gm,GY,os⟩:=
 go_top (s':=⟨JN w.params,gB [],gm,LG,os⟩) (t':=Thread.mk (denote pd cM) cM B8 [topFrame Fd]) (by rw[Ie,xV,NV];exact congrFun (Qz w) os)
  (piece_block (b:=gJ pw) (env:=Hx) (c:=cM) (by rw[Fu,xV];exact congrFun (Qx w) os) (TH w os))
noncomputable def qV:Program:={pw with main:={pw.main with body:=pw.main.body.drop 189}}
noncomputable def kh:List Str:=(gE {strHash:=λu=>0,shareClass:=λu=>0,mergeTok:=id,idOf:=λu=>0,idOfShared:=λn u=>n,followText:=λu=>ac,idOfImm:=λu=>0}).filterMap λe=>match e.key with
 | .str x _=>if x==aJ "law" then ag else aa x
 |_=>ag
theorem TG:∀w:World,(fencedOpening pd pw w 15000).map (λs=>(s.heap,s.gens,s.drawn,s.toks))=aa (gK w.params,gB [],gm,boot_toks):=
 boot_open (by kernel_rfl) (by decide) (λs=>by kernel_rfl)
theorem TJ:∀w:World,((gK w.params).isNs dy&&(gB ([]:List GenState)).size==0,(gK w.params).objs.size,(gK w.params).nsMap dy "__annotations__")=(ah,11,Bx):=λw=>by kernel_rfl
noncomputable abbrev wt:=ic
theorem im:jy pw.main.body=[]:=by kernel_rfl
theorem im2:(([aJ "vars",aJ "dir",aJ "locals"]:List Str).filter (readsOut pw pw.main.body))=[]:=by rw[PySem.W.Fast.te13343964577679436407];kernel_rfl
theorem Zw:vw {strict:=ac,foot:=ag,bare:=[]} pw.main.body=ah:=by
 rw[jD];kernel_rfl
theorem c5:vw {strict:= !(jy wt.row.prog.main.body).all cThrough.contains,foot:=ag,bare:=([aJ "vars",aJ "dir",aJ "locals"]:List Str).filter (readsOut wt.row.prog wt.row.prog.main.body)} wt.row.prog.main.body=ah:=by
 have h:({strict:= !(jy pw.main.body).all cThrough.contains,foot:=ag,bare:=([aJ "vars",aJ "dir",aJ "locals"]:List Str).filter (readsOut pw pw.main.body)}:Look)={strict:=ac,foot:=ag,bare:=[]}:=by
  rw[im2,im];rfl
 exact(congrArg (λk=>vw k pw.main.body) h).trans Zw
noncomputable def Xv:List Str:=["_law_kinds","_law_bodies","_law_fields","_law_subs","_law_strip","_law_pick","_law_node","_law_told","_law_due","_law_piece","_law_rows","_law_ours","_law_theirs","law"]
theorem Q2:wt.own=Xv.reverse:=by kernel_rfl
theorem d1:(namesMeet wt.prog wt.above λx n=> !wt.own.contains n)=ah:=by
 rw[Q2];kernel_rfl
theorem d2:vw {strict:=ah,foot:=aa wt.bound',writes:=wt.writes,may:=wt.may} wt.footing=ah:=by
 rw[jD];kernel_rfl
theorem d4:(namesMeet wt.row.prog wt.row.prog.main.body λx n=>attrL n)=ah:=by rw[PySem.W.Fast.te17868728402115742887];kernel_rfl
theorem d5:namesResolve wt.row.prog=ah:=by rw[PySem.W.Fast.te8377067652309620493];kernel_rfl
theorem d7:wt.footing.all footLine=ah:=by rw[PySem.W.Fast.te10501279942588096481];kernel_rfl
theorem d8:(wt.bound'.all λn=> !builtinNamed n||wt.about==[n]|| !wt.reads n)=ah:=by rw[PySem.W.Fast.named_eq];kernel_rfl
theorem ws:vr wt=ah:=by
 unfold vr OpenRow.wellSaid OpenRow.partSaid looksOpen
 repeat' with_reducible refine look_both ?_ ?_
 any_goals(with_reducible exact c5)
 any_goals(with_reducible exact d1)
 any_goals(with_reducible exact d2)
 any_goals(with_reducible exact d4)
 any_goals(with_reducible exact d5)
 any_goals(with_reducible exact d7)
 any_goals(with_reducible exact d8)
 all_goals kernel_rfl
theorem lk1(w:World):laidKept (gK w.params) (dE w.params)=ah:=by kernel_rfl
theorem lk3(w:World):namesBound pw (dE w.params)=ah:=by kernel_rfl
theorem lk4(w:World):staticsOk [] (gK w.params) (dE w.params)=ah:=by kernel_rfl
noncomputable def sF(w:World)(os:OsState):Shared:=⟨dE w.params,gB [],gm,GY,os⟩
theorem e1(w:World):(λos=>seen ((recsOf qV).map (·.name)) (ownsOf qV) [] {sF w os with gens:= #[]})=λ(os:OsState)=>expectedOf qV:=by
 rw[PySem.W.Fast.te5160383126252970620];kernel_rfl
theorem e2(w:World):(dE w.params).bltView=bltViewBooted:=by kernel_rfl
theorem e4(w:World):(λos=>tabsOk qV (sF w os))=λ(os:OsState)=>ah:=by rw[PySem.W.Fast.te479339242167458305];kernel_rfl
theorem e5(w:World):(λos=>pinSeenD qV (drecsOf qV) (sF w os))=λ(os:OsState)=>pinGoodD (drecsOf qV):=by rw[PySem.W.Fast.te16090120013241838585];kernel_rfl
theorem e6(w:World):(λos=>plainSeenE qV (looseW qV kh) (sF w os))=λ(os:OsState)=>plainGoodE qV (looseW qV kh):=by rw[PySem.W.Fast.te2386780881361962483];kernel_rfl
theorem e7(w:World):(λos=>plainSeenD qV kh (sF w os))=λ(os:OsState)=>plainGoodD qV kh:=by rw[PySem.W.Fast.te11698064438423848299];kernel_rfl
theorem e8(w:World):(λos=>wideSeen qV (sF w os))=λ(os:OsState)=>wideGood qV:=by rw[PySem.W.Fast.te7317090234206586261];kernel_rfl
theorem e9(w:World):(λos=>clsSeenW qV kh (sF w os))=λ(os:OsState)=>clsGoodW qV kh:=by rw[PySem.W.Fast.te7369524293546568484];kernel_rfl
theorem Zy(w:World):(dE w.params).keysOk (looseW qV kh) ((recsOf qV).map (·.name)) ((litsOf qV).map (·.1)) ((clssOf qV (looseW qV kh)).map (·.name))=ah:=by rw[PySem.W.Fast.te10880121769531294198];kernel_rfl
theorem Zz(w:World):(dE w.params).accountedOkI []=ah:=by rw[PySem.W.Fast.te14722251495701143533];kernel_rfl
theorem Qi(w:World):(dE w.params).isNs dy=ah:=by kernel_rfl
theorem SO(w:World):(dE w.params).isNs jE=ah:=by kernel_rfl
theorem ZA(w:World):tablesOk qV (dE w.params)=ah:=by kernel_rfl
theorem NN(w:World)(os:OsState):openSeen qV kh (jy pw.main.body) (recOk []) ah (sF w os)=openGood qV kh:=by
 rw[im]
 unfold openSeen openGood
 rw[congrFun (e1 w) os,congrFun (e4 w) os,congrFun (e5 w) os,congrFun (e6 w) os,congrFun (e7 w) os,congrFun (e8 w) os,congrFun (e9 w) os]
 show(_,(dE w.params).bltView,(dE w.params).keysOk (looseW qV kh) ((recsOf qV).map (·.name)) ((litsOf qV).map (·.1)) ((clssOf qV (looseW qV kh)).map (·.name))&&(dE w.params).accountedOkI []&&(dE w.params).isNs dy&&(dE w.params).isNs jE&&tablesOk qV (dE w.params)&&recOk [] (sF w os)&&ah,_)=_
 rw[e2,Zy,Zz,Qi,SO,ZA]
 rfl
theorem left:LeftO pw qV kh (recOk []) (λs=>s.heap) (λw=>dE w.params) 15000 ah:=
 LeftO.of_pieces (H₀:=λP=>gK P) (H₁:=λP=>dE P) (gs₀:=gB []) (gs₁:=gB []) (m₀:=11) (ann:=Bx) (M:=(12+(1+(306+(269+(214+(250+(526+(147+(378+(385+(376+(296+(376+(397+(398+(379+(385+(363+(292+(286+(378+(394+(398+(79+2)))))))))))))))))))))))))
  TG TJ Ds (by decide) λw=>by
  funext os
  refine Prod.ext ?_ (Prod.ext ?_ rfl)
  ·show(staticsOk (jy pw.main.body) (gK w.params) (dE w.params)&&namesBound pw (dE w.params)&&ah&&laidKept (gK w.params) (dE w.params))=ah
   rw[im,lk4,lk3,lk1];rfl
  ·exact NN w os
end
end Hd
namespace Mine
open And renaming imp_left→t9
open Array renaming length_toList→bB,getElem?_toList→b5,toList_append→dI,getElem?_eq_getElem→eH,mem_toList_iff→fY,mk→gB,toList_extract→iE,toList_inj→iT,toList_push→jV,isEmpty_iff→nE,contains_toList→qv,find?_toList→s8,any_toList→vi,casesOn→zY
open Bool renaming casesOn→aY,not_eq_true'→bK,eq_iff_iff→cG,false_ne_true→cY,or_eq_false_iff→dt,and_eq_true→dF,and_eq_true_iff→eV,eq_false_iff→fZ,false_eq_true→gU,or_eq_true→ia,and_true→sD,noConfusion→vj,and_assoc→xY,and_false→xZ,true→ah,false→ac
open Char renaming toNat→mA
open Classical renaming em→jX
open Eq renaming symm→aZ
open Exists renaming imp→s9
open ForInStep renaming yield→cR
open Int renaming ofNat→aD,ofNat_lt→bQ,natCast_nonneg→cw,ofNat_le→dG,le_trans→gV,not_lt→gW,max_eq_right→iU,toNat_natCast→jY,le_of_lt→lT,lt_of_lt_of_le→mB,min_eq_right→oO,min_eq_left→qg,toNat→rH,toNat_of_nonneg→r9,lt_of_le_of_lt→tb,add_zero→uc,natAbs_add_le→ue,toNat_lt→ug,zero_add→uh,le_refl→wz,le_max_left→xh
open Int.ofNat renaming inj→sG
open List renaming length_append→aj,casesOn→am,length_cons→aq,length_map→au,append_assoc→ay,cons_ne_nil→az,length_nil→aC,append_nil→aG,all_eq_true→aP,mem_map→aQ,toArray→aR,mem_of_getElem?→aT,length_singleton→aW,mem_cons→bc,append_eq_nil_iff→bl,map_map→bx,map_cons→bz,mem_singleton→bF,mem_map_of_mem→bM,map_append→bS,mem_append→bT,getElem?_eq_getElem→b8,nil_append→cq,getElem?_eq_some_iff→cF,cons_append→cH,isEmpty_iff→cI,eq_nil_of_length_eq_zero→cW,getElem?_map→dm,length→dK,nodup_cons→dO,getElem?_append_right→eh,take_of_length_le→ew,map_eq_nil_iff→eF,forIn_cons→eG,length_take→eK,length_drop→fA,extract_eq_take_drop→fP,range→gh,flatMap_append→gv,map_congr_left→gw,filter_cons→gC,find?_cons→ib,getElem?_eq_none→iu,length_filter_le→iw,mem_of_mem_drop→iG,take_length→iV,drop_eq_getElem_cons→i4,getElem?_append_left→i5,getElem?_take_of_lt→jo,foldl_cons→jx,getElem?_drop→jB,drop_take→j0,drop_zero→j1,size_toArray→j2,take_left→j3,any_eq_true→kJ,map_reverse→kK,map_id→lm,mem_of_mem_take→lq,take_length_add_append→lV,forIn_nil→mD,nodup_nil→mE,getElem?_eq_none_iff→nu,getElem?_zip_eq_some→nv,any_eq_false→nF,map_take→ob,lookup_cons→oP,zipIdx_cons→oQ,dropWhile_sublist→pG,range_succ_eq_map→pH,length_set→qh,cons_lt_cons_iff→qx,getElem?_toArray→qy,mem_iff_getElem?→qz,set_append_right→qA,drop_left→qJ,mem_range→qK,take_zero→qL,any_cons→sH,map_drop→sI,contains_cons→ti,findIdx?_cons→tj,forIn_toArray→tm,getElem?_take→tn,map_inj_right→tp,nodup_append→ui,take_sublist→uj,range'_succ→vo,all_append→xi,zipIdx_nil→xj,drop_drop→ye,find?_map→yf,replicate→yg,drop→Ar,map→CF
open List.Mem renaming head→z6
open List.cons renaming inj→ij
open Nat renaming le_trans→ao,le_of_ble_eq_true→ar,le_add_left→aE,lt_trans→aH,eq_of_beq_eq_true→aN,le_add_right→aU,le_refl→bj,beq→bo,add_right_comm→bt,zero_le→bD,exists_eq_add_of_le→bE,lt_of_le_of_lt→bG,le_of_eq→bV,lt_of_lt_of_le→bW,add_sub_cancel_left→bZ,add_assoc→b9,lt_succ_self→cn,ble→cr,succ_add→cy,casesOn→cX,le_of_lt→cZ,add_comm→dn,succ_le_succ→dH,le_succ_of_le→dL,beq_refl→ez,not_lt→eA,ne_of_gt→eP,zero_add→eQ,blt→fJ,min_eq_left→fX,toDigitsCore→gD,le_of_succ_le_succ→gX,lt_of_succ_lt_succ→gY,ne_of_lt→gZ,sub_self→iW,add_sub_cancel'→jd,ble_eq_true_of_le→ky,sub_eq_zero_of_le→kz,mod_lt→mF,le_of_succ_le→nG,le_succ→nH,lt_succ_of_lt→nK,succ_add_eq_add_succ→og,le_of_not_le→oS,max_eq_right→oU,min_eq_right→oV,le_of_add_right_le→pI,not_le→pJ,succ_pos→pK,le_antisymm→qi,add_le_add_right→qM,mul_le_mul_right→qN,not_succ_le_zero→qO,add_le_add_left→se,ble_eq→tq,lt_trichotomy→um,mod_eq_of_lt→vp,log2_lt→wA,min_le_left→xk,not_lt_zero→xm,blt_eq→yh
open Nat.succ renaming inj→j4
open Ne renaming symm→Bs
open Option renaming none→ag,casesOn→bg,map_eq_some_iff→cj,isNone_iff_eq_none→fQ,map→hV,bind_some→kL,bind→lr,some→aa
open Prod renaming fst→dq,snd→dX
open PyProof.Rows renaming callWith_type→iH,slicePart_none→qP
open PySem renaming wpAny_bind→ai,wpAny_pure→aw,builtinLookup_eq_fast→bw,eval→bC,wpAny_of_eq→bH,wpAny_holding→cb,typeLookup_type→cc,wpAny_newObj_type→ct,wpAny_field→cA,wpAny_seqItems→db,mainGlobals→dy,assignEach→dJ,codeAny_builtin→dP,wpAny_rule→dU,wpAny_call_entry→dZ,wpAny_typeOf→eD,sysModules→eM,wpAny_callSpecial?_slot→fg,wpAny_truthy_bool→fh,typeLookup→fE,wpAny_setField_rec→fG,KeyKind→gi,builtinType_eq_fast→gy,compareOp→gL,entryFor_of_tree→gM,codeAny_mono→hX,letOwnedTupleGo→ie,wpAny_specialOf→ig,signature?_of→ik,wpAny_standAt→ip,assignInOrder→jr,plainId_quiet→jt,importedModules→jy,builtinsNs→jE,getattributeRaised→jF,execs→jN,isSubtype_type→j8,strKind_is→kO,strKind→lg,wpAny_execs_nil→lJ,firstArgMember→mJ,wpAny_pyIter_tuple→mK,builtinType→nM,getMethod_builtin→nO,sizeLine_eq→nP,wpAny_assignInOrder_more→oj,wpAny_mkBytes→om,cellsFrom→pb,treeTable→pd,wpAny_execs_cons→pe,wpAny_list_append_plain→pg,call_meets→pQ,isTrue→pR,wpAny_ite_false→qk,wpAny_updateSeq→ql,callType_codes→qS,codeAny_call_builtin→qT,raiseErrorMade→qU,slicePicked→qW,wpAny_letTemporaryGo→qX,wpAny_updateSeq_pair→qY,swapsWith→rJ,wpAny_contains_slot→sm,typeNameOfCut→sK,wpAny_attempt→sN,wpAny_onRaise→sP,typeIs_str→tC,wpAny_load→tD,wpAny_mono→tE,seqIndex?→vx,wpAny_ite→vy,bm_if_false→wG,wpAny_letGo→wH,wpAny_mkInt→wI,wpAny_throw→wJ
open PySem.Around renaming under_plainId→cJ
open PySem.Builtin renaming bitAnd→yj
open PySem.Builtin.Bytes renaming find?→dw,window→eB,occurrences→ix,containsIn→kM,joined→lW,bound?→pL,takeBufferQuiet?→pM,bytesLike→xn
open PySem.Builtin.Int renaming intBits→sf
open PySem.Builtin.List renaming listExtendWith→lX,listSameRef→oh
open PySem.Builtin.ObjectAttr.Found renaming missing→qQ,value→sg
open PySem.Builtin.Range renaming rangeFitsLong→lY,small→si
open PySem.Builtin.Slice renaming slicePlaces→fR,sliceAdjust→i6,sliceApplied→mG
open PySem.Builtin.SmallTypes renaming nextOf→b0,ownedTupleIsFree→ck,ownedTupleHandOut→je
open PySem.Builtin.Str renaming strSliceIndices→iy,tooLong→sj
open PySem.Builtin.Tuple renaming tupleExact→eR
open PySem.Calls renaming callWith_builtin→oW,evalArgs_plain→qR,spliced_cons→uo
open PySem.Challenge renaming rw_pq0959_01→ic
open PySem.ClassData renaming mk→eC
open PySem.Code renaming quiet_builtin→tu
open PySem.Const renaming casesOn→gx
open PySem.Data renaming casesOn→mH
open PySem.Data.dict renaming inj→Aa
open PySem.Data.seq renaming inj→Bt
open PySem.Expr renaming casesOn→dS
open PySem.F renaming slot_tuple_iterator_next→fD,plain_extend_loop→fS,plain_list_iadd→gF,slot_zip_next→iS,slot_tuple_getattribute→i7,slot_list_getattribute→jq,called_tuple→lu,args_tuple_iterator_next_1→lG,entry_proto_collect→lZ,entry_tuple_iterator_next→l0,plain_proto_collect→l8,entry_extend_loop→nw,args_object_init_2→oX,entry_list_iadd→oY,plain_tuple_new→oZ,entry_object_init→pN,slot_zip_iter→qC,args_tuple_add_2→tv,slot_list_extend→tw,args_zip_next_1→uq,entry_tuple_add→ur,plainAttrs_list→ut,bm_called→wB
open PySem.Flow renaming next→rI
open PySem.Heap renaming get?_push_of_some→aF,get?_push_size→aL,get?_update_self→eI,lt_size→eU,size_push→eW,get?_none_of_le→iI,SameBut→j5,get?_update_other→j6,get?→mo
open PySem.Heap.Ns renaming of_isNs→lH,eq_nsMap→vq
open PySem.Heap.SameBut renaming update→jf
open PySem.IsRange renaming new→wC
open PySem.NameKind renaming casesOn→dY
open PySem.Obj renaming mapSeq→mI,data→o8,data_mapFields→tz,putName→wD
open PySem.PyData renaming keyHash→cS
open PySem.SeqAt renaming EqAt→jC
open PySem.Shared renaming TypeIs→sJ
open PySem.Str renaming ofString→aJ,join→yk
open PySem.TablesWhole renaming holds→fe,wSs→lI,noTwice→sk,gather→tA
open PySem.Value renaming casesOn→cg,ref→di,isStrOf→gj,none→iJ,type→kN,isInt→lw,isStrOf_shape→lP,bytes→nL,bool→tB,builtin→Ab
open PySem.Value.ref renaming inj→dC
open PySem.W renaming typeIs_bytes→b6,piece_app→dj,boot_drawn→gm,behindTheImports→gJ,boot_heap→gK,InstAt→j7,boot_o_10→vt,emptyDict→vv,noRoadLSs→vw,copiedNames→wF,boot_o_0→ym,boot_o_1→yn,boot_o_4→yo,boot_o_5→yp,boot_o_6→yq,boot_o_7→yr,boot_o_8→yt,boot_o_9→yu
open PySem.W.FB renaming slot_bytes_contains→c8,args_bytes_contains_2→gk,entry_bytes_contains→gG,owner_bytes→gH,args_bytes_getitem_2→o9,entry_bytes_getitem→pP,slot_bytes_getitem→qD
open PySem.W.Fast renaming te8920871248978507458→dT,te8326940854005059898→jD
open PySem.W.KBd renaming like_eq→wE
open PySem.W.KBy renaming buffer_eq→lf
open PySem.W.OpenLaw renaming wellSaid→vr
open PySem.W.WShape renaming hasItems→qj
open Std.Legacy renaming Range→vB
open Std.Legacy.Range renaming forIn_eq_forIn_range'→q5,size→Cy
open UInt8 renaming toNat→bp,toNat_inj→lK,ofNat→wK
theorem ae{α:Sort u}{a:α}:a=a:=rfl
set_option genSizeOf false
set_option genInjectivity false
inductive MV where
 |N|B (b:Bool)|I (i:Int)|S (l:List Nat)|Y (l:List Nat)
 |T (l:List MV)|L (l:List MV)|D (ks vs:List MV)|O (c:Nat) (as:List Nat) (vs:List MV)|R (i:Nat)
noncomputable abbrev bN:=List MV
noncomputable abbrev Loc:=List (Option MV)
inductive Op where
 |a|s|m|f|o|l|r|b|p
inductive Cp where
 |e|n|l|k|g|h|i|j|a|b
inductive Bi where
 |l|y|t|i|d|s|n|a|u|c|o|m|x|r|z
inductive Bm where
 |a|e|f|s|t|r|j|l|u|g
inductive ME where
 |c (v:MV)|v (i:Nat)|g (k:Nat)
 |b (op:Op) (a b:ME)|n (a:ME)|o (a:ME)|a (l:List ME)|r (l:List ME)
 |m (op:Cp) (a b:ME)|p (o1 o2:Cp) (a b c:ME)|i (t a b:ME)
 |l (f:Nat) (keep:Bool) (args:List ME)|w (c:Nat) (mu:Bool) (args:List ME)|h (n:Nat) (o:ME) (args:List ME)
 |u (b:Bi) (args:List ME)|k (m:Bm) (o:ME) (args:List ME)|s (o:ME) (c:Nat)
 |t (o:ME) (n:Nat)|x (o i:ME)|y (o a b:ME)
 |z (l:List ME)|d (mu:Bool) (l:List ME)|e (mu:Bool) (ks vs:List ME)
 |f (elt:ME) (t:List Nat) (it:ME) (cond:List ME)|j (elt:ME) (t:List Nat) (a b s:ME) (cond:List ME)
inductive MT where
 |v (i:Nat)|t (o:ME) (n:Nat)|x (o i:ME)|z (l:List MT)
inductive MS where
 |r (e:ME)|a (t:MT) (e:ME)|e (e:ME)|i (t:ME) (a b:List MS)|w (t:ME) (b:List MS)
 |f (t:List Nat) (it:ME) (b:List MS)|g (t:List Nat) (a b s:ME) (body:List MS)|b|t (b:List MS)|p|d
structure Fn where
 wi:Nat
 kU:Nat
 dflt:List MV
 body:List MS
inductive Fl where
 |n|b|r (v:MV)
noncomputable def zzd:Nat:=16777216
noncomputable def bX(n:Nat):Bool:=cr n zzd
mutual
noncomputable def MV.pure:MV->Bool
 | .T l=>bI l
 | .L l=>bI l
 | .D ks vs=>bI ks&&bI vs
 | .O _ _ vs=>bI vs
 | .R _=>ac
 |_=>ah
noncomputable def bI:List MV->Bool
 |[]=>ah
 |v::r=>v.pure&&bI r
end
mutual
noncomputable def MV.VC(n:Nat):MV->Bool
 | .T l=>jG n l
 | .L l=>jG n l
 | .D ks vs=>jG n ks&&jG n vs
 | .O _ _ vs=>jG n vs
 | .R i=>fJ i n
 |_=>ah
noncomputable def jG(n:Nat):List MV->Bool
 |[]=>ah
 |v::r=>v.VC n&&jG n r
end
noncomputable def jU(f:α->Option β):List α->Option (List β)
 |[]=>aa []
 |x::r=>(f x).bind λy=>(jU f r).map λs=>y::s
noncomputable def i8(U:bN)(n:Nat):Nat->MV->Option MV
 |0,_=>ag
 |k+1,v=>match v with
  | .T l=>(jU (i8 U n k) l).map .T
  | .L l=>(jU (i8 U n k) l).map .L
  | .D ks vs=>(jU (i8 U n k) ks).bind λa=>(jU (i8 U n k) vs).map λb=>.D a b
  | .O c as vs=>(jU (i8 U n k) vs).map (.O c as)
  | .R i=>(match fJ i n with
    |true=>aa (.R i)
    |false=>(U[i]?).bind λc=>i8 U n k c)
  |v=>aa v
noncomputable def Gc(U:bN)(n:Nat)(v:MV):Option MV:=match v.pure with
 |true=>aa v
 |false=>i8 U n 40 v
mutual
noncomputable def MV.same:MV->MV->Bool
 | .N,.N=>ah
 | .B a,.B b=>a==b
 | .I a,.I b=>a==b
 | .S a,.S b=>a==b
 | .Y a,.Y b=>a==b
 | .T a,.T b=>zB a b
 | .L a,.L b=>zB a b
 | .D a b,.D c d=>zB a c&&zB b d
 | .O a b c,.O d e f=>a==d&&b==e&&zB c f
 | .R a,.R b=>a==b
 |_,_=>ac
noncomputable def zB:List MV->List MV->Bool
 |[],[]=>ah
 |a::r,b::s=>a.same b&&zB r s
 |_,_=>ac
end
noncomputable def bn:List Nat->List Nat->Bool
 |[],[]=>ah
 |a::r,b::s=>bo a b&&bn r s
 |_,_=>ac
noncomputable def wV(f:MV->MV->Option Bool):List MV->List MV->Option Bool
 |[],b=>match b with|[]=>aa ah|_=>aa ac
 |a::r,b=>match b with
  |[]=>aa ac
  |b::s=>(f a b).bind λx=>(wV f r s).bind λy=>aa (x&&y)
noncomputable def BJ:Nat->MV->MV->Option Bool
 |0,_,_=>ag
 |n+1,a,b=>match a with
  | .I x=>match b with| .I y=>aa (decide (x=y))|_=>ag
  | .S x=>match b with| .S y=>aa (bn x y)|_=>ag
  | .Y x=>match b with| .Y y=>aa (bn x y)|_=>ag
  | .T x=>match b with| .T y=>wV (BJ n) x y|_=>ag
  | .L x=>match b with
    | .L y=>match bo x.length y.length with
      |true=>wV (BJ n) x y
      |false=>aa ac
    |_=>ag
  |_=>ag
noncomputable def MV.eqv(a b:MV):Option Bool:=BJ 60 a b
noncomputable def VN:List α->Bool
 |[]=>ac
 |_=>ah
noncomputable def MV.truthy:MV->Option Bool
 | .B b=>aa b
 | .L l=>aa (VN l)
 | .S l=>aa (VN l)
 |_=>ag
noncomputable def cC(U:bN):MV->Option MV
 | .R i=>U[i]?
 |v=>aa v
noncomputable def R2(l:List Nat):Option MV:=match bX l.length with|true=>aa (.Y l)|false=>ag
noncomputable def Xj(l:List Nat):Option MV:=match bX l.length with|true=>aa (.S l)|false=>ag
noncomputable def TZ(l:List MV):Option MV:=match bX l.length with|true=>aa (.L l)|false=>ag
noncomputable def E4(l:List MV):Option MV:=match bX l.length with|true=>aa (.T l)|false=>ag
noncomputable def gO(i:Int):Bool:=decide (i.natAbs<18446744073709551616)
noncomputable def zw(l:List α):Nat->List α
 |0=>[]
 |n+1=>l++zw l n
noncomputable def arith(op:Op)(x y:Int):Option MV:=match op with
 | .a=>aa (.I (x+y))
 | .s=>aa (.I (x-y))
 | .m=>match gO x&&gO y with|true=>aa (.I (x*y))|false=>ag
 | .f=>match decide (0<y)&&gO y with|true=>aa (.I (x.fdiv y))|false=>ag
 | .o=>match decide (0<y)with|true=>aa (.I (x.fmod y))|false=>ag
 | .l=>match decide (0<=y)&&decide (y<=1000000)&&gO x with|true=>aa (.I (x*2^y.toNat))|false=>ag
 | .r=>match decide (0<=y)&&decide (y<=1000000)with|true=>aa (.I (x.fdiv (2^y.toNat)))|false=>ag
 | .b=>match decide (0<=x)&&decide (0<=y)with|true=>aa (.I (aD (x.toNat&&&y.toNat)))|false=>ag
 | .p=>match decide (x=10)&&decide (y=60)with|true=>aa (.I (10^60))|false=>ag
noncomputable def MW(op:Op)(a b:MV):Option MV:=match a with
 | .I x=>match b with| .I y=>arith op x y|_=>ag
 |_=>ag
noncomputable def L8(U:bN)(a b:MV):Option MV:=match cC U a with
 |some (.L x)=>match cC U b with|some (.L y)=>TZ (x++y)|_=>ag
 |_=>ag
noncomputable def Sf(U:bN)(a b:MV):Option MV:=match a with
 | .Y x=>match b with| .Y y=>R2 (x++y)|_=>ag
 | .S x=>match b with| .S y=>Xj (x++y)|_=>ag
 | .T x=>match b with| .T y=>E4 (x++y)|_=>ag
 | .L x=>L8 U (.L x) b
 | .R x=>L8 U (.R x) b
 |a=>MW .a a b
noncomputable def zza(a b:MV):Option MV:=match a with
 | .L x=>(match b with| .I y=>(match bX (x.length*y.toNat)&&decide (y.natAbs<9223372036854775807)with|true=>aa (.L (zw x y.toNat))|false=>ag)|_=>ag)
 |a=>MW .m a b
noncomputable def jO(U:bN)(op:Op)(a b:MV):Option MV:=match op with
 | .a=>Sf U a b
 | .m=>zza a b
 |op=>MW op a b
noncomputable def A6(n:Nat)(i:Int):Option Nat:=match decide (i<0)with
 |true=>match decide (0<=i+n)with|true=>aa (i+n).toNat|false=>ag
 |false=>match decide (i<n)with|true=>aa i.toNat|false=>ag
noncomputable def yN(n:Nat)(i:Int):Nat:=(max 0 (min (if i<0 then i+n else i) n)).toNat
noncomputable def cut(l:List α)(a b:Nat):List α:=(l.take b).drop a
noncomputable def PX(n dflt:Nat):MV->Option Nat
 | .N=>aa dflt
 | .I i=>match gO i with|true=>aa (yN n i)|false=>ag
 |_=>ag
noncomputable def qE(ks vs:List MV)(k:MV):Option (Option MV):=match ks,vs with
 |k'::r,v::s=>(k'.eqv k).bind λt=>match t with
  |true=>aa (aa v)
  |false=>qE r s k
 |_,_=>aa ag
noncomputable def Ir(ks vs:List MV)(k v:MV):Option (List MV×List MV):=match ks,vs with
 |k'::r,v'::s=>(k'.eqv k).bind λt=>match t with
  |true=>aa (k'::r,v::s)
  |false=>(Ir r s k v).map λp=>(k'::p.1,v'::p.2)
 |[],[]=>aa ([k],[v])
 |_,_=>ag
noncomputable def i9:MV->Bool
 | .S _=>ah
 | .I i=>gO i
 |_=>ac
noncomputable def bA:List Nat->List Nat->Bool
 |[],_=>ah
 |a::r,b::s=>bo a b&&bA r s
 |_,_=>ac
noncomputable def dk(p:List Nat):List Nat->Nat->Option Nat
 |[],n=>match p with|[]=>aa n|_=>ag
 |x::r,n=>match bA p (x::r)with
  |true=>aa n
  |false=>dk p r (n+1)
noncomputable def cv(x:Nat):List Nat->Bool
 |[]=>ac
 |y::r=>match bo x y with|true=>ah|false=>cv x r
noncomputable def rh(f:MV->Option Bool):List MV->Option Bool
 |[]=>aa ac
 |m::r=>(f m).bind λa=>(rh f r).map λb=>a||b
noncomputable def Wb(i:Int):MV->Option Bool
 | .I j=>aa (decide (j=i))
 |_=>ag
noncomputable def Wc(x:List Nat):MV->Option Bool
 | .S y=>aa (bn y x)
 |_=>ag
noncomputable def Du(x:MV)(l:List MV):Option Bool:=match x with
 | .I i=>rh (Wb i) l
 | .S s=>rh (Wc s) l
 |_=>ag
noncomputable def WW(l:List Nat)(x:MV):Option Bool:=match x with
 | .I i=>(match decide (0<=i)&&decide (i<256)with|true=>aa (cv i.toNat l)|false=>ag)
 | .Y p=>(match p with|[]=>ag|_=>aa (dk p l 0).isSome)
 |_=>ag
noncomputable def QA(U:bN)(x c:MV):Option Bool:=(cC U c).bind λc=>match c with
 | .Y l=>WW l x
 | .T l=>Du x l
 | .L l=>Du x l
 | .D ks vs=>(match i9 x with|true=>(qE ks vs x).map Option.isSome|false=>ag)
 |_=>ag
noncomputable def isNone:MV->Bool
 | .N=>ah
 |_=>ac
noncomputable def IY(f:Int->Int->Bool)(a b:MV):Option Bool:=match a with
 | .I x=>(match b with| .I y=>aa (f x y)|_=>ag)
 |_=>ag
noncomputable def Y1(x y:List Nat):Option Bool:=match x with
 |[a]=>(match y with|[b]=>aa (cr a b)|_=>ag)
 |_=>ag
noncomputable def SF(a b:MV):Option Bool:=match a with
 | .S x=>(match b with| .S y=>Y1 x y|_=>ag)
 | .I x=>IY (λx y=>decide (x<=y)) (.I x) b
 |_=>ag
noncomputable def nV(U:bN)(op:Cp)(a b:MV):Option Bool:=match op with
 | .e=>(cC U a).bind λa=>(cC U b).bind λb=>a.eqv b
 | .n=>((cC U a).bind λa=>(cC U b).bind λb=>a.eqv b).map (!·)
 | .l=>IY (λx y=>decide (x<y)) a b
 | .k=>SF a b
 | .g=>IY (λx y=>decide (y<x)) a b
 | .h=>IY (λx y=>decide (y<=x)) a b
 | .i=>(match b with| .N=>aa (isNone a)|_=>ag)
 | .j=>(match b with| .N=>aa (!isNone a)|_=>ag)
 | .a=>QA U a b
 | .b=>(QA U a b).map (!·)
noncomputable def Dt(l:List α)(i:MV):Option α:=match i with
 | .I k=>(A6 l.length k).bind λj=>l[j]?
 |_=>ag
noncomputable def fi(U:bN)(o i:MV):Option MV:=(cC U o).bind λc=>match c with
 | .Y l=>(Dt l i).map λc=>.I (aD c)
 | .S l=>(Dt l i).map λc=>.S [c]
 | .T l=>Dt l i
 | .L l=>Dt l i
 | .D ks vs=>(match i9 i with|true=>(qE ks vs i).bind λr=>r|false=>ag)
 |_=>ag
noncomputable def EC(n:Nat)(a b:MV)(f:Nat->Nat->α):Option α:=(PX n 0 a).bind λx=>(PX n n b).map λy=>f x y
noncomputable def uQ(U:bN)(o a b:MV):Option MV:=(cC U o).bind λc=>match c with
 | .Y l=>EC l.length a b λx y=>.Y (cut l x y)
 | .S l=>EC l.length a b λx y=>.S (cut l x y)
 | .T l=>(match a with| .N=>(PX l.length l.length b).map λy=>.T (cut l 0 y)|_=>ag)
 | .L l=>EC l.length a b λx y=>.L (cut l x y)
 |_=>ag
noncomputable def yA:List Nat->List MV->Nat->Option MV
 |a::r,v::s,n=>match bo a n with|true=>aa v|false=>yA r s n
 |_,_,_=>ag
noncomputable def iz:List Nat->List MV->Nat->MV->List Nat×List MV
 |a::r,v::s,n,x=>match bo a n with
  |true=>(a::r,x::s)
  |false=>(a::(iz r s n x).1,v::(iz r s n x).2)
 |_,_,n,x=>([n],[x])
noncomputable def xK(U:bN)(o:MV)(n:Nat):Option MV:=(cC U o).bind λc=>match c with
 | .O _ as vs=>yA as vs n
 |_=>ag
noncomputable def uA:List MV->Option (List Nat)
 |[]=>aa []
 | .I i::r=>match decide (0<=i)&&decide (i<256)with
   |true=>(uA r).map (i.toNat:: ·)
   |false=>ag
 |_=>ag
noncomputable def VT:MV->Option (List Nat)
 | .Y l=>aa l
 |_=>ag
noncomputable def VU:MV->Option (List Nat)
 | .S l=>aa l
 |_=>ag
noncomputable def y1(s:List Nat):List (List Nat)->List Nat
 |[]=>[]
 |a::r=>a++(r.map (s++ ·)).flatten
noncomputable def AS(s:List Nat)(r:List MV):Option (List Nat):=(jU VT r).map (y1 s)
noncomputable def OR(s:List Nat)(r:List MV):Option (List Nat):=(jU VU r).map (y1 s)
noncomputable def Zc(l:List MV)(f:MV->MV->Option α):Option α:=match l with
 |[a,b]=>f a b
 |_=>ag
noncomputable def A5:MV->Option (MV×MV)
 | .T l=>Zc l λk v=>match i9 k with|true=>aa (k,v)|false=>ag
 |_=>ag
noncomputable def rQ:Option Bool->Bool
 |some b=> !b
 |ag=>ac
noncomputable def eJ:List MV->Bool
 |[]=>ah
 |k::r=>rQ (Du k r)&&eJ r
noncomputable def isStr:MV->Bool
 | .S _=>ah
 |_=>ac
noncomputable def XW:MV->Bool
 | .S x=>bX x.length
 |_=>ac
noncomputable def TQ:List MV->Option (List MV)
 |[]=>aa []
 |k::r=>match XW k&&r.isEmpty with
  |true=>aa [k]
  |false=>ag
noncomputable def items(U:bN)(v:MV):Option (List MV):=(cC U v).bind λc=>match c with
 | .T l=>aa l
 | .L l=>aa l
 | .Y l=>aa (l.map λc=>.I (aD c))
 | .S l=>aa (l.map λc=>.S [c])
 | .D ks _=>TQ ks
 |_=>ag
noncomputable def oy:List MV->Option (List Int)
 |[]=>aa []
 | .I i::r=>(oy r).map (i:: ·)
 |_=>ag
noncomputable def Eu:List MV->List MV->List MV
 |a::r,b::s=>.T [a,b]::Eu r s
 |_,_=>[]
noncomputable def oq:Nat->Nat->List Nat->List Nat
 |0,_,acc=>acc
 |k+1,n,acc=>match fJ n 10 with
  |true=>(48+n)::acc
  |false=>oq k (n/10) ((48+n%10)::acc)
noncomputable def TU:MV->Option MV
 | .Y l=>aa (.I l.length)
 | .S l=>aa (.I l.length)
 | .T l=>aa (.I l.length)
 | .L l=>aa (.I l.length)
 |_=>ag
noncomputable def PY:MV->Option MV
 | .Y l=>aa (.Y l)
 | .L l=>(uA l).bind R2
 |_=>ag
noncomputable def X1:MV->Option MV
 | .L l=>aa (.T l)
 | .T l=>aa (.T l)
 |_=>ag
noncomputable def Xb:MV->Option MV
 | .L l=>aa (.L l)
 | .T l=>aa (.L l)
 |_=>ag
noncomputable def Qh(l:List MV):Option MV:=(jU A5 l).bind λps=>match eJ (ps.map dq)with|true=>aa (.D (ps.map dq) (ps.map dX))|false=>ag
noncomputable def SJ:MV->Option MV
 | .L l=>Qh l
 | .T l=>Qh l
 |_=>ag
noncomputable def UN:MV->Option MV
 | .I i=>(match decide (0<=i)&&decide (i<1000000)with|true=>aa (.S (oq 8 i.toNat []))|false=>ag)
 |_=>ag
noncomputable def WY:MV->Option MV
 | .I i=>aa (.I i)
 |_=>ag
noncomputable def V0:MV->Option MV
 | .I i=>aa (.I (aD i.natAbs))
 |_=>ag
noncomputable def XY:MV->Option MV
 | .L l=>(oy l).map λl=>.I (l.foldl (· + ·) 0)
 |_=>ag
noncomputable def V6:MV->Option MV
 | .I i=>(match decide (0<=i)&&decide (i<256)with|true=>aa (.S [i.toNat])|false=>ag)
 |_=>ag
noncomputable def Xu:MV->Option MV
 | .S l=>(match l with|[c]=>aa (.I (aD c))|_=>ag)
 |_=>ag
noncomputable def pick(b:Bool)(x y:Int):Int:=match b with|true=>x|false=>y
noncomputable def QO(l:List Int):Option MV:=match l with
 |[]=>ag
 |a::r=>aa (.I (r.foldl (λa b=>pick (decide (a<b)) b a) a))
noncomputable def Xi:MV->Option MV
 | .L l=>(oy l).bind QO
 |_=>ag
noncomputable def UL:MV->Option MV
 | .S k=>(match bX k.length with|true=>aa (.L [.S k])|false=>ag)
 |_=>ag
noncomputable def Lp:List MV->Option MV
 |[]=>aa (.L [])
 |k::r=>(match r with|[]=>UL k|_=>ag)
noncomputable def UM:MV->Option MV
 | .D ks _=>Lp ks
 |_=>ag
noncomputable def Yb(x y:MV):Option MV:=match x with
 | .T a=>(match y with
   | .T b=>(match bo a.length b.length with|true=>aa (.T (Eu a b))|false=>ag)
   |_=>ag)
 |_=>ag
noncomputable def Vv:MV->Option MV
 | .T l=>Zc l Yb
 |_=>ag
noncomputable def V2:Bi->MV->Option MV
 | .l=>TU
 | .y=>PY
 | .t=>X1
 | .i=>Xb
 | .d=>SJ
 | .s=>UN
 | .n=>WY
 | .a=>V0
 | .u=>XY
 | .c=>V6
 | .o=>Xu
 | .x=>Xi
 | .r=>UM
 | .z=>Vv
 | .m=>λv=>ag
noncomputable def VB(b:Bi)(x y:MV):Option MV:=match x with
 | .I i=>(match y with
   | .I j=>(match b with
     | .m=>aa (.I (pick (decide (j<i)) j i))
     | .x=>aa (.I (pick (decide (i<j)) j i))
     |_=>ag)
   |_=>ag)
 |_=>ag
noncomputable def vH(U:bN)(b:Bi)(args:List MV):Option MV:=match args with
 |[v]=>(cC U v).bind (V2 b)
 |[x,y]=>VB b x y
 |_=>ag
noncomputable def yQ(p:Nat->Bool):List Nat->List Nat
 |[]=>[]
 |x::r=>match p x with|true=>yQ p r|false=>x::r
noncomputable def r6(cs l:List Nat):List Nat:=(yQ (λx=>cv x cs) l.reverse).reverse
noncomputable def Cn(cs l:List Nat):List Nat:=r6 cs (yQ (λx=>cv x cs) l)
noncomputable def Xs(s l:List Nat):List Nat:=((gh (l.length+1-s.length)).foldl (λacc i=>match cr acc.2 i&&bA s (l.drop i)with|true=>(i::acc.1,i+s.length)|false=>acc) (([]:List Nat),0)).1.reverse
noncomputable def PV(l:List Nat)(w:Nat):Nat->List Nat->List (List Nat)
 |last,[]=>[l.drop last]
 |last,p::r=>cut l last p::PV l w (p+w) r
noncomputable def kW(s l:List Nat):List (List Nat):=PV l s.length 0 ((Xs s l).take (l.length+1))
noncomputable def EZ(c:Nat):Nat:=match cr 65 c&&cr c 90 with|true=>c+32|false=>c
noncomputable def It(c:Nat):Nat:=match cr 97 c&&cr c 122 with|true=>c-32|false=>c
noncomputable def pi:List Nat->Bool
 |[]=>ah
 |c::r=>fJ c 128&&pi r
noncomputable def Jy(n:Nat):List MV->Option (Nat×Nat)
 |[]=>aa (0,n)
 |[a]=>(PX n 0 a).map λx=>(x,n)
 |[a,b]=>EC n a b λx y=>(x,y)
 |_=>ag
noncomputable def Fa:Option Nat->Int
 |some k=>aD k
 |ag=> -1
noncomputable def Jr(l:List Nat)(args:List MV):Option MV:=match args with
 |a::r=>(match a with
  | .Y p=>(match p with|[c]=>(Jy l.length r).map λq=>.I (Fa (dk [c] (cut l q.1 q.2) q.1))|_=>ag)
  |_=>ag)
 |[]=>ag
noncomputable def OL(l:List Nat)(a:MV):Option MV:=match a with
 | .S p=>(match p with|[c]=>aa (.I (Fa (dk [c] l 0)))|_=>ag)
 |_=>ag
noncomputable def Fm(l:List Nat)(a:MV):Option MV:=match a with
 | .Y p=>(match p with|c::s=>(match bX (kW (c::s) l).length&&(kW (c::s) l).all (λp=>bX p.length)with|true=>aa (.L ((kW (c::s) l).map .Y))|false=>ag)|[]=>ag)
 |_=>ag
noncomputable def J1(o:MV)(r:List MV):Option MV:=match o with
 | .Y s=>(AS s r).bind R2
 | .S s=>(OR s r).bind λt=>match bX (t.length+s.length)with|true=>Xj t|false=>ag
 |_=>ag
noncomputable def one(args:List MV)(f:MV->Option MV):Option MV:=match args with
 |[x]=>f x
 |_=>ag
noncomputable def Zv(U:bN)(m:Bm)(o:MV)(args:List MV):Option MV:=match m with
 | .f=>(match o with| .Y l=>Jr l args| .S l=>one args (OL l)|_=>ag)
 | .s=>(match o with| .Y l=>one args (Fm l)|_=>ag)
 | .t=>(match o with| .Y l=>one args λa=>(match a with| .Y cs=>aa (.Y (Cn cs l))|_=>ag)|_=>ag)
 | .r=>(match o with| .Y l=>one args λa=>(match a with| .Y cs=>aa (.Y (r6 cs l))|_=>ag)|_=>ag)
 | .j=>one args λv=>(cC U v).bind λc=>(match c with| .L r=>J1 o r|_=>ag)
 | .l=>(match o with| .S l=>(match args with|[]=>(match pi l with|true=>aa (.S (l.map EZ))|false=>ag)|_=>ag)|_=>ag)
 | .u=>(match o with| .S l=>(match args with|[]=>(match pi l with|true=>aa (.S (l.map It))|false=>ag)|_=>ag)|_=>ag)
 | .g=>(cC U o).bind λc=>(match c with
   | .D ks vs=>(match args with
     |[k,d]=>(match isStr k with|true=>(qE ks vs k).map λr=>r.getD d|false=>ag)
     |_=>ag)
   |_=>ag)
 |_=>ag
noncomputable def HX(U:bN)(o:MV)(r:List MV):Option (MV×bN):=match o with
 | .R i=>(U[i]?).bind λc=>match c with
   | .L l=>(match bX (l.length+r.length)with|true=>aa (.N,U.set i (.L (l++r)))|false=>ag)
   |_=>ag
 |_=>ag
noncomputable def Ae(U:bN)(m:Bm)(o:MV)(args:List MV):Option (MV×bN):=match m with
 | .a=>(match args with|[x]=>HX U o [x]|_=>ag)
 | .e=>(match args with|[x]=>(match x with| .L r=>HX U o r|_=>ag)|_=>ag)
 |m=>(Zv U m o args).map λv=>(v,U)
noncomputable def CQ(m:Bm)(c:MV):Bool:=match c with
 | .L _=>(match m with| .a=>ah| .e=>ah|_=>ac)
 | .D _ _=>(match m with| .g=>ah|_=>ac)
 | .Y _=>(match m with| .f=>ah| .j=>ah| .s=>ah| .t=>ah| .r=>ah|_=>ac)
 | .S _=>(match m with| .f=>ah| .j=>ah| .l=>ah| .u=>ah|_=>ac)
 |_=>ac
noncomputable def PW(U:bN)(m:Bm)(o:MV):Bool:=(cC U o).any (CQ m)
noncomputable def mj(l:Loc)(i:Nat)(v:MV):Loc:=l.set i (aa v)
noncomputable def jh(l:Loc)(ts:List Nat)(v:MV):Option Loc:=match ts with
 |[i]=>aa (mj l i v)
 |ts=>(match v with
  | .T vs=>go l ts vs
  |_=>ag)
where go (l:Loc):List Nat->List MV->Option Loc
 |[],[]=>aa l
 |i::r,v::s=>go (mj l i v) r s
 |_,_=>ag
noncomputable def Ik(s:Int):Nat->Int->List MV
 |0,_=>[]
 |n+1,a=>.I a::Ik s n (a+s)
noncomputable def ng(a b s:Int):Nat:=match decide (0<s)with
 |true=>match decide (a<b)with|true=>((b-a-1)/s+1).toNat|false=>0
 |false=>match decide (b<a)with|true=>((a-b-1)/(-s)+1).toNat|false=>0
noncomputable def Uy(i:Int):Bool:=decide (i.natAbs<1099511627776)
noncomputable def Cf(a b s:Int):Option (List MV):=match Uy a&&Uy b&&decide (s.natAbs<1073741824)&&decide (s≠0)&&bX (ng a b s)with
 |true=>aa (Ik s (ng a b s) a)
 |false=>ag
noncomputable def u9(a b s:MV):Option (List MV):=match a with
 | .I a=>(match b with
   | .I b=>(match s with
     | .I s=>Cf a b s
     |_=>ag)
   |_=>ag)
 |_=>ag
noncomputable def n4(c:Loc->bN->Option (Bool×bN))(b:Loc->bN->Option (Fl×Loc×bN)):Nat->Loc->bN->Option (Fl×Loc×bN)
 |0,_,_=>ag
 |n+1,l,U=>(c l U).bind λp=>match p.1 with
  |true=>(b l p.2).bind λq=>(match q.1 with
   | .n=>n4 c b n q.2.1 q.2.2
   | .b=>aa (.n,q.2)
   | .r v=>aa (.r v,q.2))
  |false=>aa (.n,l,p.2)
noncomputable def gP(it:MV)(U U':bN):Bool:=match it with
 | .R i=>match U[i]?,U'[i]? with
   |some a,aa b=>a.same b
   |_,_=>ac
 |_=>ah
noncomputable def nZ(ts:List Nat)(it:MV)(U₀:bN)(b:Loc->bN->Option (Fl×Loc×bN)):List MV->Loc->bN->Option (Fl×Loc×bN)
 |[],l,U=>aa (.n,l,U)
 |v::r,l,U=>(jh l ts v).bind λl=>(b l U).bind λq=>match q.1 with
  | .n=>(match gP it U₀ q.2.2 with
    |true=>nZ ts it U₀ b r q.2.1 q.2.2
    |false=>ag)
  | .b=>aa (.n,q.2)
  | .r v=>aa (.r v,q.2)
noncomputable def gN(it:MV)(U₀:bN)(l:Loc)(ts:List Nat)(cond:Loc->bN->Option (Bool×bN))(elt:Loc->bN->Option (MV×bN)):List MV->bN->Option (List MV×bN)
 |[],U=>aa ([],U)
 |v::r,U=>(jh l ts v).bind λl'=>(cond l' U).bind λp=>match p.1 with
  |true=>(elt l' p.2).bind λq=>(match gP it U₀ q.2 with
   |true=>(gN it U₀ l ts cond elt r q.2).map λt=>(q.1::t.1,t.2)
   |false=>ag)
  |false=>(match gP it U₀ p.2 with
   |true=>gN it U₀ l ts cond elt r p.2
   |false=>ag)
noncomputable def grow(l:Loc)(ts:List Nat):Loc:=match ts with
 |[]=>l
 |_::r=>grow (l++[ag]) r
noncomputable abbrev Calls:=Nat->List MV->bN->Option (MV×bN)
noncomputable def qd(mu:Bool)(v:MV)(U:bN):Option (MV×bN):=match mu with
 |true=>aa (.R U.length,U++[v])
 |false=>aa (v,U)
noncomputable def CY:MV->Bool
 | .L _=>ah
 | .D _ _=>ah
 | .O _ _ _=>ah
 |_=>ac
noncomputable def QG(keep:Bool)(r:Option (MV×bN)):Option (MV×bN):=match keep with
 |false=>r
 |true=>r.bind λp=>match CY p.1 with|true=>aa (.R p.2.length,p.2++[p.1])|false=>ag
noncomputable def kx:Nat:=1000000000
noncomputable abbrev qB:=Nat->Nat->Option Nat
noncomputable def yS(n:Nat)(v:MV)(U:bN):Option (MV×bN):=(Gc U n v).bind λv=>match jG n (U.take n)with
 |true=>aa (v,U.take n)
 |false=>ag
noncomputable def AH(C:Calls)(M:qB)(c:Nat)(mu:Bool)(vs:List MV)(U:bN):Option (MV×bN):=(M c 0).bind λf=>(C f (.R U.length::vs) (U++[.O c [] []])).bind λp=>match isNone p.1 with
 |true=>(match mu with
  |true=>aa (.R U.length,p.2)
  |false=>(p.2[U.length]?).bind λo=>yS U.length o p.2)
 |false=>ag
noncomputable def Xm(M:qB)(n:Nat):MV->Option Nat
 | .O c _ _=>M c n
 |_=>ag
noncomputable def DO(M:qB)(n:Nat)(o:MV)(U:bN):Option Nat:=(cC U o).bind (Xm M n)
noncomputable def bh(r:Option (MV×bN)):Option (Bool×bN):=r.bind λp=>(cC p.2 p.1).bind λc=>c.truthy.map λb=>(b,p.2)
noncomputable def rU(r:Option (MV×bN)):Option (MV×List MV×bN):=r.bind λp=>(items p.2 p.1).map λvs=>(p.1,vs,p.2)
noncomputable def HY:Nat:=7
noncomputable def Uj:MV->Option MV
 | .I i=>aa (.I (-i))
 |_=>ag
noncomputable def OP(c:Nat):MV->Option MV
 | .O c' _ _=>(match fJ c' HY with|true=>aa (.B (bo c' c))|false=>ag)
 |_=>ag
noncomputable def QT(mu:Bool)(vs:List MV)(U:bN):Option (MV×bN):=match bX vs.length with
 |true=>qd mu (.L vs) U
 |false=>ag
noncomputable def QS(mu:Bool)(as bs:List MV)(U:bN):Option (MV×bN):=match as.all isStr&&eJ as&&bo as.length bs.length&&bX as.length with
 |true=>qd mu (.D as bs) U
 |false=>ag
noncomputable def uF(r:Option (List MV×bN)):Option (MV×bN):=r.bind λt=>match bX t.1.length with|true=>aa (.L t.1,t.2)|false=>ag
noncomputable def zI(stop b:Bool):Bool:=match stop with
 |true=>b
 |false=> !b
mutual
noncomputable def cm(C:Calls)(M:qB)(G:List MV):ME->Loc->bN->Option (MV×bN)
 | .c v,_,U=>aa (v,U)
 | .v i,l,U=>(l[i]?).bind λo=>o.map λv=>(v,U)
 | .g k,_,U=>(G[k]?).map λv=>(v,U)
 | .b op a b,l,U=>(cm C M G a l U).bind λp=>(cm C M G b l p.2).bind λq=>(jO q.2 op p.1 q.1).map λv=>(v,q.2)
 | .n a,l,U=>(cm C M G a l U).bind λp=>(Uj p.1).map λv=>(v,p.2)
 | .o a,l,U=>(bh (cm C M G a l U)).map λp=>(.B (!p.1),p.2)
 | .a es,l,U=>ii C M G ac es l U
 | .r es,l,U=>ii C M G ah es l U
 | .m op a b,l,U=>(cm C M G a l U).bind λp=>(cm C M G b l p.2).bind λq=>(nV q.2 op p.1 q.1).map λv=>(.B v,q.2)
 | .p o1 o2 a b c,l,U=>(cm C M G a l U).bind λp=>(cm C M G b l p.2).bind λq=>(nV q.2 o1 p.1 q.1).bind λt=>match t with
   |true=>(cm C M G c l q.2).bind λr=>(nV r.2 o2 q.1 r.1).map λv=>(.B v,r.2)
   |false=>aa (.B ac,q.2)
 | .i t a b,l,U=>(bh (cm C M G t l U)).bind λp=>match p.1 with
   |true=>cm C M G a l p.2
   |false=>cm C M G b l p.2
 | .l f keep args,l,U=>(iC C M G args l U).bind λp=>QG keep (C f p.1 p.2)
 | .w c mu args,l,U=>(iC C M G args l U).bind λp=>AH C M c mu p.1 p.2
 | .h n o args,l,U=>(cm C M G o l U).bind λp=>(DO M n p.1 p.2).bind λf=>(iC C M G args l p.2).bind λq=>C f (p.1::q.1) q.2
 | .u b args,l,U=>(iC C M G args l U).bind λp=>(vH p.2 b p.1).map λv=>(v,p.2)
 | .k m o args,l,U=>(cm C M G o l U).bind λp=>match PW p.2 m p.1 with
   |true=>(iC C M G args l p.2).bind λq=>Ae q.2 m p.1 q.1
   |false=>ag
 | .s o c,l,U=>(cm C M G o l U).bind λp=>((cC p.2 p.1).bind (OP c)).map λv=>(v,p.2)
 | .t o n,l,U=>(cm C M G o l U).bind λp=>(xK p.2 p.1 n).map λv=>(v,p.2)
 | .x o i,l,U=>(cm C M G o l U).bind λp=>(cm C M G i l p.2).bind λq=>(fi q.2 p.1 q.1).map λv=>(v,q.2)
 | .y o a b,l,U=>(cm C M G o l U).bind λp=>(cm C M G a l p.2).bind λq=>(cm C M G b l q.2).bind λr=>(uQ r.2 p.1 q.1 r.1).map λv=>(v,r.2)
 | .z es,l,U=>(iC C M G es l U).bind λp=>(E4 p.1).map λv=>(v,p.2)
 | .d mu es,l,U=>(iC C M G es l U).bind λp=>QT mu p.1 p.2
 | .e mu ks vs,l,U=>(iC C M G ks l U).bind λp=>(iC C M G vs l p.2).bind λq=>QS mu p.1 q.1 q.2
 | .f elt ts it cond,l,U=>(rU (cm C M G it l U)).bind λp=>uF (gN p.1 p.2.2 (grow l ts) ts (λl U=>ji C M G cond l U) (λl U=>cm C M G elt l U) p.2.1 p.2.2)
 | .j elt ts a b s cond,l,U=>(cm C M G a l U).bind λp=>(cm C M G b l p.2).bind λq=>(cm C M G s l q.2).bind λr=>(u9 p.1 q.1 r.1).bind λvs=>
   uF (gN .N r.2 (grow l ts) ts (λl U=>ji C M G cond l U) (λl U=>cm C M G elt l U) vs r.2)
noncomputable def iC(C:Calls)(M:qB)(G:List MV):List ME->Loc->bN->Option (List MV×bN)
 |[],_,U=>aa ([],U)
 |e::r,l,U=>(cm C M G e l U).bind λp=>(iC C M G r l p.2).map λq=>(p.1::q.1,q.2)
noncomputable def ii(C:Calls)(M:qB)(G:List MV)(stop:Bool):List ME->Loc->bN->Option (MV×bN)
 |[],_,_=>ag
 |e::r,l,U=>(cm C M G e l U).bind λp=>match r.isEmpty with
  |true=>aa p
  |false=>(bh (aa p)).bind λt=>(match zI stop t.1 with
   |true=>aa p
   |false=>ii C M G stop r l p.2)
noncomputable def ji(C:Calls)(M:qB)(G:List MV):List ME->Loc->bN->Option (Bool×bN)
 |[],_,U=>aa (ah,U)
 |e::r,l,U=>(bh (cm C M G e l U)).bind λp=>match p.1 with
  |true=>ji C M G r l p.2
  |false=>aa p
end
noncomputable def GG(U:bN)(o:MV)(n:Nat)(v:MV):Option bN:=match o with
 | .R i=>(U[i]?).bind λc=>match c with
   | .O c as vs=>(match cr as.length 900 with
     |true=>aa (U.set i (.O c (iz as vs n v).1 (iz as vs n v).2))
     |false=>ag)
   |_=>ag
 |_=>ag
noncomputable def K4(U:bN)(o k v:MV):Option bN:=match o with
 | .R i=>(U[i]?).bind λc=>match c with
   | .D ks vs=>(match i9 k&&bX (ks.length+1)&&eJ ks with
     |true=>(Ir ks vs k v).bind λp=>match fJ 1 ks.length||fJ ks.length p.1.length with
      |true=>aa (U.set i (.D p.1 p.2))
      |false=>ag
     |false=>ag)
   |_=>ag
 |_=>ag
mutual
noncomputable def Ed(C:Calls)(M:qB)(G:List MV):MT->MV->Loc->bN->Option (Loc×bN)
 | .v i,v,l,U=>aa (mj l i v,U)
 | .t o n,v,l,U=>(cm C M G o l U).bind λp=>(GG p.2 p.1 n v).map λU=>(l,U)
 | .x o i,v,l,U=>(cm C M G o l U).bind λp=>(cm C M G i l p.2).bind λq=>(K4 q.2 p.1 q.1 v).map λU=>(l,U)
 | .z ts,v,l,U=>match v with
   | .T vs=>Cm C M G ts vs l U
   |_=>ag
noncomputable def Cm(C:Calls)(M:qB)(G:List MV):List MT->List MV->Loc->bN->Option (Loc×bN)
 |[],vs,l,U=>(match vs with|[]=>aa (l,U)|_=>ag)
 |t::r,vs,l,U=>match vs with
  |v::s=>(Ed C M G t v l U).bind λp=>Cm C M G r s p.1 p.2
  |[]=>ag
end
mutual
noncomputable def Jk(C:Calls)(M:qB)(G:List MV):MS->Loc->bN->Option (Fl×Loc×bN)
 | .r e,l,U=>(cm C M G e l U).map λp=>(.r p.1,l,p.2)
 | .a t e,l,U=>(cm C M G e l U).bind λp=>(Ed C M G t p.1 l p.2).map λq=>(.n,q)
 | .e e,l,U=>(cm C M G e l U).map λp=>(.n,l,p.2)
 | .i t a b,l,U=>(bh (cm C M G t l U)).bind λp=>match p.1 with
   |true=>cp C M G a l p.2
   |false=>cp C M G b l p.2
 | .w t b,l,U=>n4 (λl U=>bh (cm C M G t l U)) (λl U=>cp C M G b l U) kx l U
 | .f ts it b,l,U=>(rU (cm C M G it l U)).bind λp=>nZ ts p.1 p.2.2 (λl U=>cp C M G b l U) p.2.1 l p.2.2
 | .g ts a b s body,l,U=>(cm C M G a l U).bind λp=>(cm C M G b l p.2).bind λq=>(cm C M G s l q.2).bind λr=>(u9 p.1 q.1 r.1).bind λvs=>nZ ts .N r.2 (λl U=>cp C M G body l U) vs l r.2
 | .b,l,U=>aa (.b,l,U)
 | .t b,l,U=>cp C M G b l U
 | .p,l,U=>aa (.n,l,U)
 | .d,_,_=>ag
noncomputable def cp(C:Calls)(M:qB)(G:List MV):List MS->Loc->bN->Option (Fl×Loc×bN)
 |[],l,U=>aa (.n,l,U)
 |s::r,l,U=>(Jk C M G s l U).bind λq=>match q.1 with
  | .n=>cp C M G r q.2.1 q.2.2
  | .b=>aa q
  | .r _=>aa q
end
noncomputable def sx:Nat->List MV->Loc
 |0,_=>[]
 |n+1,[]=>ag::sx n []
 |n+1,v::r=>aa v::sx n r
noncomputable def tH(F:Fn)(vs:List MV):Option (List MV):=match cr vs.length F.kU&&cr (F.kU-vs.length) F.dflt.length with
 |true=>aa (vs++F.dflt.drop (F.dflt.length-(F.kU-vs.length)))
 |false=>ag
noncomputable def Pg:Fl->Option MV
 | .r v=>aa v
 | .n=>aa .N
 | .b=>ag
noncomputable def vb(C:Calls)(M:qB)(G:List MV)(F:Fn)(vs:List MV)(U:bN):Option (MV×bN):=(tH F vs).bind λvs=>(cp C M G F.body (sx F.wi vs) U).bind λq=>(Pg q.1).bind λv=>yS U.length v q.2.2
noncomputable def CH(P:Nat->Option Fn)(M:qB)(G:List MV):Nat->Calls
 |0=>λu u u=>ag
 |d+1=>λf vs U=>(P f).bind λF=>match bI vs with
  |true=>(vb (CH P M G d) M G F vs []).map λp=>(p.1,U)
  |false=>vb (CH P M G d) M G F vs U
theorem nn{P:Prop}(h:ag=aa y):P:=nomatch h
theorem ft{P:Prop}(h:ac=ah):P:=vj h
theorem tf{P:Prop}(h:ah=ac):P:=vj h
theorem oi(h:aa a=aa b):a=b:=Option.some.inj h
theorem op(h:aa (a,b)=aa (c,d)):a=c/\b=d:=⟨congrArg dq (oi h),congrArg dX (oi h)⟩
theorem gz{P:Prop}(h:o.bind f=aa m)(k:∀x,o=aa x->f x=aa m->P):P:=match o,h with|some x,h=>k x ae h
@[elab_as_elim]theorem rY{P:β->Prop}(h:o.map f=aa m)(k:∀x,o=aa x->P (f x)):P m:=match o,h with|some x,h=>oi h▸k x ae
@[elab_as_elim]theorem Q3{P:β->Prop}(h:(o.map λx=>(x,s))=aa (m,s'))(k:o=aa m->P s):P s':=match o,h with|some _,h=>(op h).2▸k (congrArg aa (op h).1)
theorem aB(h:(a&&b)=ah):a=ah/\b=ah:=(dF _ _).mp h
@[elab_as_elim]theorem gI{P:α->Prop}(h:(match b with|true=>aa v|false=>ag)=aa m)(k:b=ah->P v):P m:=match b,h with|true,h=>oi h▸k ae
theorem R5{P:Prop}(h:aa a=aa b)(k:b=a->P):P:=k (oi h).symm
theorem Un{P:Prop}(h:aa (a,b)=aa (c,d))(k:c=a->d=b->P):P:=k (op h).1.symm (op h).2.symm
theorem gu{P:α0->α1->Prop}(a0:α0)(a1:α1)(h:P a0 a1):∃a0 a1,P a0 a1:=⟨a0,a1,h⟩
theorem rg{P:α0->α1->α2->Prop}(a0:α0)(a1:α1)(a2:α2)(h:P a0 a1 a2):∃a0 a1 a2,P a0 a1 a2:=⟨a0,a1,a2,h⟩
theorem Ex{P:α0->α1->α2->α3->Prop}(a0:α0)(a1:α1)(a2:α2)(a3:α3)(h:P a0 a1 a2 a3):∃a0 a1 a2 a3,P a0 a1 a2 a3:=⟨a0,a1,a2,a3,h⟩
theorem HF{P:α0->α1->α2->α3->α4->Prop}(a0:α0)(a1:α1)(a2:α2)(a3:α3)(a4:α4)(h:P a0 a1 a2 a3 a4):∃a0 a1 a2 a3 a4,P a0 a1 a2 a3 a4:=⟨a0,a1,a2,a3,a4,h⟩
theorem VJ{P:α0->α1->α2->α3->α4->α5->Prop}(a0:α0)(a1:α1)(a2:α2)(a3:α3)(a4:α4)(a5:α5)(h:P a0 a1 a2 a3 a4 a5):∃a0 a1 a2 a3 a4 a5,P a0 a1 a2 a3 a4 a5:=⟨a0,a1,a2,a3,a4,a5,h⟩
@[elab_as_elim]theorem ak{P:α->Prop}(h:a=b)(p:P b):P a:=h▸p
@[elab_as_elim]theorem gA{P:α->Prop}(h:aa a=aa b)(p:P a):P b:=oi h▸p
@[elab_as_elim]theorem CA{P:α->β->Prop}(h:aa (a,b)=aa (c,d))(p:P a b):P c d:=(op h).1▸(op h).2▸p
section
variable{G:Prop}
theorem gQ(h:P1/\P2)(k:P1->P2->G):G:=k h.1 h.2
theorem vf(h:P1/\P2/\P3)(k:P1->P2->P3->G):G:=k h.1 h.2.1 h.2.2
theorem LZ(h:P1/\P2/\P3/\P4)(k:P1->P2->P3->P4->G):G:=k h.1 h.2.1 h.2.2.1 h.2.2.2
theorem FD(h:P1/\P2/\P3/\P4/\P5)(k:P1->P2->P3->P4->P5->G):G:=k h.1 h.2.1 h.2.2.1 h.2.2.2.1 h.2.2.2.2
theorem Oh(h:P1/\P2/\P3/\P4/\P5/\P6)(k:P1->P2->P3->P4->P5->P6->G):G:=k h.1 h.2.1 h.2.2.1 h.2.2.2.1 h.2.2.2.2.1 h.2.2.2.2.2
theorem Vp(h:P1/\P2/\P3/\P4/\P5/\P6/\P7)(k:P1->P2->P3->P4->P5->P6->P7->G):G:=k h.1 h.2.1 h.2.2.1 h.2.2.2.1 h.2.2.2.2.1 h.2.2.2.2.2.1 h.2.2.2.2.2.2
theorem ee{P1:α1->Prop}(h:∃a1,P1 a1)(k:∀a1,P1 a1->G):G:=h.elim λa1 h=>k a1 h
theorem aV{P1 P2:α1->Prop}(h:∃a1,P1 a1/\P2 a1)(k:∀a1,P1 a1->P2 a1->G):G:=h.elim λa1 h=>k a1 h.1 h.2
theorem jl{P1 P2 P3:α1->Prop}(h:∃a1,P1 a1/\P2 a1/\P3 a1)(k:∀a1,P1 a1->P2 a1->P3 a1->G):G:=h.elim λa1 h=>k a1 h.1 h.2.1 h.2.2
theorem sB{P1 P2 P3 P4:α1->Prop}(h:∃a1,P1 a1/\P2 a1/\P3 a1/\P4 a1)(k:∀a1,P1 a1->P2 a1->P3 a1->P4 a1->G):G:=h.elim λa1 h=>k a1 h.1 h.2.1 h.2.2.1 h.2.2.2
theorem Vq{P1 P2 P3 P4 P5:α1->Prop}(h:∃a1,P1 a1/\P2 a1/\P3 a1/\P4 a1/\P5 a1)(k:∀a1,P1 a1->P2 a1->P3 a1->P4 a1->P5 a1->G):G:=h.elim λa1 h=>k a1 h.1 h.2.1 h.2.2.1 h.2.2.2.1 h.2.2.2.2
theorem L0{P1:α1->α2->Prop}(h:∃a1 a2,P1 a1 a2)(k:∀a1 a2,P1 a1 a2->G):G:=h.elim λa1 h=>h.elim λa2 h=>k a1 a2 h
theorem gR{P1 P2:α1->α2->Prop}(h:∃a1 a2,P1 a1 a2/\P2 a1 a2)(k:∀a1 a2,P1 a1 a2->P2 a1 a2->G):G:=h.elim λa1 h=>h.elim λa2 h=>k a1 a2 h.1 h.2
theorem fI{P1 P2 P3:α1->α2->Prop}(h:∃a1 a2,P1 a1 a2/\P2 a1 a2/\P3 a1 a2)(k:∀a1 a2,P1 a1 a2->P2 a1 a2->P3 a1 a2->G):G:=h.elim λa1 h=>h.elim λa2 h=>k a1 a2 h.1 h.2.1 h.2.2
theorem sC{P1 P2 P3 P4:α1->α2->Prop}(h:∃a1 a2,P1 a1 a2/\P2 a1 a2/\P3 a1 a2/\P4 a1 a2)(k:∀a1 a2,P1 a1 a2->P2 a1 a2->P3 a1 a2->P4 a1 a2->G):G:=h.elim λa1 h=>h.elim λa2 h=>k a1 a2 h.1 h.2.1 h.2.2.1 h.2.2.2
theorem X6{P1:α1->α2->α3->Prop}(h:∃a1 a2 a3,P1 a1 a2 a3)(k:∀a1 a2 a3,P1 a1 a2 a3->G):G:=h.elim λa1 h=>h.elim λa2 h=>h.elim λa3 h=>k a1 a2 a3 h
theorem FE{P1 P2:α1->α2->α3->Prop}(h:∃a1 a2 a3,P1 a1 a2 a3/\P2 a1 a2 a3)(k:∀a1 a2 a3,P1 a1 a2 a3->P2 a1 a2 a3->G):G:=h.elim λa1 h=>h.elim λa2 h=>h.elim λa3 h=>k a1 a2 a3 h.1 h.2
theorem L1{P1 P2 P3:α1->α2->α3->Prop}(h:∃a1 a2 a3,P1 a1 a2 a3/\P2 a1 a2 a3/\P3 a1 a2 a3)(k:∀a1 a2 a3,P1 a1 a2 a3->P2 a1 a2 a3->P3 a1 a2 a3->G):G:=h.elim λa1 h=>h.elim λa2 h=>h.elim λa3 h=>k a1 a2 a3 h.1 h.2.1 h.2.2
theorem wx{P1 P2 P3 P4:α1->α2->α3->Prop}(h:∃a1 a2 a3,P1 a1 a2 a3/\P2 a1 a2 a3/\P3 a1 a2 a3/\P4 a1 a2 a3)(k:∀a1 a2 a3,P1 a1 a2 a3->P2 a1 a2 a3->P3 a1 a2 a3->P4 a1 a2 a3->G):G:=h.elim λa1 h=>h.elim λa2 h=>h.elim λa3 h=>k a1 a2 a3 h.1 h.2.1 h.2.2.1 h.2.2.2
theorem wy{P1 P2 P3 P4 P5:α1->α2->α3->Prop}(h:∃a1 a2 a3,P1 a1 a2 a3/\P2 a1 a2 a3/\P3 a1 a2 a3/\P4 a1 a2 a3/\P5 a1 a2 a3)(k:∀a1 a2 a3,P1 a1 a2 a3->P2 a1 a2 a3->P3 a1 a2 a3->P4 a1 a2 a3->P5 a1 a2 a3->G):G:=h.elim λa1 h=>h.elim λa2 h=>h.elim λa3 h=>k a1 a2 a3 h.1 h.2.1 h.2.2.1 h.2.2.2.1 h.2.2.2.2
theorem RL{P1 P2 P3 P4 P5 P6:α1->α2->α3->Prop}(h:∃a1 a2 a3,P1 a1 a2 a3/\P2 a1 a2 a3/\P3 a1 a2 a3/\P4 a1 a2 a3/\P5 a1 a2 a3/\P6 a1 a2 a3)(k:∀a1 a2 a3,P1 a1 a2 a3->P2 a1 a2 a3->P3 a1 a2 a3->P4 a1 a2 a3->P5 a1 a2 a3->P6 a1 a2 a3->G):G:=h.elim λa1 h=>h.elim λa2 h=>h.elim λa3 h=>k a1 a2 a3 h.1 h.2.1 h.2.2.1 h.2.2.2.1 h.2.2.2.2.1 h.2.2.2.2.2
theorem X7{P1:α1->α2->α3->α4->Prop}(h:∃a1 a2 a3 a4,P1 a1 a2 a3 a4)(k:∀a1 a2 a3 a4,P1 a1 a2 a3 a4->G):G:=h.elim λa1 h=>h.elim λa2 h=>h.elim λa3 h=>h.elim λa4 h=>k a1 a2 a3 a4 h
theorem Cu{P1 P2 P3 P4:α1->α2->α3->α4->Prop}(h:∃a1 a2 a3 a4,P1 a1 a2 a3 a4/\P2 a1 a2 a3 a4/\P3 a1 a2 a3 a4/\P4 a1 a2 a3 a4)(k:∀a1 a2 a3 a4,P1 a1 a2 a3 a4->P2 a1 a2 a3 a4->P3 a1 a2 a3 a4->P4 a1 a2 a3 a4->G):G:=h.elim λa1 h=>h.elim λa2 h=>h.elim λa3 h=>h.elim λa4 h=>k a1 a2 a3 a4 h.1 h.2.1 h.2.2.1 h.2.2.2
theorem Oi{P1 P2 P3 P4 P5:α1->α2->α3->α4->Prop}(h:∃a1 a2 a3 a4,P1 a1 a2 a3 a4/\P2 a1 a2 a3 a4/\P3 a1 a2 a3 a4/\P4 a1 a2 a3 a4/\P5 a1 a2 a3 a4)(k:∀a1 a2 a3 a4,P1 a1 a2 a3 a4->P2 a1 a2 a3 a4->P3 a1 a2 a3 a4->P4 a1 a2 a3 a4->P5 a1 a2 a3 a4->G):G:=h.elim λa1 h=>h.elim λa2 h=>h.elim λa3 h=>h.elim λa4 h=>k a1 a2 a3 a4 h.1 h.2.1 h.2.2.1 h.2.2.2.1 h.2.2.2.2
theorem RM{P1 P2 P3 P4 P5 P6:α1->α2->α3->α4->Prop}(h:∃a1 a2 a3 a4,P1 a1 a2 a3 a4/\P2 a1 a2 a3 a4/\P3 a1 a2 a3 a4/\P4 a1 a2 a3 a4/\P5 a1 a2 a3 a4/\P6 a1 a2 a3 a4)(k:∀a1 a2 a3 a4,P1 a1 a2 a3 a4->P2 a1 a2 a3 a4->P3 a1 a2 a3 a4->P4 a1 a2 a3 a4->P5 a1 a2 a3 a4->P6 a1 a2 a3 a4->G):G:=h.elim λa1 h=>h.elim λa2 h=>h.elim λa3 h=>h.elim λa4 h=>k a1 a2 a3 a4 h.1 h.2.1 h.2.2.1 h.2.2.2.1 h.2.2.2.2.1 h.2.2.2.2.2
theorem Vr{P1:α1->α2->α3->α4->α5->Prop}(h:∃a1 a2 a3 a4 a5,P1 a1 a2 a3 a4 a5)(k:∀a1 a2 a3 a4 a5,P1 a1 a2 a3 a4 a5->G):G:=h.elim λa1 h=>h.elim λa2 h=>h.elim λa3 h=>h.elim λa4 h=>h.elim λa5 h=>k a1 a2 a3 a4 a5 h
theorem RN{P1 P2:α1->α2->α3->α4->α5->Prop}(h:∃a1 a2 a3 a4 a5,P1 a1 a2 a3 a4 a5/\P2 a1 a2 a3 a4 a5)(k:∀a1 a2 a3 a4 a5,P1 a1 a2 a3 a4 a5->P2 a1 a2 a3 a4 a5->G):G:=h.elim λa1 h=>h.elim λa2 h=>h.elim λa3 h=>h.elim λa4 h=>h.elim λa5 h=>k a1 a2 a3 a4 a5 h.1 h.2
theorem X8{P1 P2 P3 P4 P5 P6:α1->α2->α3->α4->α5->Prop}(h:∃a1 a2 a3 a4 a5,P1 a1 a2 a3 a4 a5/\P2 a1 a2 a3 a4 a5/\P3 a1 a2 a3 a4 a5/\P4 a1 a2 a3 a4 a5/\P5 a1 a2 a3 a4 a5/\P6 a1 a2 a3 a4 a5)(k:∀a1 a2 a3 a4 a5,P1 a1 a2 a3 a4 a5->P2 a1 a2 a3 a4 a5->P3 a1 a2 a3 a4 a5->P4 a1 a2 a3 a4 a5->P5 a1 a2 a3 a4 a5->P6 a1 a2 a3 a4 a5->G):G:=h.elim λa1 h=>h.elim λa2 h=>h.elim λa3 h=>h.elim λa4 h=>h.elim λa5 h=>k a1 a2 a3 a4 a5 h.1 h.2.1 h.2.2.1 h.2.2.2.1 h.2.2.2.2.1 h.2.2.2.2.2
theorem X9{P1 P2 P3 P4 P5 P6 P7:α1->α2->α3->α4->α5->Prop}(h:∃a1 a2 a3 a4 a5,P1 a1 a2 a3 a4 a5/\P2 a1 a2 a3 a4 a5/\P3 a1 a2 a3 a4 a5/\P4 a1 a2 a3 a4 a5/\P5 a1 a2 a3 a4 a5/\P6 a1 a2 a3 a4 a5/\P7 a1 a2 a3 a4 a5)(k:∀a1 a2 a3 a4 a5,P1 a1 a2 a3 a4 a5->P2 a1 a2 a3 a4 a5->P3 a1 a2 a3 a4 a5->P4 a1 a2 a3 a4 a5->P5 a1 a2 a3 a4 a5->P6 a1 a2 a3 a4 a5->P7 a1 a2 a3 a4 a5->G):G:=h.elim λa1 h=>h.elim λa2 h=>h.elim λa3 h=>h.elim λa4 h=>h.elim λa5 h=>k a1 a2 a3 a4 a5 h.1 h.2.1 h.2.2.1 h.2.2.2.1 h.2.2.2.2.1 h.2.2.2.2.2.1 h.2.2.2.2.2.2
theorem Oj{α5:Sort _}{P1 P2 P3 P4 P5 P6 P7 P8:α1->α2->α3->α4->α5->Prop}(h:∃a1 a2 a3 a4 a5,P1 a1 a2 a3 a4 a5/\P2 a1 a2 a3 a4 a5/\P3 a1 a2 a3 a4 a5/\P4 a1 a2 a3 a4 a5/\P5 a1 a2 a3 a4 a5/\P6 a1 a2 a3 a4 a5/\P7 a1 a2 a3 a4 a5/\P8 a1 a2 a3 a4 a5)(k:∀a1 a2 a3 a4 a5,P1 a1 a2 a3 a4 a5->P2 a1 a2 a3 a4 a5->P3 a1 a2 a3 a4 a5->P4 a1 a2 a3 a4 a5->P5 a1 a2 a3 a4 a5->P6 a1 a2 a3 a4 a5->P7 a1 a2 a3 a4 a5->P8 a1 a2 a3 a4 a5->G):G:=h.elim λa1 h=>h.elim λa2 h=>h.elim λa3 h=>h.elim λa4 h=>h.elim λa5 h=>k a1 a2 a3 a4 a5 h.1 h.2.1 h.2.2.1 h.2.2.2.1 h.2.2.2.2.1 h.2.2.2.2.2.1 h.2.2.2.2.2.2.1 h.2.2.2.2.2.2.2
theorem Vs{P1 P2:α1->α2->α3->α4->α5->α6->Prop}(h:∃a1 a2 a3 a4 a5 a6,P1 a1 a2 a3 a4 a5 a6/\P2 a1 a2 a3 a4 a5 a6)(k:∀a1 a2 a3 a4 a5 a6,P1 a1 a2 a3 a4 a5 a6->P2 a1 a2 a3 a4 a5 a6->G):G:=h.elim λa1 h=>h.elim λa2 h=>h.elim λa3 h=>h.elim λa4 h=>h.elim λa5 h=>h.elim λa6 h=>k a1 a2 a3 a4 a5 a6 h.1 h.2
end
theorem n6{P:Prop}(h:(match b with|true=>f|false=>g)=r)(k:b=ah->f=r->P)(j:b=ac->g=r->P):P:=aY (motive:=λt=>b=t->P) b (λe=>by subst e;exact j ae h) (λe=>by subst e;exact k ae h) ae
theorem msN{f:Nat->β}{P:Prop}(h:(match o with|some x=>f x|ag=>g)=r)(k:∀x,o=aa x->f x=r->P)(j:o=ag->g=r->P):P:=match o,h with|some x,h=>k x ae h|ag,h=>j ae h
section
open PySem PySem.W PySem.Calls PyProof.Rows
structure Cfg where
 P:Params
 cls:Nat->Addr
 ny:Nat->Str
 S:Addr->Option Obj
structure Wd where
 K:Addr->Option Obj
 F:List (Addr×Addr)
noncomputable abbrev hZ(vs:Array Value)(n:Nat):Obj:={cls:=.type "list",data:=.seq vs n}
noncomputable abbrev mn(vs:Array Value)(n:Nat):Obj:={cls:=.type "tuple",data:=.seq vs n}
noncomputable abbrev dR(es:Array DictEntry)(n:Nat):Obj:={cls:=.type "dict",data:=.dict es n}
noncomputable def Wd.cell(W:Wd)(a:Addr):Prop:=∃p∈W.F,a=p.1\/a=p.2
noncomputable def CE(V:Cfg)(e:DictEntry)(k:MV):Prop:=∃x t,k= .S x.cps.toList/\e.key= .str x t/\e.hash=cS V.P x
noncomputable def CD(e:DictEntry)(k:MV):Prop:=∃i t,k= .I i/\e.key= .int i t/\e.hash=hashInt i/\gO i=ah
noncomputable def aK(n:Nat):MV:=.I (aD n)
noncomputable def Ix(V:Cfg)(e:DictEntry)(n:Nat):Prop:=∃t,e.key= .str (V.ny n) t/\e.hash=cS V.P (V.ny n)
noncomputable def PP(V:Cfg)(e:DictEntry)(k:MV):Prop:=∃n,k=aK n/\Ix V e n
mutual
noncomputable def Rv(V:Cfg)(W:Wd):Value->MV->Prop
 |v,.N=>v= .none
 |v,.B b=>v= .bool b
 |v,.I i=>∃t,v= .int i t
 |v,.S l=>∃x t,v= .str x t/\x.cps.toList=l/\bX l.length=ah
 |v,.Y l=>∃b t,v= .bytes b t/\b.toList.map bp=l/\bX l.length=ah
 |v,.T l=>∃a vs n,v= .ref a/\W.K a=aa (mn vs n)/\cN V W vs.toList l/\bX l.length=ah
 |v,.L l=>∃a vs n,v= .ref a/\W.K a=aa (hZ vs n)/\cN V W vs.toList l/\bX l.length=ah
 |v,.D ks vs=>∃a es n,v= .ref a/\W.K a=aa (dR es n)/\(j9 V W (CE V) es.toList ks vs\/j9 V W CD es.toList ks vs)/\bX ks.length=ah/\(a==eM)=ac
 |v,.O c as vs=>∃a d es n,v= .ref a/\W.K a=aa (instObj (V.cls c) d)/\W.K d=aa (dR es n)/\j9 V W (PP V) es.toList (as.map aK) vs
 |v,.R i=>∃a d,v= .ref a/\W.F[i]?=aa (a,d)
noncomputable def cN(V:Cfg)(W:Wd):List Value->List MV->Prop
 |vs,[]=>vs=[]
 |vs,m::ms=>∃v r,vs=v::r/\Rv V W v m/\cN V W r ms
noncomputable def j9(V:Cfg)(W:Wd):(DictEntry->MV->Prop)->List DictEntry->List MV->List MV->Prop
 |_,es,ks,[]=>es=[]/\ks=[]
 |K,es,ks,v::vs=>∃e r k s,es=e::r/\ks=k::s/\K e k/\Rv V W e.val v/\j9 V W K r s vs
end
noncomputable abbrev yw(V:Cfg)(W:Wd):List DictEntry->List MV->List MV->Prop:=j9 V W (CE V)
noncomputable abbrev Cw(V:Cfg)(W:Wd):List DictEntry->List MV->List MV->Prop:=j9 V W CD
noncomputable abbrev xD(V:Cfg)(W:Wd)(es:List DictEntry)(as:List Nat):List MV->Prop:=j9 V W (PP V) es (as.map aK)
noncomputable def yv(V:Cfg)(W:Wd)(h:Heap)(p:Addr×Addr):MV->Prop
 | .L l=>∃vs n,h.get? p.1=aa (hZ vs n)/\cN V W vs.toList l/\bX l.length=ah
 | .D ks vs=>∃es n,h.get? p.1=aa (dR es n)/\(yw V W es.toList ks vs\/Cw V W es.toList ks vs)/\bX ks.length=ah
 | .O c as vs=>∃es n,h.get? p.1=aa (instObj (V.cls c) p.2)/\h.get? p.2=aa (dR es n)/\xD V W es.toList as vs
 |_=>False
noncomputable def pS(V:Cfg)(W:Wd)(h:Heap):List (Addr×Addr)->bN->Prop
 |ps,[]=>ps=[]
 |ps,c::cs=>∃p r,ps=p::r/\yv V W h p c/\pS V W h r cs
noncomputable def lj:List (Addr×Addr)->Prop
 |[]=>True
 |p::r=>(∀q∈r,p.1≠q.1/\p.1≠q.2/\p.2≠q.1/\p.2≠q.2)/\lj r
noncomputable def ul(W:Wd)(h:Heap)(a:Addr):Prop:=W.K a=ag/\ ∃o,h.get? a=aa o
structure cV(V:Cfg)(W:Wd)(U:bN)(h:Heap):Prop where
 fz:∀a o,W.K a=aa o->h.get? a=aa o
 cells:pS V W h W.F U
 free:∀p∈W.F,ul W h p.1/\ul W h p.2
 apart:lj W.F
 st:∀a o,V.S a=aa o->W.K a=aa o
 big:∃o,W.K eM=aa o
structure i3(h:Heap)(W W':Wd):Prop where
 K:∀a o,W.K a=aa o->W'.K a=aa o
 new:∀a o,W'.K a=aa o->W.K a=aa o\/h.get? a=ag
 F:∃ψ,W'.F=W.F++ψ/\ ∀p∈ψ,h.get? p.1=ag/\h.get? p.2=ag
noncomputable def iF(h h':Heap):Prop:=∀a o,h.get? a=aa o->h'.get? a=aa o
noncomputable def mC(c:Addr)(h h':Heap):Prop:=∀a o,a≠c->h.get? a=aa o->h'.get? a=aa o
theorem ul.keep(k:∀o,h.get? a=aa o->h'.get? a=aa o)(l:ul W h a):ul W h' a:=l.imp id λe=>e.imp λo=>k o
theorem zF{P:Prop}(a:o=ag)(b:o=aa x):P:=nn (a.symm.trans b)
theorem qn(k:∀x,o=aa x->False):o=ag:=match o,k with|none,_=>ae|some x,k=>(k x ae).elim
theorem cT{h:Heap}(ha:h.get? a=aa o)(hb:h.get? b=ag):a≠b:=λe=>zF hb (e▸ha)
theorem i3.refl(h:Heap)(W:Wd):i3 h W W:=⟨λu u e=>e,λu u e=>.inl e,[],(aG _).symm,λu h=>nomatch h⟩
theorem eE{h h':Heap}(l:∀a o,h.get? a=aa o->∃o',h'.get? a=aa o')(e:h'.get? a=ag):h.get? a=ag:=qn λo q=>(l a o q).elim λu k=>zF e k
theorem iF.live(k:iF h h'):∀a o,h.get? a=aa o->∃o',h'.get? a=aa o':=λa o e=>⟨o,k a o e⟩
theorem i3.Ul(l:∀a o,h₀.get? a=aa o->∃o',h.get? a=aa o')(x:i3 h W W'):i3 h₀ W W':=
 ⟨x.K,λa o e=>(x.new a o e).imp id (eE l),x.F.imp λu f=>⟨f.1,λp hp=>⟨eE l (f.2 p hp).1,eE l (f.2 p hp).2⟩⟩⟩
theorem i3.trans(x:i3 h W W')(y:i3 h' W' W'')(l:∀a o,h.get? a=aa o->∃o',h'.get? a=aa o'):i3 h W W'':=
 have y:=y.Ul l
 ⟨λq o k=>y.K _ _ (x.K _ _ k),λq o k=>(y.new q o k).elim (x.new q o) .inr,
   x.F.elim λψ f=>y.F.elim λψ' f'=>⟨ψ++ψ',f'.1.trans (f.1▸ay ..),λp hp=>(bT.mp hp).elim (f.2 p) (f'.2 p)⟩⟩
section
variable{V:Cfg}{W W':Wd}{v:Value}{m:MV}{ms l:List MV}{P:Prop}{i:Nat}
theorem Rv.none:Rv V W .none .N:=ae
theorem Rv.bool(b:Bool):Rv V W (.bool b) (.B b):=ae
theorem Rv.int(i:Int)(t:Tok):Rv V W (.int i t) (.I i):=⟨t,ae⟩
theorem Rv.str(e:x.cps.toList=bs)(z:bX bs.length=ah):Rv V W (.str x t) (.S bs):=⟨x,t,ae,e,z⟩
theorem Rv.bytes(e:x.toList.map bp=bs)(z:bX bs.length=ah):Rv V W (.bytes x t) (.Y bs):=⟨x,t,ae,e,z⟩
theorem Rv.tup(k:W.K a=aa (mn vs n))(r:cN V W vs.toList l)(z:bX l.length=ah):Rv V W (.ref a) (.T l):=⟨a,vs,n,ae,k,r,z⟩
theorem Rv.lst(k:W.K a=aa (hZ vs n))(r:cN V W vs.toList l)(z:bX l.length=ah):Rv V W (.ref a) (.L l):=⟨a,vs,n,ae,k,r,z⟩
theorem cN.nil:cN V W [] []:=ae
theorem cN.cons(a:Rv V W v m)(b:cN V W vs ms):cN V W (v::vs) (m::ms):=⟨v,vs,ae,a,b⟩
theorem Rv.Dw{i:Int}(r:Rv V W v (.I i))(k:∀t,v= .int i t->P):P:=r.elim k
theorem Rv.Ao{l:List Nat}(r:Rv V W v (.S l))(k:∀x t,v= .str x t->x.cps.toList=l->bX l.length=ah->P):P:=fI r k
theorem Rv.yE{l:List Nat}(r:Rv V W v (.Y l))(k:∀x t,v= .bytes x t->x.toList.map bp=l->bX l.length=ah->P):P:=fI r k
theorem Rv.Aq(r:Rv V W v (.T l))(k:∀a vs n,v= .ref a->W.K a=aa (mn vs n)->cN V W vs.toList l->bX l.length=ah->P):P:=wx r k
theorem Rv.DK(r:Rv V W v (.L l))(k:∀a vs n,v= .ref a->W.K a=aa (hZ vs n)->cN V W vs.toList l->bX l.length=ah->P):P:=wx r k
theorem Rv.objE(r:Rv V W v (.O c as ms))(k:∀a d es n,v= .ref a->W.K a=aa (instObj (V.cls c) d)->W.K d=aa (dR es n)->xD V W es.toList as ms->P):P:=Cu r k
theorem Rv.Cg(r:Rv V W v (.R i))(k:∀a d,v= .ref a->W.F[i]?=aa (a,d)->P):P:=gR r k
variable{Q:Value->Prop}
@[elab_as_elim]theorem Rv.qn(r:Rv V W v .N)(k:Q .none):Q v:=(show v=_ from r)▸k
@[elab_as_elim]theorem Rv.IR(r:Rv V W v (.B b))(k:Q (.bool b)):Q v:=(show v=_ from r)▸k
@[elab_as_elim]theorem Rv.jI{i:Int}(r:Rv V W v (.I i))(k:∀t,Q (.int i t)):Q v:=r.Dw λt e=>e▸k t
@[elab_as_elim]theorem Rv.ml{l:List Nat}(r:Rv V W v (.S l))(k:∀x t,x.cps.toList=l->bX l.length=ah->Q (.str x t)):Q v:=r.Ao λx t e a b=>e▸k x t a b
@[elab_as_elim]theorem Rv.eX{l:List Nat}(r:Rv V W v (.Y l))(k:∀x t,x.toList.map bp=l->bX l.length=ah->Q (.bytes x t)):Q v:=r.yE λx t e a b=>e▸k x t a b
@[elab_as_elim]theorem Rv.NA(r:Rv V W v (.R i))(k:∀a d,W.F[i]?=aa (a,d)->Q (.ref a)):Q v:=r.Cg λa d e x=>e▸k a d x
noncomputable def PQ(V:Cfg)(W:Wd)(ms:List MV):List Value->Prop
 |[]=>ms=[]
 |v::r=>∃m s,ms=m::s/\Rv V W v m/\cN V W r s
theorem cN.Kt(r:cN V W vs [])(k:vs=[]->P):P:=k r
theorem cN.jP(r:cN V W vs (m::ms))(k:∀v us,vs=v::us->Rv V W v m->cN V W us ms->P):P:=fI r k
variable{R:List Value->Prop}
@[elab_as_elim]theorem cN.mX(r:cN V W vs [])(k:R []):R vs:=(show vs=_ from r)▸k
@[elab_as_elim]theorem cN.gq(r:cN V W vs (m::ms))(k:∀v us,Rv V W v m->cN V W us ms->R (v::us)):R vs:=r.jP λv us e a b=>e▸k v us a b
theorem cN.WZ(r:cN V W vs ms):PQ V W ms vs:=match ms,r with
 |[],r=>r.mX (R:=PQ V W []) ae
 |_::_,r=>r.gq (R:=PQ V W _) λu u a b=>⟨_,_,ae,a,b⟩
theorem cN.Xo(r:cN V W [] ms)(k:ms=[]->P):P:=k r.WZ
theorem cN.SH(r:cN V W (v::vs) ms)(k:∀m s,ms=m::s->Rv V W v m->cN V W vs s->P):P:=fI r.WZ k
@[elab_as_elim]theorem cN.Ku{R:List MV->Prop}(r:cN V W [] ms)(k:R []):R ms:=(r.WZ:ms=_)▸k
@[elab_as_elim]theorem cN.AD{R:List MV->Prop}(r:cN V W (v::vs) ms)(k:∀m s,Rv V W v m->cN V W vs s->R (m::s)):R ms:=r.SH λm s e a b=>e▸k m s a b
@[elab_as_elim]theorem cN.DS(r:cN V W vs [m])(k:∀v,Rv V W v m->R [v]):R vs:=r.gq λv u a b=>b.mX (k v a)
@[elab_as_elim]theorem cN.Ij(r:cN V W vs [m,n])(k:∀v u,Rv V W v m->Rv V W u n->R [v,u]):R vs:=r.gq λv w a b=>b.DS (k v · a)
variable{K:DictEntry->MV->Prop}{k:MV}
theorem j9.nil:j9 V W K [] [] []:=⟨ae,ae⟩
theorem j9.cons(a:K e k)(d:Rv V W e.val m)(f:j9 V W K es ks ms):j9 V W K (e::es) (k::ks) (m::ms):=⟨e,es,k,ks,ae,ae,a,d,f⟩
@[elab_as_elim]theorem j9.mX{R:List DictEntry->List MV->Prop}(r:j9 V W K es ks [])(g:R [] []):R es ks:=gQ (show es=[]/\ks=[] from r) λa b=>a▸b▸g
@[elab_as_elim]theorem j9.gq{R:List DictEntry->List MV->Prop}(r:j9 V W K es ks (m::ms))(g:∀e r k s,K e k->Rv V W e.val m->j9 V W K r s ms->R (e::r) (k::s)):R es ks:=Oi r λe r k s a b c d f=>a▸b▸g e r k s c d f
theorem xD.nil:xD V W [] [] []:=j9.nil
theorem xD.cons(a:Ix V e n)(d:Rv V W e.val m)(f:xD V W es as ms):xD V W (e::es) (n::as) (m::ms):=j9.cons ⟨n,ae,a⟩ d f
@[elab_as_elim]theorem xD.mX{R:List DictEntry->List Nat->Prop}(r:xD V W es as [])(g:R [] []):R es as:=gQ (show es=[]/\as.map aK=[] from r) λa b=>a▸(eF.mp b)▸g
theorem PS(h:aK n=aK n'):n=n':=congrArg (λv=>match v with|MV.I i=>i.toNat|_=>0) h
@[elab_as_elim]theorem xD.gq{R:List DictEntry->List Nat->Prop}(r:xD V W es as (m::ms))(g:∀e r n s,Ix V e n->Rv V W e.val m->xD V W r s ms->R (e::r) (n::s)):R es as:=Oi r λe t k s a b c d f=>by
  clear r
  induction as using am with
  |nil=>exact nomatch b
  |cons n as=>exact aV c λn' e1 e2=>a▸g e t n as (PS ((ij b).1.trans e1)▸e2) d (ak (P:=λs=>j9 V W (PP V) t s ms) (ij b).2 f)
structure Ip(W W':Wd)(g:MV->Bool)(gs:List MV->Bool):Prop where
 tup:∀l,g (.T l)=ah->gs l=ah
 lst:∀l,g (.L l)=ah->gs l=ah
 dD:∀k l,g (.D k l)=ah->gs l=ah
 obj:∀c a l,g (.O c a l)=ah->gs l=ah
 hd:∀m l,gs (m::l)=ah->g m=ah
 tl:∀m l,gs (m::l)=ah->gs l=ah
 K:∀a o,W.K a=aa o->W'.K a=aa o
 F:∀i p,g (.R i)=ah->W.F[i]?=aa p->W'.F[i]?=aa p
mutual
theorem Rv.gen(G:Ip W W' g gs):∀{m:MV} {v:Value},Rv V W v m->g m=ah->Rv V W' v m
 | .N,_,r,_=>r
 | .B _,_,r,_=>r
 | .I _,_,r,_=>r
 | .S _,_,r,_=>r
 | .Y _,_,r,_=>r
 | .T _,_,r,p=>r.Aq λa vs n e k q z=>⟨a,vs,n,e,G.K _ _ k,cN.gen G q (G.tup _ p),z⟩
 | .L _,_,r,p=>r.DK λa vs n e k q z=>⟨a,vs,n,e,G.K _ _ k,cN.gen G q (G.lst _ p),z⟩
 | .D _ _,_,r,p=>wx r λa es n e k q z=>⟨a,es,n,e,G.K _ _ k,q.imp (j9.gen G · (G.dD _ _ p)) (j9.gen G · (G.dD _ _ p)),z⟩
 | .O _ _ _,_,r,p=>r.objE λa d es n e k k' q=>⟨a,d,es,n,e,G.K _ _ k,G.K _ _ k',j9.gen G q (G.obj _ _ _ p)⟩
 | .R _,_,r,p=>r.Cg λa d e k=>⟨a,d,e,G.F _ _ p k⟩
theorem cN.gen(G:Ip W W' g gs):∀{ms:List MV} {vs:List Value},cN V W vs ms->gs ms=ah->cN V W' vs ms
 |[],_,r,_=>r
 |_::_,_,r,p=>r.jP λv us e a b=>⟨v,us,e,Rv.gen G a (G.hd _ _ p),cN.gen G b (G.tl _ _ p)⟩
theorem j9.gen(G:Ip W W' g gs):∀{ms:List MV} {K:DictEntry->MV->Prop} {es:List DictEntry} {ks:List MV},j9 V W K es ks ms->gs ms=ah->j9 V W' K es ks ms
 |[],_,_,_,r,_=>r
 |_::_,_,_,_,r,p=>Oi r λe r' k s e1 e2 a d q=>⟨e,r',k,s,e1,e2,a,Rv.gen G d (G.hd _ _ p),j9.gen G q (G.tl _ _ p)⟩
end
theorem i3.gen(x:i3 n W W'):Ip W W' (λu=>ah) λu=>ah:=⟨λu u=>ae,λu u=>ae,λu u u=>ae,λu u u u=>ae,λu u u=>ae,λu u u=>ae,x.K,λi p u h=>
 x.F.elim λψ f=>f.1▸(i5 (pJ.mp λq=>nn ((iu q).symm.trans h))).trans h⟩
variable{n h h':Heap}
theorem Rv.mono(x:i3 n W W')(r:Rv V W v m):Rv V W' v m:=r.gen x.gen ae
theorem cN.mono(x:i3 n W W')(r:cN V W vs ms):cN V W' vs ms:=r.gen x.gen ae
theorem j9.mono(x:i3 n W W')(r:j9 V W K es ks ms):j9 V W' K es ks ms:=r.gen x.gen ae
theorem j9.len:∀{ms:List MV} {es:List DictEntry} {ks:List MV},j9 V W K es ks ms->es.length=ks.length
 |[],_,_,r=>r.mX (R:=λes ks=>es.length=ks.length) ae
 |_::_,_,_,r=>r.gq (R:=λes ks=>es.length=ks.length) λu u u u u u f=>congrArg (· +1) f.len
variable{p:Addr×Addr}{U:bN}
theorem yv.gen(G:Ip W W' g gs)(k1:∀o,h.get? p.1=aa o->h'.get? p.1=aa o)(k2:∀o,h.get? p.2=aa o->h'.get? p.2=aa o)(y:yv V W h p c)(z:g c=ah):yv V W' h' p c:=by
 induction c using MV.casesOn with
 |L l=>exact fI y λvs n a b c=>⟨vs,n,k1 _ a,b.gen G (G.lst _ z),c⟩
 |D ks vs=>exact fI y λes n a b c=>⟨es,n,k1 _ a,b.imp (·.gen G (G.dD _ _ z)) (·.gen G (G.dD _ _ z)),c⟩
 |O c as vs=>exact fI y λes n a b c=>⟨es,n,k1 _ a,k2 _ b,c.gen G (G.obj _ _ _ z)⟩
 |_=>exact y
theorem yv.mono(x:i3 n W W')(k1:∀o,h.get? p.1=aa o->h'.get? p.1=aa o)(k2:∀o,h.get? p.2=aa o->h'.get? p.2=aa o)(y:yv V W h p c):yv V W' h' p c:=y.gen x.gen k1 k2 ae
theorem pS.cons(a:yv V W h p c)(b:pS V W h ps cs):pS V W h (p::ps) (c::cs):=⟨p,ps,ae,a,b⟩
theorem pS.jP{P:Prop}(r:pS V W h ps (c::cs))(k:∀p r,ps=p::r->yv V W h p c->pS V W h r cs->P):P:=fI r k
theorem pS.map:∀{cs:bN} {ps:List (Addr×Addr)},(∀p∈ps,∀c,yv V W h p c->yv V W' h' p c)->pS V W h ps cs->pS V W' h' ps cs
 |[],_,_,r=>r
 |_::_,_,k,r=>r.jP λp q e a b=>e▸.cons (k p (e▸.head _) _ a) (pS.map (λp hp=>k p (e▸.tail _ hp)) b)
theorem pS.mono(x:i3 n W W')(k:∀p∈ps,(∀o,h.get? p.1=aa o->h'.get? p.1=aa o)/\ ∀o,h.get? p.2=aa o->h'.get? p.2=aa o)(r:pS V W h ps cs):pS V W' h' ps cs:=r.map λp hp u y=>y.mono x (k p hp).1 (k p hp).2
theorem pS.append:∀{cs:bN} {ps:List (Addr×Addr)},pS V W h ps cs->pS V W h qs ds->pS V W h (ps++qs) (cs++ds)
 |[],_,r,y=>(show _=[] from r)▸y
 |_::_,_,r,y=>r.jP λp q e a b=>e▸.cons a (pS.append b y)
theorem pS.length:∀{cs:bN} {ps:List (Addr×Addr)},pS V W h ps cs->ps.length=cs.length
 |[],_,r=>congrArg dK (show _=[] from r)
 |_::_,_,r=>r.jP λp q e a b=>e▸congrArg (· +1) (pS.length b)
theorem pS.at:∀{cs:bN} {ps:List (Addr×Addr)} {i:Nat},pS V W h ps cs->cs[i]?=aa c->∃p,ps[i]?=aa p/\yv V W h p c
 |[],_,_,_,e=>nn e
 |_::_,_,0,r,e=>r.jP λp q e1 a b=>⟨p,e1▸ae,oi e▸a⟩
 |_::_,_,i+1,r,e=>r.jP λp q e1 a b=>e1▸pS.at (i:=i) b e
theorem cN.length:∀{cs:List MV} {ps:List Value},cN V W ps cs->ps.length=cs.length
 |[],_,r=>congrArg dK (show _=[] from r)
 |_::_,_,r=>r.jP λu u e u b=>e▸congrArg (· +1) b.length
theorem cN.append:∀{cs:List MV} {ps:List Value},cN V W ps cs->cN V W qs ds->cN V W (ps++qs) (cs++ds)
 |[],_,r,y=>r.Kt λe=>e▸y
 |_::_,_,r,y=>r.jP λu u e a b=>e▸.cons a (b.append y)
theorem cN.at:∀{cs:List MV} {ps:List Value} {i:Nat},cN V W ps cs->cs[i]?=aa c->∃p,ps[i]?=aa p/\Rv V W p c
 |[],_,_,_,e=>nn e
 |_::_,_,0,r,e=>r.jP λv u q a u=>⟨v,q▸ae,oi e▸a⟩
 |_::_,_,i+1,r,e=>r.jP λu u q u b=>q▸cN.at (i:=i) b e
end
noncomputable def Iu(h h':Heap)(a:Addr):Prop:=∀es n,h.get? a=aa (dR es n)->h'.get? a=aa (dR es n)\/ ∃es' n',h'.get? a=aa (dR es' n')/\(es.size<es'.size\/1<es'.size)
theorem Iu.trans(x:Iu h h' a)(y:Iu h' h'' a):Iu h h'' a:=λes n e=>(x es n e).elim (y es n) λq=>gR q λes1 n1 q1 z1=>(y es1 n1 q1).elim (λq2=>.inr ⟨es1,n1,q2,z1⟩) λq=>gR q λes2 n2 q2 z2=>.inr ⟨es2,n2,q2,z2.elim (λz2=>z1.imp (aH · z2) (aH · z2)) .inr⟩
theorem Iu.kept(k:∀o,h.get? a=aa o->h'.get? a=aa o):Iu h h' a:=λes n e=>.inl (k _ e)
theorem Iu.not(ho:h.get? a=aa o)(hn:∀es n,o≠dR es n):Iu h h' a:=λes n e=>absurd (oi (ho.symm.trans e)) (hn es n)
structure z9(W:Wd)(s s':Shared):Prop where
 keep:∀b o,s.heap.get? b=aa o->¬W.cell b->s'.heap.get? b=aa o
 live:∀b o,s.heap.get? b=aa o->∃o',s'.heap.get? b=aa o'
 ep:∀p∈W.F,Iu s.heap s'.heap p.1
 os:s'.os=s.os
 gens:s'.gens=s.gens
section
variable{V:Cfg}{W W':Wd}{s s':Shared}{m:MV}{U U':bN}{v:Value}{a b:Addr}{o:Obj}
theorem z9.kept(k:iF s.heap h'):z9 W s {s with heap:=h',toks:=tk}:=⟨λu u e u=>k _ _ e,k.live,λu u=>.kept (k _),ae,ae⟩
theorem i3.cell(x:i3 h W W')(hc:W'.cell b):W.cell b\/h.get? b=ag:=
 hc.elim λp e=>x.F.elim λψ f=>(bT.mp (f.1▸e.1)).elim (λhp=>.inl ⟨p,hp,e.2⟩) λhp=>.inr (e.2.elim (λe=>e▸(f.2 p hp).1) λe=>e▸(f.2 p hp).2)
theorem i3.xQ(x:i3 h W W')(e:h.get? b=aa o)(n:¬W.cell b):¬W'.cell b:=λhc=>(x.cell hc).elim n (zF · e)
theorem i3.RY(x:i3 h W W')(hp:p∈W.F):p∈W'.F:=x.F.elim λψ f=>f.1▸List.mem_append_left _ hp
theorem z9.trans(x:z9 W s s')(e:i3 s.heap W W')(y:z9 W' s' s''):z9 W s s'':=
 ⟨λb o hb hn=>y.keep b o (x.keep b o hb hn) (e.xQ hb hn),λb o hb=>(x.live b o hb).elim λo' k=>y.live b o' k,λp hp=>(x.ep p hp).trans (y.ep p (e.RY hp)),y.os.trans x.os,y.gens.trans x.gens⟩
structure cQ(V:Cfg)(W:Wd)(s:Shared)(W':Wd)(U':bN)(s':Shared):Prop where
 x:i3 s.heap W W'
 p:z9 W s s'
 I:cV V W' U' s'.heap
theorem cQ.trans(t:cQ V W s W1 U1 s1)(u:cQ V W1 s1 W2 U2 s2):cQ V W s W2 U2 s2:=⟨t.x.trans u.x t.p.live,t.p.trans t.x u.p,u.I⟩
theorem Rv.up(r:Rv V W v m)(t:cQ V W s W1 U1 s1):Rv V W1 v m:=r.mono t.x
noncomputable def b7(V:Cfg)(W:Wd)(s:Shared)(m:MV)(U:bN)(v:Value)(s':Shared):Prop:=∃W',Rv V W' v m/\cQ V W s W' U s'
theorem b7.trans(t:cQ V W s W' U1 s')(a:b7 V W' s' m U v s''):b7 V W s m U v s'':=aV a λW'' r u=>⟨W'',r,t.trans u⟩
noncomputable def Wd.add(W:Wd)(a:Addr)(o:Obj):Wd:=⟨λb=>if b=a then aa o else W.K b,W.F⟩
theorem Wd.ph:(W.add a o).K a=aa o:=if_pos ae
theorem Wd.tG(e:b≠a):(W.add a o).K b=W.K b:=if_neg e
theorem Wd.Se{P:Prop}(e:(W.add a o).K b=aa q)(k1:b=a->q=o->P)(k2:b≠a->W.K b=aa q->P):P:=by
 by_cases c:b=a
 ·exact k1 c (oi (e.symm.trans (c▸Wd.ph)))
 ·exact k2 c ((Wd.tG c).symm.trans e)
theorem i3.add(ha:h.get? a=ag)(hn:W.K a=ag):i3 h W (W.add a o):=
 ⟨λb q e=>(Wd.tG λc=>zF hn (c▸e)).trans e,λb q e=>Wd.Se e (λc u=>.inr (c▸ha)) λu e=>.inl e,[],(aG _).symm,λu h=>nomatch h⟩
theorem cV.E6(I:cV V W U h)(ha:h.get? a=ag):W.K a=ag:=qn λo e=>zF ha (I.fz _ _ e)
theorem cV.low(I:cV V W U h)(ha:W.K a=ag):(a==eM)=ac:=beq_eq_false_iff_ne.mpr λe=>I.big.elim λu q=>zF ha (e▸q)
theorem bJ(h:Heap):h.get? h.objs.size=ag:=iI (bj _)
theorem cV.OT(I:cV V W U h)(k:∀b o,W.K b=aa o\/W.cell b->h.get? b=aa o->h'.get? b=aa o):cV V W U h' where
 fz:=λa o e=>k a o (.inl e) (I.fz a o e)
 cells:=I.cells.mono (i3.refl h W) λp hp=>⟨λo=>k _ o (.inr ⟨p,hp,.inl ae⟩),λo=>k _ o (.inr ⟨p,hp,.inr ae⟩)⟩
 free:=λp hp=>(I.free p hp).imp (.keep (k _ · (.inr ⟨p,hp,.inl ae⟩))) (.keep (k _ · (.inr ⟨p,hp,.inr ae⟩)))
 apart:=I.apart
 st:=I.st
 big:=I.big
theorem cV.kept(I:cV V W U h)(k:iF h h'):cV V W U h':=I.OT λb o u=>k b o
theorem cV.zN(I:cV V W U h)(hn:W.K a=ag)(hf:¬W.cell a)(ho:h.get? a=aa o):cV V (W.add a o) U h where
 fz:=λb q e=>Wd.Se e (λc d=>c▸d▸ho) λu e=>I.fz _ _ e
 cells:=I.cells.mono (n:=⟨#[],h.life⟩) (i3.add (by unfold mo;simp) hn) λp hp=>⟨λu e=>e,λu e=>e⟩
 free:=λp hp=>(I.free p hp).imp (λl=>l.imp (Wd.tG λe=>hf ⟨p,hp,.inl e.symm⟩).trans id) λl=>l.imp (Wd.tG λe=>hf ⟨p,hp,.inr e.symm⟩).trans id
 apart:=I.apart
 st:=λb q e=>(Wd.tG λc=>zF hn (c▸I.st _ _ e)).trans (I.st b q e)
 big:=I.big.imp λq e=>(Wd.tG λc=>zF hn (c▸e)).trans e
theorem cV.Kv(I:cV V W U h)(ha:h.get? a=ag):¬W.cell a:=λc=>aV c λp hp e=>e.elim (λe=>(I.free p hp).1.2.elim λu q=>zF ha (e▸q)) λe=>(I.free p hp).2.2.elim λu q=>zF ha (e▸q)
theorem eN(o:Obj):iF h (h.push o):=λu u e=>aF _ e
theorem cQ.kept(I:cV V W U s.heap)(k:iF s.heap h'):cQ V W s W U {s with heap:=h',toks:=tk}:=⟨i3.refl _ _,z9.kept k,I.kept k⟩
theorem cQ.toks(I:cV V W U s.heap):cQ V W s W U {s with toks:=tk}:=cQ.kept I λu u e=>e
theorem cQ.refl(I:cV V W U s.heap):cQ V W s W U s:=cQ.toks I
theorem b7.kept(I:cV V W U s.heap)(k:iF s.heap h')(r:Rv V W v m):b7 V W s m U v {s with heap:=h',toks:=tk}:=⟨W,r,.kept I k⟩
theorem b7.fc(I:cV V W U s.heap)(r:Rv V W v m):b7 V W s m U v {s with toks:=tk}:=b7.kept I (λu u e=>e) r
theorem b7.E0(I:cV V W U s.heap)(k:iF s.heap h')(ha:s.heap.get? a=ag)(ho:h'.get? a=aa o)(r:∀W',i3 s.heap W W'->W'.K a=aa o->Rv V W' (.ref a) m):b7 V W s m U (.ref a) {s with heap:=h',toks:=tk}:=
 have x:=i3.add (o:=o) ha (I.E6 ha)
 ⟨W.add a o,r _ x Wd.ph,x,z9.kept k,(I.kept k).zN (I.E6 ha) (I.Kv ha) ho⟩
end
section
variable{V:Cfg}{W:Wd}{s:Shared}{h:Heap}
noncomputable def Uo:Op->Operator
 | .a=>.Add| .s=>.Sub| .m=>.Mult| .f=>.FloorDiv| .o=>.Mod| .l=>.LShift| .r=>.RShift| .b=>.BitAnd| .p=>.Pow
noncomputable def V7:Cp->CmpOp
 | .e=>.Eq| .n=>.NotEq| .l=>.Lt| .k=>.LtE| .g=>.Gt| .h=>.GtE| .i=>.Is| .j=>.IsNot| .a=>.In| .b=>.NotIn
noncomputable abbrev ci:Value->Shared->Prop:=λu u=>False
theorem gb(h:bX n=ah):n<=16777216:=ar h
theorem km(h:n<=16777216):bX n=ah:=ky h
theorem cV.cellAt{U:bN}(I:cV V W U h){i:Nat}(e:W.F[i]?=aa p)(k:U[i]?=aa c):yv V W h p c:=aV (I.cells.at k) λu hp r=>oi (hp.symm.trans e)▸r
noncomputable def Yg(V:Cfg)(W:Wd)(h:Heap)(v:Value)(x:MV):MV->Prop
 | .N=>v= .none
 | .B b=>v= .bool b
 | .I i=>∃t,v= .int i t/\x= .I i
 | .L l=>∃a vs n,v= .ref a/\h.get? a=aa (hZ vs n)/\cN V W vs.toList l/\bX l.length=ah
 | .T l=>∃a vs n,v= .ref a/\h.get? a=aa (mn vs n)/\cN V W vs.toList l/\bX l.length=ah/\x= .T l
 | .D ks vs=>∃a es n,v= .ref a/\h.get? a=aa (dR es n)/\(yw V W es.toList ks vs\/Cw V W es.toList ks vs)/\bX ks.length=ah/\(a==eM)=ac
 | .O c as vs=>∃a d es n,v= .ref a/\h.get? a=aa (instObj (V.cls c) d)/\h.get? d=aa (dR es n)/\xD V W es.toList as vs
 | .Y l=>∃b t,v= .bytes b t/\b.toList.map bp=l/\bX l.length=ah/\x= .Y l
 | .S l=>∃b t,v= .str b t/\b.cps.toList=l/\bX l.length=ah/\x= .S l
 | .R _=>True
theorem yv.dv(r:yv V W h (a,d) c)(z:(a==eM)=ac):Yg V W h (.ref a) x c:=by
 induction c using MV.casesOn with
 |L l=>exact fI r λvs n p q t=>rg a vs n ⟨ae,p,q,t⟩
 |D ks vs=>exact fI r λes n p q t=>rg a es n ⟨ae,p,q,t,z⟩
 |O c as vs=>exact fI r λes n p q t=>Ex a d es n ⟨ae,p,q,t⟩
 |R=>trivial
 |_=>exact r.elim
theorem cV.dv(I:cV V W U h)(r:Rv V W v x)(e:cC U x=aa c):Yg V W h v x c:=by
 induction x using MV.casesOn with
 |R i=>exact r.Cg λa d e1 q=>e1▸(I.cellAt q e).dv (I.low (I.free _ (aT q)).1.1)
 |I=>exact gA e (r.Dw λt e=>⟨t,e,ae⟩)
 |S=>exact gA e (r.Ao λx t e a b=>gu x t ⟨e,a,b,ae⟩)
 |Y=>exact gA e (r.yE λx t e a b=>gu x t ⟨e,a,b,ae⟩)
 |T=>exact gA e (r.Aq λa vs n e k q z=>rg a vs n ⟨e,I.fz _ _ k,q,z,ae⟩)
 |L=>exact gA e (r.DK λa vs n e k q z=>rg a vs n ⟨e,I.fz _ _ k,q,z⟩)
 |D=>exact gA e (L1 r λa es n e k q=>rg a es n ⟨e,I.fz _ _ k,q⟩)
 |O=>exact gA e (r.objE λa d es n e k k' q=>Ex a d es n ⟨e,I.fz _ _ k,I.fz _ _ k',q⟩)
 |_=>exact gA e r
variable{v:Value}{x:MV}{l:List MV}{bs:List Nat}
theorem listAt(I:cV V W U h)(r:Rv V W v x)(e:cC U x=aa (.L l)):∃a vs n,v= .ref a/\h.get? a=aa (hZ vs n)/\cN V W vs.toList l/\bX l.length=ah:=I.dv r e
theorem xf(I:cV V W U h)(r:Rv V W v x)(e:cC U x=aa (.T l)):∃a vs n,v= .ref a/\h.get? a=aa (mn vs n)/\cN V W vs.toList l/\bX l.length=ah/\x= .T l:=I.dv r e
theorem yO(I:cV V W U h)(r:Rv V W v x)(e:cC U x=aa (.D ks vs)):∃a es n,v= .ref a/\h.get? a=aa (dR es n)/\(yw V W es.toList ks vs\/Cw V W es.toList ks vs)/\bX ks.length=ah/\(a==eM)=ac:=I.dv r e
theorem KC(I:cV V W U h)(r:Rv V W v x)(e:cC U x=aa (.O c as vs)):∃a d es n,v= .ref a/\h.get? a=aa (instObj (V.cls c) d)/\h.get? d=aa (dR es n)/\xD V W es.toList as vs:=I.dv r e
theorem BD(I:cV V W U h)(r:Rv V W v x)(e:cC U x=aa (.Y bs)):∃b t,v= .bytes b t/\b.toList.map bp=bs/\bX bs.length=ah/\x= .Y bs:=I.dv r e
theorem Pm(I:cV V W U h)(r:Rv V W v x)(e:cC U x=aa (.S bs)):∃b t,v= .str b t/\b.cps.toList=bs/\bX bs.length=ah/\x= .S bs:=I.dv r e
theorem qq{vs:Array Value}(r:cN V W vs.toList l):vs.size=l.length:=bB.symm.trans r.length
theorem zD{b:Array UInt8}(e:b.toList.map bp=bs):b.size=bs.length:=e▸(au ..).symm▸bB.symm
theorem Lo{b:Str}(e:b.cps.toList=bs):b.length=bs.length:=e▸bB.symm
section
variable{Q:Value->MV->Prop}
@[elab_as_elim]theorem kH{P:Value->Prop}(I:cV V W U h)(r:Rv V W v x)(e:cC U x=aa (.L l))(k:∀a vs n,h.get? a=aa (hZ vs n)->cN V W vs.toList l->vs.size=l.length->bX l.length=ah->P (.ref a)):P v:=
  wx (listAt I r e) λa vs n e p q z=>e▸k a vs n p q (qq q) z
@[elab_as_elim]theorem zP(I:cV V W U h)(r:Rv V W v x)(e:cC U x=aa (.T l))(k:∀a vs n,Rv V W (.ref a) (.T l)->h.get? a=aa (mn vs n)->cN V W vs.toList l->vs.size=l.length->bX l.length=ah->Q (.ref a) (.T l)):Q v x:=
  wy (xf I r e) λa vs n e p q z y=>e▸y▸k a vs n (e▸y▸r) p q (qq q) z
@[elab_as_elim]theorem eX(I:cV V W U h)(r:Rv V W v x)(e:cC U x=aa (.Y bs))(k:∀b t,b.toList.map bp=bs->b.size=bs.length->bX bs.length=ah->Q (.bytes b t) (.Y bs)):Q v x:=
  sC (BD I r e) λa t e p z y=>e▸y▸k a t p (zD p) z
@[elab_as_elim]theorem ml(I:cV V W U h)(r:Rv V W v x)(e:cC U x=aa (.S bs))(k:∀b t,b.cps.toList=bs->b.length=bs.length->bX bs.length=ah->Q (.str b t) (.S bs)):Q v x:=
  sC (Pm I r e) λa t e p z y=>e▸y▸k a t p (Lo p) z
@[elab_as_elim]theorem jI{i:Int}(I:cV V W U h)(r:Rv V W v x)(e:cC U x=aa (.I i))(k:∀t,Q (.int i t) (.I i)):Q v x:=
  aV (I.dv r e:∃t,v= .int i t/\x= .I i) λt e y=>e▸y▸k t
end
section
variable{n:Nat}
theorem vX(q:h.get? a=aa (hZ vs n)):h.IsList a vs:=⟨_,q,ae,_,ae⟩
theorem OO(q:h.get? a=aa (mn vs n)):h.IsTuple a vs:=⟨_,q,ae,_,ae⟩
theorem VS(q:s.heap.get? a=aa (hZ vs n)):s.TypeIs (.ref a) "list":=⟨_,q,ae⟩
theorem Va(q:s.heap.get? a=aa (mn vs n)):s.TypeIs (.ref a) "tuple":=⟨_,q,ae⟩
theorem VL(e:n=m)(z:bX m=ah):n<=16777216:=e▸gb z
theorem fL(e:n=m)(z:bX m=ah):n<=sizeLine:=nP▸VL e z
theorem n40(e:n=m)(z:bX m=ah):n<=1099511627776:=ao (VL e z) (by decide)
theorem Uf(e:n=m)(z:bX m=ah):(n:Int)<2^63:=tb (dG.mpr (VL e z)) (by decide)
theorem YU(e:n=m)(z:bX m=ah):¬(n:Int)>=2^63:=Int.not_le.mpr (Uf e z)
end
theorem b7.made(I:cV V W U s.heap)(ho:o.isFreed=ac)(r:∀W',i3 s.heap W W'->W'.K s.heap.objs.size=aa o->Rv V W' (.ref s.heap.objs.size) m):
  b7 V W s m U (.ref s.heap.objs.size) {s with heap:=s.heap.push o,toks:=tk}:=
 b7.E0 I (eN o) (bJ _) (aL _ ho) r
theorem b7.list(I:cV V W U s.heap)(r:cN V W vs.toList l)(z:bX l.length=ah):
  b7 V W s (.L l) U (.ref s.heap.objs.size) {s with heap:=s.heap.push (hZ vs n),toks:=tk}:=
 b7.made I ae λW' x e=>.lst e (r.mono x) z
theorem b7.tuple(I:cV V W U s.heap)(r:cN V W vs.toList l)(z:bX l.length=ah):
  b7 V W s (.T l) U (.ref s.heap.objs.size) {s with heap:=s.heap.push (mn vs n),toks:=tk}:=
 b7.made I ae λW' x e=>.tup e (r.mono x) z
theorem b7.listAt(I:cV V W U s.heap)(k:∀b o,s.heap.get? b=aa o->h'.get? b=aa o)(ha:s.heap.get? a=ag)(ho:h'.get? a=aa (hZ vs n))(r:cN V W vs.toList l)(z:bX l.length=ah):
  b7 V W s (.L l) U (.ref a) {s with heap:=h',toks:=tk}:=b7.E0 I k ha ho λW' x e=>.lst e (r.mono x) z
theorem b7.N4(I:cV V W U s.heap)(k:∀b o,s.heap.get? b=aa o->h'.get? b=aa o)(ha:s.heap.get? a=ag)(ho:h'.get? a=aa (mn vs n))(r:cN V W vs.toList l)(z:bX l.length=ah):
  b7 V W s (.T l) U (.ref a) {s with heap:=h',toks:=tk}:=b7.E0 I k ha ho λW' x e=>.tup e (r.mono x) z
end
section
variable{V:Cfg}{W:Wd}{U:bN}{s:Shared}{prog:Program}{w:World}{A:Around}
theorem b7.int(I:cV V W U s.heap)(i:Int)(t:Tok)(tk:Nat):b7 V W s (.I i) U (.int i t) {s with toks:=tk}:=b7.fc I (.int i t)
theorem Mi{a:Int}(h:gO a=ah):sf a<=64:=by
 have h':a.natAbs<2^64:=of_decide_eq_true h
 unfold sf
 split
 ·exact bD _
 ·rename_i hn
  exact(wA λe=>hn (by refine ak (Int.natAbs_eq_zero.mp e) ?_;rfl)).mpr h'
theorem EW{a:Int}(h:gO a=ah):a.natAbs.log2<9000:=by
 by_cases hn:a.natAbs=0
 ·refine ak hn ?_;decide
 ·exact aH ((wA hn).mpr (of_decide_eq_true h:a.natAbs<2^64)) (by decide)
theorem Ub{a b:Int}(h:gO a=ah):IntMulOk a b:=λh'=>absurd (of_decide_eq_true (aB (aB h').1).1) (eA.mpr (Mi h))
theorem Re{a b:Int}{op:Op}{u:Tok}{m:MV}(I:cV V W U s.heap)(h:arith op a b=aa m):
  wpAny (model prog w) A (binaryOp (Uo op) (.int a t) (.int b u)) (b7 V W s m U) ci s:=by
 induction op using Op.casesOn with
 |a=>exact gA h (P.add_int (b7.int I _ _ _))
 |s=>exact gA h (P.sub_int (b7.int I _ _ _))
 |m=>exact gI h λz=>P.mul_int (b7.int I _ _ _) (Ub (aB z).1)
 |f=>exact gI h λz=>floordiv_int (Int.ne_of_gt (of_decide_eq_true (aB z).1)) (b7.int I _ _ _) (.inl (PyProof.noPylong_of_log2 (EW (aB z).2)))
 |o=>exact gI h λz=>mod_int' (Int.ne_of_gt (of_decide_eq_true z)) (b7.int I _ _ _)
 |l=>exact gI h λz=>lshift_int_small (of_decide_eq_true (aB (aB z).1).1) (of_decide_eq_true (aB (aB z).1).2) (of_decide_eq_true (aB z).2) (b7.int I _ _ _)
 |r=>exact gI h λz=>rshift_int (of_decide_eq_true (aB z).1) (b7.int I _ _ _)
 |b=>exact gI h λz=>and_int (ak (show yj a b=aD (a.toNat&&&b.toNat) by unfold yj;refine ak ((aB z).1) (ak ((aB z).2) ?_);rfl) (b7.int I _ _ _))
 |p=>
  exact gI h λz=>by
   obtain rfl:a=10:=of_decide_eq_true (aB z).1
   obtain rfl:b=60:=of_decide_eq_true (aB z).2
   exact AutoIntOps.pow_4 (by decide) (by decide) (by decide) (by decide) (by decide+kernel) (b7.int I _ _ _)
theorem Li{op:Op}{b:Value}{x y m:MV}(I:cV V W U s.heap)(ra:Rv V W a x)(rb:Rv V W b y)(h:MW op x y=aa m):wpAny (model prog w) A (binaryOp (Uo op) a b) (b7 V W s m U) ci s:=by
 induction x using MV.casesOn with
 |I i=>
  induction y using MV.casesOn with
  |I j=>exact ra.jI λt=>rb.jI λu=>Re I h
  |_=>exact nn h
 |_=>exact nn h
end
section
variable{V:Cfg}{W:Wd}
theorem lM:sizeLine=16777216:=by exact ak nP ae
theorem cN.Kw{vs:Array Value}(r:cN V W vs.toList l)(h:vs.isEmpty=ah):l=[]:=by
 have e:vs= #[]:=nE.1 h
 subst e
 (refine cN.Xo r ?_;clear r;intro e;subst e)
 rfl
theorem Le(vs:Array Value)(l:List MV)(r:cN V W vs.toList l):∀n,cN V W (List.foldl (λx1 x2=>x1++x2) #[] (yg n vs)).toList (zw l n):=by
 have key:∀(n:Nat) (acc:Array Value) (al:List MV),cN V W acc.toList al->cN V W (List.foldl (λx1 x2=>x1++x2) acc (yg n vs)).toList (al++zw l n):=by
  intro n
  induction n with
  |zero=>intro acc al ra;simpa[zw]using ra
  |succ n ih=>
   intro acc al ra
   refine ak List.replicate_succ (ak jx ?_)
   have:=ih (acc++vs) (al++l) (by refine ak dI ?_;exact ra.append r)
   rw[ay]at this
   exact this
 intro n
 simpa using key n #[] [] .nil
theorem w8(l:List α):∀n,(zw l n).length=l.length*n
 |0=>ae
 |n+1=>by rewrite[zw];exact ak aj (ak (w8 l n) (ak (Nat.mul_succ ..) (ak (dn ..) ae)))
theorem zy:∀n,zw ([]:List α) n=[]
 |0=>ae
 |n+1=>by rewrite[zw];refine ak (zy n) ?_;rfl
theorem LA(e1:n=a)(e2:k=b)(z:bX (a+b)=ah):n+k<=sizeLine:=fL (e1▸e2▸ae) z
theorem Ph(I:cV V W U s.heap)(ra:Rv V W a x)(rb:Rv V W b y)(h:L8 U x y=aa m):wpAny (model prog w) A (binaryOp .Add a b) (b7 V W s m U) ci s:=by
 unfold L8 at h
 generalize e1:cC U x=o at h
 induction o using bg with
 |none=>exact nn h
 |some c=>
  induction c using MV.casesOn with
  |L l=>
   generalize e2:cC U y=p at h
   induction p using bg with
   |none=>exact nn h
   |some c=>
    induction c using MV.casesOn with
    |L k=>
     exact kH I ra e1 λa vs n ha qa na za=>kH I rb e2 λb us k' hb qb nb zb=>gI h λz=>
      P.add_list ha hb (b7.list (n:=0) I (ak dI (qa.append qb)) z) (LA na nb (aj▸z))
    |_=>exact nn h
  |_=>exact nn h
theorem UA(I:cV V W U s.heap)(e1:X.cps.toList=l)(z1:bX l.length=ah)(e2:Y.cps.toList=k)(z2:bX k.length=ah)(z:bX (l++k).length=ah):
  wpAny (model prog w) A (binaryOp .Add (.str X t) (.str Y u)) (b7 V W s (.S (l++k)) U) ci s:=by
 have nil:∀{X:Str} {l:List Nat},X.cps.toList=l->(X.length==0)=ah->l=[]:=λe c=>cW ((Lo e).symm.trans (eq_of_beq c))
 refine P.add_str ?_
 by_cases c1:(X.length==0)=ah
 ·refine ak (if_pos c1) (ak (nil e1 c1) ?_)
  exact b7.fc (tk:=s.toks) I (.str e2 z2)
 ·refine ak (if_neg c1) ?_
  by_cases c2:(Y.length==0)=ah
  ·refine ak (if_pos c2) (ak (nil e2 c2) (ak (aG ..) ?_))
   exact b7.fc (tk:=s.toks) I (.str e1 z1)
  ·refine ak (if_neg c2) ?_
   have e:(X++Y).cps.toList=l++k:=(dI ..).trans (e1▸e2▸ae)
   exact⟨fL (Lo e) z,b7.fc I (.str e z)⟩
theorem XM(I:cV V W U s.heap)(ra:Rv V W a x)(rb:Rv V W b y)(h:Sf U x y=aa m):wpAny (model prog w) A (binaryOp .Add a b) (b7 V W s m U) ci s:=by
 induction x using MV.casesOn with
 |Y l=>
  induction y using MV.casesOn with
  |Y k=>exact ra.eX λB t e1 z1=>rb.eX λC u e2 z2=>gI h λz=>KBy.add_bytes (LA (zD e1) (zD e2) (aj▸z)) λt' k=>b7.fc I (.bytes (by exact ak dI (ak bS (ak e1 (ak e2 ae)))) z)
  |_=>exact nn h
 |S l=>
  induction y using MV.casesOn with
  |S k=>exact ra.ml λB t e1 z1=>rb.ml λC u e2 z2=>gI h λz=>UA I e1 z1 e2 z2 z
  |_=>exact nn h
 |T l=>
  induction y using MV.casesOn with
  |T k=>
   refine gI h λz=>zP I ra ae λa vs n ra ha qa na za=>zP I rb ae λb us k' rb hb qb nb zb=>?_
   by_cases c1:vs.isEmpty=ah
   ·refine ak (qa.Kw c1) ?_
    exact concat_meets (Va ha) (Va hb) noFill_tuple_add seq_tuple_add F.slot_tuple_add ur (tv _ _) (AutoSeq1.tuple___add___tuple_tuple_0 a vs n b us k' c1) ⟨ha,hb,b7.fc (tk:=s.toks) I rb⟩
   ·by_cases c2:us.isEmpty=ah
    ·refine ak (qb.Kw c2) (ak (aG ..) ?_)
     exact concat_meets (Va ha) (Va hb) noFill_tuple_add seq_tuple_add F.slot_tuple_add ur (tv _ _) (AutoSeq1.tuple___add___tuple_tuple_1 a vs n b us k' c1 c2) ⟨ha,hb,b7.fc (tk:=s.toks) I ra⟩
    ·exact P.add_tuple ha hb c1 c2 (b7.tuple (n:=0) I (ak dI (qa.append qb)) z) (LA na nb (aj▸z))
  |_=>exact nn h
 |L l=>exact Ph I ra rb h
 |R l=>exact Ph I ra rb h
 |_=>exact Li (op:=.a) I ra rb h
theorem Qn{i:Int}(h:i.natAbs<9223372036854775807):(decide (-(2^63:Int)<=i)&&decide (i<2^63))=ah:=
 eV.mpr ⟨decide_eq_true (gV (Int.neg_le_neg (dG.mpr (cZ (nK h)))) (Int.neg_le_of_neg_le (Int.natAbs_neg i▸Int.le_natAbs))),decide_eq_true (tb (gV Int.le_natAbs (dG.mpr (cZ h))) (by decide))⟩
theorem XU(I:cV V W U s.heap)(ra:Rv V W a x)(rb:Rv V W b y)(h:zza x y=aa m):wpAny (model prog w) A (binaryOp .Mult a b) (b7 V W s m U) ci s:=by
 induction x using MV.casesOn with
 |L l=>
  induction y using MV.casesOn with
  |I i=>
   refine gI h λz=>rb.jI λu=>kH I ra ae λa vs n ha qa na za=>?_
   have z1:=(aB z).1
   have hi:i.natAbs<9223372036854775807:=of_decide_eq_true (aB z).2
   have hsz:vs.size*i.toNat<=2^24:=VL (na▸ae) z1
   have e:zw l i.toNat=zw l (if vs.isEmpty=ah then 0 else i.toNat):=by
    by_cases c:vs.isEmpty=ah
    ·exact ak (if_pos c) (ak (qa.Kw c) (ak (zy ..) (ak (zy ..) ae)))
    ·exact ak (if_neg c) ae
   refine wpAny_binaryOp_repeat_ref (T:="list") (U:="int") (by decide) (VS ha) (λs'=>typeIs_int s' i u) noFill_list_mul F.fills_int_mul F.slot_int_rmul repeat_list F.slot_int_index.lookup
    (pQ F.slot_int_rmul (typeIs_int s i u) F.entry_int_rmul (F.args_int_rmul_2 _ _) (int___rmul___int_list i u a vs n)
      ⟨ha,ae,VS ha,pQ F.slot_list_mul (VS ha) F.entry_list_mul (F.args_list_mul_2 _ _)
        (AutoListH.list___mul___list_int_3 a vs n i u (λq=>ft ((congrArg (!·) (Qn hi)).symm.trans q)) (eA.mpr (ao hsz (by decide))) λq=>absurd (of_decide_eq_true q) (eA.mpr (lM▸hsz)))
        ⟨ha,?_⟩⟩)
   refine ak e ?_
   exact b7.list (n:=0) I (Le vs l qa _) (e▸(w8 l _).symm▸z1)
  |_=>exact nn h
 |_=>exact Li (op:=.m) I ra rb h
theorem XR{U:bN}{s:Shared}{prog:Program}{w:World}{A:Around}{op:Op}{b:Value}{x y m:MV}(I:cV V W U s.heap)(ra:Rv V W a x)(rb:Rv V W b y)(h:jO U op x y=aa m):
  wpAny (model prog w) A (binaryOp (Uo op) a b) (b7 V W s m U) ci s:=by
 induction op using Op.casesOn with
 |a=>exact XM I ra rb h
 |m=>exact XU I ra rb h
 |_=>exact Li I ra rb h
end
section
theorem iZ:∀{a b:List Nat},bn a b=ah->a=b
 |[],[],_=>ae
 |[],_::_,h=>ft h
 |_::_,[],h=>ft h
 |_::_,_::_,h=>(aN (aB h).1)▸iZ (aB h).2▸ae
theorem iO:∀a:List Nat,bn a a=ah
 |[]=>ae
 |x::r=>(dF _ _).mpr ⟨ez x,iO r⟩
theorem mW:bn a b=ah↔a=b:=⟨iZ,λe=>e▸iO _⟩
theorem toNat_inj{c:List UInt8}(h:b.map bp=c.map bp):b=c:=(tp λu u h=>lK.mp h).mp h
theorem uD{b c:Array UInt8}{k:List Nat}(e1:b.toList.map bp=l)(e2:c.toList.map bp=k):decide (b.toList=c.toList)=bn l k:=
 cG.mpr (decide_eq_true_iff.trans ⟨λe=>mW.mpr (e1▸e2▸e▸ae),λe=>toNat_inj (e1.trans ((iZ e).trans e2.symm))⟩)
theorem Ib{c:Str}(e:b.cps.toList=c.cps.toList):b=c:=congrArg Str.mk (iT.mp e)
theorem t7{c:Str}{k:List Nat}(e1:b.cps.toList=l)(e2:c.cps.toList=k):(b==c)=bn l k:=
 cG.mpr (beq_iff_eq.trans ⟨λe=>mW.mpr (e1▸e2▸e▸ae),λe=>Ib (e1.trans ((iZ e).trans e2.symm))⟩)
theorem IE(n:Nat)(e:Nat->Bool):(gh (n+1)).all e=(e 0&&(gh n).all λj=>e (j+1)):=by refine ak pH (ak List.all_cons (ak List.all_map ?_));rfl
theorem IM(n m:Nat):(n+1==m+1)=(n==m):=cG.mpr (beq_iff_eq.trans (Nat.succ_inj.trans beq_iff_eq.symm))
noncomputable def SG(x:Bool)(e:Nat->Bool):Nat->Bool
 |0=>x
 |j+1=>e j
theorem vT:∀{x y:List MV} {b:Bool},wV f x y=aa b->∃e:Nat->Bool,(∀(j:Nat) (p q:MV),x[j]?=aa p->y[j]?=aa q->f p q=aa (e j))/\b=((gh (min x.length y.length)).all e&&x.length==y.length)
 |[],[],_,h=>⟨λu=>ah,λu u u e=>nn e,(oi h).symm⟩
 |[],_::_,_,h=>⟨λu=>ah,λu u u e=>nn e,(oi h).symm.trans (by refine ak aC (ak (Nat.zero_min ..) ?_);rfl)⟩
 |_::_,[],_,h=>⟨λu=>ah,λu u u u e=>nn e,(oi h).symm.trans (by refine ak aC (ak (Nat.min_zero ..) ?_);rfl)⟩
 |_::r,_::s,_,h=>gz h λx hx h=>gz h λy hy h=>
  aV (vT hy) λe he hb=>⟨SG x e,λj p q=>cX j (λh1 h2=>oi h1▸oi h2▸hx) λj h1 h2=>he j p q h1 h2,
   (oi h).symm.trans (by refine ak hb (ak aq (ak aq (ak (Nat.add_min_add_right ..) (ak (IE ..) (ak (IM ..) (ak (xY ..) ?_))))));rfl)⟩
theorem LK(h:aa (mn vs n)=aa (mn us k)):vs=us:=(Bt (congrArg o8 (oi h))).1
theorem Kg(h:aa (hZ vs n)=aa (hZ us k)):vs=us:=(Bt (congrArg o8 (oi h))).1
theorem tP(hf:∀v x y k,Rv V W v x->Rv V W v y->f x y=aa k->k=ah):∀{x y:List MV} {vs:List Value} {k:Bool},cN V W vs x->cN V W vs y->wV f x y=aa k->k=ah
 |[],y,vs,k,ra,rb,h=>(ra.mX (R:=λvs=>cN V W vs y->k=ah) λrb=>rb.Ku (R:=λy=>wV f [] y=aa k->k=ah) (λh=>(oi h).symm) h) rb
 |a::r,y,vs,k,ra,rb,h=>(ra.gq (R:=λvs=>cN V W vs y->k=ah) λv us a' b rb=>rb.AD (R:=λy=>wV f (a::r) y=aa k->k=ah) (λm s c d h=>gz (o:=f a m) h λx hx h=>gz h λy hy h=>(oi h).symm.trans ((dF _ _).mpr ⟨hf _ _ _ _ a' c hx,tP hf b d hy⟩)) h) rb
theorem BK:∀(n:Nat) (v:Value) (x y:MV) (k:Bool),Rv V W v x->Rv V W v y->BJ n x y=aa k->k=ah
 |0,_,_,_,_,_,_,h=>nn h
 |n+1,v,x,y,k,ra,rb,h=>by
  induction x using MV.casesOn with
  |I i=>
   induction y using MV.casesOn with
   |I j=>exact gA h (decide_eq_true (ra.Dw λt e=>rb.Dw λu e'=>(Value.int.inj (e.symm.trans e')).1))
   |_=>exact nn h
  |S l=>
   induction y using MV.casesOn with
   |S k=>exact gA h (mW.mpr (ra.Ao λX t e q w=>rb.Ao λY u e' q' w=>q.symm.trans ((Value.str.inj (e.symm.trans e')).1▸q')))
   |_=>exact nn h
  |Y l=>
   induction y using MV.casesOn with
   |Y k=>exact gA h (mW.mpr (ra.yE λX t e q w=>rb.yE λY u e' q' w=>q.symm.trans ((Value.bytes.inj (e.symm.trans e')).1▸q')))
   |_=>exact nn h
  |T l=>
   induction y using MV.casesOn with
   |T k=>exact ra.Aq λa vs i e K q w=>rb.Aq λb us j e' K' q' w=>tP (BK n) q (LK (K'.symm.trans (dC (e'.symm.trans e)▸K))▸q') h
   |_=>exact nn h
  |L l=>
   induction y using MV.casesOn with
   |L k=>
    refine ra.DK λa vs i e K q w=>rb.DK λb us j e' K' q' w=>?_
    have q':cN V W vs.toList k:=Kg (K'.symm.trans (dC (e'.symm.trans e)▸K))▸q'
    exact n6 h (λw h=>tP (BK n) q q' h) λhb w=>ft (hb.symm.trans (q.length▸q'.length▸ez _))
   |_=>exact nn h
  |_=>exact nn h
theorem cN.get{W:Wd}{vs:Array Value}(q:cN V W vs.toList l)(hj:j<vs.size):∃p,l[j]?=aa p/\Rv V W vs[j] p:=
 have p1:l[j]?=aa (l[j]'(qq q▸hj)):=b8 _
 aV (q.at p1) λv1 q1 r1=>⟨_,p1,oi (q1.symm.trans (b5.trans (eH hj)))▸r1⟩
noncomputable def JU:MV->Bool
 | .T _=>ah
 | .L _=>ah
 |_=>ac
open PySem.SeqAt
theorem Jj(hu:A.units<cLine)(ih:∀{a b:Value} {x y:MV} {k:Bool},Rv V W a x->Rv V W b y->BJ n x y=aa k->EqAt A.in1 s a b k)(I:cV V W U s.heap)(ra:Rv V W a x)(rb:Rv V W b y)
  (e1:cC U x=aa x') (e2:cC U y=aa y') (h:BJ (n+1) x' y'=aa k) (hx:JU x'=ah):∃p q,a= .ref p/\b= .ref q/\RcAt A s a b k/\RcNeAt A s a b (!k):=by
 have each:∀{vs us:Array Value} {l l':List MV} {e:Nat->Bool},cN V W vs.toList l->cN V W us.toList l'->(∀(j:Nat) (p q:MV),l[j]?=aa p->l'[j]?=aa q->BJ n p q=aa (e j))->
   ∀j (h1:j<vs.size) (h2:j<us.size),EqAt A.in1 s vs[j] us[j] (e j):=λqa qb he j h1 h2=>
  aV (qa.get h1) λp p1 r1=>aV (qb.get h2) λq p2 r2=>ih r1 r2 (he j _ _ p1 p2)
 induction x' using MV.casesOn with
 |T l=>
  induction y' using MV.casesOn with
  |T l'=>
   refine zP I ra e1 λa vs n1 u ha qa na za=>zP I rb e2 λb us n2 u hb qb nb zb=>?_
   refine aV (vT h) λe he e3=>?_
   rw[<-na,<-nb]at e3
   exact e3▸(gu _ _ ⟨ae,ae,RcAt.tuples (OO ha) (OO hb) hu (each qa qb he),RcNeAt.tuples (OO ha) (OO hb) hu (each qa qb he)⟩)
  |_=>exact nn h
 |L l=>
  induction y' using MV.casesOn with
  |L l'=>
   refine kH I ra e1 λa vs n1 ha qa na za=>kH I rb e2 λb us n2 hb qb nb zb=>n6 h (λhz h=>?_) λhz h=>?_
   ·have hz:=aN hz
    have hs:vs.size=us.size:=na.trans (hz.trans nb.symm)
    refine aV (vT h) λe he e3=>?_
    rw[<-hz,Nat.min_self,beq_self_eq_true,sD,<-na]at e3
    exact e3▸(gu _ _ ⟨ae,ae,RcAt.lists (vX ha) (vX hb) hs hu (each qa qb he),RcNeAt.lists (vX ha) (vX hb) hs hu (each qa qb he)⟩)
   ·have hne:(vs.size !=us.size)=ah:=bne_iff_ne.mpr λe=>ft (hz.symm.trans (na▸nb▸e▸ez _))
    exact gA h (gu _ _ ⟨ae,ae,RcAt.lists_lengths (vX ha) (vX hb) hne hu,RcNeAt.lists_lengths (vX ha) (vX hb) hne hu⟩)
  |_=>exact nn h
 |_=>exact ft hx
theorem OH:∀(n:Nat) {A:Around} {a b:Value} {x y:MV} {k:Bool},A.units+n<cLine->cV V W U s.heap->Rv V W a x->Rv V W b y->BJ n x y=aa k->EqAt A s a b k
 |0,_,_,_,_,_,_,_,_,_,_,h=>nn h
 |n+1,A,a,b,x,y,k,hu,I,ra,rb,h=>by
  by_cases ab:a=b
  ·refine ak (BK (n+1) a x y k ra (ab▸rb) h) (ak ab ?_)
   exact EqAt.same _
  have hu':A.units<cLine:=bG (aU _ _) hu
  have rows:JU x=ah->cC U y=aa y->cC U x=aa x->EqAt A s a b k:=λhx e2 e1=>
   sC (Jj hu' (λra rb h=>OH n (A:=A.in1) (by show A.units+1+n<_;lia) I ra rb h) I ra rb e1 e2 h hx) λv v p q r v=>p▸q▸EqAt.of_refs (λz=>ab (p.trans (z▸q.symm))) (p▸q▸r)
  induction x using MV.casesOn with
  |I i=>
   induction y using MV.casesOn with
   |I j=>exact ra.jI λt=>rb.jI λu=>gA h (EqAt.int_int _ _ _ _)
   |_=>exact nn h
  |S l=>
   induction y using MV.casesOn with
   |S k=>exact ra.ml λX t e1 v=>rb.ml λY u e2 v=>gA h (t7 e1 e2▸(eqGives_str _ _ _ _).at A s)
   |_=>exact nn h
  |Y l=>
   induction y using MV.casesOn with
   |Y k=>exact ra.eX λX t e1 v=>rb.eX λY u e2 v=>gA h (uD e1 e2▸λprog w E Q hq=>eqBool_bytes hq)
   |_=>exact nn h
  |T l=>
   induction y using MV.casesOn with
   |T k=>exact rows ae ae ae
   |_=>exact nn h
  |L l=>
   induction y using MV.casesOn with
   |L k=>exact rows ae ae ae
   |_=>exact nn h
  |_=>exact nn h
end
section
variable{V:Cfg}{W:Wd}{h:Heap}{prog:Program}{w:World}
noncomputable def L3(V:Cfg)(W:Wd)(o:Option Value):Option MV->Prop
 |none=>o=ag
 |some m=>∃v,o=aa v/\Rv V W v m
theorem L3.isSome(f:L3 V W o r):o.isSome=r.isSome:=by
 induction r using bg with
 |none=>exact(show o=ag from f)▸ae
 |some m=>refine aV f λv e1_ u=>?_;subst e1_;rfl
theorem ON{es:List DictEntry}{v:MV}{r:Option MV}{o:Option (Option MV)}(h:(match b with|true=>aa (aa v)|false=>o)=aa r)(hp:p e=b)(d:Rv V W e.val v)
  (ih:o=aa r->L3 V W ((es.find? p).map (·.val)) r):L3 V W (((e::es).find? p).map (·.val)) r:=by
 refine ak (ib) (ak hp ?_)
 induction b using aY with
 |true=>exact gA h ⟨_,ae,d⟩
 |false=>exact ih h
theorem CE.is(a:CE V e k)(hx:x.cps.toList=l):∃l',k= .S l'/\gj x e.key=bn l' l:=fI a λy t e1 e2 u=>⟨_,e1,(congrArg _ e2).trans (t7 ae hx)⟩
theorem CD.is{i:Int}(a:CD e k):∃j,k= .I j/\lw i e.key=decide (j=i):=fI a λj t e1 e2 u=>⟨j,e1,congrArg _ e2⟩
theorem Ju(hx:x.cps.toList=l):∀{vs:List MV} {es:List DictEntry} {ks:List MV} {r:Option MV},yw V W es ks vs->qE ks vs (.S l)=aa r->L3 V W ((es.find? λe=>gj x e.key).map (·.val)) r
 |[],_,_,_,d,h=>by revert h;exact d.mX λh=>gA h ae
 |v::vs,_,_,r,q,h=>by
  revert h
  refine q.gq λe es k ks a d f h=>aV (a.is hx) λl' e1 e2=>?_
  subst e1
  exact ON (b:=bn l' l) h e2 d (Ju hx f)
theorem zh{i:Int}(d:yw V W es ks vs)(h:qE ks vs (.I i)=aa r):es=[]/\r=ag:=by
 induction vs using am with
 |nil=>revert h;exact d.mX λh=>⟨ae,(oi h).symm⟩
 |cons v vs=>revert h;exact d.gq λe es k ks a u u h=>fI a λu u e1 u u=>by subst e1;exact nn h
theorem zg(d:Cw V W es ks vs)(h:qE ks vs (.S l)=aa r):es=[]/\r=ag:=by
 induction vs using am with
 |nil=>revert h;exact d.mX λh=>⟨ae,(oi h).symm⟩
 |cons v vs=>revert h;exact d.gq λe es k ks a u u h=>fI a λu u e1 u u=>by subst e1;exact nn h
theorem Jt{i:Int}:∀{vs:List MV} {es:List DictEntry} {ks:List MV} {r:Option MV},Cw V W es ks vs->qE ks vs (.I i)=aa r->L3 V W ((es.find? λe=>lw i e.key).map (·.val)) r
 |[],_,_,_,d,h=>by revert h;exact d.mX λh=>gA h ae
 |v::vs,_,_,r,q,h=>by
  revert h
  refine q.gq λe es k ks a d f h=>aV (a.is (i:=i)) λj e1 e2=>?_
  subst e1
  exact ON (b:=decide (j=i)) h e2 d (Jt f)
theorem j9.all{K:DictEntry->MV->Prop}{P:DictEntry->Prop}(hK:∀e k,K e k->P e):∀{vs:List MV} {es:List DictEntry} {ks:List MV},j9 V W K es ks vs->∀e∈es,P e
 |[],_,_,d=>d.mX (R:=λes u=>∀e∈es,P e) λu h=>nomatch h
 |_::_,_,_,d=>d.gq (R:=λes u=>∀e∈es,P e) λe r k s a u f q hm=>(bc.mp hm).elim (λz=>z▸hK _ _ a) (f.all hK q)
theorem QI(hP:V.P=w.params)(d:yw V W es ks vs):∀e∈es,∃k,(strKind prog w).is k e.key=ah/\e.hash=(strKind prog w).hash k:=
 d.all λe k a=>fI a λx t u a b=>⟨x,a▸kO prog w _ _,b.trans (congrArg (cS · x) hP)⟩
theorem QH(d:Cw V W es ks vs):∀e∈es,∃k,(intKind prog w).is k e.key=ah/\e.hash=(intKind prog w).hash k:=
 d.all λe k a=>sC a λj t u a b u=>⟨j,a▸beq_self_eq_true _,b⟩
theorem OY(hP:V.P=w.params){vs:List MV}(e:h.get? a=aa (dR es n))(d:yw V W es.toList ks vs):
  h.MapOf (strKind prog w) a (λk=>findBy gj es k):=rg _ es n ⟨e,⟨ae,ae,ae⟩,ae,λq hq=>QI hP d q (fY.mpr hq),λu=>ae⟩
theorem OX{vs:List MV}(e:h.get? a=aa (dR es n))(d:Cw V W es.toList ks vs):
  h.MapOf (intKind prog w) a (λk=>findBy lw es k):=rg _ es n ⟨e,⟨ae,ae,ae⟩,ae,λq hq=>QH d q (fY.mpr hq),λu=>ae⟩
theorem Dd(hx:x.cps.toList=l)(d:yw V W es.toList ks vs)(h:qE ks vs (.S l)=aa r):L3 V W (findBy gj es x) r:=by
 unfold findBy
 exact s8▸Ju hx d h
theorem Dc{i:Int}(d:Cw V W es.toList ks vs)(h:qE ks vs (.I i)=aa r):L3 V W (findBy lw es i) r:=by
 unfold findBy
 exact s8▸Jt d h
theorem EL{G:Prop}{k:MV}{es:Array DictEntry}{n:Nat}{ks vs:List MV}{r:Option MV}(hP:V.P=w.params)(hb:h.get? b=aa (dR es n))(qb:yw V W es.toList ks vs\/Cw V W es.toList ks vs)(rk:Rv V W a k)(hk:i9 k=ah)(hl:qE ks vs k=aa r)
  (g:∀{K:Type} [DecidableEq K] (knd:gi prog w K) (key:K) (f:K->Option Value),knd.is key a=ah->h.MapOf knd b f->L3 V W (f key) r->G):G:=by
 induction k using MV.casesOn with
 |S l=>
  refine rk.Ao λX t e e1 u=>qb.elim (λq=>g (strKind prog w) X _ (e▸kO prog w _ _) (OY hP hb q) (Dd e1 q hl)) λq=>?_
  have d:yw V W es.toList [] []:=(zg q hl).1.symm▸.nil
  exact g (strKind prog w) X _ (e▸kO prog w _ _) (OY hP hb d) ((zg q hl).2▸Dd e1 d ae)
 |I i=>
  refine rk.Dw λt e=>qb.elim (λq=>?_) λq=>g (intKind prog w) i _ (e▸beq_self_eq_true _) (OX hb q) (Dc q hl)
  have d:Cw V W es.toList [] []:=(zh q hl).1.symm▸.nil
  exact g (intKind prog w) i _ (e▸beq_self_eq_true _) (OX hb d) ((zh q hl).2▸Dc d ae)
 |_=>exact ft hk
end
end
section
open PySem PySem.W PySem.Calls PyProof.Rows PySem.Builtin
section
variable{V:Cfg}{W:Wd}{U:bN}{s:Shared}{prog:Program}{w:World}{A:Around}
theorem CJ(i:Int)(u:Tok):(asIndex (.int i u)).attempt=pure (.ok i):=by
 unfold asIndex
 rfl
theorem tS(b:Array UInt8)(t u:Tok)(i:Int)(h0:0<=i)(h1:i<256):Gives («bytes.__contains__» ⟨[.bytes b t,.int i u],[]⟩) (.val (.bool (b.contains i.toNat.toUInt8))):=by
 refine .of_wp λM A E s Q hq=>?_
 show wpAny M A (kM "bytes.__contains__" (.bytes b t) (.int i u)>>=λr=>_) _ E s
 unfold kM
 refine ak (CJ ..) ?_
 refine ai (ai (aw ?_))
 refine ai (bH lf ?_)
 dsimp only
 have hc:¬((decide (i<0)||decide (i>=256))=ah):=by simp;lia
 refine ak (if_neg hc) ?_
 exact aw (aw ⟨_,ae,hq⟩)
theorem zM{i:Int}(h0:0<=i)(h1:i<256):(i.toNat.toUInt8).toNat=i.toNat:=by
 refine ak Nat.toUInt8_eq (ak UInt8.toNat_ofNat' ?_)
 exact vp ((ug h0).mpr h1)
theorem sS{i:Int}(h0:0<=i)(h1:i<256):∀{b:List UInt8},b.contains i.toNat.toUInt8=cv i.toNat (b.map bp)
 |[]=>ae
 |x::r=>by
  have e:(i.toNat.toUInt8==x)=bo i.toNat x.toNat:=cG.mpr (beq_iff_eq.trans ⟨λe=>e▸(zM h0 h1).symm▸ez _,λhb=>lK.mp ((zM h0 h1).trans (aN hb))⟩)
  refine ak ti (ak bz ?_);rewrite[cv];refine ak e ?_
  cases bo i.toNat x.toNat with
  |true=>rfl
  |false=>exact sS h0 h1
theorem b7.bool(I:cV V W U s.heap)(b:Bool)(tk:Nat):b7 V W s (.B b) U (.bool b) {s with toks:=tk}:=b7.fc I (.bool b)
theorem b7.ju(I:cV V W U s.heap)(b:Bool):b7 V W s (.B b) U (.bool b) s:=b7.bool I b s.toks
theorem Sr [BEq α]{b:α}(e:(a==b)=k):(a !=b)= !k:=congrArg (!·) e
noncomputable def VZ(op op':CmpOp)(V:Cfg)(W:Wd)(U:bN)(s:Shared)(prog:Program)(w:World)(A:Around)(a b:Value)(k:Bool):Prop:=
 wpAny (model prog w) A (gL op a b) (b7 V W s (.B k) U) ci s/\wpAny (model prog w) A (gL op' a b) (b7 V W s (.B (!k)) U) ci s
theorem Za(hu:A.units+60<cLine)(I:cV V W U s.heap)(ra:Rv V W a x)(rb:Rv V W b y)(e1:cC U x=aa x')(e2:cC U y=aa y')(h:x'.eqv y'=aa k):VZ .Eq .NotEq V W U s prog w A a b k:=by
 have rows:JU x'=ah->VZ .Eq .NotEq V W U s prog w A a b k:=λhx=>
  sC (Jj (n:=59) (bG (aU _ _) hu) (λra rb h=>OH 59 (by show A.units+1+59<_;omega(config:={})) I ra rb h) I ra rb e1 e2 h hx) λv v v v r t=>⟨r prog w _ _ (b7.ju I _),t prog w _ _ (b7.ju I _)⟩
 induction x' using MV.casesOn with
 |I i=>
  induction y' using MV.casesOn with
  |I j=>exact jI I ra e1 λt=>jI I rb e2 λu=>gA h ⟨P.eq_int (b7.ju I _),P.ne_int (b7.ju I _)⟩
  |_=>exact nn h
 |S l=>
  induction y' using MV.casesOn with
  |S l'=>
   exact ml I ra e1 λX t q1 v v=>ml I rb e2 λY u q2 v v=>gA h (
    have e:(X.cps.toList==Y.cps.toList)=bn l l':=q1▸q2▸cG.mpr (beq_iff_eq.trans mW.symm)
    ⟨P.eq_str (ak e (b7.ju I _)),P.ne_str (ak (Sr e) (b7.ju I _))⟩)
  |_=>exact nn h
 |Y l=>
  induction y' using MV.casesOn with
  |Y l'=>
   exact eX I ra e1 λX t q1 v v=>eX I rb e2 λY u q2 v v=>gA h (
    have e:(X.toList==Y.toList)=bn l l':=uD q1 q2▸cG.mpr (beq_iff_eq.trans decide_eq_true_iff.symm)
    ⟨eq_bytes (ak e (b7.ju I _)),ne_bytes (ak (Sr e) (b7.ju I _))⟩)
  |_=>exact nn h
 |T l=>exact rows ae
 |L l=>exact rows ae
 |_=>exact nn h
end
section
inductive qI:Heap->Heap->Prop
 |refl (h₀:Heap):qI h₀ h₀
 |push {h₀ h₁:Heap} (o:Obj):qI h₀ h₁->qI h₀ (h₁.push o)
theorem qI.keep(g:qI h h'):∀{b o},h.get? b=aa o->h'.get? b=aa o:=by
 induction g with
 |refl=>exact λe=>e
 |push o g ih=>exact λe=>aF _ (ih e)
theorem b7.grown(I:cV V W U s.heap)(g:qI s.heap h')(r:Rv V W v m):b7 V W s m U v {s with heap:=h',toks:=tk}:=
 b7.kept I (λu u e=>g.keep e) r
theorem Ny{s:Shared}{A:Around}{E:Value->Shared->Prop}{msg:String}{Q:α->Shared->Prop}(hh:A.handled=ag)(hm:(msg:Str).length<=sizeLine)
  (h:∀h' tk e,qI s.heap h'->E (.ref e) {s with heap:=h',toks:=tk}):wpAny M A (qU "TypeError" msg:Sem α) Q E s:=by
 unfold qU
 refine ai (wpAny_mkStr (ai ?_) hm)
 unfold newExc newTuple
 refine ai (ct ?_)
 refine ai (m:=mJ _ _) (bH (a:=iJ) (by simp only[mJ,typeError_no_first];rfl) ?_)
 refine ak (ownMembersOf_TypeError ..) ?_
 refine ct ?_
 unfold raiseNew
 refine ai (wpAny_handled ?_)
 refine ak hh ?_
 first
  |refine wJ ?_
  |refine ai (aw (wJ ?_))
 exact h _ _ _ (.push _ (.push _ (.refl _)))
theorem wb:fE (.type "bytes") "__index__"=pure ag:=by refine ak (cc ..) (ak bw ?_);kernel_rfl
theorem Hu:sK n (.bytes b t)=pure "bytes":=by
 unfold sK
 kernel_rfl
theorem Ad(hh:A.handled=ag)
  (h:∀h' tk e,qI s.heap h'->Q (.error (.ref e)) {s with heap:=h',toks:=tk}):wpAny M A (asIndex (.bytes b t)).attempt Q E s:=by
 refine sN ?_
 have e:asIndex (.bytes b t)=qU "TypeError" ("'"++"bytes"++"' object cannot be interpreted as an integer"):=by
  unfold asIndex callSpecial?
  refine ak (KBy.special_eq wb) ?_
  show(sK 200 (.bytes b t)>>=λx=>_)=_
  refine ak Hu ?_
  rfl
 refine ak e ?_
 exact Ny hh (by refine ak lM ?_;decide+kernel) h
theorem lC(hh:A.handled=ag)
  (h:∀h' tk,qI s.heap h'->Q (.done (.ret (.bool (dw b c 0 b.size).isSome))) {s with heap:=h',toks:=tk}):wpAny M A («bytes.__contains__» ⟨[.bytes b t,.bytes c u],[]⟩) Q E s:=by
 show wpAny M A (kM "bytes.__contains__" (.bytes b t) (.bytes c u)>>=λr=>_) _ E s
 unfold kM
 refine ai (ai (Ad hh λh' tk e g=>?_))
 refine ai (bH lf ?_)
 dsimp only
 refine ai (bH lf ?_)
 exact ai (dU (aw (aw (h h' tk g))))
theorem y4(hh:A.handled=ag)
  (h:∀h' tk,qI s.heap h'->Q (.bool (dw b c 0 b.size).isSome) {s with heap:=h',toks:=tk}):wpAny (model prog w) A (gL .In (.bytes c u) (.bytes b t)) Q E s:=by
 show wpAny _ _ (do return .bool (<-contains (.bytes b t) (.bytes c u))) Q E s
 refine ai (sm (b6 s b t) c8 ?_)
 refine wpAny_call (qT c8.plain gG (c8.check _ _ _ _ _ _ _ _ (b6 s b t) (gk _ _) ?_))
 exact lC hh λh' tk g=>fh (aw (h h' tk g))
theorem uX(hh:A.handled=ag)
  (h:∀h' tk,qI s.heap h'->Q (.bool (!(dw b c 0 b.size).isSome)) {s with heap:=h',toks:=tk}):wpAny (model prog w) A (gL .NotIn (.bytes c u) (.bytes b t)) Q E s:=by
 show wpAny _ _ (do return .bool (!(<-contains (.bytes b t) (.bytes c u)))) Q E s
 refine ai (sm (b6 s b t) c8 ?_)
 refine wpAny_call (qT c8.plain gG (c8.check _ _ _ _ _ _ _ _ (b6 s b t) (gk _ _) ?_))
 exact lC hh λh' tk g=>fh (aw (h h' tk g))
theorem tT:∀{p l:List Nat},bA p l=decide (l.take p.length=p)
 |[],_=>(decide_eq_true qL).symm
 |_::_,[]=>(decide_eq_false λe=>nomatch e).symm
 |x::r,y::s=>by
  show(bo x y&&bA r s)=_
  refine ak (tT (p:=r)) ?_;rewrite[cG];refine ak (dF ..) ?_;rewrite[decide_eq_true_iff,decide_eq_true_iff]
  exact⟨λe=>(aN e.1)▸congrArg _ e.2,λe=>⟨(ij e).1▸ez _,(ij e).2⟩⟩
theorem AQ:∀{p l:List Nat},bA p l=ah->p.length<=l.length
 |[],_,_=>bD _
 |_::_,[],h=>ft h
 |_::_,_::_,h=>dH (AQ (aB h).2)
theorem Jq(h:bA (x::q) (y::r)=ah):dk (x::q) (y::r) n=aa n:=by rewrite[dk];exact ak h ae
theorem Da(h:bA (x::q) (y::r)=ac):dk (x::q) (y::r) n=dk (x::q) r (n+1):=by rewrite[dk];exact ak h ae
theorem uM(x:Nat)(q:List Nat):∀(l:List Nat) (n:Nat),dk (x::q) l n=((gh (l.length-q.length)).find? λi=>bA (x::q) (l.drop i)).map (· +n)
 |[],n=>by refine ak aC (ak (Nat.zero_sub ..) ?_);rfl
 |y::r,n=>by
  have ih:=uM x q r (n+1)
  rcases Nat.lt_or_ge r.length q.length with hl|hl
  ·refine ak (show(y::r).length-q.length=0 from kz hl) ?_
   cases hp:bA (x::q) (y::r)with
   |true=>exact absurd (gX (AQ hp)) (pJ.mpr hl)
   |false=>exact(Da hp).trans (ih.trans (by refine ak (kz (cZ hl)) ?_;rfl))
  ·refine ak (show(y::r).length-q.length=(r.length-q.length)+1 from Nat.succ_sub hl) (ak pH (ak (ib) (ak j1 ?_)))
   cases hp:bA (x::q) (y::r)with
   |true=>exact(Jq hp).trans (congrArg aa (eQ n).symm)
   |false=>
    refine(Da hp).trans (ih.trans ?_)
    refine ak (yf) (ak (Option.map_map ..) ?_)
    exact congrArg (hV · _) (funext λi=>(bt i 1 n).symm)
theorem yY:∀{l:List α},(∀x∈l,p x=q x)->l.find? p=l.find? q
 |[],_=>ae
 |x::r,h=>by exact ak (ib) (ak (ib) (ak (h x (.head _)) (ak (yY λy hy=>h y (.tail _ hy)) ae)))
theorem Zs{lo q:Nat}(h:i<hi-lo-q):q+1<=hi-(lo+i):=Nat.le_sub_of_add_le (ao (bV (by simp+arith only)) (Nat.add_lt_of_lt_sub (Nat.sub_sub .. ▸h:i<hi-(lo+q))))
theorem Jv{c:Array UInt8}{l p:List Nat}(e1:b.toList.map bp=l)(e2:c.toList.map bp=p)(hp:p≠[]){lo hi:Nat}(h1:lo<=hi)(h2:hi<=b.size):
  dw b c lo hi=dk p (cut l lo hi) lo:=by
 induction p using am with
 |nil=>exact absurd ae hp
 |cons x q=>
 have lp:c.size=q.length+1:=zD e2
 have lc:(cut l lo hi).length=hi-lo:=by unfold cut;exact ak fA (ak eK (ak (aZ (zD e1)) (ak (fX h2) ae)))
 refine ak (uM ..) (ak lc ?_)
 unfold dw
 refine ak (yf) (ak (show hi+1-(lo+c.size)=hi-lo-q.length from lp▸(Nat.add_sub_add_right hi 1 (lo+q.length)).trans (Nat.sub_sub ..).symm) ?_)
 refine congrArg (hV _) (yY λi hi'=>?_)
 refine ak tT ?_
 have k1:(Ar i (cut l lo hi)).take (q.length+1)=((b.extract (i+lo) (i+lo+c.size)).toList).map bp:=by
  unfold cut
  exact ak iE (ak fP (ak (bZ ..) (ak ob (ak sI (ak e1 (ak lp (ak ye (ak j0 (ak List.take_take (ak (fX (Zs (qK.mp hi'))) (ak (dn lo i) ae)))))))))))
 refine ak (show(x::q).length=q.length+1 from ae) (ak k1 (ak (aZ e2) ?_))
 exact cG.mpr (beq_iff_eq.trans (Iff.trans ⟨λe=>congrArg (CF _ ·.toList) e,λe=>iT.mp (toNat_inj e)⟩ decide_eq_true_iff.symm))
end
section
variable{V:Cfg}{W:Wd}{U:bN}{s:Shared}{prog:Program}{w:World}{A:Around}
theorem AM(hf:∀v m b,Rv V W v m->f m=aa b->b=E v/\ ∀A s,jC A s v a (E v)):∀{l:List MV} {vs:List Value} {b:Bool},cN V W vs l->rh f l=aa b->b=vs.any E/\ ∀A s y,y∈vs->jC A s y a (E y)
 |[],vs,b,r,h=>r.mX (R:=λvs=>b=vs.any E/\ ∀A s y,y∈vs->jC A s y a (E y)) ⟨(oi h).symm,λu u u q=>nomatch q⟩
 |m::l,vs,b,r,h=>r.gq (R:=λvs=>b=vs.any E/\ ∀A s y,y∈vs->jC A s y a (E y)) λv us q r=>gz h λx hx h=>rY (P:=λb=>b=(v::us).any E/\ ∀A s y,y∈v::us->jC A s y a (E y)) h λy hy=>
  have z:=hf _ _ _ q hx
  have t:=AM hf r hy
  ⟨z.1▸t.1▸sH.symm,λA s y hm=>(bc.mp hm).elim (λe=>e▸z.2 A s) (t.2 A s y)⟩
theorem AN{vs:Array Value}(ra:Rv V W a x)(r:cN V W vs.toList l)(h:Du x l=aa k):∃E:Value->Bool,k=vs.any E/\ ∀A s y,y∈vs->jC A s y a (E y):=by
 have fin:∀{f:MV->Option Bool} {E:Value->Bool},(∀v m b,Rv V W v m->f m=aa b->b=E v/\ ∀A s,jC A s v a (E v))->rh f l=aa k->∃E:Value->Bool,k=vs.any E/\ ∀A s y,y∈vs->jC A s y a (E y):=λhf h=>
  let t:=AM hf r h
  ⟨_,t.1.trans vi,λA s y hm=>t.2 A s y (fY.mpr hm)⟩
 induction x using MV.casesOn with
 |I i=>
  refine ra.Dw λt e=>fin (E:=lw i) (λv m b q h=>?_) h
  induction m using MV.casesOn with
  |I j=>exact q.jI λu=>⟨(oi h).symm,λA s=>e▸SeqAt.EqAt.int_int _ _ _ _⟩
  |_=>exact nn h
 |S l=>
  refine ra.Ao λX t e e1 w=>fin (E:=gj X) (λv m b q h=>?_) h
  induction m using MV.casesOn with
  |S k=>exact q.ml λY u e2 w=>⟨(oi h).symm.trans (t7 e2 e1).symm,λA s=>e▸(eqGives_str _ _ _ _).at A s⟩
  |_=>exact nn h
 |_=>exact nn h
theorem BE{b:Array UInt8}(e:b.toList.map bp=l){i:Int}(h0:0<=i)(h1:i<256):b.contains i.toNat.toUInt8=cv i.toNat l:=e▸(sS h0 h1).symm▸qv.symm
theorem Mv(e:n=l.length):cut l 0 n=l:=e▸iV
theorem Zb(hh:A.handled=ag)(hP:V.P=w.params)(I:cV V W U s.heap)(ra:Rv V W a x)(rc:Rv V W c y)(h:QA U x y=aa k):VZ .In .NotIn V W U s prog w A a c k:=by
 refine gz h λd e h=>?_
 induction d using MV.casesOn with
 |Y l=>
  refine eX I rc e λb t q n v=>?_
  induction x using MV.casesOn with
  |I i=>exact ra.jI λu=>gI h λz=>BE q (of_decide_eq_true (aB z).1) (of_decide_eq_true (aB z).2)▸
     have g:=tS b t u i (of_decide_eq_true (aB z).1) (of_decide_eq_true (aB z).2)
     ⟨in_gives (b6 s b t) c8 gG (gk _ _) g (b7.ju I _),notIn_gives (b6 s b t) c8 gG (gk _ _) g (b7.ju I _)⟩
  |Y p=>
   induction p using am with
   |nil=>exact nn h
   |cons p r=>
    refine ra.eX λb' t' e1 v=>gA h ?_
    refine ak (aZ (show(dw b b' 0 b.size).isSome=(dk (p::r) l 0).isSome by rw[Jv q e1 (λe=>nomatch e) (bD _) (bj _),Mv n])) ?_
    exact⟨y4 hh λh' tk g=>b7.grown I g (.bool _),uX hh λh' tk g=>b7.grown I g (.bool _)⟩
  |_=>exact nn h
 |T l=>exact zP I rc e λb vs n v hb qb v v=>aV (AN ra qb h) λE hk he=>hk▸⟨SeqAt.in_tupleAt _ (OO hb) (he _ _) (b7.ju I _),SeqAt.notIn_tupleAt _ (OO hb) (he _ _) (b7.ju I _)⟩
 |L l=>exact kH I rc e λb vs n hb qb v v=>aV (AN ra qb h) λE hk he=>hk▸⟨SeqAt.in_listAt _ (vX hb) (he _ _) (b7.ju I _),SeqAt.notIn_listAt _ (vX hb) (he _ _) (b7.ju I _)⟩
 |D ks vs=>
  refine wy (yO I rc e) λb es n e3_ hb qb zb lo=>?_
  subst e3_
  exact n6 h (λhk h=>rY h λr hl=>EL hP hb qb ra hk hl λknd key f h1 h2 h3=>h3.isSome▸⟨wpAny_in_of h1 lo h2 (b7.bool I _ _),wpAny_notIn_of h1 lo h2 (b7.bool I _ _)⟩) λv h=>nn h
 |_=>exact nn h
theorem rT(ra:Rv V W a x):(a==iJ)=isNone x/\plainIs a .none=ah:=by
 induction x using MV.casesOn with
 |N=>exact ra.qn ⟨ae,ae⟩
 |B=>exact ra.IR ⟨ae,ae⟩
 |I=>exact ra.jI λu=>⟨ae,ae⟩
 |S=>exact ra.ml λu u u u=>⟨ae,ae⟩
 |Y=>exact ra.eX λu u u u=>⟨ae,ae⟩
 |T=>exact ra.Aq λu u u e u u u=>e▸⟨ae,ae⟩
 |L=>exact ra.DK λu u u e u u u=>e▸⟨ae,ae⟩
 |D=>exact FE ra λu u u e u=>e▸⟨ae,ae⟩
 |O=>exact ra.objE λu u u u e u u u=>e▸⟨ae,ae⟩
 |R=>exact ra.Cg λu u e u=>e▸⟨ae,ae⟩
theorem GM{op:CmpOp}{y:MV}{k:Bool}(ra:Rv V W a x)(rc:Rv V W c y)(h:IY f x y=aa k)(g:∀i j t u,wpAny (model prog w) A (gL op (.int i t) (.int j u)) (b7 V W s (.B (f i j)) U) ci s):wpAny (model prog w) A (gL op a c) (b7 V W s (.B k) U) ci s:=by
 induction x using MV.casesOn with
 |I i=>
  induction y using MV.casesOn with
  |I j=>exact ra.jI λt=>rc.jI λu=>gA h (g i j t u)
  |_=>exact nn h
 |_=>exact nn h
theorem M3:(!decide ([q]<[p]))=cr p q:=by
 rewrite[cG];refine ak tq (ak (bK ..) ?_);rewrite[decide_eq_false_iff_not]
 exact⟨λh=>eA.mp λq=>h (qx.mpr (.inl q)),λh q=>(qx.mp q).elim (eA.mpr h) λq=>absurd q.2 (List.not_lt_nil _)⟩
theorem Xa{P:List Nat->List Nat->Bool->Prop}(h:Y1 x y=aa k)(g:∀p q,P [p] [q] (cr p q)):P x y k:=by
 induction x using am with
 |nil=>exact nn h
 |cons p x=>
  induction x using am with
  |cons=>exact nn h
  |nil=>
   induction y using am with
   |nil=>exact nn h
   |cons q y=>
    induction y using am with
    |cons=>exact nn h
    |nil=>exact gA h (g p q)
theorem sLe(I:cV V W U s.heap)(ra:Rv V W a x)(rc:Rv V W c y)(h:SF x y=aa k):wpAny (model prog w) A (gL .LtE a c) (b7 V W s (.B k) U) ci s:=by
 induction x using MV.casesOn with
 |I i=>exact GM (f:=λx y=>decide (x<=y)) ra rc h λv v v v=>P.le_int (b7.ju I _)
 |S x=>
  induction y using MV.casesOn with
  |S y=>exact Xa (P:=λx y k=>Rv V W a (.S x)->Rv V W c (.S y)->wpAny (model prog w) A (gL .LtE a c) (b7 V W s (.B k) U) ci s) h (λp q ra rc=>ra.ml λX t e1 v=>rc.ml λY u e2 v=>compareOp_gives (op:=.LtE) (tC s X t) (tC s Y u) F.slot_str_le F.entry_str_le (F.args_str_le_2 _ _) (gives_str_le X Y t u) (λe=>nomatch e) (by
     show b7 V W s _ U (.bool (!decide (Y.cps.toList<X.cps.toList))) s
     refine ak e1 (ak e2 (ak M3 ?_))
     exact b7.ju I _)) ra rc
  |_=>exact nn h
 |_=>exact nn h
theorem Rf{op:Cp}{x y:MV}{k:Bool}(hu:A.units+60<cLine)(hh:A.handled=ag)(hP:V.P=w.params)(I:cV V W U s.heap)(ra:Rv V W a x)(rc:Rv V W c y)(h:nV U op x y=aa k):
  wpAny (model prog w) A (gL (V7 op) a c) (b7 V W s (.B k) U) ci s:=by
 induction op using Cp.casesOn with
 |e=>exact gz h λu e1 h=>gz h λu e2 h=>(Za hu I ra rc e1 e2 h).1
 |n=>exact rY h λk h=>gz h λu e1 h=>gz h λu e2 h=>(Za hu I ra rc e1 e2 h).2
 |l=>exact GM ra rc h λu u u u=>P.lt_int (b7.ju I _)
 |k=>exact sLe I ra rc h
 |g=>exact GM ra rc h λu u u u=>P.gt_int (b7.ju I _)
 |h=>exact GM ra rc h λu u u u=>P.ge_int (b7.ju I _)
 |i=>
  induction y using MV.casesOn with
  |N=>exact rc.qn (gA h (wpAny_is_plain (rT ra).2 (ak (rT ra).1 (b7.ju I _))))
  |_=>exact nn h
 |j=>
  induction y using MV.casesOn with
  |N=>exact rc.qn (gA h (wpAny_isNot_plain (rT ra).2 (ak (rT ra).1 (b7.ju I _))))
  |_=>exact nn h
 |a=>exact(Zb hh hP I ra rc h).1
 |b=>exact rY h λk h=>(Zb hh hP I ra rc h).2
end
section
theorem zr{i:Int}(h:A6 n i=aa j):vx i n=aa j/\j<n/\ -(n:Int)<=i/\i<n:=
 n6 h (λhd h=>gI h λhh=>
  have hi:i<0:=of_decide_eq_true hd
  have hh:0<=i+n:=of_decide_eq_true hh
  have hl:i+n<n:=mB (Int.add_lt_add_right hi n) (Int.le_of_eq (uh _))
  ⟨ak (P:=λj:Int=>(if(decide (0<=j)&&decide (j<n))=ah then aa j.toNat else ag)=_) (if_pos hi) (if_pos (eV.mpr ⟨decide_eq_true hh,decide_eq_true hl⟩)),(ug hh).mpr hl,Int.zero_sub n▸Int.sub_right_le_of_le_add hh,mB hi (cw n)⟩) λhd h=>gI h λhh=>
  have hi:¬i<0:=of_decide_eq_false hd
  have hh:i<n:=of_decide_eq_true hh
  have hl:=gW.mp hi
  ⟨ak (P:=λj:Int=>(if(decide (0<=j)&&decide (j<n))=ah then aa j.toNat else ag)=_) (if_neg hi) (if_pos (eV.mpr ⟨decide_eq_true hl,decide_eq_true hh⟩)),(ug hl).mpr hh,gV (Int.neg_nonpos_of_nonneg (cw n)) hl,hh⟩
@[elab_as_elim]theorem MR{V:Cfg}{W:Wd}{l:List α}{i:Value}{y:MV}{c:α}{P:Value->Prop}(ri:Rv V W i y)(h:Dt l y=aa c)(k:∀k t j,vx k l.length=aa j-> -(l.length:Int)<=k->k<l.length->l[j]?=aa c->P (.int k t)):P i:=by
  induction y using MV.casesOn with
  |I k0=>exact ri.jI λt=>gz h λj hj hc=>k k0 t j (zr hj).1 (zr hj).2.2.1 (zr hj).2.2.2 hc
  |_=>exact nn h
theorem DA{k:Int}(z:bX n=ah)(a: -(n:Int)<=k)(b:k<n): -(2^63:Int)<=k/\k<2^63:=⟨gV (Int.neg_le_neg (lT (Uf ae z))) a,Int.lt_trans b (Uf ae z)⟩
theorem UG{k r:Int}(p:vx k n=aa j)(e:(if k<0 then k+n else k)=r):r.toNat=j:=by
 have p:(if(decide (0<=r)&&decide (r<n))=ah then aa r.toNat else ag)=aa j:=(congrArg (λj:Int=>if(decide (0<=j)&&decide (j<n))=ah then aa j.toNat else ag) e).symm.trans p
 by_cases c:(decide (0<=r)&&decide (r<n))=ah
 ·exact oi ((if_pos c).symm.trans p)
 ·exact nn ((if_neg c).symm.trans p)
theorem NJ(hP:V.P=w.params)(I:cV V W U s.heap)(ro:Rv V W o x)(ri:Rv V W i y)(h:fi U x y=aa m):
  wpAny (model prog w) A (getItem o i) (b7 V W s m U) ci s:=by
 refine gz h λd e h=>?_
 induction d using MV.casesOn with
 |Y l=>
  refine eX I ro e λb t q n z=>rY h λc hc=>MR ri hc λk u j p1 p3 p4 hd=>?_
  have hu:b[j]?=aa (wK c)/\(wK c).toNat=c:=by
   rw[<-q,dm,b5]at hd
   refine aV (cj.mp hd) λu hu e2_=>?_
   subst e2_
   refine ak UInt8.ofNat_toNat ?_
   exact⟨hu,ae⟩
  exact getItem_gives (b6 s _ t) (by decide) qD pP (o9 _ _) (gives_bytes_getitem _ k t u (wK c) (eV.mpr ⟨decide_eq_true (DA z p3 p4).1,decide_eq_true (DA z p3 p4).2⟩) (by refine ak n (ak p1 ?_);exact hu.1)) (hu.2.symm▸b7.int I _ _ _)
 |S l=>
  refine ml I ro e λb t q n z=>rY h λc hc=>MR ri hc λk u j p1 p3 p4 hd=>getItem_str (c:=c) ?_ ?_ (b7.fc I (.str ae ae))
  ·exact dt.mpr ⟨decide_eq_false (gW.mpr (DA z p3 p4).1),decide_eq_false (Int.not_le.mpr (DA z p3 p4).2)⟩
  ·exact(congrArg (λm=>(vx k m).bind λj=>b.cps[j]?) (n:b.cps.size=l.length)).trans ((congrArg (λo=>lr o λj=>b.cps[j]?) p1).trans (b5.symm.trans (q▸hd)))
 |T l=>
  refine zP I ro e λb vs n g hb qb nb zb=>MR ri h λk u j p1 p3 p4 hc=>?_
  refine aV (qb.at hc) λv hv rv=>?_
  exact getItem_tuple (OO hb) (DA zb p3 p4).1 (DA zb p3 p4).2 (by refine ak nb ?_;exact p1) (b5.symm.trans hv) (b7.fc (tk:=s.toks) I rv)
 |L l=>
  refine kH I ro e λb vs n hb qb nb zb=>MR ri h λk u j p1 p3 p4 hc=>?_
  refine aV (qb.at hc) λv hv rv=>?_
  have hv:=b5.symm.trans hv
  by_cases hk:k<0
  ·exact wpAny_getItem_list_neg (vX hb) hk (nb▸p3) (DA zb p3 p4).1 (by refine ak nb ?_;exact UG p1 (if_pos hk)▸hv) (b7.fc (tk:=s.toks) I rv)
  ·exact wpAny_getItem_list (vX hb) (gW.mp hk) (DA zb p3 p4).2 (UG p1 (if_neg hk)▸hv) (b7.fc (tk:=s.toks) I rv)
 |D ks vs=>
  refine wy (yO I ro e) λb es n e3_ hb qb zb lo=>?_
  subst e3_
  exact n6 h (λhk h=>gz h λr hl h=>EL hP hb qb ri hk hl λknd key f h1 h2 h3=>aV (h▸h3:L3 V W _ (some m)) λv hv rv=>wpAny_getItem_of h1 h2 hv (b7.fc I rv)) λg h=>nn h
 |_=>exact nn h
end
section
variable{s:Shared}{prog:Program}{w:World}{A:Around}
theorem IX(n:Nat)(i:Int):yN n i=clipAt n i:=ae
theorem yD(r:Rv V W v a)(e:PX n d a=aa k):∃p,IsPart v p/\k=p.elim d (clipAt n):=by
 induction a using MV.casesOn with
 |N=>exact r.qn (gA e ⟨ag,.none,ae⟩)
 |I i=>exact r.jI λt=>gI e λu=>⟨aa i,.int i t,IX n i⟩
 |_=>exact nn e
theorem EJ(l:List α)(a b:Nat):cut l a b=(l.drop a).take (b-a):=j0
theorem Ah(l:List α)(a b:Nat):(cut l a b).length<=l.length:=by
 unfold cut
 refine ak fA ?_
 exact ao (Nat.sub_le _ _) (List.length_take_le' ..)
theorem cN.take:∀{l:List MV} {vs:List Value},cN V W vs l->∀n,cN V W (vs.take n) (l.take n)
 |_,_,_,0=>.nil
 |[],_,r,_+1=>r.mX (R:=λvs=>cN V W (vs.take _) _) .nil
 |_::_,_,r,n+1=>r.gq (R:=λvs=>cN V W (vs.take (n+1)) _) λu u a b=>.cons a (cN.take b n)
theorem cN.drop:∀{l:List MV} {vs:List Value},cN V W vs l->∀n,cN V W (vs.drop n) (l.drop n)
 |_,_,r,0=>r
 |[],_,r,_+1=>r.mX (R:=λvs=>cN V W (vs.drop _) _) .nil
 |_::_,_,r,n+1=>r.gq (R:=λvs=>cN V W (vs.drop (n+1)) _) λu u u b=>cN.drop b n
theorem cN.cut(r:cN V W vs l)(a b:Nat):cN V W (cut vs a b) (cut l a b):=(r.take b).drop a
theorem Am(items:Array Value)(lo hi:Option Int):slicePick items lo hi ag=(cut items.toList (lo.elim 0 (clipAt items.size)) (hi.elim items.size (clipAt items.size))).toArray:=by
 unfold slicePick
 refine ak (sliceBounds_plain ..) ?_
 simp only[sliceRange_one,pick_run,EJ]
theorem Hf{n:Nat}:i6 ag hi 1 (n:Int)=(0,((hi.elim n (clipAt n):Nat):Int)):=by
 unfold i6
 induction hi using bg with
 |none=>rfl
 |some i=>
  show(_,_)=_
  refine congrArg (Prod.mk _) ?_
  rewrite[Option.elim];refine ak (clipAt_cast ..) ?_
  show(if i<0 then max (i+(n:Int)) (if(1:Int)<0 then-1 else 0)else min i (if(1:Int)<0 then(n:Int)-1 else n))=_
  rw[if_neg (by decide:¬(1:Int)<0),if_neg (by decide:¬(1:Int)<0)]
  have n0:=cw n
  by_cases hi:i<0
  ·exact ak (if_pos hi) (ak (if_pos hi) ((Int.max_comm ..).trans (congrArg (max 0 ·) (qg (gV (Int.add_le_add_right (lT hi) n) (Int.le_of_eq (uh _)))).symm)))
  ·exact ak (if_neg hi) (ak (if_neg hi) (iU (Int.le_min.mpr ⟨gW.mp hi,n0⟩)).symm)
theorem H4(k:Nat):fR 0 (k:Int) 1=k:=by
 unfold fR
 refine ak (if_pos (by decide)) ?_
 by_cases hk:(0:Int)<k
 ·refine ak (if_pos hk) (ak (Int.ediv_one ..) ?_);lia
 ·refine ak (if_neg hk) ?_;lia
theorem xz{v:Value}{hi:Option Int}{Q:Int×Int×Nat->Shared->Prop}(hs:s.heap.IsSliceOf sl .none v .none)(hv:IsPart v hi)(h:Q (0,1,hi.elim n (clipAt n)) s):
  wpAny (model prog w) A (mG (.ref sl) (pure (n:Int))) Q ci s:=by
 refine jl (id hs) λos hos hcs hds=>?_
 unfold mG Builtin.Slice.sliceFields
 refine ai (ai (cA hos hds (x:=.none) ae (ai (cA hos hds (x:=v) ae (ai (cA hos hds (x:=.none) ae (aw ?_)))))))
 refine ai (qP ?_)
 show wpAny _ _ (if((1:Int)==0)=ah then _ else _) _ _ s
 refine ak (if_neg (by decide)) ?_
 have fin:wpAny (model prog w) A (match i6 ag hi 1 (n:Int)with|(lo,hi)=>pure (lo,(1:Int),fR lo hi 1)) Q ci s:=by
  refine ak Hf ?_
  show wpAny _ _ (pure ((0:Int),(1:Int),fR 0 ((hi.elim n (clipAt n):Nat):Int) 1)) _ _ _
  refine ak (H4 ..) ?_
  exact aw h
 refine ai (qP (ai ?_))
 cases hv with
 |none=>exact qP (ai (aw fin))
 |int i t=>exact slicePart_int (ai (aw fin))
theorem Nq(xs:Array Value)(k:Nat):((gh k).filterMap λ(j:Nat)=>xs[((0:Int)+(j:Int)*1).toNat]?).toArray=(xs.toList.take k).toArray:=by
 refine ak (show(λ(j:Nat)=>xs[((0:Int)+(j:Int)*1).toNat]?)=λj=>xs[0+j]? from funext λj=>congrArg (xs[·]?) (by rw[Int.mul_one,uh,eQ];rfl)) ?_
 have:=pick_run xs 0 k
 rw[List.filterMap_map,j1]at this
 exact congrArg _ this
theorem D7{items:Array Value}{k:Nat}{v:Value}{hi:Option Int}{Q:Value->Shared->Prop}(ht:s.heap.get? t=aa (mn items n))(hs:s.heap.IsSliceOf sl .none v .none)(hv:IsPart v hi)(hk:k=hi.elim items.size (clipAt items.size))
  (h1:k=items.size->Q (.ref t) s) (h:Q (.ref s.heap.objs.size) {s with heap:=s.heap.push (mn (items.toList.take k).toArray 0)})
  (hsz:items.size<=sizeLine):wpAny (model prog w) A (getItem (.ref t) (.ref sl)) Q ci s:=by
 have hT:IsTup s.heap t items:=⟨_,ht,ae,_,ae⟩
 have hto:sizeOk (.seq (items.toList.take k).toArray):=by
  show(items.toList.take k).toArray.size<=sizeLine
  exact ak j2 (ak eK (ak bB (ao (Nat.min_le_right ..) hsz)))
 refine jl (id hs) λos hos hcs hds=>?_
 have hTs:s.TypeIs (.ref sl) "slice":=⟨os,hos,hcs⟩
 unfold getItem
 try with_reducible refine cb ?_
 first|refine ai (aw ?_)|skip
 refine ai (wpAny_sequenceKey hT.typeIs (by decide) ?_)
 refine ai (fg (name:=aJ "__getitem__") hT.typeIs slot_tuple_getitem
  (dZ slot_tuple_getitem hT.typeIs entry_tuple_getitem ?_ (args_tuple_getitem _ _)))
 show wpAny _ _ (Builtin.Tuple.tupleItemsOf (.ref t)>>=_) _ _ s
 refine ai (tupleItemsOf_ hT ?_)
 refine ai (eD hTs ?_)
 refine ak (if_pos (by decide)) ?_
 refine ai (xz hs hv ?_)
 refine ak (aZ hk) ?_
 show wpAny _ _ (if((0:Int)==0&&(1:Int)==1&&k==items.size)=ah then _ else _) _ _ s
 by_cases hw:k=items.size
 ·refine ak (if_pos (by rw[hw];simp)) ?_
  unfold Builtin.Tuple.tupleIsExact
  refine ai (ai (eD hT.typeIs (aw ?_)))
  refine ak (if_pos (by decide)) ?_
  first
   |exact ai (dU (ai (aw ⟨_,rfl,aw (h1 hw)⟩)))
   |exact ai (dU (aw ⟨_,ae,aw (h1 hw)⟩))
   |exact ai (dU (ai (aw (aw ⟨_,rfl,aw (h1 hw)⟩))))
 ·refine ak (if_neg (by simp;exact hw)) (ak (Nq items k) ?_)
  first
   |exact ai (m:=eR _) (ct (aw ⟨_,ae,aw h⟩) hto)
   |exact ai (m:=eR _) (ct (ai (aw (aw ⟨_,rfl,aw h⟩))) hto)
   |exact ai (ai (m:=eR _) (ct (aw (aw ⟨_,rfl,aw h⟩)) hto))
end
section
@[elab_as_elim]theorem IQ{V:Cfg}{W:Wd}{n:Nat}{vl vu:Value}{a b:MV}{f:Nat->Nat->α}{m:α}{P:α->Prop}(rl:Rv V W vl a)(ru:Rv V W vu b)(h:EC n a b f=aa m)(k:∀p1 p2,IsPart vl p1->IsPart vu p2->P (f (p1.elim 0 (clipAt n)) (p2.elim n (clipAt n)))):P m:=
  gz h λx hx h=>rY h λy hy=>aV (yD rl hx) λp1 h1 e1=>aV (yD ru hy) λp2 h2 e2=>e1▸e2▸k p1 p2 h1 h2
theorem I7(z:bX l.length=ah)(a b:Nat):bX (cut l a b).length=ah:=km (ao (Ah l a b) (gb z))
theorem Zt(b2:b<=l)(c:b-a=l):b=l/\(a=0\/l=0):=
 have e:b=l:=qi b2 (c▸Nat.sub_le b a)
 ⟨e,(Nat.eq_zero_or_pos l).elim .inr λhl=>.inl (Nat.eq_zero_of_not_pos λha=>absurd (e▸c:l-a=l) (gZ (Nat.sub_lt hl ha)))⟩
theorem AE(b1:a<=l.length)(b2:b<=l.length)(c:b-a=l.length):cut l a b=l:=by
 refine gQ (Zt b2 c) λe0_ w=>?_
 subst e0_
 unfold cut
 refine ak iV ?_
 rcases w with w|w
 ·exact ak w (ak j1 ae)
 ·exact ak (cW w) (ak List.drop_nil ae)
theorem Lu(lo hi:Option Int)(n:Nat):iy lo hi 1 n=(gh (hi.elim n (clipAt n)-lo.elim 0 (clipAt n))).map (lo.elim 0 (clipAt n)+ ·):=by
 refine ak (aZ (sliceRange_one ..)) ?_
 unfold iy
 induction lo using bg<;>induction hi using bg<;>simp[clipAt_cast]
theorem F6(n d:Nat)(hd:d<=n)(o:Option Int):o.elim d (clipAt n)<=n:=
 bg (motive:=λo=>o.elim d (clipAt n)<=n) o hd λu=>Int.toNat_le.mpr (Int.max_le.mpr ⟨cw n,Int.min_le_right _ _⟩)
theorem DV(h:IsPart v p):∃q:Option (Int×Tok),v=partValue q/\q.map (·.1)=p:=by
 cases h with
 |none=>exact⟨ag,ae,ae⟩
 |int i t=>exact⟨aa (i,t),ae,ae⟩
theorem Rj(I:cV V W U s.heap)(ro:Rv V W o x)(rl:Rv V W vl a)(ru:Rv V W vu b)(hs:s.heap.IsSliceOf sl vl vu .none)(h:uQ U x a b=aa m):
  wpAny (model prog w) A (getItem o (.ref sl)) (b7 V W s m U) ci s:=by
 refine gz h λd e h=>?_
 induction d using MV.casesOn with
 |Y l=>
  refine eX I ro e λB t q n z=>IQ rl ru h λp1 p2 hp1 hp2=>?_
  have e2:(KBy.picked B p1 p2).toList.map bp=cut l (p1.elim 0 (clipAt l.length)) (p2.elim l.length (clipAt l.length)):=by
   refine ak (KBc.picked_eq ..) (ak (EJ ..) (ak n (ak (aZ q) ?_)))
   show CF _ (List.take _ (Ar _ _))=_
   exact ak ob (ak sI ae)
  exact getItem_meets (b6 _ _ _) (by decide) qD pP (o9 _ _) (KBc.meets_slice2 B t _ hp1 hp2) ⟨hs,fL (zD e2) (I7 z _ _),λt' k=>b7.fc I (.bytes e2 (I7 z _ _))⟩
 |S l=>
  refine ml I ro e λY t q ll z=>IQ rl ru h λp1 p2 hp1 hp2=>aV (DV hp1) λq1 e1 hq1=>aV (DV hp2) λq2 e2 hq2=>?_
  subst e1 e2
  refine wpAny_getItem_str_slice (st:=ag) (by refine jl hs λso e1 e2 e3=>?_;exact⟨so,e1,e2,e3⟩) ae ?_
  have pk:qW Y q1 q2 ag=(gh (p2.elim l.length (clipAt l.length)-p1.elim 0 (clipAt l.length))).map (p1.elim 0 (clipAt l.length)+ ·):=by
   unfold qW
   refine ak hq1 (ak hq2 ?_)
   show iy p1 p2 1 Y.cps.size=_
   refine ak (Lu ..) ?_
   exact ll▸ae
  have got:(qW Y q1 q2 ag).filterMap (Y.cps[·]?)=cut l (p1.elim 0 (clipAt l.length)) (p2.elim l.length (clipAt l.length)):=by
   exact ak pk (ak (pick_run ..) (ak (EJ ..) (ak q ae)))
  have zc:=I7 z (p1.elim 0 (clipAt l.length)) (p2.elim l.length (clipAt l.length))
  unfold sliceMade
  by_cases c:((((ag:Option (Int×Tok)).map (·.1)).getD 1==1&&(qW Y q1 q2 ag).length==Y.length)=ah)
  ·refine ak (if_pos c) ?_
   have c2:=eq_of_beq (eV.mp c).2
   rw[pk,au,List.length_range,ll]at c2
   refine ak (AE (F6 l.length 0 (bD _) p1) (F6 l.length l.length (bj _) p2) c2) ?_
   exact b7.fc (tk:=s.toks) I (.str q z)
  ·refine ak (if_neg c) ?_
   refine⟨?_,b7.fc I (.str got zc)⟩
   show(List.filterMap _ _).toArray.size<=_
   refine ak j2 (ak got (ak lM ?_))
   exact gb zc
 |T l=>
  refine zP I ro e λB vs n ro hb qb nb zb=>?_
  induction a using MV.casesOn with
  |N=>
   obtain rfl:vl= .none:=rl
   refine rY h λk2 h2=>?_
   refine aV (yD ru h2) λp2 hp2 e2_=>?_
   subst e2_
   refine D7 hb hs hp2 ae (λhw=>?_) ?_ (fL nb zb)
   ·rw[nb]at hw
    refine ak (AE (bD _) (bV hw) hw) ?_
    exact b7.fc (tk:=s.toks) I ro
   ·refine ak nb ?_
    exact b7.tuple (tk:=s.toks) I (qb.cut 0 (p2.elim l.length (clipAt l.length))) (I7 zb _ _)
  |_=>exact nn h
 |L l=>
  refine kH I ro e λB vs n hb qb nb zb=>IQ rl ru h λp1 p2 hp1 hp2=>wpAny_getItem_list_slice (vX hb) hs hp1 hp2 .none (by simp) ?_ (fL nb zb)
  refine ak (Am ..) (ak nb ?_)
  exact b7.list (n:=0) (tk:=s.toks) I (qb.cut _ _) (I7 zb _ _)
 |_=>exact nn h
end
section
variable{U U':bN}{s:Shared}
noncomputable abbrev VY(s:Shared)(x:α)(U U':bN)(y:α)(s':Shared):Prop:=y=x/\U'=U/\ ∃tk,s'={s with toks:=tk}
theorem neA{vs:Array Value}(e:vs.size=l.length):(!vs.isEmpty)=VN l:=by
 show(!decide (vs.size=0))=_
 refine ak e ?_
 induction l using am<;>rfl
theorem NM(I:cV V W U s.heap)(r:Rv V W v x)(h:bh (aa (x,U))=aa (b,U')):
  wpAny (model prog w) A (truthy v) (VY s b U U') ci s:=by
 refine gz (o:=cC U x) h λc e h=>Q3 h λh=>?_
 have d:=I.dv r e
 induction c using MV.casesOn with
 |B b=>exact ak (show v= .bool b from d) (gA h (fh ⟨ae,ae,s.toks,ae⟩))
 |S l=>
  refine ml I r e λx t q n z=>gA h (P.truthy_str (by refine ak n ?_;have:=gb z;lia) ⟨?_,ae,_,ae⟩)
  refine ak n ?_
  induction l using am<;>first|rfl|simp[VN]
 |L l=>exact kH I r e λa vs n ha q nb z=>gA h (wpAny_truthy_list (vX ha) (Uf nb z) ⟨neA nb,ae,_,ae⟩)
 |_=>exact nn h
end
end
section
open PySem PySem.W PySem.Calls PyProof PyProof.Rows PySem.Builtin
section
theorem Hv:∀(k n f:Nat) (acc:List Char),n<10^(k+1)->n<f->(gD 10 f n acc).map mA=oq (k+1) n (acc.map mA):=by
 have dc:∀d,d<10->(Nat.digitChar d).toNat=48+d:=by decide
 have lo:∀{k n f acc},n<10->(gD 10 (f+1) n acc).map mA=oq (k+1) n (acc.map mA):=λ{k n f acc} h=>by
  unfold gD oq
  simp only[Nat.div_eq_of_lt h,vp h,(yh).mpr h,if_true,bz,dc n h]
 intro k
 induction k with
 |zero=>exact λn f acc hn hf=>cX (motive:=λf=>n<f->(gD 10 f n acc).map mA=_) f (λh=>nomatch h) (λf u=>lo hn) hf
 |succ k ih=>
  intro n f acc hn hf
  induction f using cX with
  |zero=>nomatch hf
  |succ f=>
  by_cases hb:n<10
  ·exact lo hb
  ·have h1:=eA.mp hb
   unfold gD oq
   simp only[eP (Nat.div_pos h1 (by decide)),fZ.mpr λq=>hb ((yh).mp q),if_false]
   refine ak (ih (n/10) f _ (Nat.div_lt_of_lt_mul (Nat.mul_comm .. ▸hn)) (bW (Nat.div_lt_self (bW (by decide) h1) (by decide)) (Nat.le_of_lt_succ hf))) ?_
   exact ak bz (ak (dc _ (mF _ (by decide))) ae)
theorem BP:∀{l:List MV} {vs:List Value} {ns:List Int},cN V W vs l->oy l=aa ns->∃xs:List (Int×Tok),vs=xs.map (λp=>.int p.1 p.2)/\xs.map (·.1)=ns
 |[],vs,ns,r,h=>gA h (r.mX (R:=λvs=>∃xs:List (Int×Tok),vs=xs.map (λp=>.int p.1 p.2)/\xs.map (·.1)=[]) ⟨[],ae,ae⟩)
 |m::l,vs,ns,r,h=>by
  induction m using MV.casesOn with
  |I i=>exact rY h λns h2=>r.gq λv us a b=>a.jI λt=>aV (BP b h2) λxs e1 e2=>⟨(i,t)::xs,congrArg (_:: ·) e1,congrArg (i:: ·) e2⟩
  |_=>exact nn h
theorem ot(xs:List (Int×Tok)):intItems xs.toArray=(xs.map λp=>Value.int p.1 p.2).toArray:=by simp[intItems]
theorem Gg:∀xs:List (Int×Tok),IntsAre (xs.map λp=>.int p.1 p.2) (xs.map (·.1))
 |[]=>.nil
 |x::r=>.cons _ _ (Gg r)
theorem uB:∀{l:List MV} {b:List Nat},uA l=aa b->∃ns:List Int,oy l=aa ns/\(∀n∈ns,0<=n/\n<256)/\b=ns.map rH
 |[],b,h=>gA h ⟨[],ae,(λu h=>nomatch h),ae⟩
 |m::r,b,h=>by
  induction m using MV.casesOn with
  |I i=>
   refine n6 h (λz h=>rY h λb h2=>?_) λu h=>nn h
   refine jl (uB h2) λns e hn e3_=>?_
   subst e3_
   exact⟨i::ns,congrArg (hV (i:: ·)) e,λn hm=>(bc.mp hm).elim (λq=>q▸⟨of_decide_eq_true (aB z).1,of_decide_eq_true (aB z).2⟩) (hn n),ae⟩
  |_=>exact nn h
theorem Eh:∀(l:List Int) (a:Int),l.foldl (· + ·) a=a+l.sum
 |[],a=>(uc a).symm
 |x::r,a=>by refine ak jx ?_;rewrite[Eh r];exact ak List.sum_cons (ak (Int.add_assoc ..) ae)
noncomputable def B3(l:List Int)(a:Int):Int:=l.foldl (λa b=>pick (decide (a<b)) b a) a
theorem Np(a b:Int):a<=pick (decide (a<b)) b a/\b<=pick (decide (a<b)) b a/\(pick (decide (a<b)) b a=b\/pick (decide (a<b)) b a=a):=by
 by_cases q:a<b
 ·exact decide_eq_true q▸⟨lT q,wz _,.inl ae⟩
 ·exact decide_eq_false q▸⟨wz _,gW.mp q,.inr ae⟩
theorem uV:∀(l:List Int) (a:Int),B3 l a∈a::l/\ ∀x∈a::l,x<=B3 l a
 |[],a=>⟨.head _,λx hx=>(bF.mp hx)▸wz _⟩
 |b::r,a=>
  have⟨p1,p2,p3⟩:=Np a b
  have⟨h1,h2⟩:=uV r (pick (decide (a<b)) b a)
  have i0:=h2 _ (.head _)
  ⟨(bc.mp h1).elim (λh=>p3.elim (λe=>.tail _ (bc.mpr (.inl (h.trans e)))) λe=>bc.mpr (.inl (h.trans e))) λh=>.tail _ (.tail _ h),
    λx hx=>(bc.mp hx).elim (λe=>gV (e▸p1) i0) λhx=>(bc.mp hx).elim (λe=>gV (e▸p2) i0) λhx=>h2 _ (.tail _ hx)⟩
end
noncomputable def Bi.val:Bi->Value
 | .l=>.builtin "len"
 | .y=>.type "bytes"
 | .t=>.type "tuple"
 | .i=>.type "list"
 | .d=>.type "dict"
 | .s=>.type "str"
 | .n=>.type "int"
 | .a=>.builtin "abs"
 | .u=>.builtin "sum"
 | .c=>.builtin "chr"
 | .o=>.builtin "ord"
 | .m=>.builtin "min"
 | .x=>.builtin "max"
 | .r=>.builtin "sorted"
 | .z=>.none
section
theorem XT(I:cV V W U s.heap)(r:Rv V W v x)(e:cC U x=aa c)(h:TU c=aa m):wpAny (model prog w) A (call (.builtin "len") [v]) (b7 V W s m U) ci s:=by
 induction c using MV.casesOn with
 |Y l=>exact eX I r e λX t q n z=>gA h (PySem.W.len_bytes (n40 n z) (n▸b7.fc I (.int _ _)))
 |S l=>exact ml I r e λX t q n z=>gA h (P.len_str (YU n z) (n▸b7.fc I (.int _ _)))
 |T l=>exact zP I r e λa vs n u ha q nb z=>gA h (P.len_tuple ha (YU nb z) (nb▸b7.fc I (.int _ _)))
 |L l=>exact kH I r e λa vs n ha q nb z=>gA h (call_len_list (vX ha) (Uf nb z) (nb▸b7.fc I (.int _ _)))
 |_=>exact nn h
theorem CT(hn:∀n∈ns,0<=n/\n<256):(byteArr ns).toList.map bp=ns.map rH:=by
 unfold byteArr
 refine ak bx ?_
 exact gw λn hm=>zM (hn n hm).1 (hn n hm).2
theorem NG(I:cV V W U s.heap)(hh:A.handled=ag)(r:Rv V W v x)(e:cC U x=aa (.L l))(h:(uA l).bind R2=aa m):wpAny (model prog w) A (call (.type "bytes") [v]) (b7 V W s m U) ci s:=by
 refine gz h λb hb h=>gI h λz=>kH I r e λa vs n q k nb z'=>?_
 refine jl (uB hb) λns hi hn e3_=>?_
 subst e3_
 refine aV (BP k hi) λxs hv e2_=>?_
 subst e2_
 exact call_bytes_ints (vs:=vs.toList) (vX q) (hv▸Gg xs) hn (fL (bB.trans nb) z') hh λh' t tk hk=>b7.kept I hk (.bytes (CT hn) z)
theorem Lr(hn:n<1000000):(aJ (toString (aD n))).cps.toList=oq 8 n []:=by
 show(aJ (Nat.repr n)).cps.toList=_
 refine ak (aZ (show(gD 10 (n+1) n []).map mA=oq 8 n [] from Hv 7 n (n+1) [] (aH hn (by decide)) (cn n))) (ak (Str.ofString_eq_toList ..) ?_)
 unfold Nat.repr Nat.toDigits
 simp
theorem sU:∀(k n:Nat) (acc:List Nat),(oq k n acc).length<=k+acc.length
 |0,n,acc=>bV (eQ _).symm
 |k+1,n,acc=>by
  unfold oq
  split
  ·exact ao (bV (dn _ _)) (qM (aE 1 k) _)
  ·exact ao (sU k (n/10) ((48+n%10)::acc)) (bV (bt k acc.length 1))
theorem XV{i:Int}(I:cV V W U s.heap)(h:UN (.I i)=aa m):wpAny (model prog w) A (call (.type "str") [.int i t]) (b7 V W s m U) ci s:=by
 refine gI h λz=>?_
 refine ee (Int.eq_ofNat_of_zero_le (of_decide_eq_true (aB z).1)) λn e1_=>?_
 subst e1_
 have hn:n<1000000:=bQ.mp (of_decide_eq_true (aB z).2)
 refine P.str_of_int ?_ (b7.fc I (.str (Lr hn) (km (ao (sU 8 n []) (by decide)))))
 refine ak (Int.natAbs_natCast ..) ?_
 by_cases q:n=0
 ·subst q;decide
 ·exact(wA q).mpr (bW hn (ao (by decide:1000000<=2^20) (Nat.pow_le_pow_right (by decide) (by decide))))
theorem Rv.pick{a b:Int}[Decidable p]:Rv V W (if p then .int b u else .int a t) (.I (Mine.pick (decide p) b a)):=by
 by_cases q:p
 ·refine ak (if_pos q) (ak (decide_eq_true q) ?_);exact .int _ _
 ·refine ak (if_neg q) (ak (decide_eq_false q) ?_);exact .int _ _
theorem UD(hh:A.handled=ag)(I:cV V W U s.heap)(r:Rv V W v x)(e:cC U x=aa (.L l))(h:(oy l).bind QO=aa m):wpAny (model prog w) A (call (.builtin "max") [v]) (b7 V W s m U) ci s:=by
 refine gz h λns h2 h=>kH I r e λa vs n q k nb z=>?_
 refine aV (BP k h2) λxs hv e2_=>?_
 subst e2_
 induction xs using am with
 |nil=>exact nn h
 |cons x0 r=>
  refine gA h ?_
  have hv':vs=intItems (x0::r).toArray:=by exact ak (ot ..) (ak (aZ hv) ae)
  have hsz:(x0::r).toArray.size=(r.map (·.1)).length+1:=by refine ak (au ..) ?_;rfl
  refine max_intList (xs:=(x0::r).toArray) hh (hv'▸vX q) (hsz▸pK _) λv h' tk hm hk=>?_
  refine gQ (argBest_gt (numAt (x0::r).toArray) ((x0::r).toArray.size-1)) λg1 g2=>?_
  generalize hbi:argBest (λi j=>decide (numAt (x0::r).toArray i>numAt (x0::r).toArray j)) ((x0::r).toArray.size-1)=bi at hm g1 g2
  have hnum:∀j,numAt (x0::r).toArray j=(x0.1::r.map (·.1)).getD j 0:=λj=>by refine ak (numAt_eq ..) ?_;rfl
  refine gQ (uV (r.map (·.1)) x0.1) λsp1 sp2=>?_
  have hbl:bi<(x0.1::r.map (·.1)).length:=by refine ak aq ?_;lia
  have hval:(x0.1::r.map (·.1))[bi]=B3 (r.map (·.1)) x0.1:=by
   refine Int.le_antisymm (sp2 _ (List.getElem_mem hbl)) ?_
   obtain⟨j,hj,ej⟩:=List.getElem_of_mem sp1
   have:=g2 j (by rw[aq]at hj;lia)
   rw[hnum,hnum]at this
   refine ak (aZ ej) ?_
   simpa[List.getD_eq_getElem?_getD,b8 hj,b8 hbl]using this
  rw[ot,qy,dm]at hm
  refine aV (cj.mp hm) λp hp e2_=>?_
  subst e2_
  have hi:(x0.1::r.map (·.1))[bi]?=aa p.1:=(dm (f:=(·.1)) (l:=x0::r)).trans (hp▸ae)
  rw[b8 hbl]at hi
  exact(oi hi).symm.trans hval▸b7.kept I hk (.int _ _)
theorem IN(h:VB b x y=aa m):∃i j,x= .I i/\y= .I j:=by
 induction x using MV.casesOn with
 |I i=>
  induction y using MV.casesOn with
  |I j=>exact gu i j ⟨ae,ae⟩
  |_=>exact nn h
 |_=>exact nn h
theorem XO(hh:A.handled=ag)(I:cV V W U s.heap)(rv:Rv V W v x)(ru:Rv V W u y)(h:VB b x y=aa m):wpAny (model prog w) A (call b.val [v,u]) (b7 V W s m U) ci s:=by
 refine gR (IN h) λi j e2_ e3_=>?_
 subst e2_
 subst e3_
 refine rv.jI λt=>ru.jI λu=>?_
 induction b using Bi.casesOn with
 |m=>exact gA h (min_two_ints hh λh' tk hk=>b7.kept I hk .pick)
 |x=>exact gA h (max_two_ints hh λh' tk hk=>b7.kept I hk .pick)
 |_=>exact nn h
theorem XQ(hb:b≠ .d/\b≠ .r/\b≠ .z)(hby:b= .y->∀l,x≠ .Y l)(hh:A.handled=ag)(I:cV V W U s.heap)(r:Rv V W v x)(e:cC U x=aa c)(h:V2 b c=aa m):wpAny (model prog w) A (call b.val [v]) (b7 V W s m U) ci s:=by
 induction b using Bi.casesOn with
 |d=>exact absurd ae hb.1
 |r=>exact absurd ae hb.2.1
 |z=>exact absurd ae hb.2.2
 |m=>exact nn h
 |l=>exact XT I r e h
 |y=>
  induction c using MV.casesOn with
  |Y l=>
   refine sC (BD I r e) λg g g g g q=>?_
   exact absurd q (hby ae l)
  |L l=>exact NG I hh r e h
  |_=>exact nn h
 |t=>
  induction c using MV.casesOn with
  |L l=>exact kH I r e λa vs n q k nb z=>gA h (call_tuple_list (vX q) (λh' hk=>b7.N4 I (λb o e=>aF _ (hk b o e)) (eE (λb o e=>⟨o,hk b o e⟩) (bJ h')) (n:=0) (aL _ ae) k z) (fL nb z))
  |T l=>exact zP I r e λa vs n r q k nb z=>gA h (call_tuple_same (OO q) (b7.fc I r))
  |_=>exact nn h
 |i=>
  induction c using MV.casesOn with
  |L l=>exact kH I r e λa vs n q k nb z=>gA h (call_list_seq a (.inl ae) q ae ae (λh' c hk hn=>b7.listAt I hk (bJ _) hn k z) (fL nb z))
  |T l=>exact zP I r e λa vs n r q k nb z=>gA h (call_list_seq a (.inr ae) q ae ae (λh' c hk hn=>b7.listAt I hk (bJ _) hn k z) (fL nb z))
  |_=>exact nn h
 |s=>
  induction c using MV.casesOn with
  |I i=>exact jI I r e λt=>XV I h
  |_=>exact nn h
 |n=>
  induction c using MV.casesOn with
  |I i=>exact jI I r e λt=>gA h (call_int_int (b7.fc I (.int _ _)))
  |_=>exact nn h
 |a=>
  induction c using MV.casesOn with
  |I i=>
   refine jI I r e λt=>gA h (call_abs_int λu tk=>?_)
   refine ak (show(if i<0 then-i else i)=aD i.natAbs by simp only[Int.ofNat_eq_natCast];split<;>lia) ?_
   exact b7.fc I (.int _ _)
  |_=>exact nn h
 |u=>
  induction c using MV.casesOn with
  |L l=>
   refine kH I r e λa vs n q k nb z=>rY h λns h2=>?_
   refine aV (BP k h2) λxs hv e2_=>?_
   subst e2_
   refine sum_intListG (xs:=xs.toArray) hh ((by exact ak (ot ..) (ak (aZ hv) ae):vs=intItems xs.toArray)▸vX q) λh' tk t' hk=>?_
   refine ak (preSum_eq ..) (ak (show((xs.toArray.toList.map (·.1)).take xs.toArray.size).sum=(xs.map (·.1)).foldl (· + ·) 0 by rw[Eh,ew (by simp)];simp) ?_)
   exact b7.kept I hk (.int _ _)
  |_=>exact nn h
 |c=>
  induction c using MV.casesOn with
  |I i=>
   refine jI I r e λt=>gI h λz=>P.chr_of_int ?_ (b7.fc I (.str ae (km (show 1<=_ by decide))))
   have h0:0<=i:=of_decide_eq_true (aB z).1
   have h1:i<256:=of_decide_eq_true (aB z).2
   rw[dt,decide_eq_false_iff_not,decide_eq_false_iff_not]
   lia
  |_=>exact nn h
 |o=>
  induction c using MV.casesOn with
  |S l=>
   induction l using am with
   |nil=>exact nn h
   |cons c l=>
    induction l using am with
    |cons=>exact nn h
    |nil=>
     refine ml I r e λX t q n z=>gA h (ord_of_one n ?_)
     refine ak (show X.cps.getD 0 0=c by rw[<-Array.toArray_toList (xs:=X.cps),q];rfl) ?_
     exact b7.fc I (.int _ _)
  |_=>exact nn h
 |x=>
  induction c using MV.casesOn with
  |L l=>exact UD hh I r e h
  |_=>exact nn h
theorem XN(hb:b≠ .d/\b≠ .r/\b≠ .z)(hby:b= .y->∀l,xs≠[.Y l])(hh:A.handled=ag)(I:cV V W U s.heap)(r:cN V W vs xs)(h:vH U b xs=aa m):
  wpAny (model prog w) A (call b.val vs) (b7 V W s m U) ci s:=by
 induction xs using am with
 |nil=>exact nn h
 |cons x xs=>
  induction xs using am with
  |nil=>exact r.DS λv r=>gz h λc e h=>XQ hb (λq l z=>hby q l (z▸ae)) hh I r e h
  |cons y xs=>
   induction xs using am with
   |nil=>exact r.Ij λv u rv ru=>XO hh I rv ru h
   |cons=>exact nn h
end
structure Tab where
 ny:List Str
 OB:List Str
 RU:List Str
 WU:List Str
 Ni:List Str
 fresh:List Nat
noncomputable def fy(a b:Str):Bool:=bn a.cps.toList b.cps.toList
theorem fN(h:fy a b=ah):a=b:=by
 obtain⟨⟨a⟩⟩:=a
 obtain⟨⟨b⟩⟩:=b
 have:=iZ h
 dsimp only at this
 exact ak this ae
theorem pz(a b:Str):(a==b)=fy a b:=by
 cases h:fy a b with
 |true=>refine ak (fN h) ?_;exact beq_self_eq_true b
 |false=>
  rw[beq_eq_false_iff_ne]
  rintro rfl
  unfold fy at h
  rw[iO]at h
  exact tf h
noncomputable abbrev Kinds:=List (Str×NameKind)
noncomputable def bP:Kinds->Str->Option NameKind
 |[],_=>ag
 |(y,k)::r,x=>match fy x y with|true=>aa k|false=>bP r x
theorem my:∀(l:Kinds) (x:Str),l.lookup x=bP l x
 |[],_=>ae
 |(y,k)::r,x=>by
  unfold bP
  refine ak oP (ak (pz ..) (ak (my r x) ?_))
  cases fy x y<;>rfl
noncomputable def cL:List Str->Nat->Str->Option Nat
 |[],_,_=>ag
 |y::r,n,x=>match cL r (n+1) x with
  |some i=>aa i
  |none=>match fy y x with|true=>aa n|false=>ag
theorem Si(h:n+1<=i):n<=i/\i-n=(i-(n+1))+1:=⟨nG h,(Nat.sub_add_cancel (Nat.sub_pos_of_lt h)).symm⟩
theorem pC:∀{ns:List Str} {n:Nat} {x:Str} {i:Nat},cL ns n x=aa i->n<=i/\ns[i-n]?=aa x
 |[],n,x,i,h=>nn h
 |y::r,n,x,i,h=>by
  have h:(match cL r (n+1) x with|some i=>aa i|none=>match fy y x with|true=>aa n|false=>ag)=aa i:=h
  cases e:cL r (n+1) x with
  |some j=>
   rw[e]at h
   refine gA h ?_
   refine gQ (pC e) λa b=>?_
   refine gQ (Si a) λc d=>?_
   exact⟨c,by refine ak d ?_;exact b⟩
  |none=>
   rw[e]at h
   exact gI h λz=>⟨bj _,by refine ak (iW ..) ?_;exact congrArg aa (fN z)⟩
theorem nj(hx:cL ns 0 x=aa i)(hy:cL ns 0 y=aa i):x=y:=oi ((pC hx).2.symm.trans (pC hy).2)
noncomputable def fW:List Str->Nat->Str->Bool
 |[],_,_=>ac
 |y::_,0,x=>fy y x
 |_::r,n+1,x=>fW r n x
theorem iY:∀{l:List Str} {n:Nat} {x:Str},fW l n x=ah->l[n]?=aa x
 |[],_,_,h=>ft h
 |_::_,0,_,h=>congrArg aa (fN h)
 |_::r,n+1,_,h=>iY (l:=r) (n:=n) h
noncomputable def y7(ns:List Str)(i:Nat)(x:Str):Bool:=(cL ns 0 x).any (bo i)
theorem vY(h:y7 ns i x=ah):cL ns 0 x=aa i:=by
 unfold y7 at h
 cases e:cL ns 0 x with
 |none=>rw[e]at h;exact ft h
 |some j=>rw[e]at h;exact congrArg aa (aN h).symm
noncomputable def iq(x:Str):Bool:=fy x "__debug__"||fy x "__classdict__"||fy x ".0"
noncomputable def JT:Option NameKind->Bool
 |some .local=>ah
 |some .cell=>ah
 |some .free=>ah
 |_=>ac
noncomputable def rR:Option NameKind->Bool
 |some .globalImplicit=>ah
 |_=>ac
noncomputable def Bi.name:Bi->Str
 | .l=>"len"
 | .y=>"bytes"
 | .t=>"tuple"
 | .i=>"list"
 | .d=>"dict"
 | .s=>"str"
 | .n=>"int"
 | .a=>"abs"
 | .u=>"sum"
 | .c=>"chr"
 | .o=>"ord"
 | .m=>"min"
 | .x=>"max"
 | .r=>"sorted"
 | .z=>"zip"
noncomputable def Bm.name:Bm->Str
 | .a=>"append"
 | .e=>"extend"
 | .f=>"find"
 | .s=>"split"
 | .t=>"strip"
 | .r=>"rstrip"
 | .j=>"join"
 | .l=>"lower"
 | .u=>"upper"
 | .g=>"get"
noncomputable def Sy:MV->Const->Bool
 | .N,.none=>ah
 | .B a,.bool b=>a==b
 | .I i,.int j=>decide (i=j)
 | .S l,.str s=>bn s.cps.toList l&&bX l.length
 | .Y l,.bytes b=>bn (b.map bp) l&&bX l.length
 |_,_=>ac
noncomputable def OA(op:Op)(o:Operator):Bool:=decide (o=Uo op)
noncomputable def sR(op:Cp)(o:CmpOp):Bool:=decide (o=V7 op)
noncomputable def jb(d:β)(x:Expr)(k1:Const->β)(k2:Str->β)(k3:Expr->Operator->Expr->β)(k4:UnaryOp->Expr->β)(k5:BoolOp->List Expr->β)(k6:Expr->List CmpOp->List Expr->β)(k7:Expr->Expr->Expr->β)(k8:Expr->List Expr->List Keyword->Pos->β)(k9:Expr->Str->Pos->β)(k10:Expr->Expr->β)(k11:Option Expr->Option Expr->Option Expr->β)(k12:List Expr->β)(k13:List Expr->β)(k14:List (Option Expr)->List Expr->β)(k15:Expr->List Comprehension->Scope->β)(k16:Expr->β)(k17:List Expr->β):β:=match x with
 | .Constant c i p=>k1 c
 | .Name y p=>k2 y
 | .BinOp l o r p=>k3 l o r
 | .UnaryOp o l p=>k4 o l
 | .BoolOp o l p=>k5 o l
 | .Compare l os rs p=>k6 l os rs
 | .IfExp q l r p=>k7 q l r
 | .Call f ps ks p=>k8 f ps ks p
 | .Attribute o y p=>k9 o y p
 | .Subscript o i p=>k10 o i
 | .Slice lo up st p=>k11 lo up st
 | .Tuple l n p=>k12 l
 | .List l p=>k13 l
 | .Dict ks vs p=>k14 ks vs
 | .ListComp e gs sc p=>k15 e gs sc
 | .Starred l p=>k16 l
 | .Set l n p=>k17 l
 |_=>d
noncomputable def LR(x:Expr)(f:Const->Bool):Bool:=jb ac x f (λu=>ac) (λu u u=>ac) (λu u=>ac) (λu u=>ac) (λu u u=>ac) (λu u u=>ac) (λu u u u=>ac) (λu u u=>ac) (λu u=>ac) (λu u u=>ac) (λu=>ac) (λu=>ac) (λu u=>ac) (λu u u=>ac) (λu=>ac) λu=>ac
noncomputable def nq(x:Expr)(f:Str->Bool):Bool:=jb ac x (λu=>ac) f (λu u u=>ac) (λu u=>ac) (λu u=>ac) (λu u u=>ac) (λu u u=>ac) (λu u u u=>ac) (λu u u=>ac) (λu u=>ac) (λu u u=>ac) (λu=>ac) (λu=>ac) (λu u=>ac) (λu u u=>ac) (λu=>ac) λu=>ac
noncomputable def Vd(x:Expr)(f:Expr->Operator->Expr->Bool):Bool:=jb ac x (λu=>ac) (λu=>ac) f (λu u=>ac) (λu u=>ac) (λu u u=>ac) (λu u u=>ac) (λu u u u=>ac) (λu u u=>ac) (λu u=>ac) (λu u u=>ac) (λu=>ac) (λu=>ac) (λu u=>ac) (λu u u=>ac) (λu=>ac) λu=>ac
noncomputable def X5(x:Expr)(f:UnaryOp->Expr->Bool):Bool:=jb ac x (λu=>ac) (λu=>ac) (λu u u=>ac) f (λu u=>ac) (λu u u=>ac) (λu u u=>ac) (λu u u u=>ac) (λu u u=>ac) (λu u=>ac) (λu u u=>ac) (λu=>ac) (λu=>ac) (λu u=>ac) (λu u u=>ac) (λu=>ac) λu=>ac
noncomputable def LP(x:Expr)(f:BoolOp->List Expr->Bool):Bool:=jb ac x (λu=>ac) (λu=>ac) (λu u u=>ac) (λu u=>ac) f (λu u u=>ac) (λu u u=>ac) (λu u u u=>ac) (λu u u=>ac) (λu u=>ac) (λu u u=>ac) (λu=>ac) (λu=>ac) (λu u=>ac) (λu u u=>ac) (λu=>ac) λu=>ac
noncomputable def RF(x:Expr)(f:Expr->List CmpOp->List Expr->Bool):Bool:=jb ac x (λu=>ac) (λu=>ac) (λu u u=>ac) (λu u=>ac) (λu u=>ac) f (λu u u=>ac) (λu u u u=>ac) (λu u u=>ac) (λu u=>ac) (λu u u=>ac) (λu=>ac) (λu=>ac) (λu u=>ac) (λu u u=>ac) (λu=>ac) λu=>ac
noncomputable def Vi(x:Expr)(f:Expr->Expr->Expr->Bool):Bool:=jb ac x (λu=>ac) (λu=>ac) (λu u u=>ac) (λu u=>ac) (λu u=>ac) (λu u u=>ac) f (λu u u u=>ac) (λu u u=>ac) (λu u=>ac) (λu u u=>ac) (λu=>ac) (λu=>ac) (λu u=>ac) (λu u u=>ac) (λu=>ac) λu=>ac
noncomputable def PF(x:Expr)(f:Expr->List Expr->List Keyword->Pos->Bool):Bool:=jb ac x (λu=>ac) (λu=>ac) (λu u u=>ac) (λu u=>ac) (λu u=>ac) (λu u u=>ac) (λu u u=>ac) f (λu u u=>ac) (λu u=>ac) (λu u u=>ac) (λu=>ac) (λu=>ac) (λu u=>ac) (λu u u=>ac) (λu=>ac) λu=>ac
noncomputable def Bo(x:Expr)(f:Expr->Str->Pos->Bool):Bool:=jb ac x (λu=>ac) (λu=>ac) (λu u u=>ac) (λu u=>ac) (λu u=>ac) (λu u u=>ac) (λu u u=>ac) (λu u u u=>ac) f (λu u=>ac) (λu u u=>ac) (λu=>ac) (λu=>ac) (λu u=>ac) (λu u u=>ac) (λu=>ac) λu=>ac
noncomputable def Oc(x:Expr)(f:Expr->Expr->Bool):Bool:=jb ac x (λu=>ac) (λu=>ac) (λu u u=>ac) (λu u=>ac) (λu u=>ac) (λu u u=>ac) (λu u u=>ac) (λu u u u=>ac) (λu u u=>ac) f (λu u u=>ac) (λu=>ac) (λu=>ac) (λu u=>ac) (λu u u=>ac) (λu=>ac) λu=>ac
noncomputable def LU(x:Expr)(f:Option Expr->Option Expr->Option Expr->Bool):Bool:=jb ac x (λu=>ac) (λu=>ac) (λu u u=>ac) (λu u=>ac) (λu u=>ac) (λu u u=>ac) (λu u u=>ac) (λu u u u=>ac) (λu u u=>ac) (λu u=>ac) f (λu=>ac) (λu=>ac) (λu u=>ac) (λu u u=>ac) (λu=>ac) λu=>ac
noncomputable def LV(x:Expr)(f:List Expr->Bool):Bool:=jb ac x (λu=>ac) (λu=>ac) (λu u u=>ac) (λu u=>ac) (λu u=>ac) (λu u u=>ac) (λu u u=>ac) (λu u u u=>ac) (λu u u=>ac) (λu u=>ac) (λu u u=>ac) f (λu=>ac) (λu u=>ac) (λu u u=>ac) (λu=>ac) λu=>ac
noncomputable def PL(x:Expr)(f:List Expr->Bool):Bool:=jb ac x (λu=>ac) (λu=>ac) (λu u u=>ac) (λu u=>ac) (λu u=>ac) (λu u u=>ac) (λu u u=>ac) (λu u u u=>ac) (λu u u=>ac) (λu u=>ac) (λu u u=>ac) (λu=>ac) f (λu u=>ac) (λu u u=>ac) (λu=>ac) λu=>ac
noncomputable def PI(x:Expr)(f:List (Option Expr)->List Expr->Bool):Bool:=jb ac x (λu=>ac) (λu=>ac) (λu u u=>ac) (λu u=>ac) (λu u=>ac) (λu u u=>ac) (λu u u=>ac) (λu u u u=>ac) (λu u u=>ac) (λu u=>ac) (λu u u=>ac) (λu=>ac) (λu=>ac) f (λu u u=>ac) (λu=>ac) λu=>ac
noncomputable def G3(x:Expr)(f:Expr->List Comprehension->Scope->Bool):Bool:=jb ac x (λu=>ac) (λu=>ac) (λu u u=>ac) (λu u=>ac) (λu u=>ac) (λu u u=>ac) (λu u u=>ac) (λu u u u=>ac) (λu u u=>ac) (λu u=>ac) (λu u u=>ac) (λu=>ac) (λu=>ac) (λu u=>ac) f (λu=>ac) λu=>ac
noncomputable def PO(x:Expr)(f:Expr->Bool):Bool:=jb ac x (λu=>ac) (λu=>ac) (λu u u=>ac) (λu u=>ac) (λu u=>ac) (λu u u=>ac) (λu u u=>ac) (λu u u u=>ac) (λu u u=>ac) (λu u=>ac) (λu u u=>ac) (λu=>ac) (λu=>ac) (λu u=>ac) (λu u u=>ac) f λu=>ac
noncomputable def X4(x:Expr)(f:List Expr->Bool):Bool:=jb ac x (λu=>ac) (λu=>ac) (λu u u=>ac) (λu u=>ac) (λu u=>ac) (λu u u=>ac) (λu u u=>ac) (λu u u u=>ac) (λu u u=>ac) (λu u=>ac) (λu u u=>ac) (λu=>ac) (λu=>ac) (λu u=>ac) (λu u u=>ac) (λu=>ac) f
section
variable{P:Expr->Prop}{x:Expr}
@[elab_as_elim]theorem jc{rr:β}{k1:Const->β}{k2:Str->β}{k3:Expr->Operator->Expr->β}{k4:UnaryOp->Expr->β}{k5:BoolOp->List Expr->β}{k6:Expr->List CmpOp->List Expr->β}{k7:Expr->Expr->Expr->β}{k8:Expr->List Expr->List Keyword->Pos->β}{k9:Expr->Str->Pos->β}{k10:Expr->Expr->β}{k11:Option Expr->Option Expr->Option Expr->β}{k12:List Expr->β}{k13:List Expr->β}{k14:List (Option Expr)->List Expr->β}{k15:Expr->List Comprehension->Scope->β}{k16:Expr->β}{k17:List Expr->β}(h:jb d x k1 k2 k3 k4 k5 k6 k7 k8 k9 k10 k11 k12 k13 k14 k15 k16 k17=rr)(g0:∀x,d=rr->P x)(g1:∀c i p,k1 c=rr->P (.Constant c i p))(g2:∀y p,k2 y=rr->P (.Name y p))(g3:∀l o r p,k3 l o r=rr->P (.BinOp l o r p))(g4:∀o l p,k4 o l=rr->P (.UnaryOp o l p))(g5:∀o l p,k5 o l=rr->P (.BoolOp o l p))(g6:∀l os rs p,k6 l os rs=rr->P (.Compare l os rs p))(g7:∀q l r p,k7 q l r=rr->P (.IfExp q l r p))(g8:∀fn ps ks p,k8 fn ps ks p=rr->P (.Call fn ps ks p))(g9:∀o y p,k9 o y p=rr->P (.Attribute o y p))(WM:∀o i p,k10 o i=rr->P (.Subscript o i p))(WN:∀lo up st p,k11 lo up st=rr->P (.Slice lo up st p))(WO:∀l n p,k12 l=rr->P (.Tuple l n p))(WP:∀l p,k13 l=rr->P (.List l p))(WQ:∀ks vs p,k14 ks vs=rr->P (.Dict ks vs p))(WR:∀e gs sc p,k15 e gs sc=rr->P (.ListComp e gs sc p))(WS:∀l p,k16 l=rr->P (.Starred l p))(WT:∀l n p,k17 l=rr->P (.Set l n p)):P x:=by
  induction x using dS with
  |Constant c i p=>exact g1 c i p h
  |Name y p=>exact g2 y p h
  |BinOp l o r p=>exact g3 l o r p h
  |UnaryOp o l p=>exact g4 o l p h
  |BoolOp o l p=>exact g5 o l p h
  |Compare l os rs p=>exact g6 l os rs p h
  |IfExp q l r p=>exact g7 q l r p h
  |Call f ps ks p=>exact g8 f ps ks p h
  |Attribute o y p=>exact g9 o y p h
  |Subscript o i p=>exact WM o i p h
  |Slice lo up st p=>exact WN lo up st p h
  |Tuple l n p=>exact WO l n p h
  |List l p=>exact WP l p h
  |Dict ks vs p=>exact WQ ks vs p h
  |ListComp e gs sc p=>exact WR e gs sc p h
  |Starred l p=>exact WS l p h
  |Set l n p=>exact WT l n p h
  |_=>exact g0 _ h
@[elab_as_elim]theorem G4(h:LR x f=ah)(g:∀c i p,f c=ah->P (.Constant c i p)):P x:=jc h (λu=>ft) g (λu u=>ft) (λu u u u=>ft) (λu u u=>ft) (λu u u=>ft) (λu u u u=>ft) (λu u u u=>ft) (λu u u u=>ft) (λu u u=>ft) (λu u u=>ft) (λu u u u=>ft) (λu u u=>ft) (λu u=>ft) (λu u u=>ft) (λu u u u=>ft) (λu u=>ft) λu u u=>ft
@[elab_as_elim]theorem lO(h:nq x f=ah)(g:∀y p,f y=ah->P (.Name y p)):P x:=jc h (λu=>ft) (λu u u=>ft) g (λu u u u=>ft) (λu u u=>ft) (λu u u=>ft) (λu u u u=>ft) (λu u u u=>ft) (λu u u u=>ft) (λu u u=>ft) (λu u u=>ft) (λu u u u=>ft) (λu u u=>ft) (λu u=>ft) (λu u u=>ft) (λu u u u=>ft) (λu u=>ft) λu u u=>ft
@[elab_as_elim]theorem PE(h:Vd x f=ah)(g:∀l o r p,f l o r=ah->P (.BinOp l o r p)):P x:=jc h (λu=>ft) (λu u u=>ft) (λu u=>ft) g (λu u u=>ft) (λu u u=>ft) (λu u u u=>ft) (λu u u u=>ft) (λu u u u=>ft) (λu u u=>ft) (λu u u=>ft) (λu u u u=>ft) (λu u u=>ft) (λu u=>ft) (λu u u=>ft) (λu u u u=>ft) (λu u=>ft) λu u u=>ft
@[elab_as_elim]theorem Oe(h:X5 x f=ah)(g:∀o l p,f o l=ah->P (.UnaryOp o l p)):P x:=jc h (λu=>ft) (λu u u=>ft) (λu u=>ft) (λu u u u=>ft) g (λu u u=>ft) (λu u u u=>ft) (λu u u u=>ft) (λu u u u=>ft) (λu u u=>ft) (λu u u=>ft) (λu u u u=>ft) (λu u u=>ft) (λu u=>ft) (λu u u=>ft) (λu u u u=>ft) (λu u=>ft) λu u u=>ft
@[elab_as_elim]theorem Cs(h:LP x f=ah)(g:∀o l p,f o l=ah->P (.BoolOp o l p)):P x:=jc h (λu=>ft) (λu u u=>ft) (λu u=>ft) (λu u u u=>ft) (λu u u=>ft) g (λu u u u=>ft) (λu u u u=>ft) (λu u u u=>ft) (λu u u=>ft) (λu u u=>ft) (λu u u u=>ft) (λu u u=>ft) (λu u=>ft) (λu u u=>ft) (λu u u u=>ft) (λu u=>ft) λu u u=>ft
@[elab_as_elim]theorem PG(h:RF x f=ah)(g:∀l os rs p,f l os rs=ah->P (.Compare l os rs p)):P x:=jc h (λu=>ft) (λu u u=>ft) (λu u=>ft) (λu u u u=>ft) (λu u u=>ft) (λu u u=>ft) g (λu u u u=>ft) (λu u u u=>ft) (λu u u=>ft) (λu u u=>ft) (λu u u u=>ft) (λu u u=>ft) (λu u=>ft) (λu u u=>ft) (λu u u u=>ft) (λu u=>ft) λu u u=>ft
@[elab_as_elim]theorem PK(h:Vi x f=ah)(g:∀q l r p,f q l r=ah->P (.IfExp q l r p)):P x:=jc h (λu=>ft) (λu u u=>ft) (λu u=>ft) (λu u u u=>ft) (λu u u=>ft) (λu u u=>ft) (λu u u u=>ft) g (λu u u u=>ft) (λu u u=>ft) (λu u u=>ft) (λu u u u=>ft) (λu u u=>ft) (λu u=>ft) (λu u u=>ft) (λu u u u=>ft) (λu u=>ft) λu u u=>ft
@[elab_as_elim]theorem RE(h:PF x f=ah)(g:∀fn ps ks p,f fn ps ks p=ah->P (.Call fn ps ks p)):P x:=jc h (λu=>ft) (λu u u=>ft) (λu u=>ft) (λu u u u=>ft) (λu u u=>ft) (λu u u=>ft) (λu u u u=>ft) (λu u u u=>ft) g (λu u u=>ft) (λu u u=>ft) (λu u u u=>ft) (λu u u=>ft) (λu u=>ft) (λu u u=>ft) (λu u u u=>ft) (λu u=>ft) λu u u=>ft
@[elab_as_elim]theorem zQ(h:Bo x f=ah)(g:∀o y p,f o y p=ah->P (.Attribute o y p)):P x:=jc h (λu=>ft) (λu u u=>ft) (λu u=>ft) (λu u u u=>ft) (λu u u=>ft) (λu u u=>ft) (λu u u u=>ft) (λu u u u=>ft) (λu u u u=>ft) g (λu u u=>ft) (λu u u u=>ft) (λu u u=>ft) (λu u=>ft) (λu u u=>ft) (λu u u u=>ft) (λu u=>ft) λu u u=>ft
@[elab_as_elim]theorem Ep(h:Oc x f=ah)(g:∀o i p,f o i=ah->P (.Subscript o i p)):P x:=jc h (λu=>ft) (λu u u=>ft) (λu u=>ft) (λu u u u=>ft) (λu u u=>ft) (λu u u=>ft) (λu u u u=>ft) (λu u u u=>ft) (λu u u u=>ft) (λu u u=>ft) g (λu u u u=>ft) (λu u u=>ft) (λu u=>ft) (λu u u=>ft) (λu u u u=>ft) (λu u=>ft) λu u u=>ft
@[elab_as_elim]theorem Ob(h:LU x f=ah)(g:∀lo up st p,f lo up st=ah->P (.Slice lo up st p)):P x:=jc h (λu=>ft) (λu u u=>ft) (λu u=>ft) (λu u u u=>ft) (λu u u=>ft) (λu u u=>ft) (λu u u u=>ft) (λu u u u=>ft) (λu u u u=>ft) (λu u u=>ft) (λu u u=>ft) g (λu u u=>ft) (λu u=>ft) (λu u u=>ft) (λu u u u=>ft) (λu u=>ft) λu u u=>ft
@[elab_as_elim]theorem LW(h:LV x f=ah)(g:∀l n p,f l=ah->P (.Tuple l n p)):P x:=jc h (λu=>ft) (λu u u=>ft) (λu u=>ft) (λu u u u=>ft) (λu u u=>ft) (λu u u=>ft) (λu u u u=>ft) (λu u u u=>ft) (λu u u u=>ft) (λu u u=>ft) (λu u u=>ft) (λu u u u=>ft) g (λu u=>ft) (λu u u=>ft) (λu u u u=>ft) (λu u=>ft) λu u u=>ft
@[elab_as_elim]theorem LS(h:PL x f=ah)(g:∀l p,f l=ah->P (.List l p)):P x:=jc h (λu=>ft) (λu u u=>ft) (λu u=>ft) (λu u u u=>ft) (λu u u=>ft) (λu u u=>ft) (λu u u u=>ft) (λu u u u=>ft) (λu u u u=>ft) (λu u u=>ft) (λu u u=>ft) (λu u u u=>ft) (λu u u=>ft) g (λu u u=>ft) (λu u u u=>ft) (λu u=>ft) λu u u=>ft
@[elab_as_elim]theorem FC(h:PI x f=ah)(g:∀ks vs p,f ks vs=ah->P (.Dict ks vs p)):P x:=jc h (λu=>ft) (λu u u=>ft) (λu u=>ft) (λu u u u=>ft) (λu u u=>ft) (λu u u=>ft) (λu u u u=>ft) (λu u u u=>ft) (λu u u u=>ft) (λu u u=>ft) (λu u u=>ft) (λu u u u=>ft) (λu u u=>ft) (λu u=>ft) g (λu u u u=>ft) (λu u=>ft) λu u u=>ft
@[elab_as_elim]theorem LQ(h:G3 x f=ah)(g:∀e gs sc p,f e gs sc=ah->P (.ListComp e gs sc p)):P x:=jc h (λu=>ft) (λu u u=>ft) (λu u=>ft) (λu u u u=>ft) (λu u u=>ft) (λu u u=>ft) (λu u u u=>ft) (λu u u u=>ft) (λu u u u=>ft) (λu u u=>ft) (λu u u=>ft) (λu u u u=>ft) (λu u u=>ft) (λu u=>ft) (λu u u=>ft) g (λu u=>ft) λu u u=>ft
@[elab_as_elim]theorem RK(h:PO x f=ah)(g:∀l p,f l=ah->P (.Starred l p)):P x:=jc h (λu=>ft) (λu u u=>ft) (λu u=>ft) (λu u u u=>ft) (λu u u=>ft) (λu u u=>ft) (λu u u u=>ft) (λu u u u=>ft) (λu u u u=>ft) (λu u u=>ft) (λu u u=>ft) (λu u u u=>ft) (λu u u=>ft) (λu u=>ft) (λu u u=>ft) (λu u u u=>ft) g λu u u=>ft
end
noncomputable def ve(x:Expr)(f:Expr->List Expr->Pos->Bool):Bool:=PF x λg ps ks p=>ks.isEmpty&&f g ps p
noncomputable def PH(gs:List Comprehension)(f:Expr->Expr->List Expr->Int->Bool):Bool:=match gs with|[⟨tg,q,ifs,a⟩]=>f tg q ifs a|_=>ac
noncomputable def Il(l:List α)(f:α->Bool):Bool:=match l with|[x]=>f x|_=>ac
noncomputable def Od(l:List α)(f:α->α->Bool):Bool:=match l with|[x,y]=>f x y|_=>ac
noncomputable def mY(x:Expr):Bool:= !X4 x λu=>ah
noncomputable def pY(T:List Str)(sc:Kinds)(i:Nat)(x:Str):Bool:=fW T i x&&rR (bP sc x)&& !iq x
noncomputable def iN(sc:Kinds)(y x:Str):Bool:=fy y x&&rR (bP sc x)
noncomputable def mZ(x:Expr):Bool:= !ve x λg ps u=>ps.isEmpty&&nq g λy=>fy y "super"
noncomputable def VK:ME->Bool
 | .c _=>ah
 |_=>ac
noncomputable def Ej(x:Expr):Option Str:=jb ag x (λu=>ag) aa (λu u u=>ag) (λu u=>ag) (λu u=>ag) (λu u u=>ag) (λu u u=>ag) (λu u u u=>ag) (λu u u=>ag) (λu u=>ag) (λu u u=>ag) (λu=>ag) (λu=>ag) (λu u=>ag) (λu u u=>ag) (λu=>ag) λu=>ag
noncomputable def np(x:Expr):Option (List Str):=jb ag x (λu=>ag) (λy=>aa [y]) (λu u u=>ag) (λu u=>ag) (λu u=>ag) (λu u u=>ag) (λu u u=>ag) (λu u u u=>ag) (λu u u=>ag) (λu u=>ag) (λu u u=>ag) (λes=>(jU Ej es).bind λl=>match l with|_::_::_=>aa l|_=>ag) (λu=>ag) (λu u=>ag) (λu u u=>ag) (λu=>ag) λu=>ag
noncomputable def xO(sc:Kinds)(ns:List Str)(ts:List Str):Kinds->Bool
 |[]=>ah
 |(x,k)::r=>(match k with
  | .local=>fy x ".0"||ts.any (fy x)
  | .free=>(match bP sc x with|some .cell=>ah|some .free=>ah|_=>ac)&& !iq x&& !ts.any (fy x)
  | .globalImplicit=> !ts.any (fy x)
  |_=>ac)&&xO sc ns ts r
noncomputable def rA(sc:Kinds)(l:Kinds):Kinds:=l.map λ(n,k)=>if(k== .free&&bP sc n==aa .cell)then(n,.cell)else(n,k)
noncomputable def Ke(l:Kinds):Kinds->Bool
 |[]=>ah
 |(x,k)::r=>(match k with| .local=>(match bP l x with|some .local=>ah|_=>ac)|_=>ah)&&Ke l r
noncomputable def LN(n:Nat):List Nat->Bool
 |[]=>ah
 |i::r=>bo i n&&LN (n+1) r
noncomputable def rN:List Str->Bool
 |[]=>ah
 |x::r=> !r.any (fy x)&&rN r
noncomputable def Ct(sc:Kinds)(x:Expr)(f:Option Expr->Expr->Option Expr->Bool):Bool:=ve x λg ps u=>(nq g λy=>iN sc "range" y)&&(match ps with
 |[q]=>f ag q ag
 |[p,q]=>f (aa p) q ag
 |[p,q,r]=>f (aa p) q (aa r)
 |_=>ac)
noncomputable def QC(i:Int):MV->Bool
 | .I j=>decide (j=i)
 |_=>ac
noncomputable def yL(f:Expr->Bool)(i:Int)(e:ME):Option Expr->Bool
 |some q=>f q
 |none=>(match e with| .c v=>QC i v|_=>ac)
noncomputable def I5(ns:List Str)(sc:Kinds)(ts:List Nat)(q:Expr)(a:Int)(scope:Scope)(xs:List Str):Bool:=
 decide (a=0)&&mY q&& !ns.any (fy ".0")&&LN ns.length ts&&bo ts.length xs.length&&rN xs&& !xs.any iq
  &&(match scope.kind with| .function=>ah|_=>ac)&&xO sc ns xs scope.names&&xs.all (λy=>match bP scope.names y with|some .local=>ah|_=>ac)&&Ke scope.names scope.names
noncomputable def AC(ns:List Str)(sc:Kinds)(ts:List Nat)(f:Expr->Bool)(g:List Str->Kinds->Expr->List Expr->Bool)(p:Expr)(gs:List Comprehension)(scope:Scope):Bool:=PH gs λtg q ifs a=>(np tg).any λxs=>I5 ns sc ts q a scope xs&&f q&&g (ns++xs) (rA sc scope.names) p ifs
noncomputable def Ox:Bool->BoolOp
 |false=>.And
 |true=>.Or
noncomputable def Hq(f:Expr->Bool)(a:ME):Option Expr->Bool
 |some q=>f q
 |none=>(match a with| .c v=>isNone v|_=>ac)
mutual
noncomputable def ch(T:Tab):Nat->List Str->Kinds->ME->Expr->Bool
 |_,_,_,.c v,x=>LR x λc=>Sy v c
 |_,ns,sc,.v i,x=>nq x λy=>y7 ns i y&&JT (bP sc y)&& !iq y
 |_,_,sc,.g g,x=>nq x λy=>pY T.WU sc g y
 |k,ns,sc,.b op a b,x=>Vd x λp o q=>OA op o&&ch T k ns sc a p&&ch T k ns sc b q
 |k,ns,sc,.n a,x=>X5 x λo p=>decide (o= .USub)&&ch T k ns sc a p
 |k,ns,sc,.o a,x=>X5 x λo p=>decide (o= .Not)&&ch T k ns sc a p
 |k,ns,sc,.a es,x=>LP x λo ps=>decide (o=Ox ac)&&dM T k ns sc es ps
 |k,ns,sc,.r es,x=>LP x λo ps=>decide (o=Ox ah)&&dM T k ns sc es ps
 |k,ns,sc,.m op a b,x=>RF x λp os rs=>Il os λo=>Il rs λq=>sR op o&&ch T k ns sc a p&&ch T k ns sc b q&&mY q
 |k,ns,sc,.p o1 o2 a b c,x=>RF x λp os rs=>Od os λo o'=>Od rs λq r=>sR o1 o&&sR o2 o'&&ch T k ns sc a p&&ch T k ns sc b q&&ch T k ns sc c r&&mY q&&mY r
 |k,ns,sc,.i t a b,x=>Vi x λp q r=>ch T k ns sc t p&&ch T k ns sc a q&&ch T k ns sc b r
 |k,ns,sc,.l f kp as,x=>ve x λg ps uu=>(nq g λy=>pY T.RU sc f y)&&dM T k ns sc as ps&&(!kp||cv f T.fresh)
 |k,ns,sc,.w c _ as,x=>ve x λg ps uu=>(nq g λy=>pY T.OB sc c y)&&dM T k ns sc as ps
 |k,ns,sc,.h n o as,x=>ve x λg ps pos=>Bo g λp y apos=>fW T.Ni n y&&mZ p&&ch T k ns sc o p&&dM T k ns sc as ps&&bo apos.endLine pos.line&&cr ps.length 20
 |k,ns,sc,.u b as,x=>match b with
  | .z=>(match as with
    |[a]=>ve x λg ps uu=>(nq g λy=>iN sc "tuple" y)&&Il ps λz=>ve z λh qs uu=>(nq h λy=>iN sc "zip" y)&&Il qs λq=>PO q λp=>ch T k ns sc a p
    |_=>ac)
  |b=>ve x λg ps uu=>(nq g λy=>iN sc b.name y)&&dM T k ns sc as ps
 |k,ns,sc,.k m o as,x=>ve x λg ps pos=>Bo g λp y apos=>fy y m.name&&mZ p&&ch T k ns sc o p&&dM T k ns sc as ps&&bo apos.endLine pos.line&&cr ps.length 20
 |k,ns,sc,.s o c,x=>ve x λg ps uu=>(nq g λy=>iN sc "isinstance" y)&&Od ps λp z=>(nq z λz=>pY T.OB sc c z)&&ch T k ns sc o p
 |k,ns,sc,.t o n,x=>Bo x λp y uu=>fW T.ny n y&&mZ p&&ch T k ns sc o p
 |k,ns,sc,.x o i,x=>Oc x λp q=>ch T k ns sc o p&&ch T k ns sc i q
 |k,ns,sc,.y o a b,x=>Oc x λp q=>LU q λlo up st=>ch T k ns sc o p&&Hq (λq=>ch T k ns sc a q) a lo&&Hq (λq=>ch T k ns sc b q) b up&&st.isNone
 |k,ns,sc,.z es,x=>LV x λps=>dM T k ns sc es ps
 |k,ns,sc,.d _ es,x=>PL x λps=>dM T k ns sc es ps
 |k,ns,sc,.e _ ks vs,x=>PI x λps qs=>wR T k ns sc ks ps&&dM T k ns sc vs qs&&ks.all VK&&cr ks.length 15
 |k,ns,sc,.f elt ts it cond,x=>match k with
  |0=>ac
  |k+1=>G3 x λp gs scope=>AC ns sc ts (λq=>ch T k ns sc it q) (λns sc p ifs=>ch T k ns sc elt p&&dM T k ns sc cond ifs) p gs scope
 |k,ns,sc,.j elt ts a b s cond,x=>match k with
  |0=>ac
  |k+1=>G3 x λp gs scope=>AC ns sc ts (λq=>Ct sc q λp0 p1 p2=>yL (λq=>ch T k ns sc a q) 0 a p0&&ch T k ns sc b p1&&yL (λq=>ch T k ns sc s q) 1 s p2) (λns sc p ifs=>ch T k ns sc elt p&&dM T k ns sc cond ifs) p gs scope
noncomputable def dM(T:Tab):Nat->List Str->Kinds->List ME->List Expr->Bool
 |_,_,_,[],xs=>xs.isEmpty
 |k,ns,sc,e::r,xs=>match xs with|x::t=>ch T k ns sc e x&&dM T k ns sc r t|[]=>ac
noncomputable def wR(T:Tab):Nat->List Str->Kinds->List ME->List (Option Expr)->Bool
 |_,_,_,[],xs=>xs.isEmpty
 |k,ns,sc,e::r,xs=>match xs with|o::t=>(o.any λx=>ch T k ns sc e x)&&wR T k ns sc r t|[]=>ac
end
structure Cx where
 prog:Program
 w:World
 V:Cfg
 T:Tab
 C:Calls
 M:qB
 G:List MV
 d:Nat
 mg:Str->Option Value
 mb:Str->Option Value
 fv:Nat->Value
 K:Frag
noncomputable def rK:List (Str×Value):=[("len",.builtin "len"),("bytes",.type "bytes"),("tuple",.type "tuple"),("list",.type "list"),("dict",.type "dict"),("str",.type "str"),("int",.type "int"),("abs",.builtin "abs"),
 ("sum",.builtin "sum"),("chr",.builtin "chr"),("ord",.builtin "ord"),("min",.builtin "min"),("max",.builtin "max"),("sorted",.builtin "sorted"),("zip",.type "zip"),("isinstance",.builtin "isinstance"),("range",.type "range")]
structure Cx.Good(X:Cx):Prop where
 P:X.V.P=X.w.params
 LJ:∀h:Heap,(∀a o,X.V.S a=aa o->h.get? a=aa o)->h.Ns dy X.mg/\h.Ns jE X.mb
 bi:∀p∈rK,X.mg p.1=ag/\X.mb p.1=aa p.2
 fn:∀f y,fW X.T.RU f y=ah->X.mg y=aa (X.fv f)
 cls:∀c y,fW X.T.OB c y=ah->X.mg y=aa (.ref (X.V.cls c))
 W8:∀a o,X.K.lookup a=aa o->X.V.S a=aa o
 ny:∀n y,fW X.T.ny n y=ah->X.V.ny n=y
 Ma:∀n m,X.V.ny n=X.V.ny m->n=m
 Sx:∀c,findIn X.K (.ref (X.V.cls c)) "__getattribute__"=aa (aa (.builtin "object.__getattribute__"))
 V8:∀c,findIn X.K (.ref (X.V.cls c)) "__setattr__"=aa (aa (.builtin "object.__setattr__"))
 VE:∀c n y,fW X.T.ny n y=ah->findIn X.K (.ref (X.V.cls c)) y=aa ag
 CX:∀c,(clsIn X.K (X.V.cls c)).any (·.hasDict)=ah
 cover:∀c,plainOver X.K (X.V.cls c)=ah
 Oz:∀n y,fW X.T.ny n y=ah->wF.contains y=ac
 Gr:∀f,keepIn X.K (X.fv f)=ah
 J3:∀c,keepIn X.K (.ref (X.V.cls c))=ah
 VD:∀c,findIn X.K (.ref (X.V.cls c)) "__getattr__"=aa ag
 qF:∀c n f y,X.M c n=aa f->fW X.T.Ni n y=ah->∃a,X.fv f= .ref a/\findIn X.K (.ref (X.V.cls c)) y=aa (aa (.ref a))/\typeIn X.K (.ref a)=aa (.type "function")
 Xl:∀n m y,fW X.T.Ni m y=ah->X.V.ny n≠y
 WX:∀c f,X.M c 0=aa f->∃a,X.fv f= .ref a/\findIn X.K (.ref (X.V.cls c)) "__init__"=aa (aa (.ref a))/\typeIn X.K (.ref a)=aa (.type "function")
 Xk:∀c,makesIn X.K (X.V.cls c)=ah
 QR:∀c y,fW X.T.OB c y=ah->c<HY
 W6:∀c c',c<HY->c'<HY->c≠c'->kin_not X.K (X.V.cls c') (X.V.cls c)=ah
 P9:∀c,findIn X.K (.ref (X.V.cls c)) "__class__"=aa (aa (.builtin "object.__class__"))
 Qt:specialIn X.K (.builtin "object.__class__") "__get__"=aa (aa (.builtin "getset_descriptor.__get__"))
 Rw:takesIn X.K (.builtin "object.__class__")=aa ah
 Q0:∀c,mroIn X.K (X.V.cls c) (.type "object")=aa ah
 data:∀g y v,fW X.T.WU g y=ah->X.G[g]?=aa v->∃u,X.mg y=aa u/\Rv X.V ⟨X.V.S,[]⟩ u v
structure vA(A:Around)(d k:Nat):Prop where
 handled:A.handled=ag
 depth:A.depth+16*d+k<=940
 units:A.units+64*d+4*k<=9000
structure sE(A:Around)(d:Nat):Prop where
 handled:A.handled=ag
 depth:A.depth+16*d<=942
 units:A.units+64*d<=9020
theorem Ip.based(I:cV V W U h):Ip ⟨V.S,[]⟩ W (λu=>ah) λu=>ah:=⟨λu u=>ae,λu u=>ae,λu u u=>ae,λu u u u=>ae,λu u u=>ae,λu u u=>ae,I.st,λu u u h=>nn h⟩
theorem Rv.based(I:cV V W U h)(r:Rv V ⟨V.S,[]⟩ v m):Rv V W v m:=r.gen (.based I) ae
theorem cN.based(I:cV V W U h)(r:cN V ⟨V.S,[]⟩ v m):cN V W v m:=r.gen (.based I) ae
theorem cV.top(I:cV V W U h):∀a o,V.S a=aa o->h.get? a=aa o:=λa o e=>I.fz a o (I.st a o e)
structure ga(W:Wd)(a:Addr):Prop where
 K:W.K a=ag
 F:¬W.cell a
noncomputable def oI(env:Env)(a:Addr):Prop:=a=env.locals\/ ∃x,env.cells.lookup x=aa a
structure ta(X:Cx)(W:Wd)(ns:List Str)(sc:Kinds)(env:Env)(l:Loc)(h:Heap):Prop where
 fn:env.scope.kind= .function
 names:∀x,env.kindOf x=bP sc x
 gl:env.globals=dy
 bu:env.builtins=jE
 vars:∃m,h.Ns env.locals m/\ ∀x i v,cL ns 0 x=aa i->bP sc x=aa .local->l[i]?=aa (aa v)->∃u,m x=aa u/\Rv X.V W u v
 cells:∀x,bP sc x=aa .cell\/bP sc x=aa .free->∃c o,env.cells.lookup x=aa c/\h.IsCell c o/\ ∀i v,cL ns 0 x=aa i->l[i]?=aa (aa v)->∃u,o=aa u/\Rv X.V W u v
 own:∀a,oI env a->ga W a/\ ∃o,h.get? a=aa o
 len:l.length=ns.length
 apart:∀x c,env.cells.lookup x=aa c->c≠env.locals/\ ∀y c',env.cells.lookup y=aa c'->x≠y->c≠c'
section
variable{X:Cx}{V:Cfg}{W W':Wd}{U U':bN}{s s':Shared}{h h':Heap}{A:Around}{ns:List Str}{sc:Kinds}{env:Env}{l:Loc}{a:Addr}{k:Nat}
theorem ga.fresh(I:cV V W U h)(ha:h.get? a=ag):ga W a:=⟨I.E6 ha,I.Kv ha⟩
theorem ga.ext(u:ga W a)(x:i3 h W W')(ho:h.get? a=aa o):ga W' a:=⟨qn λo' e=>(x.new _ _ e).elim (zF u.K) λq=>zF q ho,x.xQ ho u.F⟩
theorem Heap.Ns.keep(k:∀o,h.get? a=aa o->h'.get? a=aa o)(n:h.Ns a m):h'.Ns a m:=n.imp λu n=>n.imp λu n=>n.imp λu n=>⟨k _ n.1,n.2⟩
theorem rM(k:∀o,h.get? a=aa o->h'.get? a=aa o)(n:h.IsCell a m):h'.IsCell a m:=n.imp λu n=>⟨k _ n.1,n.2⟩
theorem ta.grow(F:ta X W ns sc env l h)(x:i3 h W W')(k:∀a,oI env a->∀o,h.get? a=aa o->h'.get? a=aa o):ta X W' ns sc env l h' where
 fn:=F.fn
 names:=F.names
 gl:=F.gl
 bu:=F.bu
 vars:=F.vars.imp λm n=>⟨Heap.Ns.keep (k _ (.inl ae)) n.1,λy i v a b c=>(n.2 y i v a b c).imp λu p=>⟨p.1,p.2.mono x⟩⟩
 cells:=λy hy=>(F.cells y hy).imp λc n=>n.imp λo n=>⟨n.1,rM (k _ (.inr ⟨_,n.1⟩)) n.2.1,λi v a b=>(n.2.2 i v a b).imp λu p=>⟨p.1,p.2.mono x⟩⟩
 own:=λa ha=>ee (F.own a ha).2 λo e=>⟨(F.own a ha).1.ext x e,o,k a ha _ e⟩
 len:=F.len
 apart:=F.apart
theorem ta.step(F:ta X W ns sc env l s.heap)(t:cQ X.V W s W' U' s'):ta X W' ns sc env l s'.heap:=F.grow t.x λa ha o e=>t.p.keep a o e (F.own a ha).1.F
structure At(X:Cx)(k:Nat)(ns:List Str)(sc:Kinds)(A:Around)(env:Env)(W:Wd)(s:Shared)(l:Loc)(U:bN):Prop where
 R:vA A X.d k
 F:ta X W ns sc env l s.heap
 I:cV X.V W U s.heap
theorem At.step(a:At X k ns sc A env W s l U)(t:cQ X.V W s W' U' s'):At X k ns sc A env W' s' l U':=⟨a.R,a.F.step t,t.I⟩
noncomputable def Ac(X:Cx)(A:Around)(env:Env)(W:Wd)(s:Shared)(x:Expr)(m:MV)(U':bN):Prop:=wpAny (model X.prog X.w) A (bC x env) (b7 X.V W s m U') ci s
noncomputable def SE(X:Cx)(e:ME):Prop:=∀{k ns sc x},ch X.T k ns sc e x=ah->∀{A env W s l U m U'},At X k ns sc A env W s l U->cm X.C X.M X.G e l U=aa (m,U')->Ac X A env W s x m U'
noncomputable def s7(V:Cfg)(W:Wd)(s:Shared)(b:Bool)(U:bN)(c:Bool)(s':Shared):Prop:=∃W',c=b/\cQ V W s W' U s'
noncomputable def VX(X:Cx)(A:Around)(env:Env)(W:Wd)(s:Shared)(x:Expr)(b:Bool)(U':bN):Prop:=wpAny (model X.prog X.w) A (isTrue x env (bC x env)) (s7 X.V W s b U') ci s
noncomputable def ST(X:Cx)(e:ME):Prop:=∀{k ns sc x},ch X.T k ns sc e x=ah->∀{A env W s l U b U'},At X k ns sc A env W s l U->bh (cm X.C X.M X.G e l U)=aa (b,U')->VX X A env W s x b U'
structure SB(X:Cx)(e:ME):Prop where
 ev:SE X e
 te:ST X e
theorem fm(h:wpAny M A t Q ci s):wpAny M A t Q E s:=tE h (λu u q=>q) λu u q=>q.elim
theorem aI(h:wpAny M A t P ci s)(g:∀v s',P v s'->Q v s'):wpAny M A t Q ci s:=tE h g λu u q=>q
section
theorem q6(h:wpAny M A t (b7 V W s m U) ci s)(g:∀v s' W',Rv V W' v m->cQ V W s W' U s'->Q v s'):wpAny M A t Q ci s:=aI h λv s' a=>aV a (g v s')
theorem Bv(h:wpAny M A t (s7 V W s b U) ci s)(g:∀s' W',cQ V W s W' U s'->Q b s'):wpAny M A t Q ci s:=aI h λv s' a=>aV a λW' e u=>e▸g s' W' u
end
theorem s7.trans(t:cQ V W s W' U1 s')(h:s7 V W' s' b U c s''):s7 V W s b U c s'':=aV h λW1 e u=>⟨W1,e,t.trans u⟩
theorem s7.of(t:cQ V W s W' U s'):s7 V W s b U b s':=⟨W',ae,t⟩
theorem b7.Ow(h:s7 V W s b U c s'):b7 V W s (.B c) U (.bool c) s':=aV h λW1 v u=>⟨W1,.bool _,u⟩
theorem iK{P:Prop}(h:bh r=aa (b,U'))(g:∀m U₁,r=aa (m,U₁)->bh (aa (m,U₁))=aa (b,U')->P):P:=gz (o:=r) h λp e h=>g p.1 p.2 e h
theorem Fw{M:Model}(I:cV V W U s.heap)(r:Rv V W v m)(e:bh (aa (m,U))=aa (b,U')):wpAny (model prog w) A (truthy v) (s7 V W s b U') ci s:=
 aI (NM I r e) λc s₂ t=>t.1▸t.2.1▸t.2.2.elim λtk q=>q▸.of (.toks I)
theorem ST.of(h:SE X e)(ha:∀{k ns sc x},ch X.T k ns sc e x=ah->∀env whole,isTrue x env whole=(do let v<-whole;standAt x.pos;holding [v] (truthy v))):SB X e:=
 ⟨h,λ{k ns sc x} hc {A env W s l U b U'} a hd=>iK hd λm U₁ e1 e2=>wpAny_isTrue_value (q6 (h hc a e1) λv s₁ W₁ r₁ t=>aI (Fw (M:=model X.prog X.w) t.I r₁ e2) λz z u=>u.trans t) (ha hc env _)⟩
theorem wl(h:iq y=ac):(y==("__debug__":Str))=ac/\(y==("__classdict__":Str))=ac:=by
 refine gQ (dt.mp h) λh u=>?_
 refine gQ (dt.mp h) λh1 h2=>?_
 exact⟨(pz _ _).trans h1,(pz _ _).trans h2⟩
theorem Kp(hs:cL ns 0 y=aa i)(hk:JT (bP sc y)=ah)(ho:iq y=ac)(F:ta X W ns sc env l s.heap)(I:cV X.V W U s.heap)(hv:l[i]?=aa (aa v)):Ac X A env W s (.Name y pos) v U:=by
 refine wpAny_Name ?_ (wl ho).1
 have hN:=F.names y
 cases e:bP sc y with
 |none=>rw[e]at hk;exact ft hk
 |some kd=>
  rw[e]at hk hN
  induction kd using dY with
  | «local» =>exact aV F.vars λm n r=>aV (r y i v hs e hv) λu q1 q2=>wpAny_loadName_local F.fn hN n q1 (b7.fc I q2)
  |cell=>exact fI (F.cells y (.inl e)) λc o e1 n r=>aV (r i v hs hv) λu q1 q2=>wpAny_loadName_cell F.fn hN e1 (q1▸n) (b7.fc I q2)
  |free=>exact fI (F.cells y (.inr e)) λc o e1 n r=>aV (r i v hs hv) λu q1 q2=>wpAny_loadName_free F.fn hN e1 (q1▸n) (b7.fc I q2) (wl ho).2
  |_=>exact ft hk
theorem y5{k:Option NameKind}(h:rR k=ah):k=aa .globalImplicit:=by
 induction k using bg with
 |none=>exact ft h
 |some k=>
  induction k using dY with
  |globalImplicit=>rfl
  |_=>exact ft h
theorem n7(Y:X.Good)(hk:rR (bP sc y)=ah)(ho:iq y=ac)(F:ta X W ns sc env l s.heap)(I:cV X.V W U s.heap)(hv:X.mg y=aa v)(h:Q v s):
  wpAny (model X.prog X.w) A (bC (.Name y pos) env) Q ci s:=by
 refine wpAny_Name ?_ (wl ho).1
 refine ak (loadName_read F.fn ((F.names y).trans (y5 hk))) ?_
 exact loadGlobal_global (mg:=X.mg) (F.gl▸(Y.LJ _ I.top).1) hv h
theorem kj(Y:X.Good)(hk:rR (bP sc y)=ah)(hm:(y,v)∈rK)(F:ta X W ns sc env l s.heap)(I:cV X.V W U s.heap)(h:Q v s):
  wpAny (model X.prog X.w) A (bC (.Name y pos) env) Q ci s:=by
 refine wpAny_Name ?_ ((pz _ _).trans (bK _▸aP.mp (by decide:rK.all (λp=> !(fy p.1 "__debug__"))=true) _ hm))
 refine ak (loadName_read F.fn ((F.names y).trans (y5 hk))) ?_
 exact loadGlobal_builtin (mg:=X.mg) (mb:=X.mb) (F.gl▸(Y.LJ _ I.top).1) (Y.bi _ hm).1 (F.bu▸(Y.LJ _ I.top).2) (Y.bi _ hm).2 h
end
end
section
open PySem PySem.W PySem.Calls PyProof.Rows
section
variable{k:Nat}{ns:List Str}{sc:Kinds}{x:Expr}{P:Expr->Prop}{a b:ME}{as:List ME}
theorem Bp(h:ve x f=ah)(g:∀fn ps p,f fn ps p=ah->P (.Call fn ps [] p)):P x:=RE h λfn ps ks p h=>by
 induction ks using am with
 |nil=>exact g fn ps p (aB h).2
 |cons=>exact ft (aB h).1
@[elab_as_elim]theorem Eo{P:List α->Prop}(h:Il l f=ah)(g:∀x,f x=ah->P [x]):P l:=match l,h with|[x],h=>g x h
@[elab_as_elim]theorem LX{P:List α->Prop}(h:Od l f=ah)(g:∀x y,f x y=ah->P [x,y]):P l:=match l,h with|[x,y],h=>g x y h
@[elab_as_elim]theorem JX{op:Cp}(h:ch T k ns sc (.m op a b) x=ah)(g:∀l o r p,sR op o=ah->ch T k ns sc a l=ah->ch T k ns sc b r=ah->mY r=ah->P (.Compare l [o] [r] p)):P x:=
  PG h λl os rs p h=>Eo (P:=λos=>P (.Compare l os rs p)) h λo h=>Eo (P:=λrs=>P (.Compare l [o] rs p)) h λr h=>g l o r p (aB (aB (aB h).1).1).1 (aB (aB (aB h).1).1).2 (aB (aB h).1).2 (aB h).2
@[elab_as_elim]theorem Gl{c:ME}(h:ch T k ns sc (.p o1 o2 a b c) x=ah)(g:∀l p1 p2 q r p,sR o1 p1=ah->sR o2 p2=ah->ch T k ns sc a l=ah->ch T k ns sc b q=ah->ch T k ns sc c r=ah->mY r=ah->P (.Compare l [p1,p2] [q,r] p)):P x:=
  PG h λl os rs p h=>LX (P:=λos=>P (.Compare l os rs p)) h λo o' h=>LX (P:=λrs=>P (.Compare l [o,o'] rs p)) h λq r h=>
   have h1:=aB (aB h).1
   have h2:=aB h1.1
   have h3:=aB h2.1
   have h4:=aB h3.1
   g l o o' q r p (aB h4.1).1 (aB h4.1).2 h4.2 h3.2 h2.2 (aB h).2
@[elab_as_elim]theorem Dy{g:List Expr->Bool}(h:(ve x λn ps u=>nq n f&&g ps)=ah)(j:∀y q ps p,f y=ah->g ps=ah->P (.Call (.Name y q) ps [] p)):P x:=
  Bp h λn ps p h=>lO (P:=λn=>P (.Call n ps [] p)) (aB h).1 λy q z=>j y q ps p z (aB h).2
@[elab_as_elim]theorem Gj(h:ch T k ns sc (.l f kp as) x=ah)(g:∀y q ps p,pY T.RU sc f y=ah->dM T k ns sc as ps=ah->(!kp||cv f T.fresh)=ah->P (.Call (.Name y q) ps [] p)):P x:=
  Bp h λn ps p h=>lO (P:=λn=>P (.Call n ps [] p)) (aB (aB h).1).1 λy q z=>g y q ps p z (aB (aB h).1).2 (aB h).2
@[elab_as_elim]theorem Gk{f:Str->Bool}(h:(ve x λg ps pos=>Bo g λp y apos=>f y&&mZ p&&ch T k ns sc a p&&dM T k ns sc as ps&&bo apos.endLine pos.line&&cr ps.length 20)=ah)
   (g:∀o y q ps p,f y=ah->mZ o=ah->ch T k ns sc a o=ah->dM T k ns sc as ps=ah->bo q.endLine p.line=ah->cr ps.length 20=ah->P (.Call (.Attribute o y q) ps [] p)):P x:=
  Bp h λn ps p h=>zQ (P:=λn=>P (.Call n ps [] p)) h λo y q h=>
   have h1:=aB (aB h).1
   have h2:=aB h1.1
   have h3:=aB h2.1
   g o y q ps p (aB h3.1).1 (aB h3.1).2 h3.2 h2.2 h1.2 (aB h).2
@[elab_as_elim]theorem Gm(h:ch T k ns sc (.s a c) x=ah)(g:∀y q o z r p,iN sc "isinstance" y=ah->pY T.OB sc c z=ah->ch T k ns sc a o=ah->P (.Call (.Name y q) [o,.Name z r] [] p)):P x:=
  Bp h λn ps p h=>lO (P:=λn=>P (.Call n ps [] p)) (aB h).1 λy q z=>LX (P:=λps=>P (.Call (.Name y q) ps [] p)) (aB h).2 λo n h=>lO (P:=λn=>P (.Call (.Name y q) [o,n] [] p)) (aB h).1 λw r z2=>g y q o w r p z z2 (aB h).2
@[elab_as_elim]theorem pZ{P:List Expr->Prop}(h:dM T k ns sc [] xs=ah)(g:P []):P xs:=(cI.mp h)▸g
@[elab_as_elim]theorem mS{e:ME}{es:List ME}{P:List Expr->Prop}(h:dM T k ns sc (e::es) xs=ah)(g:∀y t,ch T k ns sc e y=ah->dM T k ns sc es t=ah->P (y::t)):P xs:=by
  induction xs using am with
  |nil=>exact ft h
  |cons y t=>exact g y t (aB h).1 (aB h).2
end
section
variable{G:List MV}{l:Loc}{U U':bN}{m:MV}{a b:ME}{P:Prop}
theorem nr{f:α×β->Option γ}{m:γ}(h:o.bind f=aa m)(k:∀x y,o=aa (x,y)->f (x,y)=aa m->P):P:=gz h λp e h=>k p.1 p.2 e h
theorem HV{f:α->β}{m:β}{s s':γ}(h:o.map (λv=>(f v,s))=aa (m,s'))(g:∀v,o=aa v->m=f v->s=s'->P):P:=match o,h with|some v,h=>g v ae (op h).1.symm (op h).2
theorem Jg{R:bN->MV->MV->Option MV}(h:((cm C M G a l U).bind λp=>(cm C M G b l p.2).bind λq=>(R q.2 p.1 q.1).map λv=>(v,q.2))=aa (m,U'))(g:∀x U1 y,cm C M G a l U=aa (x,U1)->cm C M G b l U1=aa (y,U')->R U' x y=aa m->P):P:=
 nr h λx U1 e1 h=>nr h λy U2 e2 h=>HV (f:=λv=>v) h λv e3 e4 e5=>g x U1 y e1 (e5▸e2) (e4▸e5▸e3)
theorem Jf{R:bN->MV->Option MV}(h:((cm C M G a l U).bind λp=>(R p.2 p.1).map λv=>(v,p.2))=aa (m,U'))(g:∀x,cm C M G a l U=aa (x,U')->R U' x=aa m->P):P:=
 nr h λx U1 e1 h=>HV (f:=λv=>v) h λv e2 e3 e4=>g x (e4▸e1) (e3▸e4▸e2)
theorem SN(h:cm C M G (.y a b c) l U=aa (m,U'))(g:∀x U1 y U2 z,cm C M G a l U=aa (x,U1)->cm C M G b l U1=aa (y,U2)->cm C M G c l U2=aa (z,U')->uQ U' x y z=aa m->P):P:=
 nr h λx U1 e1 h=>nr h λy U2 e2 h=>nr h λz U3 e3 h=>HV (f:=λv=>v) h λv e4 e5 e6=>g x U1 y U2 z e1 e2 (e6▸e3) (e5▸e6▸e4)
theorem xH{M:qB}{e:ME}(h:iC C M G (e::es) l U=aa (ms,U'))(g:∀v U1 vs,cm C M G e l U=aa (v,U1)->iC C M G es l U1=aa (vs,U')->ms=v::vs->P):P:=
 nr h λv U1 e1 h=>rY (P:=λm=>m=(ms,U')->P) h (λq e2 e=>g v U1 q.1 e1 (e2.trans (congrArg (λs=>aa (q.1,s)) (congrArg dX e))) (congrArg dq e).symm) ae
end
end
section
open PySem PySem.W PySem.Calls PyProof PyProof.Rows PySem.Builtin
section
variable{X:Cx}
theorem IU{op:Op}(h:OA op o=ah):o=Uo op:=of_decide_eq_true h
theorem yK{op:Cp}(h:sR op o=ah):o=V7 op:=of_decide_eq_true h
theorem mh{op:CmpOp}(h:mY e=ah):behindInMarks op e=ac:=by
 induction e using dS with
 |Set=>exact ft h
 |_=>rfl
theorem C6(h:Q (.bytes b.toArray s.toks) {s with toks:=s.toks+1}):wpAny M A (bC (.Constant (.bytes b) k pos) env) Q E s:=λu u u=>h
theorem Rg(h:Sy v c=ah)(I:cV X.V W U s.heap):Ac X A env W s (.Constant c k pos) v U:=by
 induction v using MV.casesOn with
 |N=>induction c using gx with
  |none=>exact wpAny_Constant_none (b7.fc I .none)
  |_=>exact ft h
 |B b=>induction c using gx with
  |bool=>refine ak (eq_of_beq h) ?_;exact wpAny_Constant_bool (b7.fc I (.bool _))
  |_=>exact ft h
 |I i=>induction c using gx with
  |int=>refine ak (of_decide_eq_true h) ?_;exact wpAny_Constant_int (b7.fc I (.int _ _))
  |_=>exact ft h
 |S l=>induction c using gx with
  |str=>exact wpAny_Constant_str (b7.fc I (.str (iZ (aB h).1) (aB h).2))
  |_=>exact ft h
 |Y l=>induction c using gx with
  |bytes=>exact C6 (b7.fc I (.bytes (iZ (aB h).1) (aB h).2))
  |_=>exact ft h
 |_=>exact ft h
theorem SB.c(v:MV):SB X (.c v):=ST.of (@λk ns sc x hc A env W s l U m U' a hd=>G4 hc λc i p h=>CA hd (Rg h a.I)) λhc env m=>G4 hc λu u u u=>ae
theorem SB.var(i:Nat):SB X (.v i):=ST.of (@λk ns sc x hc A env W s l U m U' a hd=>lO hc λy p h=>gz hd λo e hd=>match o,e,hd with
 |some v,e,hd=>CA hd (Kp (vY (aB (aB h).1).1) (aB (aB h).1).2 (bK _▸(aB h).2) a.F a.I e)) λhc env m=>lO hc λu u u=>ae
theorem mw(h:pY T sc i y=ah):fW T i y=ah/\rR (bP sc y)=ah/\iq y=ac:=⟨(aB (aB h).1).1,(aB (aB h).1).2,bK _▸(aB h).2⟩
theorem SB.glob(Y:X.Good)(g:Nat):SB X (.g g):=ST.of (@λk ns sc x hc A env W s l U m U' a hd=>lO hc λy p h=>HV (f:=λv=>v) hd λv e e1 e2=>aV (Y.data g _ _ (mw h).1 e) λu q1 q2=>
 e1▸e2▸n7 Y (mw h).2.1 (mw h).2.2 a.F a.I q1 (b7.fc a.I (q2.based a.I))) λhc env m=>lO hc λw w w=>ae
theorem vA.cLine(R:vA A d k):A.units+60<cLine:=bG (qM (ao (ao (aU _ _) (aU _ _)) R.units) 60) (by decide)
theorem SB.bin{op:Op}{b:ME}(ha:SE X a)(hb:SE X b):SB X (.b op a b):=ST.of (@λk ns sc x hc A env W s l U m U' z hd=>PE hc λp o q pos c=>Jg (R:=λU=>jO U op) hd λu U1 v e1 e2 e3=>
 IU (aB (aB c).1).1▸wpAny_BinOp (q6 (ha (aB (aB c).1).2 z e1) λw s1 W1 r1 t1=>q6 (hb (aB c).2 (z.step t1) e2) λw s2 W2 r2 t2=>aI (XR t2.I (r1.up t2) r2 e3) λw w a=>a.trans (t1.trans t2))) λhc env m=>PE hc λw w w w w=>ae
theorem SB.neg(ha:SE X a):SB X (.n a):=ST.of (@λk ns sc x hc A env W s l U m U' z hd=>Oe hc λo p pos c=>Jf (R:=λw=>Uj) hd λv e1 e2=>by
 refine ak (of_decide_eq_true (aB c).1) ?_
 induction v using MV.casesOn with
 |I i=>exact gA e2 (wpAny_UnaryOp (q6 (ha (aB c).2 z e1) λu s1 W1 r1 t1=>r1.jI λw=>P.neg_int (b7.trans t1 (b7.fc t1.I (.int _ _)))))
 |_=>exact nn e2) λhc env m=>Oe hc λo p pos c=>(of_decide_eq_true (aB c).1)▸ae
theorem wN(h:bh (aa (.B b,U))=aa (b',U')):b'=b/\U'=U:=⟨(op h).1.symm,(op h).2.symm⟩
theorem zj{m:β}{P:Prop}(h:o.map f=aa m)(k:∀x,o=aa x->f x=m->P):P:=match o,h with|some x,h=>k x ae (oi h)
theorem SB.not(ha:SB X a):SB X (.o a):=
 ⟨@λk ns sc x hc A env W s l U m U' z hd=>Oe hc λo p pos c=>zj hd λb e1 e=>CA (congrArg aa e) (of_decide_eq_true (aB c).1▸iK e1 λm U2 e0 e2=>
   wpAny_UnaryOp (q6 (ha.ev (aB c).2 z e0) λu s1 W1 r1 t1=>not_of (aI (Fw (M:=model X.prog X.w) t1.I r1 e2) λc s2 t=>aV t λW2 q t2=>q▸⟨W2,.bool _,t1.trans t2⟩))),
 @λk ns sc x hc A env W s l U b U' z hd=>Oe hc λo p pos c=>by
   refine ak (of_decide_eq_true (aB c).1) ?_
   refine iK hd λm U1 e0 e2=>zj e0 λq e1 e=>?_
   have e3:=op (show aa (!q.1,q.2)=aa (b,U') from(congrArg (λp=>bh (aa p)) e).trans e2)
   exact wpAny_isTrue_Not (Bv (ha.te (aB c).2 z e1) λs1 W1 t1=>⟨W1,e3.1,e3.2▸t1⟩)⟩
theorem SB.cmp{op:Cp}{b:ME}(Y:X.Good)(ha:SE X a)(hb:SE X b):SB X (.m op a b):=
 have key:∀{k ns sc p o q},sR op o=ah->ch X.T k ns sc a p=ah->ch X.T k ns sc b q=ah->∀{A env W s l U m U'},At X k ns sc A env W s l U->cm X.C X.M X.G (.m op a b) l U=aa (m,U')->
   wpAny (model X.prog X.w) A (bC p env) (λu s1=>wpAny (model X.prog X.w) A (bC q env) (λu2 s2=>wpAny (model X.prog X.w) A (gL o u u2) (λv s3=>∃c,m= .B c/\b7 X.V W s (.B c) U' v s3) ci s2) ci s1) ci s:=
  @λk ns sc p o q c1 c2 c3 A env W s l U m U' z hd=>nr hd λx U1 e1 h=>nr h λy U2 e2 h=>HV (f:=MV.B) h λc e3 e4 e5=>yK c1▸q6 (ha c2 z e1) λu s1 W1 r1 t1=>q6 (hb c3 (z.step t1) e2) λu2 s2 W2 r2 t2=>
    aI (Rf z.R.cLine z.R.handled Y.P t2.I (r1.up t2) r2 e3) λu3 s3 a3=>⟨c,e4,e5▸a3.trans (t1.trans t2)⟩
 ⟨@λk ns sc x hc A env W s l U m U' z hd=>JX hc λp o q pos c1 c2 c3 c4=>wpAny_Compare1 (aI (key c1 c2 c3 z hd) λu s1 h1=>aI h1 λu2 s2 h2=>aI h2 λu3 s3 h3=>aV h3 λc e h=>e▸h) (mh c4),
 @λk ns sc x hc A env W s l U b U' z hd=>JX hc λp o q pos c1 c2 c3 c4=>iK hd λm U1 e0 e2=>wpAny_isTrue_Compare1 (aI (key c1 c2 c3 z e0) λu s1 h1=>aI h1 λu2 s2 h2=>aI h2 λu3 s3 h3=>aV h3 λc e a=>aV a λW1 r1 t=>by
   subst e
   have e3:=wN e2
   exact r1.IR (fh ⟨W1,e3.1.symm,e3.2▸t⟩)) (mh c4)⟩
end
section
variable{X:Cx}{V:Cfg}{W W':Wd}{U U':bN}{s s':Shared}{A:Around}{ns:List Str}{sc:Kinds}{env:Env}{l:Loc}
noncomputable def R7(V:Cfg)(W:Wd)(s:Shared)(ms:List MV)(U:bN)(vs:List Value)(s':Shared):Prop:=∃W',cN V W' vs ms/\cQ V W s W' U s'
noncomputable def xo(X:Cx)(es:List ME):Prop:=∀{k ns sc xs},dM X.T k ns sc es xs=ah->∀{A env W s l U ms U'} (pos:Pos),At X k ns sc A env W s l U->iC X.C X.M X.G es l U=aa (ms,U')->
 wpAny (model X.prog X.w) A (spliced (backTo pos (starEach xs env))) (R7 X.V W s ms U') ci s
theorem Hp:ch T k ns sc e (.Starred p q)=ac:=by
 induction e using ME.casesOn with
 |u b as=>
  induction b using Bi.casesOn with
  |z=>
   induction as using am with
   |nil=>rfl
   |cons a r=>induction r using am with
    |nil=>rfl
    |cons=>rfl
  |_=>rfl
 |f=>induction k using cX with
  |zero=>rfl
  |succ=>rfl
 |j=>induction k using cX with
  |zero=>rfl
  |succ=>rfl
 |_=>rfl
theorem xR(h:ch T k ns sc e x=ah)(r:List Expr)(env:Env):starEach (x::r) env=(ac,bC x env)::starEach r env:=by
 induction x using dS with
 |Starred p q=>exact ft (Hp.symm.trans h)
 |_=>rfl
theorem tL(pos:Pos)(l:List (Bool×Sem Value)):(backTo pos l).any (·.1)=l.any (·.1):=List.any_map
theorem uW:∀{es:List ME} {xs:List Expr},dM T k ns sc es xs=ah->∀env,(starEach xs env).any (·.1)=ac
 |[],_,h,env=>pZ h ae
 |e::r,_,h,env=>mS h λy t h1 h2=>(congrArg (List.any · _) (xR h1 _ _)).trans (uW h2 env)
theorem Bw(h:wpAny M A t (R7 V W s ms U) ci s)(g:∀vs s' W',cN V W' vs ms->cQ V W s W' U s'->Q vs s'):wpAny M A t Q ci s:=aI h λvs s' a=>aV a (g vs s')
theorem xo.nil:xo X []:=@λk ns sc xs hc A env W s l U ms U' pos z hd=>pZ hc (CA hd (wpAny_items_nil ⟨W,.nil,.refl z.I⟩))
theorem xo.cons(he:SE X e)(hs:xo X es):xo X (e::es):=@λk ns sc xs hc A env W s l U ms U' pos z hd=>mS hc λy t c1 c2=>xH hd λv U1 vs e1 e2 e3=>e3▸wpAny_items_cons (q6 (he c1 z e1) λu s1 W1 r1 t1=>Bw (hs c2 pos (z.step t1) e2) λus s2 W2 r2 t2=>⟨W2,.cons (r1.up t2) r2,t1.trans t2⟩) (xR c1 _ _)
theorem nX(hc:dM T k ns sc es xs=ah)
  (h:wpAny M A (spliced (backTo pos (starEach xs env))) (λvs s'=>Q ⟨vs,[]⟩ s') ci s):wpAny M A (evalArgs f ah (backTo pos (starEach xs env)) []) Q ci s:=by
 induction xs using am with
 |nil=>exact ai (m:=spliced []) (aI h λvs s' h'=>cb (ai (aw (ai (aw (aw h'))))))
 |cons y t=>
  have c1:starEach (y::t) env=(ac,bC y env)::starEach t env:=by
   induction es using am with
   |nil=>exact ft hc
   |cons e es=>exact xR (aB hc).1 _ _
  rw[c1]at h⊢
  exact qR h
end
section
variable{X:Cx}{W:Wd}{U U':bN}{s:Shared}{A:Around}{ns:List Str}{sc:Kinds}{env:Env}{l:Loc}
theorem SB.ite(ht:SB X t)(ha:SB X a)(hb:SB X b):SB X (.i t a b):=
 ⟨@λk ns sc x hc A env W s l U m U' z hd=>PK hc λp q r pos c=>nr hd λc1 U1 e1 h=>wpAny_IfExp (Bv (ht.te (aB (aB c).1).1 z e1) λs1 W1 t1=>by
   induction c1 using aY with
   |true=>exact aI (ha.ev (aB (aB c).1).2 (z.step t1) h) λu u a=>a.trans t1
   |false=>exact aI (hb.ev (aB c).2 (z.step t1) h) λu u a=>a.trans t1),
 @λk ns sc x hc A env W s l U b U' z hd=>PK hc λp q r pos c=>iK hd λm Ue h1 h2=>nr h1 λc1 U1 e1 h=>ai (Bv (ht.te (aB (aB c).1).1 z e1) λs1 W1 t1=>by
   induction c1 using aY with
   |true=>exact aI (ha.te (aB (aB c).1).2 (z.step t1) ((congrArg bh h).trans h2)) λu u a=>a.trans t1
   |false=>exact aI (hb.te (aB c).2 (z.step t1) ((congrArg bh h).trans h2)) λu u a=>a.trans t1)⟩
theorem yz(h:bh (aa (m,U))=aa (b,U')):U'=U:=gz (o:=cC U m) h λc e h=>Q3 (P:=λs=>s=U) h λu=>ae
theorem G9(h:wpAny M A (bC e₁ env) (λv s₁=>wpAny M A (truthy v) (λc s₂=>(zI stop c=ah->Q v s₂)/\(zI stop c=ac->wpAny M A (bC (.BoolOp (Ox stop) (e₂::rest) pos) env) Q ci s₂)) ci s₁) ci s):
  wpAny M A (bC (.BoolOp (Ox stop) (e₁::e₂::rest) pos) env) Q ci s:=by
 induction stop using aY with
 |false=>exact BoolOp_and (aI h λv s₁ h=>aI h λc s₂ h=>by induction c using aY with|true=>exact h.2 ae|false=>exact h.1 ae)
 |true=>exact BoolOp_or (aI h λv s₁ h=>aI h λc s₂ h=>by induction c using aY with|true=>exact h.1 ae|false=>exact h.2 ae)
theorem AR(h:wpAny M A (pR x env (bC x env)) (λc s'=>(zI stop c=ah->Q stop s')/\(zI stop c=ac->wpAny M A (pR (.BoolOp (Ox stop) rest pos) env whole) Q ci s')) ci s):
  wpAny M A (pR (.BoolOp (Ox stop) (x::rest) pos) env whole) Q ci s:=by
 induction stop using aY with
 |false=>exact isTrue_and (aI h λc s₂ h=>by induction c using aY with|true=>exact h.2 ae|false=>exact h.1 ae)
 |true=>exact isTrue_or (aI h λc s₂ h=>by induction c using aY with|true=>exact h.1 ae|false=>exact h.2 ae)
noncomputable def Yc(X:Cx)(stop:Bool)(es:List ME):Prop:=∀{k ns sc xs},dM X.T k ns sc es xs=ah->∀{A env W s l U m U'} (pos:Pos),At X k ns sc A env W s l U->ii X.C X.M X.G stop es l U=aa (m,U')->Ac X A env W s (.BoolOp (Ox stop) xs pos) m U'
noncomputable def Ye(X:Cx)(stop:Bool)(es:List ME):Prop:=∀{k ns sc xs},dM X.T k ns sc es xs=ah->∀{A env W s l U b U'} (pos:Pos) (whole:Sem Value),At X k ns sc A env W s l U->bh (ii X.C X.M X.G stop es l U)=aa (b,U')->
 wpAny (model X.prog X.w) A (pR (.BoolOp (Ox stop) xs pos) env whole) (s7 X.V W s b U') ci s
theorem Eb(h:zI stop b=ah):b=stop:=by induction stop using aY<;>induction b using aY<;>first|rfl|exact ft h
theorem Ec(h:zI stop b=ac):b= !stop:=by induction stop using aY<;>induction b using aY<;>first|rfl|exact tf h
theorem XS:∀{es:List ME},(∀e∈es,SB X e)->Yc X stop es
 |[],_=>by
  intro hc A env W s l U m U' pos z hd
  exact nn hd
 |e::r,hs=>by
  intro hc A env W s l U m U' pos z hd
  refine mS hc λx t c1 c2=>nr hd λv U1 e1 h=>?_
  have ih:Yc X stop r:=XS λe he=>hs e (.tail _ he)
  induction r using am with
  |nil=>exact pZ c2 (CA h (BoolOp_one ((hs e (.head _)).ev c1 z e1)))
  |cons e2 r=>
   refine nr (o:=bh (aa (v,U1))) h λb U2 e3 h=>?_
   obtain rfl:=yz e3
   induction t using am with
   |nil=>exact ft c2
   |cons y t=>exact G9 (q6 ((hs e (.head _)).ev c1 z e1) λu s1 W1 r1 t1=>aI (Fw (M:=model X.prog X.w) t1.I r1 e3) λc s2 a=>aV a λW2 q t2=>by
     subst q
     refine n6 h (λz1 h=>⟨λk=>CA h ⟨W2,r1.up t2,t1.trans t2⟩,λz2=>ft (z2.symm.trans z1)⟩) λz1 h=>⟨λz2=>ft (z1.symm.trans z2),λk=>aI (ih c2 pos ((z.step t1).step t2) h) λu2 s3 a3=>a3.trans (t1.trans t2)⟩)
theorem XZ:∀{es:List ME},(∀e∈es,SB X e)->Ye X stop es
 |[],_=>by
  intro hc A env W s l U b U' pos whole z hd
  exact nn hd
 |e::r,hs=>by
  intro hc A env W s l U b U' pos whole z hd
  refine mS hc λx t c1 c2=>iK hd λm Ue h0 h9=>nr h0 λv U1 e1 h=>?_
  have ih:Ye X stop r:=XZ λe he=>hs e (.tail _ he)
  induction r using am with
  |nil=>
   refine pZ c2 (AR (Bv ((hs e (.head _)).te c1 z ((congrArg bh (e1.trans h)).trans h9)) λs1 W1 t1=>⟨λq=>⟨W1,(Eb q).symm,t1⟩,λq=>?_⟩))
   induction stop using aY with
   |false=>exact isTrue_and_nil ⟨W1,(Ec q).symm,t1⟩
   |true=>exact isTrue_or_nil ⟨W1,(Ec q).symm,t1⟩
  |cons e2 r=>
   refine nr (o:=bh (aa (v,U1))) h λc U2 e3 h=>?_
   obtain rfl:=yz e3
   exact AR (Bv ((hs e (.head _)).te c1 z ((congrArg bh e1).trans e3)) λs1 W1 t1=>by
    refine n6 h (λz1 h=>⟨λu=>?_,λz2=>ft (z2.symm.trans z1)⟩) λz1 h=>⟨λz2=>ft (z1.symm.trans z2),λu=>aI (ih c2 pos whole (z.step t1) ((congrArg bh h).trans h9)) λu2 s3 a3=>a3.trans t1⟩
    have q:=op (e3.symm.trans ((congrArg bh h).trans h9))
    exact⟨W1,(Eb z1).symm.trans q.1,q.2▸t1⟩)
theorem SB.and(hs:∀e∈es,SB X e):SB X (.a es):=
 ⟨@λk ns sc x hc A env W s l U m U' z hd=>Cs hc λo p pos c=>of_decide_eq_true (aB c).1▸XS hs (aB c).2 pos z hd,@λk ns sc x hc A env W s l U b U' z hd=>Cs hc λo p pos c=>of_decide_eq_true (aB c).1▸XZ hs (aB c).2 pos _ z hd⟩
theorem SB.or(hs:∀e∈es,SB X e):SB X (.r es):=
 ⟨@λk ns sc x hc A env W s l U m U' z hd=>Cs hc λo p pos c=>of_decide_eq_true (aB c).1▸XS hs (aB c).2 pos z hd,@λk ns sc x hc A env W s l U b U' z hd=>Cs hc λo p pos c=>of_decide_eq_true (aB c).1▸XZ hs (aB c).2 pos _ z hd⟩
end
theorem DI:fE (.type "list") "__getitem__"=pure (aa (.builtin "list.__getitem__")):=by refine ak (cc ..) (ak bw ?_);kernel_rfl
theorem B0:fE (.type "tuple") "__getitem__"=pure (aa (.builtin "tuple.__getitem__")):=by refine ak (cc ..) (ak bw ?_);kernel_rfl
theorem DH:fE (.type "dict") "__getitem__"=pure (aa (.builtin "dict.__getitem__")):=by refine ak (cc ..) (ak bw ?_);kernel_rfl
theorem BZ:fE (.type "bytes") "__getitem__"=pure (aa (.builtin "bytes.__getitem__")):=by refine ak (cc ..) (ak bw ?_);kernel_rfl
section
variable{s:Shared}
noncomputable def EU:MV->Bool
 | .Y _=>ah
 | .S _=>ah
 | .T _=>ah
 | .L _=>ah
 | .D _ _=>ah
 |_=>ac
theorem EV:fE (.type "str") "__getitem__"=pure (aa (.builtin "str.__getitem__")):=by refine ak (cc ..) (ak bw ?_);kernel_rfl
noncomputable def Iw(s:Shared)(o:Value):Prop:=∃T id,s.TypeIs o T/\fE (.type T) "__getitem__"=pure (aa (.builtin id))
theorem JM(I:cV V W U s.heap)(r:Rv V W o x)(e:cC U x=aa c)(hc:EU c=ah):Iw s o:=by
 induction c using MV.casesOn with
 |Y l=>exact eX I r e λb t u u u=>gu _ _ ⟨b6 s b t,BZ⟩
 |S l=>exact ml I r e λb t u u u=>gu _ _ ⟨tC s b t,EV⟩
 |T l=>exact zP I r e λa vs n u q u u u=>gu _ _ ⟨Va q,B0⟩
 |L l=>exact kH I r e λa vs n q u u u=>gu _ _ ⟨VS q,DI⟩
 |D l k=>exact FE (yO I r e) λa es n e q=>e▸(gu _ _ ⟨⟨_,q.1,ae⟩,DH⟩)
 |_=>exact ft hc
theorem zL(slice:Expr)(o i:Value):∃vs,subscripted slice ac o i=operate vs (getItem o i):=by
 induction slice using dS with
 |Slice a b c p=>induction c using bg<;>exact⟨_,ae⟩
 |_=>exact⟨_,ae⟩
theorem GV
  (h:wpAny (model prog w) A (bC value env) (λo s₁=>wpAny (model prog w) A (bC slice env) (λi s₂=>Iw s₂ o/\wpAny (model prog w) A (getItem o i) Q ci s₂) ci s₁) ci s):
  wpAny (model prog w) A (bC (.Subscript value slice pos) env) Q ci s:=by
 refine ak (PySem.arm_eval_Subscript ..) ?_
 refine ai (aI h λo s₁ h₁=>ai (cb (aI h₁ λi s₂ h₂=>ai (ip ?_))))
 obtain⟨⟨T,id,hT,hl⟩,hg⟩:=h₂
 refine ee (zL slice o i) λvs hv=>?_
 have fin:wpAny (model prog w) A (subscripted slice ac o i) (λr s₃=>wpAny (model prog w) A (letTemporaryGo value o r>>=λu=>pure r) Q ci s₃) ci s₂:=by
  refine ak hv ?_
  exact wpAny_operating (aI hg λr s₃ h₃=>ai (qX (aw h₃)))
 refine ai ?_
 refine ak (getitemInPython_of_ne hT.not_modules) ?_
 refine ai (ig hT hl ?_)
 first
  |exact aw (ai fin)
  |exact ai (aw (ai fin))
  |exact ai fin
theorem MQ(h:fi U x k=aa m):∃c,cC U x=aa c/\EU c=ah:=gz h λc e h=>⟨c,e,by
 induction c using MV.casesOn with
 |Y=>rfl
 |S=>rfl
 |T=>rfl
 |L=>rfl
 |D=>rfl
 |_=>exact nn h⟩
theorem JJ(h:uQ U x k k2=aa m):∃c,cC U x=aa c/\EU c=ah:=gz h λc e h=>⟨c,e,by
 induction c using MV.casesOn with
 |Y=>rfl
 |S=>rfl
 |T=>rfl
 |L=>rfl
 |_=>exact nn h⟩
theorem SB.idx(Y:X.Good)(ho:SE X o)(hi:SE X i):SB X (.x o i):=ST.of (@λk ns sc x hc A env W s l U m U' z hd=>Ep hc λp q pos c=>Jg (R:=fi) hd λa U1 b e1 e2 e3=>GV (q6 (ho (aB c).1 z e1) λu s1 W1 r1 t1=>q6 (hi (aB c).2 (z.step t1) e2) λu2 s2 W2 r2 t2=>
 aV (MQ e3) λc h1 h2=>⟨JM t2.I (r1.up t2) h1 h2,aI (NJ Y.P t2.I (r1.up t2) r2 e3) λu3 s3 a3=>a3.trans (t1.trans t2)⟩)) λhc env m=>Ep hc λv v v v=>ae
theorem Pk(ha:SE X a)(hc:Hq (λq=>ch X.T k ns sc a q) a q=ah)(z:At X k ns sc A env W s l U)(hd:cm X.C X.M X.G a l U=aa (m,U')):
  wpAny (model X.prog X.w) A (evalPart q env) (b7 X.V W s m U') ci s:=by
 induction q using bg with
 |some q=>exact ha hc z hd
 |none=>
  induction a using ME.casesOn with
  |c v=>
   induction v using MV.casesOn with
   |N=>exact CA hd (aw (b7.fc z.I .none))
   |_=>exact ft hc
  |_=>exact ft hc
@[elab_as_elim]theorem OQ{ns:List Str}{sc:Kinds}{o a b:ME}{x:Expr}{P:Expr->Prop}(h:ch T k ns sc (.y o a b) x=ah)(g:∀l lo up p q,ch T k ns sc o l=ah->Hq (λq=>ch T k ns sc a q) a lo=ah->Hq (λq=>ch T k ns sc b q) b up=ah->P (.Subscript l (.Slice lo up ag p) q)):P x:=
  Ep h λl i q h=>Ob (P:=λi=>P (.Subscript l i q)) h λlo up st p h=>by
   induction st using bg with
   |none=>exact g l lo up p q (aB (aB (aB h).1).1).1 (aB (aB (aB h).1).1).2 (aB (aB h).1).2
   |some=>exact ft (aB h).2
theorem SB.sl(ho:SE X o)(ha:SE X a)(hb:SE X b):SB X (.y o a b):=ST.of (@λk ns sc x hc A env W s l U m U' z hd=>OQ hc λp lo up pos1 pos2 c1 c2 c3=>SN hd λy U1 v U2 w e1 e2 e3 e4=>
 GV (q6 (ho c1 z e1) λu s1 W1 r1 t1=>wpAny_Slice (q6 (Pk ha c2 (z.step t1) e2) λu2 s2 W2 r2 t2=>q6 (Pk hb c3 ((z.step t1).step t2) e3) λu3 s3 W3 r3 t3=>aw (
  have t4:=cQ.kept (tk:=s3.toks) t3.I (eN (h:=s3.heap) {cls:=.type "slice",data:=.fields #[u2,u3,.none]})
  have r4:=(r1.up t2).up t3
  aV (JJ e4) λc h1 h2=>⟨JM t4.I r4 h1 h2,aI (Rj t4.I r4 (r2.up t3) r3 (Heap.IsSliceOf.new _ _ _ _) e4) λu4 s4 a4=>a4.trans (((t1.trans t2).trans t3).trans t4)⟩)))) λhc env m=>OQ hc λq q q q q q q q=>ae
theorem SB.tup(hs:xo X es):SB X (.z es):=ST.of (@λk ns sc x hc A env W s l U m U' z hd=>LW hc λp q pos c=>nr hd λms U1 e1 h=>Q3 h λh=>gI h λz1=>wpAny_Tuple (Bw (hs c _ z e1) λvs s1 W1 r1 t1=>⟨r1.length▸lM▸gb z1,b7.trans t1 (b7.tuple (tk:=s1.toks) (n:=0) t1.I (by simpa using r1) z1)⟩)) λhc env m=>LW hc λu u u u=>ae
theorem SD{U U':bN}{l:Loc}{G:List MV}{o1 o2:Cp}{a b c:ME}{m:MV}{P:Prop}(h:cm C M G (.p o1 o2 a b c) l U=aa (m,U'))(g:∀x U1 y U2 t,cm C M G a l U=aa (x,U1)->cm C M G b l U1=aa (y,U2)->nV U2 o1 x y=aa t->
  (t=ah->∃z w,cm C M G c l U2=aa (z,U')/\nV U' o2 y z=aa w/\m= .B w)->(t=ac->m= .B ac/\U'=U2)->P):P:=
 nr h λx U1 e1 h=>nr h λy U2 e2 h=>gz h λt e3 h=>g x U1 y U2 t e1 e2 e3 (λq=>by
  subst q
  exact nr h λz U3 e4 h=>HV (f:=MV.B) h λw e5 e6 e7=>gu z w ⟨e7▸e4,e7▸e5,e6⟩) λq=>by
  subst q
  exact⟨(op h).1.symm,(op h).2.symm⟩
theorem SB.ma{X:Cx}{o2:Cp}{a b c:ME}(Y:X.Good)(ha:SE X a)(hb:SE X b)(hc':SE X c):SB X (.p o1 o2 a b c):=by
 have key:∀{k ns sc p o q o' r A env W s l U m U'},sR o1 o=ah->sR o2 o'=ah->ch X.T k ns sc a p=ah->ch X.T k ns sc b q=ah->ch X.T k ns sc c r=ah->At X k ns sc A env W s l U->cm X.C X.M X.G (.p o1 o2 a b c) l U=aa (m,U')->
   wpAny (model X.prog X.w) A (bC p env) (λu s1=>wpAny (model X.prog X.w) A (bC q env) (λu2 s2=>wpAny (model X.prog X.w) A (gL o u u2) (λv s3=>∃t,v= .bool t/\match t with
    |true=>wpAny (model X.prog X.w) A (bC r env) (λu4 s4=>wpAny (model X.prog X.w) A (gL o' u2 u4) (λv s5=>∃w,m= .B w/\v= .bool w/\s7 X.V W s w U' w s5) ci s4) ci s3
    |false=>m= .B ac/\s7 X.V W s ac U' ac s3) ci s2) ci s1) ci s:=
  @λk ns sc p o q o' r A env W s l U m U' c1 c2 c3 c4 c5 z hd=>SD hd λx U1 y U2 t e1 e2 e3 h1 h2=>yK c1▸yK c2▸q6 (ha c3 z e1) λu s1 W1 r1 t1=>q6 (hb c4 (z.step t1) e2) λu2 s2 W2 r2 t2=>q6 (Rf z.R.cLine z.R.handled Y.P t2.I (r1.up t2) r2 e3) λu3 s3 W3 r3 t3=>
    have t23:=(t1.trans t2).trans t3
    ⟨t,r3,by
    induction t using aY with
    |false=>exact⟨(h2 ae).1,(h2 ae).2▸.of t23⟩
    |true=>exact fI (h1 ae) λv w e4 e5 e6=>q6 (hc' c5 (z.step t23) e4) λu4 s4 W4 r4 t4=>q6 (Rf z.R.cLine z.R.handled Y.P t4.I ((r2.up t3).up t4) r4 e5) λu5 s5 W5 r5 t5=>⟨w,e6,r5,.of ((t23.trans t4).trans t5)⟩⟩
 refine⟨@λk ns sc x hc A env W s l U m U' z hd=>Gl hc λp o o' q r pos c1 c2 c3 c4 c5 c7=>Compare_chain (aI (key c1 c2 c3 c4 c5 z hd) λu s1 h1=>chain_link (aI h1 λu2 s2 h2=>aI h2 λu3 s3 h3=>aV h3 λt q h=>?_)) (mh c7),
  @λk ns sc x hc A env W s l U b U' z hd=>Gl hc λp o o' q r pos c1 c2 c3 c4 c5 c7=>iK hd λm Ue h0 h9=>isTrue_chain (aI (key c1 c2 c3 c4 c5 z h0) λu s1 h1=>test_link (aI h1 λu2 s2 h2=>aI h2 λu3 s3 h3=>aV h3 λt q h=>?_)) (mh c7)⟩
 ·subst q
  refine fh ?_
  induction t using aY with
  |false=>exact h.1▸b7.Ow h.2
  |true=>exact chain_last (aI h λu4 s4 h4=>aI h4 λv s5 h5=>jl h5 λw e1 e2 h=>e1▸e2▸b7.Ow h)
 ·subst q
  have fin:∀{w:Bool} {s5:Shared},m= .B w->s7 X.V W s w Ue w s5->s7 X.V W s b U' w s5:=λe h=>aV h λW5 g t=>(by subst e;exact have e3:=wN h9;⟨W5,e3.1.symm,e3.2▸t⟩)
  refine fh ?_
  induction t using aY with
  |false=>exact fin h.1 h.2
  |true=>exact test_last (aI h λu4 s4 h4=>aI h4 λv s5 h5=>jl h5 λw e1 e2 h=>e2▸fh (fin e1 h))
end
section
variable{X:Cx}{V:Cfg}{W W' W1:Wd}{U U':bN}{s s' s1:Shared}{h h':Heap}{A:Around}{ns:List Str}{sc:Kinds}{env:Env}{l:Loc}{prog:Program}{w:World}{a d:Addr}{o:Obj}{c m:MV}{tk:Nat}
noncomputable def Wd.vC(W:Wd)(a d:Addr):Wd:=⟨W.K,W.F++[(a,d)]⟩
theorem i3.vC(ha:h.get? a=ag)(hd:h.get? d=ag):i3 h W (W.vC a d):=⟨λu u e=>e,λu u e=>.inl e,[(a,d)],ae,λu hp=>bF.mp hp▸⟨ha,hd⟩⟩
theorem lj.snoc:∀{F:List (Addr×Addr)} {p:Addr×Addr},lj F->(∀q∈F,q.1≠p.1/\q.1≠p.2/\q.2≠p.1/\q.2≠p.2)->lj (F++[p])
 |[],p,_,_=>⟨(λu h=>nomatch h),trivial⟩
 |q::r,p,x,h=>⟨λy hx=>(bT.mp hx).elim (x.1 y) λhx=>(bF.mp hx).symm▸h q (.head _),lj.snoc x.2 λy hx=>h y (.tail _ hx)⟩
theorem Ck{ps:List (Addr×Addr)}{cs:bN}{p:Addr×Addr}(r:pS V W h ps cs):(ps++[p])[cs.length]?=aa p:=by refine ak (aZ r.length) (ak (eh (bj _)) (ak (iW ..) ?_));rfl
theorem cV.vC(I:cV V W U h)(u:ga W a)(v:ga W d)(oa:∃o,h.get? a=aa o)(od:∃o,h.get? d=aa o)(r:yv V (W.vC a d) h (a,d) c):cV V (W.vC a d) (U++[c]) h where
 fz:=I.fz
 cells:=(I.cells.mono (n:=⟨#[],h.life⟩) (i3.vC (by unfold mo;simp) (by unfold mo;simp)) λp hp=>⟨λw e=>e,λw e=>e⟩).append (.cons r ae)
 free:=λp hp=>(bT.mp hp).elim (I.free p) λhp=>(bF.mp hp).symm▸⟨⟨u.K,oa⟩,⟨v.K,od⟩⟩
 apart:=I.apart.snoc λq hq=>⟨λe=>u.F ⟨q,hq,.inl e.symm⟩,λe=>v.F ⟨q,hq,.inl e.symm⟩,λe=>u.F ⟨q,hq,.inr e.symm⟩,λe=>v.F ⟨q,hq,.inr e.symm⟩⟩
 st:=I.st
 big:=I.big
theorem cV.other(I:cV V W U h)(u:ga W a)(k:mC a h h'):cV V W U h':=I.OT λb o c=>k b o λq=>c.elim (λe=>zF u.K (q▸e)) λe=>u.F (q▸e)
theorem cQ.other(t:cQ V W s W1 U s1)(u:ga W1 a)(ha:s.heap.get? a=ag)(k:mC a s1.heap h'):cQ V W s W1 U {s1 with heap:=h',toks:=tk}:=
 ⟨t.x,⟨λb o e c=>k b o (cT e ha) (t.p.keep b o e c),λb o e=>(t.p.live b o e).imp λo'=>k b o' (cT e ha),λp hp=>(t.p.ep p hp).trans (.kept λo=>k _ o λq=>u.F ⟨p,t.x.RY hp,.inl q.symm⟩),t.p.os,t.p.gens⟩,t.I.other u k⟩
theorem cQ.zN(t:cQ V W s W1 U s1)(u:ga W1 a)(ha:s.heap.get? a=ag)(ho:s1.heap.get? a=aa o):cQ V W s (W1.add a o) U s1:=⟨t.x.trans (i3.add ha u.K) λb o e=>⟨o,e⟩,t.p,t.I.zN u.K u.F ho⟩
theorem cQ.Fy(t:cQ V W s W1 U s1)(u:ga W1 a)(v:ga W1 d)(ha:s.heap.get? a=ag)(hd:s.heap.get? d=ag)(oa:∃o,s1.heap.get? a=aa o)(od:∃o,s1.heap.get? d=aa o)(r:yv V (W1.vC a d) s1.heap (a,d) c):cQ V W s (W1.vC a d) (U++[c]) s1:=
 ⟨t.x.trans (i3.vC ha hd) λb o e=>⟨o,e⟩,t.p,t.I.vC u v oa od r⟩
theorem made{mu:Bool}(t:cQ V W s W1 U s1)(u:ga W1 a)(ha:s.heap.get? a=ag)(ho:s1.heap.get? a=aa o)(rf:∀W',i3 s.heap W1 W'->W'.K a=aa o->Rv V W' (.ref a) c)(rc:∀W',i3 s.heap W1 W'->yv V W' s1.heap (a,a) c)(h:qd mu c U=aa (m,U')):b7 V W s m U' (.ref a) s1:=by
 induction mu using aY with
 |false=>exact CA h ⟨_,rf _ (i3.add ha u.K) Wd.ph,t.zN u ha ho⟩
 |true=>exact CA h ⟨_,gu a a ⟨ae,Ck t.I.cells⟩,t.Fy u u ha ha ⟨o,ho⟩ ⟨o,ho⟩ (rc _ (i3.vC ha ha))⟩
theorem HR{mu:Bool}{vs:Array Value}{ms:List MV}{n:Nat}(t:cQ V W s W1 U s1)(u:ga W1 a)(ha:s.heap.get? a=ag)(ho:s1.heap.get? a=aa (hZ vs n))(r:cN V W1 vs.toList ms)(z:bX ms.length=ah)(h:qd mu (.L ms) U=aa (m,U')):b7 V W s m U' (.ref a) s1:=
 made t u ha ho (λv x e=>.lst e (r.mono x) z) (λv x=>gu vs n ⟨ho,r.mono x,z⟩) h
theorem we{mu:Bool}{es:Array DictEntry}{ks vs:List MV}{n:Nat}(t:cQ V W s W1 U s1)(u:ga W1 a)(ha:s.heap.get? a=ag)(ho:s1.heap.get? a=aa (dR es n))(r:yw V W1 es.toList ks vs\/Cw V W1 es.toList ks vs)(z:bX ks.length=ah)(h:qd mu (.D ks vs) U=aa (m,U')):b7 V W s m U' (.ref a) s1:=
 made (c:=.D ks vs) t u ha ho (λv x e=>rg a es n ⟨ae,e,r.imp (·.mono x) (·.mono x),z,t.I.low u.K⟩) (λv x=>gu es n ⟨ho,r.imp (·.mono x) (·.mono x),z⟩) h
theorem SB.lst{mu:Bool}{es:List ME}(hs:xo X es):SB X (.d mu es):=ST.of (@λk ns sc x hc A env W s l U m U' z hd=>LS hc λp pos c=>nr hd λms U1 e1 h=>n6 h (λz1 hz=>wpAny_List (Bw (hs c _ z e1) λvs s1 W1 r1 t1=>
 have kp:=eN (h:=s1.heap) (hZ vs.toArray 0)
 ⟨r1.length▸lM▸gb z1,b7.trans t1 (HR (n:=0) (cQ.kept (tk:=s1.toks) t1.I kp) (.fresh t1.I (bJ _)) (bJ _) (aL _ ae) (by simpa using r1) z1 hz)⟩)) λu=>nn) λhc env m=>LS hc λu u u=>ae
noncomputable def kS(x:Str):MV:=.S x.cps.toList
noncomputable def kI(i:Int):MV:=.I i
theorem QF(a b:Str):(kS a).eqv (kS b)=aa (decide (a=b)):=congrArg aa ((pz a b).symm.trans (cG.mpr (beq_iff_eq.trans decide_eq_true_iff.symm)))
section
variable{K:Type}[DecidableEq K]{knd:gi prog w K}{KP:DictEntry->MV->Prop}{kf:K->MV}{ok:K->Prop}
structure Kd(knd:gi prog w K)(KP:DictEntry->MV->Prop)(kf:K->MV)(ok:K->Prop):Prop where
 out:∀e k,KP e k->∃κ,k=kf κ/\knd.is κ e.key=ah/\e.hash=knd.hash κ/\ok κ
 into:∀e κ,knd.is κ e.key=ah->e.hash=knd.hash κ->ok κ->KP e (kf κ)
 row:∀x l,rQ (Du (kf x) l)=ah->kf x∉l
theorem Kd.pairs(D:Kd knd KP kf ok):∀{vs:List MV} {es:List DictEntry} {ks:List MV},j9 V W KP es ks vs->∃kvs:List (K×Value),Pairs knd es kvs/\ks=kvs.map (λp=>kf p.1)/\cN V W (kvs.map (·.2)) vs/\ ∀p∈kvs,ok p.1
 |[],_,_,r=>r.mX (R:=λes ks=>∃kvs:List (K×Value),Pairs knd es kvs/\ks=kvs.map (λp=>kf p.1)/\cN V W (kvs.map (·.2)) []/\ ∀p∈kvs,ok p.1) ⟨[],.nil,ae,.nil,λu h=>nomatch h⟩
 |v::vs,_,_,r=>r.gq (R:=λes ks=>∃kvs:List (K×Value),Pairs knd es kvs/\ks=kvs.map (λp=>kf p.1)/\cN V W (kvs.map (·.2)) (v::vs)/\ ∀p∈kvs,ok p.1) λe es k ks a d f=>sB (D.out _ _ a) λκ e1 e2 e3 e4=>sB (D.pairs f) λkvs p e5 r5 o5=>
  ⟨(κ,e.val)::kvs,.cons e2 ae p,e1▸e5▸ae,.cons d r5,λq hq=>(bc.mp hq).elim (λz=>z▸e4) (o5 q)⟩
noncomputable def IA(knd:gi prog w K)(es:List DictEntry):List (K×Value)->Prop
 |[]=>es=[]
 |kv::kvs=>∃e t,es=e::t/\knd.is kv.1 e.key=ah/\e.val=kv.2/\Pairs knd t kvs
theorem KI{es:List DictEntry}{kvs:List (K×Value)}(p:Pairs knd es kvs):IA knd es kvs:=Pairs.casesOn (motive:=λes kvs u=>IA knd es kvs) p ae λa b c=>gu _ _ ⟨ae,a,b,c⟩
theorem Kd.GC(D:Kd knd KP kf ok):∀{kvs:List (K×Value)} {es:List DictEntry} {vs:List MV},Pairs knd es kvs->(∀e∈es,∃k,knd.is k e.key=ah/\e.hash=knd.hash k)->(∀p∈kvs,ok p.1)->cN V W (kvs.map (·.2)) vs->j9 V W KP es (kvs.map λp=>kf p.1) vs
 |[],_,_,p,_,_,r=>(show _=[] from KI p)▸r.Ku (R:=λvs=>j9 V W KP [] [] vs) .nil
 |kv::kvs,_,_,p,hk,ho,r=>sC (KI p) λe t e1 a b q=>by
  subst e1
  exact r.AD (R:=λvs=>j9 V W KP (e::t) (kf kv.1::kvs.map λp=>kf p.1) vs) λm ms r1 r2=>aV (hk e (.head _)) λk k1 k2=>.cons (D.into e kv.1 a (k2.trans (congrArg knd.hash (knd.inj _ _ _ k1 a))) (ho _ (.head _))) (b▸r1) (D.GC q (λe he=>hk e (.tail _ he)) (λp hp=>ho p (.tail _ hp)) r2)
theorem Kd.nodup(D:Kd knd KP kf ok):∀{l:List K},eJ (l.map kf)=ah->l.Nodup
 |[],_=>mE
 |x::r,h=>dO.mpr ⟨λhm=>D.row x _ (aB h).1 (bM hm),D.nodup (aB h).2⟩
theorem Kd.Fx(D:Kd knd KP kf ok){es:Array DictEntry}{n:Nat}{ks vs:List MV}(e:h.get? a=aa (dR es n))(d:j9 V W KP es.toList ks vs)(hd:eJ ks=ah):∃kvs:List (K×Value),h.DictOf knd a kvs/\ks=kvs.map (λp=>kf p.1)/\cN V W (kvs.map (·.2)) vs/\ ∀p∈kvs,ok p.1:=
 sB (D.pairs d) λkvs p e1 r o=>⟨kvs,rg _ es n ⟨e,⟨ae,ae,ae⟩,ae,λq hq=>d.all (P:=λe=>∃k,knd.is k e.key=ah/\e.hash=knd.hash k) (λe k a=>sB (D.out e k a) λκ u e2 e3 u=>⟨κ,e2,e3⟩) q (fY.mpr hq),p,D.nodup (by refine ak bx ?_;exact e1▸hd)⟩,e1,r,o⟩
theorem Je{o:Obj}{es:Array DictEntry}{n:Nat}(e:o.ExactDict)(q:o.data= .dict es n):o=dR es n:=by
 refine vf e λe1 e2 e3=>?_
 cases o
 subst e1 e2 e3 q
 rfl
theorem Kd.E7(D:Kd knd KP kf ok){kvs:List (K×Value)}{vs:List MV}(d:h.DictOf knd a kvs)(ho:∀p∈kvs,ok p.1)(r:cN V W (kvs.map (·.2)) vs):∃es n,h.get? a=aa (dR es n)/\j9 V W KP es.toList (kvs.map λp=>kf p.1) vs:=
 RL d λo es n e1 e2 e3 e4 e5 u=>gu es n ⟨Je e2 e3▸e1,D.GC e5 (λe he=>e4 e (fY.mp he)) ho r⟩
noncomputable def An(k:K)(v:Value):List (K×Value)->List (K×Value)
 |[]=>[(k,v)]
 |(y,u)::r=>if y=k then(y,v)::r else(y,u)::An k v r
theorem zH{k y:K}{v u:Value}{r:List (K×Value)}(e:y=k):An k v ((y,u)::r)=(y,v)::r:=if_pos e
theorem zG{k y:K}{v u:Value}{r:List (K×Value)}(e:¬y=k):An k v ((y,u)::r)=(y,u)::An k v r:=if_neg e
theorem DL{k:K}{v:Value}:∀{l:List (K×Value)},(∀p∈l,p.1≠k)->l.map (λkv=>if kv.1=k then(kv.1,v)else kv)=l
 |[],_=>ae
 |p::r,h=>by exact ak bz (ak (if_neg (h p (.head _))) (ak (DL λq hq=>h q (.tail _ hq)) ae))
theorem Bg{k:K}{v:Value}:∀{l:List (K×Value)},(l.map (·.1)).Nodup->stored l k v=An k v l
 |[],_=>ae
 |(y,u)::r,h=>by
  have h:=dO.mp h
  by_cases e:y=k
  ·refine ak (zH e) ?_
   unfold stored
   exact ak sH (ak (if_pos (by rw[decide_eq_true e];rfl)) (ak bz (ak (if_pos e) (ak (DL λp hp q=>h.1 (e.trans q.symm▸bM (f:=(·.1)) hp)) ae))))
  ·refine ak (zG e) (ak (aZ (Bg h.2)) ?_)
   unfold stored
   refine ak sH (ak (decide_eq_false e) (ak (Bool.false_or ..) (ak bz (ak (if_neg e) ?_))))
   split<;>rfl
theorem Ea{k:K}{v:Value}:∀{l:List (K×Value)},(An k v l).length<=l.length+1
 |[]=>bj _
 |(y,u)::r=>by
  by_cases e:y=k
  ·refine ak (zH e) ?_;exact nH _
  ·refine ak (zG e) ?_;exact dH Ea
theorem GS{k:K}{v:Value}:∀{l:List (K×Value)},l.length<=(An k v l).length
 |[]=>bD _
 |(y,u)::r=>by
  by_cases e:y=k
  ·refine ak (zH e) ?_;exact bj _
  ·refine ak (zG e) ?_;exact dH GS
theorem GT{k:K}{v:Value}(hk:ok k):∀{l:List (K×Value)},(∀p∈l,ok p.1)->∀p∈An k v l,ok p.1
 |[],_,p,hp=>bF.mp hp▸hk
 |(y,u)::r,h,p,hp=>by
  by_cases e:y=k
  ·rw[zH e]at hp
   exact(bc.mp hp).elim (λq=>q▸h (y,u) (.head _)) λq=>h p (.tail _ q)
  ·rw[zG e]at hp
   exact(bc.mp hp).elim (λq=>q▸h (y,u) (.head _)) λq=>GT hk (λq hq=>h q (.tail _ hq)) p q
theorem K5(hk:∀a b,(kf a).eqv (kf b)=aa (decide (a=b))){k:K}{v:Value}(rv:Rv V W v m):∀{l:List (K×Value)} {vs:List MV} {q:List MV×List MV},cN V W (l.map (·.2)) vs->Ir (l.map λp=>kf p.1) vs (kf k) m=aa q->
  q.1=(An k v l).map (λp=>kf p.1)/\cN V W ((An k v l).map (·.2)) q.2
 |[],vs,q,r,h=>by
  revert h
  exact r.Ku λh=>gA h ⟨ae,.cons rv .nil⟩
 |(y,u)::r,vs,q,rr,h=>by
  revert h
  refine rr.AD λm0 ms ru rr h=>gz (o:=(kf y).eqv (kf k)) h λt ht h=>?_
  have ht:=oi ((hk y k).symm.trans ht)
  by_cases e:y=k
  ·refine ak (zH e) ?_
   rw[<-ht,decide_eq_true e]at h
   exact gA h ⟨ae,.cons rv rr⟩
  ·refine ak (zG e) ?_
   rw[<-ht,decide_eq_false e]at h
   exact rY h λp hp=>have z:=K5 hk rv rr hp;⟨congrArg (_:: ·) z.1,.cons ru z.2⟩
end
theorem y3{f:MV->Option Bool}(hs:f m=aa ah):∀{l:List MV},rQ (rh f l)=ah->m∉l
 |[],_,hm=>nomatch hm
 |y::r,h,hm=>by
  have h:rQ ((f y).bind λa=>(rh f r).map λb=>a||b)=ah:=h
  cases e:f y with
  |none=>rw[e]at h;exact ft h
  |some b=>
   rw[e]at h
   cases q:rh f r with
   |none=>rw[kL,q]at h;exact ft h
   |some t=>
    rw[kL,q]at h
    refine gQ (dt.mp (bK _▸h:(b||t)=ac)) λh1 h2=>?_
    exact(bc.mp hm).elim (λz=>tf (oi (hs.symm.trans (z▸e))|>.trans h1)) (y3 hs (q▸h2▸ae))
theorem RZ(hP:V.P=w.params):Kd (strKind prog w) (CE V) kS λu=>True where
 out:=λe k a=>fI a λx t e1 e2 e3=>⟨x,e1,e2▸kO prog w _ _,e3.trans (congrArg (cS · x) hP),trivial⟩
 into:=λe κ a b u=>ee (lP (show gj κ e.key=ah from a)) λt ht=>gu κ t ⟨ae,ht,b.trans (congrArg (cS · κ) hP).symm⟩
 row:=λx l h=>y3 (m:=kS x) (f:=Wc x.cps.toList) (congrArg aa (iO _)) h
theorem Y0:Kd (intKind prog w) CD kI λi=>gO i=ah where
 out:=λe k a=>sC a λi t e1 e2 e3 e4=>⟨i,e1,e2▸beq_self_eq_true _,e3,e4⟩
 into:=λe κ a b z=>ee (Value.isInt_shape (show lw κ e.key=ah from a)) λt ht=>gu κ t ⟨ae,ht,b,z⟩
 row:=λx l h=>y3 (m:=kI x) (f:=Wb x) (congrArg aa (decide_eq_true ae)) h
end
section
variable{X:Cx}{W:Wd}{U:bN}{s:Shared}{A:Around}{m:MV}
noncomputable def R8(X:Cx):Prop:=∀{b:Bi} {vs:List Value} {xs:List MV} {m:MV} {A:Around} {W:Wd} {U:bN} {s:Shared} {k:Nat},b≠ .z->vA A X.d k->cV X.V W U s.heap->cN X.V W vs xs->vH U b xs=aa m->
 wpAny (model X.prog X.w) A (call b.val vs) (b7 X.V W s m U) ci s
theorem kP(hf:∀{P:Value->Shared->Prop},P f s->wpAny M A (bC (.Name y p) env) P ci s)
  (h:wpAny M A (callWith pos f [] (backTo pos (starEach args env)) []) Q ci s):wpAny M A (bC (.Call (.Name y p) args [] pos) env) Q ci s:=by
 show wpAny M A (bC (.Name y p) env>>=λf=>callWith pos f [] (backTo pos (starEach args env)) (backToKw pos (keywordEach [] env))) Q ci s
 exact ai (hf h)
theorem Bi.shape{b:Bi}(hb:b≠ .z):(∃id,b.val= .builtin id)\/ ∃T,b.val= .type T:=by
 cases b<;>first|exact absurd ae hb|exact .inl ⟨_,ae⟩|exact .inr ⟨_,ae⟩
theorem CV{b:Bi}{args:List (Bool×Sem Value)}{Q:Value->Shared->Prop}{M:Model}(hb:b≠ .z)(hp:args.any (·.1)=ac)
  (h:wpAny M A (evalArgs b.val ah args []) (λa s₁=>wpAny M A (call b.val a.pos a.kw) Q ci s₁) ci s):wpAny M A (callWith pos b.val [] args []) Q ci s:=by
 rcases Bi.shape hb with⟨id,e⟩|⟨T,e⟩<;>rw[e]at h⊢
 ·exact oW (first:=[]) hp h
 ·exact iH (first:=[]) hp h
theorem Bi.mem{b:Bi}(h:b≠ .z):(b.name,b.val)∈rK:=aT (i:=b.ctorIdx) (by cases b<;>first|exact absurd ae h|rfl)
theorem Xp(h:dM T k ns sc es ps=ah):(backTo pos (starEach ps env)).any (·.1)=ac:=(tL _ _).trans (uW h env)
theorem FV(h:b≠ .z)(hc:ch T k ns sc (.u b as) x=ah):(ve x λg ps v=>(nq g λy=>iN sc b.name y)&&dM T k ns sc as ps)=ah:=by
 cases b<;>first|exact hc|exact absurd ae h
theorem SB.bi(Y:X.Good)(B:R8 X)(hb:b≠ .z)(hs:xo X as):SB X (.u b as):=ST.of (@λk ns sc x hc A env W s l U m U' z hd=>Dy (x:=x) (FV hb hc) λy q ps pos c1 c2=>nr hd λms U1 e1 h=>Q3 h λe2=>
 fN (aB c1).1▸kP (kj Y (fN (aB c1).1▸(aB c1).2) (Bi.mem hb) z.F z.I) (CV hb (Xp c2) (nX c2 (Bw (hs c2 _ z e1) λvs s1 W1 r1 t1=>aI (B hb z.R t1.I r1 e2) λu s2 a2=>a2.trans t1)))) @λk ns sc x hc env m=>Dy (x:=x) (FV hb hc) λv v v v v v=>ae
end
section
variable{V:Cfg}{W W1:Wd}{U:bN}{s s':Shared}{sc:Kinds}{a:Addr}
@[elab_as_elim]theorem Gn{P:List (Option Expr)->Prop}(h:wR T k ns sc [] ps=ah)(g:P []):P ps:=(cI.mp h)▸g
@[elab_as_elim]theorem Dz{ns:List Str}{P:List (Option Expr)->Prop}(h:wR T k ns sc (e::es) ps=ah)(g:∀y t,ch T k ns sc e y=ah->wR T k ns sc es t=ah->P (aa y::t)):P ps:=by
  induction ps using am with
  |nil=>exact ft h
  |cons o t=>
   induction o using bg with
   |none=>exact ft h
   |some y=>exact g y t (aB h).1 (aB h).2
theorem vJ:∀{ks:List ME} {ps:List (Option Expr)},wR T k ns sc ks ps=ah->ks.length=ps.length/\ps.all (·.isSome)=ah
 |[],_,h=>Gn h ⟨ae,ae⟩
 |e::r,_,h=>Dz h λy t u h2=>⟨congrArg (· +1) (vJ h2).1,(vJ h2).2⟩
theorem AB:∀{ks:List ME} {ps:List Expr},dM T k ns sc ks ps=ah->ks.length=ps.length
 |[],_,h=>pZ h ae
 |e::r,_,h=>mS h λy t u h2=>congrArg (· +1) (AB h2)
theorem yP:∀{es:List ME} {l:Loc} {U:bN} {ms:List MV} {U':bN},iC C M G es l U=aa (ms,U')->ms.length=es.length
 |[],_,_,_,_,h=>(congrArg dK (op h).1).symm
 |e::r,_,_,_,_,h=>xH h λv U1 vs u e2 e3=>e3▸congrArg (· +1) (yP e2)
noncomputable def Ja:List ME->List MV
 |[]=>[]
 |e::r=>(match e with| .c v=>v|_=>.N)::Ja r
theorem wU:∀{ks:List ME} {U:bN},ks.all VK=ah->iC C M G ks l U=aa (Ja ks,U)
 |[],_,_=>ae
 |a::ks,U,h=>by
  have ih:=wU (C:=C) (M:=M) (G:=G) (l:=l) (U:=U) (aB h).2
  induction a using ME.casesOn with
  |c v=>
   show(iC C M G ks l U).map (λq=>(v::q.1,q.2))=_
   refine ak ih ?_
   rfl
  |_=>exact ft (aB h).1
theorem Lj:∀{ks vs:List ME},ks.all VK=ah->ks.length=vs.length->(∀e∈vs,SE X e)->∀{k ns sc ps qs},wR X.T k ns sc ks ps=ah->dM X.T k ns sc vs qs=ah->∀{A env W s l U bs U'} (pos:Pos),At X k ns sc A env W s l U->iC X.C X.M X.G vs l U=aa (bs,U')->
  wpAny (model X.prog X.w) A (evalPairs (pairTrees ps qs env pos)) (λkvs s'=>∃W',cN X.V W' (kvs.map (·.1)) (Ja ks)/\cN X.V W' (kvs.map (·.2)) bs/\cQ X.V W s W' U' s') ci s
 |[],[],_,_,_=>by
  intro hc hd A env W s l U bs U' pos z e2
  exact Gn hc (pZ hd (CA e2 (evalPairs_nil ⟨W,.nil,.nil,.refl z.I⟩)))
 |[],_::_,_,h,_=>nomatch h
 |_::_,[],_,h,_=>nomatch h
 |a::ks,b::vs,ha,hl,hs=>by
  intro hc hd A env W s l U bs U' pos z e2
  refine Dz hc λp ps c1 c2=>mS hd λq qs d1 d2=>xH e2 λm1 U2 ms f1 f2 e4=>e4▸?_
  have ih:=λ{W s} (z:At X _ _ _ A env W s l U2)=>Lj (aB ha).2 (j4 hl) (λe he=>hs e (.tail _ he)) c2 d2 pos z f2
  induction a using ME.casesOn with
  |c v=>exact pairTrees_cons_walk (q6 ((SB.c (X:=X) v).ev c1 z ae) λu s1 W1 r1 t1=>q6 (hs b (.head _) d1 (z.step t1) f1) λu2 s2 W2 r2 t2=>aI (ih ((z.step t1).step t2)) λkvs s3 a3=>jl a3 λW3 r3 r4 t3=>
     ⟨W3,.cons ((r1.up t2).up t3) r3,.cons (r2.up t3) r4,(t1.trans t2).trans t3⟩)
  |_=>exact ft (aB ha).1
theorem y8(h:isStr m=ah):∃l,m= .S l:=by
 induction m using MV.casesOn with
 |S l=>exact⟨l,ae⟩
 |_=>exact ft h
theorem OU:∀{kvs:List (Value×Value)} {as:List MV},cN V W (kvs.map (·.1)) as->as.all isStr=ah->∃K:List (Str×Value),Carries (strKind prog w) kvs K/\as=K.map (λp=>kS p.1)/\K.map (·.2)=kvs.map (·.2)
 |[],as,r,_=>r.Ku (R:=λas=>∃K:List (Str×Value),Carries (strKind prog w) [] K/\as=K.map (λp=>kS p.1)/\K.map (·.2)=[]) ⟨[],trivial,ae,ae⟩
 |(u,v)::kvs,as,r,h=>by
  revert h
  refine r.AD λm ms q1 q2 h=>ee (y8 (aB h).1) λl e=>?_
  subst e
  exact q1.Ao λx t e1 e2 z=>jl (OU q2 (aB h).2) λK c1 c2 c3=>⟨(x,v)::K,⟨(show u= .str x t from e1)▸kO prog w _ _,ae,c1⟩,e2▸c2▸ae,congrArg (v:: ·) c3⟩
theorem zJ{K:Type}[DecidableEq K]{k:K}{acc:List (K×Value)}(h:k∉acc.map (·.1)):stored acc k v=acc++[(k,v)]:=
 if_neg (c:=(acc.any λkv=>decide (kv.1=k))=ah) λq=>aV (kJ.mp q) λp hp e=>h (of_decide_eq_true e▸bM (f:=(·.1)) hp)
theorem A0{K:Type}[DecidableEq K]:∀{K' acc:List (K×Value)},((acc++K').map (·.1)).Nodup->merged acc K'=acc++K'
 |[],acc,_=>(aG _).symm
 |(k,v)::r,acc,h=>by
  have h1:k∉acc.map (·.1):=λhm=>(ui.mp (bS▸h)).2.2 k hm k (.head _) ae
  show merged (stored acc k v) r=_
  refine ak (zJ h1) (ak (A0 (by rw[ay];exact h)) (ak (ay ..) ?_))
  rfl
theorem R6(sb:j5 a h h'):mC a h h':=λb o hb e=>(sb.2 b hb).trans e
noncomputable def R9(V:Cfg)(W:Wd)(s:Shared)(as bs:List MV)(U:bN)(v:Value)(s':Shared):Prop:=
 ∃W1 a es n,v= .ref a/\cQ V W s W1 U s'/\ga W1 a/\s.heap.get? a=ag/\s'.heap.get? a=aa (dR es n)/\yw V W1 es.toList as bs
theorem F3(Y:X.Good)(hs:∀e∈vs,SE X e)(c:(wR X.T k ns sc ks ps&&dM X.T k ns sc vs qs&&ks.all VK&&cr ks.length 15)=ah)(z:At X k ns sc A env W s l U)
  (e1:iC X.C X.M X.G ks l U=aa (as,U1)) (e2:iC X.C X.M X.G vs l U1=aa (bs,U')) (hq:(as.all isStr&&eJ as&&bo as.length bs.length&&bX as.length)=ah):wpAny (model X.prog X.w) A (bC (.Dict ps qs pos) env) (R9 X.V W s as bs U') ci s:=by
 have c3:=(aB (aB c).1).2
 have c1:=(aB (aB (aB c).1).1).1
 have c2:=(aB (aB (aB c).1).1).2
 have z1:=(aB hq).2
 have ab:as.length=bs.length:=aN (aB (aB hq).1).2
 have q1:=(aB (aB (aB hq).1).1).1
 have q2:=(aB (aB (aB hq).1).1).2
 have e0:=op ((wU (C:=X.C) (M:=X.M) (G:=X.G) (l:=l) (U:=U) c3).symm.trans e1)
 have hlen:ks.length=vs.length:=(yP e1).symm.trans (ab.trans (yP e2))
 rw[<-e0.2]at e2
 have hn:=aL s.heap (o:=dR #[] 0) ae
 have na:=bJ s.heap
 have t0:cQ X.V W s W U {s with heap:=s.heap.push (dR #[] 0)}:=cQ.kept (tk:=s.toks) z.I (eN _)
 have u0:ga W s.heap.objs.size:=.fresh z.I na
 have kp:=vJ c1
 have kq:=AB c2
 induction ks using am with
 |nil=>
  obtain rfl:vs=[]:=cW hlen.symm
  obtain rfl:ps=[]:=cW kp.1.symm
  obtain rfl:qs=[]:=cW kq.symm
  have e3:=op e2
  refine ak (aZ e0.1) (ak (aZ e3.1) (ak (aZ e3.2) ?_))
  exact wpAny_Dict_empty (Ex _ _ _ _ ⟨ae,t0,u0,na,hn,.nil⟩)
 |cons k0 ks=>
  refine wpAny_Dict_any kp.2 (kp.1.symm.trans (hlen.trans kq)) (λe=>nomatch(e▸kp.1:(k0::ks).length=([]:List (Option Expr)).length)) (kp.1▸ar (aB c).2) ?_
  refine aI (Lj c3 hlen hs c1 c2 pos (z.step t0) e2) λkvs s1 a1=>jl a1 λW1 r1 r2 t1=>?_
  have u1:=u0.ext t1.x hn
  rw[e0.1]at r1
  refine jl (OU (prog:=X.prog) (w:=X.w) r1 q1) λK k1 k2 k3=>?_
  have hl:K.length=as.length:=k2▸(au ..).symm
  have nd:((([]:List (Str×Value))++K).map (·.1)).Nodup:=(RZ (prog:=X.prog) Y.P).nodup (by refine ak (cq ..) (ak bx ?_);exact k2▸q2)
  refine wpAny_storeAll (knd:=strKind X.prog X.w) kvs K [] s1 _ k1 (rg _ (#[]) 0 ⟨t1.p.keep _ _ hn u0.F,⟨ae,ae,ae⟩,ae,(λe he=>nomatch he),.nil,mE⟩) (ao (bV (eQ _)) (fL hl z1)) λh' hm hs'=>?_
  rw[A0 nd,cq]at hm
  exact gR ((RZ (prog:=X.prog) Y.P).E7 hm (λu u=>trivial) (k3.symm▸r2)) λes n ho rr=>Ex _ _ _ _ ⟨ae,(t0.trans t1).other u1 na (R6 hs'),u1,na,ho,k2▸rr⟩
theorem SB.dD(Y:X.Good)(hs:∀e∈vs,SE X e):SB X (.e mu ks vs):=ST.of (@λk ns sc x hc A env W s l U m U' z hd=>FC hc λps qs pos c=>nr hd λas U1 e1 h=>nr h λbs U2 e2 h=>n6 h (λhq hz=>aI (F3 Y hs c z e1 e2 hq) λv s1 a=>RM a λW1 a es n ev t u na ho rr=>ev▸we t u na ho (.inl rr) (aB hq).2 hz) λw=>nn) λhc env m=>FC hc λw w w w=>ae
end
section
variable{X:Cx}{U:bN}{h h':Heap}{a d:Addr}{o:Obj}
noncomputable def yc(a d:Addr)(h h':Heap):Prop:=∀b o,b≠a->b≠d->h.get? b=aa o->h'.get? b=aa o
theorem pS.set:∀{cs:bN} {ps:List (Addr×Addr)} {i:Nat},pS V W h ps cs->lj ps->ps[i]?=aa p->yv V W h' p c->yc p.1 p.2 h h'->pS V W h' ps (cs.set i c)
 |[],_,_,r,_,e,_,_=>by
  obtain rfl:=(show _=[] from r)
  exact nn e
 |_::_,_,0,r,ap,e,y,k=>r.jP λp0 q e1 a b=>by
  subst e1
  obtain rfl:=oi e
  exact .cons y (b.mono (i3.refl h W) λx hx=>have z:=ap.1 x hx;⟨λo=>k _ o z.1.symm z.2.2.1.symm,λo=>k _ o z.2.1.symm z.2.2.2.symm⟩)
 |_::_,_,i+1,r,ap,e,y,k=>r.jP λp0 q e1 a b=>by
  subst e1
  have z:=ap.1 p (aT (i:=i) e)
  exact .cons (a.mono (i3.refl h W) (λo=>k _ o z.1 z.2.1) λo=>k _ o z.2.2.1 z.2.2.2) (pS.set (i:=i) b ap.2 e y k)
theorem yc.live(k:yc a d h h')(oa:∃o,h'.get? a=aa o)(od:∃o,h'.get? d=aa o)(e:∃o,h.get? b=aa o):∃o,h'.get? b=aa o:=by
 by_cases q:b=a
 ·exact q▸oa
 ·by_cases q2:b=d
  ·exact q2▸od
  ·exact e.imp λo=>k b o q q2
theorem lj.at:∀{F:List (Addr×Addr)} {i:Nat} {q p:Addr×Addr},lj F->F[i]?=aa q->p∈F->p=q\/p.1≠q.1/\p.1≠q.2
 |[],_,_,_,_,e,_=>nn e
 |x::r,0,q,p,ap,e,hp=>(bc.mp hp).elim (λz=>.inl (z.trans (oi e))) λhp=>.inr (oi e▸⟨(ap.1 p hp).1.symm,(ap.1 p hp).2.2.1.symm⟩)
 |x::r,i+1,q,p,ap,e,hp=>(bc.mp hp).elim (λz=>.inr (z▸⟨(ap.1 q (aT (i:=i) e)).1,(ap.1 q (aT (i:=i) e)).2.1⟩)) (lj.at (i:=i) ap.2 e)
theorem cQ.setCell(I:cV V W U s.heap)(hi:W.F[i]?=aa (a,d))(k:yc a d s.heap h')(oa:∃o,h'.get? a=aa o)(od:∃o,h'.get? d=aa o)(r:yv V W h' (a,d) c)(he:Iu s.heap h' a):cQ V W s W (U.set i c) {s with heap:=h',toks:=tk}:=
 have hm:=aT hi
 have f:=I.free _ hm
 ⟨i3.refl _ _,⟨λb o e hc=>k b o (λq=>hc ⟨_,hm,.inl q⟩) (λq=>hc ⟨_,hm,.inr q⟩) e,λb o e=>k.live oa od ⟨o,e⟩,λp hp=>(I.apart.at hi hp).elim (λq=>q▸he) λq=>.kept λo=>k _ o q.1 q.2,ae,ae⟩,
   λb o e=>k b o (λq=>zF f.1.1 (q▸e)) (λq=>zF f.2.1 (q▸e)) (I.fz b o e),I.cells.set I.apart hi r k,λp hp=>(I.free p hp).imp (λl=>l.imp id (k.live oa od)) λl=>l.imp id (k.live oa od),I.apart,I.st,I.big⟩
theorem HG:(Value.str x t).isStr y=(x==y):=ae
theorem Ix.is(hi:∀n m,V.ny n=V.ny m->n=m)(a:Ix V e k):e.key.isStr (V.ny n)=bo k n:=aV a λt e1 u=>by
 refine ak e1 (ak HG ?_);rewrite[cG,beq_iff_eq]
 exact⟨λz=>hi _ _ z▸ez _,λz=>congrArg _ (aN z)⟩
theorem CK(hi:∀n m,V.ny n=V.ny m->n=m):∀{vs:List MV} {es:List DictEntry} {as:List Nat},xD V W es as vs->yA as vs n=aa m->∃e,es.find? (λe=>e.key.isStr (V.ny n))=aa e/\Rv V W e.val m
 |[],_,as,r,h=>by
  revert h
  exact r.mX λh=>nn h
 |v::vs,_,_,r,h=>by
  revert h
  refine r.gq λe r k s a d f h=>?_
  have h:(match bo k n with|true=>aa v|false=>yA s vs n)=aa m:=h
  refine ak (ib) (ak (a.is hi) ?_)
  cases q:bo k n with
  |true=>rw[q]at h;exact⟨e,ae,oi h▸d⟩
  |false=>rw[q]at h;exact CK hi f h
theorem O3(r:xD V W es as vs):es.any (·.refKey)=ac:=
 nF.mpr λe he=>ne_true_of_eq_false (j9.all (P:=λe=>e.refKey=ac) (λe k a=>aV a λn u z=>aV z λt e1 u=>by unfold DictEntry.refKey;exact ak e1 ae) r e he)
theorem Q6{hs:Int}(q:e.key.isStr x=ah):putL x hs k v (e::r)=⟨e.hash,e.key,v⟩::r:=if_pos q
theorem Q5{hs:Int}(q:e.key.isStr x=ac):putL x hs k v (e::r)=e::putL x hs k v r:=if_neg (ne_true_of_eq_false q)
theorem Hh(q:bo k n=ah):iz (k::s) (v::vs) n m=(k::s,m::vs):=by rewrite[iz];exact ak q ae
theorem Hg(q:bo k n=ac):iz (k::s) (v::vs) n m=(k::(iz s vs n m).1,v::(iz s vs n m).2):=by rewrite[iz];exact ak q ae
theorem wP(hi:∀n m,V.ny n=V.ny m->n=m)(hP:V.P=P)(r:Rv V W v m):∀{vs:List MV} {es:List DictEntry} {as:List Nat},xD V W es as vs->
  xD V W (putL (V.ny n) (cS P (V.ny n)) (.str (V.ny n) tk) v es) (iz as vs n m).1 (iz as vs n m).2/\(iz as vs n m).1.length<=as.length+1
 |[],es,as,q=>q.mX ⟨xD.cons (e:=⟨_,_,_⟩) ⟨tk,ae,hP▸ae⟩ r .nil,bj _⟩
 |u::vs,es,as,q=>q.gq λe t k s a d f=>by
  cases z:bo k n with
  |true=>refine ak (Q6 ((a.is hi).trans z)) (ak (Hh z) ?_);exact⟨xD.cons (e:=⟨_,_,_⟩) a r f,nH _⟩
  |false=>refine ak (Q5 ((a.is hi).trans z)) (ak (Hg z) ?_);exact(wP hi hP r f).imp (xD.cons a d) dH
theorem xD.length(r:xD V W es as vs):es.length=as.length:=r.len.trans (au ..)
theorem Qw(r:Rv V W v m):handedIn v=ah:=by
 induction m using MV.casesOn with
 |N=>exact r.qn ae
 |B=>exact r.IR ae
 |I=>exact r.jI λu=>ae
 |S=>exact r.ml λu u u u=>ae
 |Y=>exact r.eX λu u u u=>ae
 |T=>exact r.Aq λu u u e u u u=>e▸ae
 |L=>exact r.DK λu u u e u u u=>e▸ae
 |D=>exact FE r λu u u e u=>e▸ae
 |O=>exact r.objE λu u u u e u u u=>e▸ae
 |R=>exact r.Cg λu u e u=>e▸ae
theorem Cx.Good.In(Y:X.Good)(I:cV X.V W U h):X.K.In h:=λa o e=>I.top _ _ (Y.W8 a o e)
theorem Lh{W:Wd}{s:Shared}{A:Around}{m:MV}{n:Nat}{y:Str}{ex:Bool}(Y:X.Good)(I:cV X.V W U s.heap)(r:Rv X.V W u x)(hn:fW X.T.ny n y=ah)(h:xK U x n=aa m):wpAny (model X.prog X.w) A (getAttr u y ex) (b7 X.V W s m U) ci s:=by
 refine gz h λq e h=>?_
 induction q using MV.casesOn with
 |O c as vs=>
  refine Cu (KC I r e) λa d es k e0 h1 h2 h3=>aV (CK Y.Ma h3 h) λq hq hr=>?_
  subst e0
  rw[Y.ny _ _ hn]at hq
  refine aV (any_some (Y.CX c)) λcd hc hd=>get_value (Y.In I) (⟨h1,ae,ae,h2⟩:j7 s.heap a (instObj (X.V.cls c) d) (X.V.cls c) (aa (dR es k))) (Y.Sx c) (v:=q.val) ?_ (Qw hr) (b7.fc I hr)
  refine(congrArg (λo=>lr o _) hc).trans ((congrArg (λo=>lr o _) (Y.VE c n y hn)).trans ?_)
  exact congrArg (λo:Option (Option Value)=>o.bind λown=>match own with|some v=>aa (sg v)|none=>if wF.contains y&&(cd.mro.isEmpty||cd.mro.contains (.type "staticmethod")||cd.mro.contains (.type "classmethod"))then ag else aa qQ) ((if_pos hd).trans (show lookIn y (dR es k)=aa (aa q.val) by unfold lookIn;dsimp only;rw[hq]))
 |_=>exact nn h
end
section
variable{s:Shared}{A:Around}
theorem KG{prog:Program}{w:World}{K:Frag}{R:Result->Shared->Prop}{x C:Addr}{name:Str}{tk:Tok}{v:Value}{es:Array DictEntry}{n:Nat}(XK:K.In s.heap)(I:j7 s.heap x ox C (aa (dR es n)))(hd:ox.dict=aa dx)(D:s.heap.get? dx=aa (dR es n))
  (hp:plainOver K C=ah) (ht:takerIn K C name=aa ag) (hh:(clsIn K C).any (·.hasDict)=ah) (hr:es.toList.any (·.refKey)=ac) (hz:(putL name (cS w.params name) (.str name s.toks) v es.toList).length<=1000)
  (h:∀h' n',(∀b o,b≠dx->s.heap.get? b=aa o->h'.get? b=aa o)->h'.get? dx=aa (dR (putL name (cS w.params name) (.str name s.toks) v es.toList).toArray n')->R (.ok (.ret .none)) {s with heap:=h',toks:=s.toks+1}):
  codeAny (model prog w) A (.call (.builtin "object.__setattr__") ⟨[.ref x,.str name tk,v],[]⟩) R s:=by
 refine osa_open XK I hp ht λb=>?_
 refine aV (any_some hh) λcd hc hd'=>?_
 have hput:wD name (cS w.params name) (.str name s.toks) v (dR es n)=dR (putL name (cS w.params name) (.str name s.toks) v es.toList).toArray (putN name es.toList n):=by
  have:=putName_dict name (cS w.params name) (.str name s.toks) v es.toList n
  exact this
 have D':=eI (h:=s.heap) (a:=dx) (wD name (cS w.params name) (.str name s.toks) v) D (by refine ak hput ?_;rfl)
 rw[hput]at D'
 have SBt:=jf s.heap dx (wD name (cS w.params name) (.str name s.toks) v)
 obtain⟨hx,hcl,hn,-⟩:=I
 obtain⟨oc,odi,oda,osl⟩:=ox
 dsimp only at hcl hd
 subst hcl hd
 refine ai (aw (ai (ai (wpAny_loadPart hx (ai ((looks_clsIn XK hc).here ?_))))))
 refine ak hd' ?_
 refine aw (a:=aa dx) (ai (aw (ai ?_)))
 unfold nsSet
 refine ai (ai (wpAny_askSetting (aw (ai (wpAny_mkText (ai (wpAny_loadPart D ?_)))))))
 dsimp only
 have c:(!es.any (·.key.isStr name)&&es.any (·.refKey))=ac:=by
  have q:es.any (λe=>e.refKey)=ac:=by refine ak (aZ vi) ?_;exact hr
  exact ak q (ak (xZ ..) ae)
 refine ak (aRefKeyMayBeTheName_at ..) (ak c ?_)
 refine wpAny_updatePart D ?_
 refine ai (wpAny_lookBehind D' (pastItsLine_dict (by refine ak j2 (ak nP ?_);exact ao ‹_› (by decide))) ?_)
 exact aw (h _ _ (λb o hb e=>(SBt.2 b hb).trans e) D')
theorem Lk{X:Cx}{W:Wd}{U U':bN}{m:MV}{n:Nat}{v:Value}{x:MV}{y:Str}(Y:X.Good)(I:cV X.V W U s.heap)(r:Rv X.V W u x)(rv:Rv X.V W v m)(hn:fW X.T.ny n y=ah)(h:GG U x n m=aa U'):
  wpAny (model X.prog X.w) A (setAttr u y v) (λz s'=>cQ X.V W s W U' s') ci s:=by
 induction x using MV.casesOn with
 |R i=>
  refine gz h λc e h=>r.Cg λa d e0 hi=>?_
  subst e0
  have rc:=I.cellAt hi e
  induction c using MV.casesOn with
  |O c as vs=>
   refine gI h λhz=>fI rc λes k h1 h2 h3=>?_
   obtain rfl:=Y.ny _ _ hn
   have hI:j7 s.heap a (instObj (X.V.cls c) d) (X.V.cls c) (aa (dR es k)):=⟨h1,ae,ae,h2⟩
   have RA:=wP (tk:=s.toks+1) (n:=n) Y.Ma Y.P rv h3
   refine set_plain (Y.In I) hI (Y.V8 c) (KG (s:={s with toks:=s.toks+1}) (Y.In I) hI ae h2 (Y.cover c) (by unfold takerIn;refine ak (Y.VE c n _ hn) ?_;rfl) (Y.CX c) (O3 h3) (ao (bV RA.1.length) (ao RA.2 (ao (dH (ar hz)) (by decide)))) λh' n' k1 k2=>?_)
   have ka:h'.get? a=aa (instObj (X.V.cls c) d):=k1 _ _ (λq=>nomatch congrArg o8 (oi (h1.symm.trans ((congrArg s.heap.get? q).trans h2)))) h1
   exact cQ.setCell I hi (λb o z hb e=>k1 b o hb e) ⟨_,ka⟩ ⟨_,k2⟩ (gu _ n' ⟨ka,k2,by simpa using RA.1⟩) (.not h1 λz z q=>nomatch congrArg o8 q)
  |_=>exact nn h
 |_=>exact nn h
theorem FN{M:Model}(h:mZ o=ah):attributeBase o a env whole=whole:=by
 induction o using dS with
 |Call f as ks pos=>
  induction f using dS with
  |Name id p=>
   induction as using am with
   |nil=>
    induction ks using am with
    |nil=>
     have h:fy id "super"=ac:=bK _▸h
     unfold attributeBase
     exact congrArg (λb:Bool=>if(b||a=="__class__"||env.kindOf "super" !=aa .globalImplicit||env.kindOf "__class__" !=aa .free)=ah then _ else _) (show(id !=("super":Str))=ah by rw[bne,pz,h];rfl)
    |cons=>rfl
   |cons=>rfl
  |_=>rfl
 |_=>rfl
theorem SB.attr(Y:X.Good)(ho:SE X o):SB X (.t o n):=ST.of (@λk ns sc x hc A env W s l U m U' z hd=>zQ hc λp y pos c=>Jf (R:=λU v=>xK U v n) hd λv e1 e2=>by
 show wpAny _ _ _ _ _ _
 refine ak (PySem.arm_eval_Attribute ..) (ak (FN (M:=model X.prog X.w) (aB (aB c).1).2) ?_)
 exact ai (q6 (ho (aB c).2 z e1) λu s1 W1 r1 t1=>ai (ip (ai (cb (aI (Lh Y t1.I r1 (aB (aB c).1).1 e2) λu2 s2 a2=>ai (qX (aw (a2.trans t1))))))))) λhc env m=>zQ hc λq q q q=>ae
end
section
variable{X:Cx}{V:Cfg}{W W' W1:Wd}{U U':bN}{s s' s1:Shared}{h h':Heap}{A:Around}{ns:List Str}{sc:Kinds}{env:Env}{l:Loc}{prog:Program}{w:World}{a d:Addr}{o:Obj}{c m:MV}{tk n:Nat}{K:Frag}{R:Result->Shared->Prop}
noncomputable def BN(D:List (Addr×Addr))(b:Addr):Bool:=D.any λp=>b==p.1||b==p.2
theorem Dr:BN D b=ah↔ ∃p∈D,b=p.1\/b=p.2:=by
 unfold BN
 rw[kJ]
 exact⟨λq=>q.imp λp z=>⟨z.1,(ia _ _▸z.2:_\/_).imp eq_of_beq eq_of_beq⟩,λq=>q.imp λp z=>⟨z.1,ia _ _▸z.2.imp beq_iff_eq.mpr beq_iff_eq.mpr⟩⟩
noncomputable def Wd.drop(W:Wd)(n:Nat)(h:Heap):Wd:=⟨λb=>match BN (W.F.drop n) b with|true=>h.get? b|false=>W.K b,W.F.take n⟩
theorem OE(q:BN (W.F.drop n) b=ah):(W.drop n h).K b=h.get? b:=by
 show(match BN (W.F.drop n) b with|true=>h.get? b|false=>W.K b)=_
 exact ak q ae
theorem SK(q:BN (W.F.drop n) b=ac):(W.drop n h).K b=W.K b:=by
 show(match BN (W.F.drop n) b with|true=>h.get? b|false=>W.K b)=_
 exact ak q ae
theorem mQ{P:Prop}(b:Addr)(k1:(∃p∈W.F.drop n,b=p.1\/b=p.2)->(W.drop n h).K b=h.get? b->P)(k2:BN (W.F.drop n) b=ac->(W.drop n h).K b=W.K b->P):P:=by
 cases q:BN (W.F.drop n) b with
 |true=>exact k1 (Dr.mp q) (OE q)
 |false=>exact k2 q (SK q)
theorem yR(I:cV V W U h)(e:W.K a=aa o):(W.drop n h).K a=aa o:=mQ a (λu q=>q.trans (I.fz _ _ e)) λu q=>q.trans e
theorem rO(hp:p∈W.F.drop n)(ha:a=p.1\/a=p.2):(W.drop n h).K a=h.get? a:=OE (Dr.mpr ⟨p,hp,ha⟩)
theorem Ip.VG(I:cV V W U h):Ip W (W.drop n h) (MV.VC n) (jG n):=⟨λu p=>p,λu p=>p,λu u p=>(aB p).2,λu u u p=>p,λu u p=>(aB p).1,λu u p=>(aB p).2,λu u=>yR I,λi p q e=>(jo (ar q)).trans e⟩
mutual
theorem u7(n:Nat):∀{m:MV},m.pure=ah->m.VC n=ah
 | .N,_=>ae
 | .B _,_=>ae
 | .I _,_=>ae
 | .S _,_=>ae
 | .Y _,_=>ae
 | .T _,h=>iQ n h
 | .L _,h=>iQ n h
 | .D _ _,h=>(dF _ _).mpr ⟨iQ n (aB h).1,iQ n (aB h).2⟩
 | .O _ _ _,h=>iQ n h
 | .R _,h=>ft h
theorem iQ(n:Nat):∀{l:List MV},bI l=ah->jG n l=ah
 |[],_=>ae
 |_::_,h=>(dF _ _).mpr ⟨u7 n (aB h).1,iQ n (aB h).2⟩
end
theorem E1{f:α->Option β}{x:α}{r:List α}{l:List β}{P:Prop}(h:jU f (x::r)=aa l)(g:∀y t,f x=aa y->jU f r=aa t->l=y::t->P):P:=gz h λy e h=>rY (P:=λl=>(∀y t,f x=aa y->jU f r=aa t->l=y::t->P)->P) h (λt e2 g=>g y t e e2 ae) g
theorem JF(hm:i9 m=ah)(h:i8 U n k m=aa y):y=m:=by
 induction k using cX with
 |zero=>exact nn h
 |succ k=>
  induction m using MV.casesOn with
  |S l=>exact(oi h).symm
  |I l=>exact(oi h).symm
  |_=>exact ft hm
theorem AZ:∀{ks as:List MV},(∀m∈ks,i9 m=ah)->jU (i8 U n k) ks=aa as->as=ks
 |[],_,_,h=>(oi h).symm
 |m::ks,_,hk,h=>E1 h λy t h1 h2 e=>by exact ak e (ak (JF (hk _ (.head _)) h1) (ak (AZ (λm hm=>hk m (.tail _ hm)) h2) ae))
theorem j9.keys(hK:∀e k,KP e k->i9 k=ah):∀{vs:List MV} {es:List DictEntry} {ks:List MV},j9 V W KP es ks vs->∀m∈ks,i9 m=ah
 |[],_,_,r=>r.mX (R:=λu ks=>∀m∈ks,i9 m=ah) λu h=>nomatch h
 |_::_,_,_,r=>r.gq (R:=λu ks=>∀m∈ks,i9 m=ah) λe t k s a u f m hm=>(bc.mp hm).elim (λz=>z▸hK _ _ a) (f.keys hK m)
theorem CE.ok(e:DictEntry)(k:MV)(a:CE V e k):i9 k=ah:=fI a λu u z u u=>z▸ae
theorem CD.ok(e:DictEntry)(k:MV)(a:CD e k):i9 k=ah:=sC a λu u z u u q=>z▸q
section
variable{W₂:Wd}{k:Nat}(ih:∀{u m m'},Rv V W u m->i8 U n k m=aa m'->Rv V W₂ u m')
include ih
theorem Dj:∀{l l':List MV} {us:List Value},cN V W us l->jU (i8 U n k) l=aa l'->cN V W₂ us l'/\l'.length=l.length
 |[],_,_,r,h=>oi h▸⟨r,ae⟩
 |_::_,_,_,r,h=>r.jP λv us e a b=>E1 h λy t h1 h2 e2=>e2▸e▸⟨.cons (ih a h1) (Dj b h2).1,congrArg (· +1) (Dj b h2).2⟩
theorem Di:∀{vs bs:List MV} {es:List DictEntry} {ks:List MV},j9 V W KP es ks vs->jU (i8 U n k) vs=aa bs->j9 V W₂ KP es ks bs
 |[],_,_,_,r,h=>oi h▸r
 |_::_,_,_,_,r,h=>E1 h λy t h1 h2 e2=>e2▸r.gq (R:=λes ks=>j9 V W₂ KP es ks (y::t)) λe r k s a d f=>.cons a (ih d h1) (Di f h2)
end
theorem rd(r:yw V W es ks vs\/Cw V W es ks vs)(h:jU (i8 U n k) ks=aa as):as=ks:=AZ (r.elim (j9.keys CE.ok) (j9.keys CD.ok)) h
theorem BM(I:cV V W U h):∀(k:Nat) {u m m'},Rv V W u m->i8 U n k m=aa m'->Rv V (W.drop n h) u m':=by
 intro k
 induction k using Nat.strongRecOn with
 |_ k ih=>
 intro u m m' r e
 induction k using cX with
 |zero=>exact nn e
 |succ k=>
  have ihk:∀{u m m'},Rv V W u m->i8 U n k m=aa m'->Rv V (W.drop n h) u m':=λr e=>ih k (cn k) r e
  have K:=λa o=>yR (n:=n) (a:=a) (o:=o) I
  induction m using MV.casesOn with
  |T l=>exact r.Aq λa vs n e0 q d z=>rY e λl' e1=>rg a vs n ⟨e0,K _ _ q,(Dj ihk d e1).1,(Dj ihk d e1).2▸z⟩
  |L l=>exact r.DK λa vs n e0 q d z=>rY e λl' e1=>rg a vs n ⟨e0,K _ _ q,(Dj ihk d e1).1,(Dj ihk d e1).2▸z⟩
  |D ks vs=>exact wy r λa es n e0 q d z z2=>gz e λas e1 e=>rY e λbs e2=>rg a es n ⟨e0,K _ _ q,(rd d e1).symm▸d.imp (Di ihk · e2) (Di ihk · e2),(rd d e1).symm▸z,z2⟩
  |O c as vs=>exact r.objE λa d es n e0 q q2 z=>rY e λl' e1=>Ex a d es n ⟨e0,K _ _ q,K _ _ q2,Di ihk z e1⟩
  |R i=>
   refine r.Cg λa d e0 hi=>n6 e (λhb e=>gA e (gu a d ⟨e0,(jo (ar hb)).trans hi⟩)) λhb e=>gz e λc hc e=>?_
   have hge:n<=i:=eA.mp λq=>tf ((ky q).symm.trans hb)
   have hm:(a,d)∈W.F.drop n:=aT (i:=i-n) (by refine ak (jB) (ak (jd hge) ?_);exact hi)
   have ka:(W.drop n h).K a=h.get? a:=rO hm (.inl ae)
   have kd:(W.drop n h).K d=h.get? d:=rO hm (.inr ae)
   have rc:=I.cellAt hi hc
   induction k using cX with
   |zero=>exact nn e
   |succ k=>
    have ihk:∀{u m m'},Rv V W u m->i8 U n k m=aa m'->Rv V (W.drop n h) u m':=λr e=>ih k (nK (cn k)) r e
    induction c using MV.casesOn with
    |L l=>exact fI rc λvs n g r z=>rY e λl' e1=>rg a vs n ⟨e0,ka.trans g,(Dj ihk r e1).1,(Dj ihk r e1).2▸z⟩
    |D ks vs=>exact fI rc λes j g r z=>gz e λas e1 e=>rY e λbs e2=>rg a es j ⟨e0,ka.trans g,(rd r e1).symm▸r.imp (Di ihk · e2) (Di ihk · e2),(rd r e1).symm▸z,I.low (I.free _ (iG hm)).1.1⟩
    |O c as vs=>exact fI rc λes j g g2 r=>rY e λl' e1=>Ex a d es j ⟨e0,ka.trans g,kd.trans g2,Di ihk r e1⟩
    |_=>exact rc.elim
  |_=>exact gA e r
theorem Qs(I:cV V W U h)(r:Rv V W u m)(e:Gc U n m=aa m'):Rv V (W.drop n h) u m':=n6 e (λp e=>gA e (r.gen (.VG I) (u7 n p))) λv e=>BM I _ r e
theorem lj.take:∀{F:List (Addr×Addr)} {n:Nat},lj F->lj (F.take n)
 |_,0,_=>trivial
 |[],_+1,_=>trivial
 |_::_,_+1,x=>⟨λq hq=>x.1 q (lq hq),lj.take x.2⟩
theorem lj.sep:∀{F:List (Addr×Addr)} {n:Nat} {p q:Addr×Addr},lj F->p∈F.take n->q∈F.drop n->p.1≠q.1/\p.1≠q.2/\p.2≠q.1/\p.2≠q.2
 |_,0,_,_,_,hp,_=>nomatch hp
 |[],_+1,_,_,_,hp,_=>nomatch hp
 |x::r,n+1,p,q,y,hp,hq=>(bc.mp (List.take_succ_cons▸hp:p∈x::r.take n)).elim (λe=>e▸y.1 q (iG (i:=n) hq)) λhp=>lj.sep (n:=n) y.2 hp hq
theorem pS.take:∀{n:Nat} {cs:bN} {ps:List (Addr×Addr)},pS V W h ps cs->pS V W h (ps.take n) (cs.take n)
 |0,_,_,_=>ae
 |_+1,[],_,r=>(show _=[] from r)▸ae
 |_+1,_::_,_,r=>r.jP λp q e a b=>e▸.cons a (pS.take b)
theorem pS.gen(G:Ip W W1 g gs):∀{cs:bN} {ps:List (Addr×Addr)},pS V W h ps cs->gs cs=ah->pS V W1 h ps cs
 |[],_,r,_=>r
 |_::_,_,r,z=>r.jP λp q e a b=>e▸.cons (a.gen G (λu e=>e) (λu e=>e) (G.hd _ _ z)) (pS.gen G b (G.tl _ _ z))
theorem cV.drop(I:cV V W U h)(hb:jG n (U.take n)=ah):cV V (W.drop n h) (U.take n) h:=
 have nin:∀p∈W.F.take n,∀a,a=p.1\/a=p.2->ul W h a->ul (W.drop n h) h a:=λp hp a ha l=>l.imp (λe=>mQ a (λz u=>aV z λp2 hp2 e=>(have sp:=I.apart.sep hp hp2;ha.elim (λz=>e.elim (λe=>sp.1 (z.symm.trans e)) λe=>sp.2.1 (z.symm.trans e)) λz=>e.elim (λe=>sp.2.2.1 (z.symm.trans e)) λe=>sp.2.2.2 (z.symm.trans e)).elim) λu q=>q.trans e) id
 ⟨λa o e=>mQ a (λu q=>q.symm.trans e) λu q=>I.fz _ _ (q.symm.trans e),I.cells.take.gen (.VG I) hb,λp hp=>(I.free p (lq hp)).imp (nin p hp _ (.inl ae)) (nin p hp _ (.inr ae)),I.apart.take,λa o e=>yR I (I.st a o e),I.big.imp λo e=>yR I e⟩
end
section
variable{X:Cx}{V:Cfg}{W:Wd}{U U':bN}{s s':Shared}{A:Around}{a d:Addr}{o:Obj}{m:MV}{v:Value}
noncomputable def vz(P:Value->Shared->Prop)(r:Result)(s:Shared):Prop:=∃v,r= .ok (.ret v)/\P v s
noncomputable def G8(V:Cfg)(W:Wd)(s:Shared)(m:MV)(U:bN)(v:Value)(s':Shared):Prop:=
 ∃W₁ a d,v= .ref a/\cQ V W s W₁ U s'/\(ga W₁ a/\ga W₁ d)/\(s.heap.get? a=ag/\s.heap.get? d=ag)/\((∃o,s'.heap.get? a=aa o)/\ ∃o,s'.heap.get? d=aa o)/\yv V W₁ s'.heap (a,d) m
noncomputable def jW(X:Cx):Prop:=∀{f vs U m U'},X.C f vs U=aa (m,U')->∀{A W s us},sE A X.d->cV X.V W U s.heap->cN X.V W us vs->
 codeAny (model X.prog X.w) A (.call (X.fv f) ⟨us,[]⟩) (vz λv s'=>b7 X.V W s m U' v s'/\(cv f X.T.fresh=ah->G8 X.V W s m U' v s')) s
theorem vA.call(R:vA A d k):sE A d:=⟨R.handled,by have:=R.depth;lia,by have:=R.units;lia⟩
theorem rL(h:codeAny M A (.call f ⟨us,[]⟩) (vz Q) s):wpAny M A (call f us) Q ci s:=wpAny_call (hX h λr s' z=>aV z λv e q=>e▸q)
theorem vz.imp(k:∀v,P v s->Q v s)(z:vz P r s):vz Q r s:=s9 (λv z=>⟨z.1,k v z.2⟩) z
theorem G8.keep(h:G8 V W s m U v s'):b7 V W s (.R U.length) (U++[m]) v s':=
 RL h λW1 a d e t u f o r=>e▸⟨_,gu a d ⟨ae,Ck t.I.cells⟩,t.Fy u.1 u.2 f.1 f.2 o.1 o.2 (r.mono (n:=⟨#[],s.heap.life⟩) (i3.vC (by unfold mo;simp) (by unfold mo;simp)) (λw e=>e) λw e=>e)⟩
theorem EG{f:Nat}(Y:X.Good)(hk:keepIn X.K y=ah)(c:dM T k ns sc as ps=ah)
  (h:wpAny (model X.prog X.w) A (spliced (backTo pos (starEach ps env))) (λus s'=>X.K.In s'.heap/\wpAny (model X.prog X.w) A (call y (first++us)) Q ci s') ci s):wpAny (model X.prog X.w) A (callWith pos y first (backTo pos (starEach ps env)) []) Q ci s:=
 callWith_of (P:=λh=>X.K.In h) (dt.mpr ⟨Xp c,ae⟩) (λh p=>keeps_K hk h p) (nX c h)
theorem SB.call(Y:X.Good)(Z:jW X)(hs:xo X as):SB X (.l f kp as):=ST.of (@λk ns sc x hc A env W s l U m U' z hd=>Gj hc λy q0 ps p0 c1 c2 c3=>nr hd λms U1 e1 hd=>
 have g:=mw c1
 kP (n7 Y g.2.1 g.2.2 z.F z.I (Y.fn _ _ g.1)) (EG (first:=[]) (f:=0) Y (Y.Gr f) c2 (Bw (hs c2 _ z e1) λvs s1 W1 r1 t1=>⟨Y.In t1.I,rL (by
  induction kp using aY with
  |false=>exact hX (Z hd z.R.call t1.I r1) λr s2 q=>q.imp λv q=>q.1.trans t1
  |true=>exact nr hd λv U2 e2 hd=>n6 hd (λu hd=>CA hd (hX (Z e2 z.R.call t1.I r1) λr s2 q=>q.imp λv q=>(q.2 c3).keep.trans t1)) λu=>nn)⟩))) λhc env m=>Gj hc λu u u u u u u=>ae
theorem sY{env:Env}{o:Expr}{pos:Pos}{args:List Expr}{Q:Value->Shared->Prop}(hb:mZ o=ah)(hl:bo apos.endLine pos.line=ah)(hn:cr args.length 20=ah)(hp:(starEach args env).any (·.1)=ac)
  (h:wpAny M A (bC o env) (λov s₁=>∀pl,wpAny M A (getMethod ov y pl) (λfx s₂=>wpAny M A (callWith pos fx.1 fx.2 (backTo pos (starEach args env)) []) Q ci s₂) ci s₁) ci s):
  wpAny M A (bC (.Call (.Attribute o y apos) args [] pos) env) Q ci s:=by
 refine ak (arm_eval_Call ..) (ak (FN (M:=M) hb) ?_)
 refine ai (aI h λov s₁ h₁=>ai (ip ?_))
 have hform:methodCallForm (args.length+([]:List Keyword).length) (backTo pos (starEach args env)) (backToKw pos (keywordEach [] env))=ah:=by
  unfold methodCallForm
  have a1:(backTo pos (starEach args env)).all (λx=> !x.1)=ah:=aP.mpr λp hq=>bK _▸fZ.mpr (nF.mp ((tL pos (starEach args env)).trans hp) p hq)
  refine ak a1 ?_
  exact decide_eq_true (bG (ar hn) (by decide))
 have hpos:methodCallPos ah o env apos pos=pure pos:=by
  unfold methodCallPos
  refine ak (show(apos.endLine==pos.line)=ah by rw[aN hl];exact beq_self_eq_true _) ?_
  rfl
 unfold methodCall
 refine ak hform ?_
 refine ai (cb ?_)
 show wpAny M A (getMethod ov y _) _ _ _
 exact aI (h₁ _) λfx s₂ h₂=>ai (bH hpos h₂)
theorem QU(h:∀n,V.ny n≠y)(r:xD V W es as vs):es.find? (λe=>e.key.isStr y)=ag:=
 List.find?_eq_none.mpr λe he=>ne_true_of_eq_false (j9.all (P:=λe=>e.key.isStr y=ac) (λe k a=>aV a λn u z=>aV z λt e1 u=>(congrArg (·.isStr y) e1).trans (beq_eq_false_iff_ne.mpr (h n))) r e he)
theorem SB.fB{o:ME}(Y:X.Good)(Z:jW X)(ho:SE X o)(hs:xo X as):SB X (.h n o as):=ST.of (@λk ns sc x hc A env W s l U m U' z hd=>Gk (x:=x) (f:=λy=>fW X.T.Ni n y) hc λo0 y q0 ps p0 c1 c2 c3 c4 c5 c6=>nr hd λx1 U1 e1 hd=>gz (o:=DO X.M n x1 U1) hd λf e4 hd=>nr hd λms U2 e2 hd=>gz e4 λc e3 e4=>by
 refine sY c2 c5 c6 (uW c4 env) (q6 (ho c3 z e1) λu s1 W1 r1 t1 pl=>?_)
 induction c using MV.casesOn with
 |O c as' vs'=>
  refine Cu (KC t1.I r1 e3) λa d es j e h1 h2 h3=>jl (Y.qF _ _ _ _ e4 c1) λaf q1 q2 q3=>?_
  subst e
  refine method_fn (Y.In t1.I) (⟨h1,ae,ae,h2⟩:j7 s1.heap a (instObj (X.V.cls c) d) (X.V.cls c) (aa (dR es j))) (Y.Sx c) (Y.VD c) q2 q3 ?_ (EG (f:=0) Y (q1▸Y.Gr f) c4 (Bw (hs c4 _ (z.step t1) e2) λvs s2 W2 r2 t2=>⟨Y.In t2.I,rL (q1▸hX (Z hd z.R.call t2.I (.cons (r1.up t2) r2)) λr s3 q=>q.imp λv q=>q.1.trans (t1.trans t2))⟩))
  unfold shadowIn lookIn
  dsimp only
  refine ak (QU (λm=>Y.Xl m _ _ c1) h3) (ak (O3 h3) ?_)
  rfl
 |_=>exact nn e4) @λk ns sc x hc env m=>Gk (x:=x) (f:=λy=>fW X.T.Ni n y) hc λw w w w w w w w w w w=>ae
end
section
theorem i3.drop(I:cV V W' U h₁)(x:i3 h W W')(hn:W.F.length=n):i3 h W (W'.drop n h₁):=aV x.F λψ e f=>
 ⟨λa o k=>yR I (x.K a o k),λa o k=>mQ a (λz u=>aV z λp hp e1=>.inr (have hp:=f p ((e▸hn▸qJ:W'.F.drop n=ψ)▸hp);e1.elim (λe=>e▸hp.1) λe=>e▸hp.2)) λu q=>x.new a o (q.symm.trans k),
   [],((e▸hn▸j3:W'.F.take n=W.F).trans (aG _).symm),λu h=>nomatch h⟩
theorem yv.rv(r:yv V W h (a,d) m)(ka:W.K a=h.get? a)(kd:W.K d=h.get? d)(low:(a==eM)=ac):Rv V W (.ref a) m:=by
 induction m using MV.casesOn with
 |L l=>exact fI r λvs n g r z=>rg a vs n ⟨ae,ka.trans g,r,z⟩
 |D ks vs=>exact fI r λes n g r z=>rg a es n ⟨ae,ka.trans g,r,z,low⟩
 |O c as vs=>exact fI r λes n g g2 r=>Ex a d es n ⟨ae,ka.trans g,kd.trans g2,r⟩
 |_=>exact r.elim
theorem JG(I:cV V W U h)(hi:W.F[i]?=aa (a,d))(hc:U[i]?=aa c)(hn:n<=i)(e:Gc U n c=aa m):Rv V (W.drop n h) (.ref a) m:=
 have hm:(a,d)∈W.F.drop n:=aT (i:=i-n) (by refine ak (jB) (ak (jd hn) ?_);exact hi)
 n6 e (λp e=>gA e (((I.cellAt hi hc).gen (.VG I) (λv e=>e) (λv e=>e) (u7 n p)).rv (rO hm (.inl ae)) (rO hm (.inr ae)) (I.low (I.free _ (iG hm)).1.1))) λv e=>BM I 41 (u:=.ref a) (m:=.R i) (gu a d ⟨ae,hi⟩) (by
  show(match fJ i n with|true=>aa (MV.R i)|false=>(U[i]?).bind λc=>i8 U n 40 c)=_
  refine ak (show fJ i n=ac from fZ.mpr λq=>pJ.mpr (ar q) hn) (ak hc ?_)
  exact e)
theorem cQ.drop(t:cQ V W s W' U' s')(hn:W.F.length=n)(hb:jG n (U'.take n)=ah):cQ V W s (W'.drop n s'.heap) (U'.take n) s':=⟨t.x.drop t.I hn,t.p,t.I.drop hb⟩
theorem BI{m:MV}{n:Nat}{P:MV->bN->Prop}(h:yS n m U=aa (m',τ))(k:∀v,Gc U n m=aa v->jG n (U.take n)=ah->P v (U.take n)):P m' τ:=gz h λv e h=>n6 h (λz h=>CA h (k v e z)) λu h=>nn h
theorem SB.new{X:Cx}{c:Nat}{as:List ME}(Y:X.Good)(Z:jW X)(hs:xo X as):SB X (.w c mu as):=ST.of (@λk ns sc x hc A env W s l U m U' z hd=>Dy (x:=x) (f:=λy=>pY X.T.OB sc c y) (g:=λps=>dM X.T k ns sc as ps) hc λy q0 ps p0 c1 c2=>nr hd λms U1 e1 hd=>gz hd λf ef hd=>nr hd λvn U3 e3 hd=>n6 hd (λhv hd=>by
 have g:=mw c1
 refine kP (n7 Y g.2.1 g.2.2 z.F z.I (Y.cls _ _ g.1)) (EG (first:=[]) (f:=0) Y (Y.J3 c) c2 (Bw (hs c2 _ z e1) λvs s1 W1 r1 t1=>⟨Y.In t1.I,rL ?_⟩))
 refine jl (Y.WX _ _ ef) λfa q1 q2 q3=>?_
 have kA:iF s1.heap ((s1.heap.push vv).push (instObj (X.V.cls c) s1.heap.objs.size)):=λb o e=>aF _ (aF _ e)
 have hx:((s1.heap.push vv).push (instObj (X.V.cls c) s1.heap.objs.size)).get? (s1.heap.objs.size+1)=aa (instObj (X.V.cls c) s1.heap.objs.size):=(eW s1.heap vv)▸aL _ ae
 have hdx:((s1.heap.push vv).push (instObj (X.V.cls c) s1.heap.objs.size)).get? s1.heap.objs.size=aa (dR #[] 0):=aF _ (aL _ ae)
 have nx:s1.heap.get? (s1.heap.objs.size+1)=ag:=iI (nH _)
 have nd:=bJ s1.heap
 have t2:=(cQ.kept (tk:=s1.toks) t1.I kA).Fy (c:=.O c [] []) (.fresh t1.I nx) (.fresh t1.I nd) nx nd ⟨_,hx⟩ ⟨_,hdx⟩ (gu (#[]) 0 ⟨hx,hdx,.nil⟩)
 have r2:Rv X.V (W1.vC (s1.heap.objs.size+1) s1.heap.objs.size) (.ref (s1.heap.objs.size+1)) (.R U1.length):=gu _ _ ⟨ae,Ck t1.I.cells⟩
 have room:sE (A.under (.builtin "type.__call__" ⟨.ref (X.V.cls c)::vs,[]⟩)) X.d:=by
  refine⟨z.R.handled,?_,?_⟩
  ·show A.depth+1+16*X.d<=942
   have:=z.R.depth
   lia
  ·show A.units+(1+3*_)+64*X.d<=9020
   have:=z.R.units
   refine ak (show(Code.builtin "type.__call__" ⟨.ref (X.V.cls c)::vs,[]⟩).frames=0 from ae) ?_
   lia
 obtain⟨hp,g,dr,t,os⟩:=s1
 refine make_core (makes_of (Y.In t1.I) (Y.Xk c)) (looks_findIn (Y.In t1.I) q2) (λself=>bind_fn (Y.In t1.I) self q3) (.inl ae) ?_
 refine ak (aZ q1) ?_
 refine hX (Z e3 room t2.I (.cons r2 (r1.mono t2.x))) λr s3 q=>aV q λv e q=>aV q.1 λW3 r3 t3=>?_
 subst e
 have t123:=t1.trans (t2.trans t3)
 refine⟨?_,?_⟩
 ·induction vn using MV.casesOn with
  |N=>exact r3
  |_=>exact ft hv
 ·induction mu using aY with
  |true=>exact CA hd ⟨_,ae,W3,r2.mono t3.x,t123⟩
  |false=>exact⟨_,ae,gz hd λo eo hd=>BI (P:=λm U=>b7 X.V W s m U (.ref (hp.objs.size+1)) s3) hd λv ev hb=>⟨_,(r2.mono t3.x).Cg λa d e hi=>JG t3.I (dC e▸hi) eo (bj _) ev,t1.trans ((t2.trans t3).drop t1.I.cells.length hb)⟩⟩) λu h=>nn h) @λk ns sc x hc env m=>Dy (x:=x) (f:=λy=>pY X.T.OB sc c y) (g:=λps=>dM X.T k ns sc as ps) hc λu u u u u u=>ae
end
section
variable{X:Cx}
theorem HH{W:Wd}{U:bN}{s:Shared}{A:Around}{x c m:MV}(Y:X.Good)(I:cV X.V W U s.heap)(r:Rv X.V W u x)(e:cC U x=aa c)(h:OP c0 c=aa m)(lt:c0<HY):wpAny (model X.prog X.w) A (call (.builtin "isinstance") [u,.ref (X.V.cls c0)]) (b7 X.V W s m U) ci s:=by
 induction c using MV.casesOn with
 |O c as vs=>
  exact gI h λhlt=>Cu (KC I r e) λa d es j e h1 h2 h3=>by
   subst e
   have hI:j7 s.heap a (instObj (X.V.cls c) d) (X.V.cls c) (aa (dR es j)):=⟨h1,ae,ae,h2⟩
   refine(jX (c=c0)).elim (λq=>?_) λq=>?_
   ·refine ak q (ak (ez ..) ?_)
    exact isi_call (t:=.ref (X.V.cls c0)) (Y.In I) (λM=>(q▸hI).type) (by unfold isIn;exact ak (beq_self_eq_true ..) (ak (Bool.true_or ..) ae)) (λz=>nomatch z) (b7.fc (tk:=s.toks) I (.bool _))
   ·refine ak (show bo c c0=ac from fZ.mpr λz=>q (aN z)) ?_
    refine kin_callC (Y.In I) hI (Y.W6 c0 c lt (yh.mp hlt) λz=>q z.symm) ?_ (Y.CX c) (Y.P9 c) Y.Qt Y.Rw (Y.Q0 c) (b7.fc (tk:=s.toks+1) I (.bool _))
    unfold plainGet
    refine ak (Y.Sx c) (ak (Y.VD c) ?_)
    rfl
 |_=>exact nn h
theorem SB.isin{c:Nat}(Y:X.Good)(ho:SE X o):SB X (.s o c):=ST.of (@λk ns sc x hc A env W s l U m U' z hd=>Gm hc λy q0 p z0 r0 p0 c1 c2 c3=>nr hd λx1 U1 e1 h=>Q3 h λh=>gz h λc e3 h=>
 have g:=mw c2
 fN (aB c1).1▸kP (kj (v:=.builtin "isinstance") Y (fN (aB c1).1▸(aB c1).2) (aT (i:=15) ae) z.F z.I) (by
  rw[xR c3]
  exact oW (first:=[]) ae (qR (uo (q6 (ho c3 z e1) λu s1 W1 r1 t1=>uo (n7 Y g.2.1 g.2.2 (z.F.step t1) t1.I (Y.cls _ _ g.1) (spliced_nil (aI (HH Y t1.I r1 e3 h (Y.QR _ _ g.1)) λv s2 a=>a.trans t1)))))))) λhc env m=>Gm hc λw w w w w w w w w=>ae
end
mutual
theorem GP:∀{a b:MV},a.same b=ah->a=b
 | .N,b,h=>by
   induction b using MV.casesOn with
   |N=>rfl
   |_=>exact ft h
 | .B x,b,h=>by
   induction b using MV.casesOn with
   |B y=>exact congrArg MV.B (eq_of_beq h)
   |_=>exact ft h
 | .I x,b,h=>by
   induction b using MV.casesOn with
   |I y=>exact congrArg MV.I (eq_of_beq h)
   |_=>exact ft h
 | .S x,b,h=>by
   induction b using MV.casesOn with
   |S y=>exact congrArg MV.S (eq_of_beq h)
   |_=>exact ft h
 | .Y x,b,h=>by
   induction b using MV.casesOn with
   |Y y=>exact congrArg MV.Y (eq_of_beq h)
   |_=>exact ft h
 | .T x,b,h=>by
   induction b using MV.casesOn with
   |T y=>exact congrArg MV.T (pB h)
   |_=>exact ft h
 | .L x,b,h=>by
   induction b using MV.casesOn with
   |L y=>exact congrArg MV.L (pB h)
   |_=>exact ft h
 | .D x y,b,h=>by
   induction b using MV.casesOn with
   |D z u=>exact pB (aB h).1▸pB (aB h).2▸ae
   |_=>exact ft h
 | .O x y z,b,h=>by
   induction b using MV.casesOn with
   |O u v w=>exact pB (aB h).2▸eq_of_beq (aB (aB h).1).1▸eq_of_beq (aB (aB h).1).2▸ae
   |_=>exact ft h
 | .R x,b,h=>by
   induction b using MV.casesOn with
   |R y=>exact congrArg MV.R (eq_of_beq h)
   |_=>exact ft h
theorem pB:∀{a b:List MV},zB a b=ah->a=b
 |[],b,h=>by
  induction b using am with
  |nil=>rfl
  |cons=>exact ft h
 |x::r,b,h=>by
  induction b using am with
  |nil=>exact ft h
  |cons y t=>exact GP (aB h).1▸pB (aB h).2▸ae
end
theorem jS(h:gP src U U'=ah):cC U' src=cC U src:=by
 induction src using MV.casesOn with
 |R i=>
  have h:(match U[i]?,U'[i]? with|some a,aa b=>a.same b|_,_=>ac)=ah:=h
  show U'[i]?=U[i]?
  cases e1:U[i]? with
  |none=>
   rw[e1]at h
   exact ft h
  |some a=>
   cases e2:U'[i]? with
   |none=>
    rw[e1,e2]at h
    exact ft h
   |some b=>
    rw[e1,e2]at h
    exact congrArg aa (GP h).symm
 |_=>rfl
section
variable{V:Cfg}{W W':Wd}{U U':bN}{s s':Shared}{h h':Heap}{A:Around}{prog:Program}{w:World}{I:Addr}{src:MV}{l ms:List MV}
noncomputable def Hb(I:Addr)(s s':Shared):Prop:=∃h' tk,s'={s with heap:=h',toks:=tk}/\mC I s.heap h'
noncomputable def Sc(prog:Program)(w:World)(I:Addr)(u:Value)(s:Shared):Prop:=∀{A:Around} {tg:Expr} {Q:Unit->Shared->Prop},Q () s->wpAny (model prog w) A (ie tg (.ref I) u) Q ci s
noncomputable def VA(prog:Program)(w:World)(V:Cfg)(W:Wd)(I:Addr)(St:List MV->Heap->Prop)(r:Option Value)(s:Shared):List MV->Prop
 |[]=>r=ag
 |m::l=>∃u,r=aa u/\Rv V W u m/\St l s.heap/\Sc prog w I u s
structure L4(prog:Program)(w:World)(V:Cfg)(W:Wd)(U:bN)(I:Addr)(src:MV)(St:List MV->Heap->Prop):Prop where
 live:∀l h,St l h->∃o,h.get? I=aa o
 fr:∀l h h',St l h->(∀o,h.get? I=aa o->h'.get? I=aa o)->St l h'
 nx:∀{A W' U' s l},A.handled=ag->(∀{v m},Rv V W v m->Rv V W' v m)->(∀{c},cC U src=aa c->cC U' src=aa c)->cV V W' U' s.heap->St l s.heap->wpAny (model prog w) A (pyNext (.ref I)) (λr s'=>Hb I s s'/\VA prog w V W' I St r s' l) ci s
 self:∀{A l s Q},A.handled=ag->St l s.heap->Q (.ref I) s->wpAny (model prog w) A (pyIter (.ref I)) Q ci s
noncomputable def Vz(prog:Program)(w:World)(V:Cfg)(W:Wd)(U:bN)(h:Heap)(I:Addr)(src:MV)(l:List MV):Prop:=∃St,L4 prog w V W U I src St/\St l h
theorem Vz.frame(x:Vz prog w V W U h I src l)(m:∀{v m},Rv V W v m->Rv V W' v m)(k:∀o,h.get? I=aa o->h'.get? I=aa o)(d:∀{c},cC U src=aa c->cC U' src=aa c):Vz prog w V W' U' h' I src l:=
 aV x λSt S y=>⟨St,⟨S.live,S.fr,λhA m' d'=>S.nx hA (λr=>m' (m r)) λe=>d' (d e),S.self⟩,S.fr _ _ _ y k⟩
noncomputable def Dk(prog:Program)(w:World)(V:Cfg)(W:Wd)(U:bN)(h:Heap)(I:Addr)(src:MV)(l:List MV):Prop:=
 ∃d ep i vs,∃kvs:List (Str×Value),Rv V W (.ref d) src/\cC U src=aa (.D (kvs.map λp=>kS p.1) vs)/\kvs.length<=1/\h.DictAt (strKind prog w) d kvs ep/\h.IsKeyIter I d i kvs.length ep/\d≠I/\(∀x,kS x∈(kvs.map λp=>kS p.1)->bX x.cps.toList.length=ah)/\l=(kvs.map λp=>kS p.1).drop i
noncomputable def vm(prog:Program)(w:World)(V:Cfg)(W:Wd)(U:bN)(h:Heap)(I:Addr)(src:MV)(l:List MV):Prop:=Vz prog w V W U h I src l\/Dk prog w V W U h I src l
theorem vm.live(x:vm prog w V W U h I src l):∃o,h.get? I=aa o:=x.elim (λx=>aV x λSt S y=>S.live _ _ y) λx=>Oj x λd ep i vs kvs u u u u y u u u=>y.imp λu=>And.left
theorem vm.frame(x:vm prog w V W U h I src l)(m:∀{v m},Rv V W v m->Rv V W' v m)(k:∀o,h.get? I=aa o->h'.get? I=aa o)(d:∀{c},cC U src=aa c->cC U' src=aa c)
  (q:∀{a ks vs},Rv V W (.ref a) src->cC U src=aa (.D ks vs)->ks.length<=1->∀o,h.get? a=aa o->h'.get? a=aa o):vm prog w V W' U' h' I src l:=
 x.imp (λx=>x.frame m k d) λx=>Oj x λa ep i vs kvs r e z D y n zk el=>HF a ep i vs kvs ⟨m r,d e,z,D.imp λo=>s9 λes=>t9 (q r e (ao (bV (au _)) z) o),y.imp λo=>t9 (k o),n,zk,el⟩
theorem vm.keeps(x:vm prog w V W U h I src l)(k:iF h h'):vm prog w V W U h' I src l:=x.frame id (λo=>k I o) id λu u u o=>k _ o
theorem Y3{i:Nat}{e:MV}{ks vs:List MV}{P:Prop}(h:cC U e=aa (.D ks vs))(hr:∀i,e= .R i->P)(hd:∀as bs,e= .D as bs->P):P:=by
 induction e using MV.casesOn with
 |R i=>exact hr i ae
 |D as bs=>exact hd as bs ae
 |_=>exact nomatch h
theorem Rv.known{a:Addr}{ks vs:List MV}(r:Rv V W (.ref a) src)(e:cC U src=aa (.D ks vs)):(∃o,W.K a=aa o)\/W.cell a:=
 Y3 (i:=0) e (λi q=>gR (q▸r:Rv V W (.ref a) (.R i)) λb d ev hi=>.inr ⟨(b,d),aT hi,.inl (dC ev)⟩) λas bs q=>L1 (q▸r:Rv V W (.ref a) (.D as bs)) λb es n ev k u=>.inl ⟨_,dC ev▸k⟩
theorem vm.but(x:vm prog w V W U h I src l)(u:ga W D)(n:I≠D)(k:mC D h h'):vm prog w V W U h' I src l:=
 x.frame id (λo=>k I o n) id λr e v o=>k _ o λq=>(r.known e).elim (λe=>e.elim λv e=>zF u.K (q▸e)) λc=>u.F (q▸c)
theorem vm.self(hA:A.handled=ag)(x:vm prog w V W U s.heap I src l)(q:Q (.ref I) s):wpAny (model prog w) A (pyIter (.ref I)) Q ci s:=
 x.elim (λx=>aV x λSt S y=>S.self hA y q) λx=>Oj x λd ep i vs kvs u u u u y u u u=>wpAny_pyIter_keyiter y q
theorem vP{P:List MV->Prop}:∀{ms:List MV} {i:Nat},(ms[i]?=ag->P [])->(∀m,ms[i]?=aa m->P (m::ms.drop (i+1)))->P (ms.drop i)
 |[],0,n,_=>n ae
 |[],_+1,n,_=>n ae
 |m::_,0,_,c=>c m ae
 |_::r,i+1,n,c=>vP (ms:=r) (i:=i) n c
theorem L4.of{N:Nat->Heap->Prop}(live:∀i h,N i h->∃o,h.get? I=aa o)(fr:∀i h h',N i h->(∀o,h.get? I=aa o->h'.get? I=aa o)->N i h')
  (fin:∀{A W' U' s i},A.handled=ag->(∀{v m},Rv V W v m->Rv V W' v m)->(∀{c},cC U src=aa c->cC U' src=aa c)->cV V W' U' s.heap->N i s.heap->ms[i]?=ag->wpAny (model prog w) A (pyNext (.ref I)) (λr s'=>Hb I s s'/\r=ag) ci s)
  (st:∀{A W' U' s i m},A.handled=ag->(∀{v m},Rv V W v m->Rv V W' v m)->(∀{c},cC U src=aa c->cC U' src=aa c)->cV V W' U' s.heap->N i s.heap->ms[i]?=aa m->wpAny (model prog w) A (pyNext (.ref I)) (λr s'=>Hb I s s'/\ ∃u,r=aa u/\Rv V W' u m/\N (i+1) s'.heap/\Sc prog w I u s') ci s)
  (self:∀{A i s Q},A.handled=ag->N i s.heap->Q (.ref I) s->wpAny (model prog w) A (pyIter (.ref I)) Q ci s):L4 prog w V W U I src (λl h=>∃i,N i h/\l=ms.drop i):=
 ⟨λl h y=>aV y λi a x=>live i h a,λl h h' y k=>y.imp λi a=>⟨fr i h h' a.1 k,a.2⟩,λhA m d I0 y=>aV y λi a e=>e▸vP (P:=λl=>wpAny _ _ _ (λr s'=>Hb I _ s'/\VA prog w V _ I _ r s' l) ci _) (fin hA m d I0 a) λx q=>aI (st hA m d I0 a q) λr s' z=>⟨z.1,z.2.imp λu z=>⟨z.1,z.2.1,⟨i+1,z.2.2.1,ae⟩,z.2.2.2⟩⟩,λhA y=>aV y λi a x=>self hA a⟩
theorem DG{v:Value}(h:Q () s)(k:∀a,v= .ref a->wpAny M A (do
   let o<-load I
   match o.cls,o.data with
   | .type n,.fields vs=>
     if["enumerate","zip","dict_itemiterator","dict_reverseitemiterator","odict_iterator","itertools.zip_longest","itertools.pairwise"].contains n&&vs[0]?==aa (rawInt a)then
      rule "for.unpacks-the-owned-tuple"
      updateField I 0 .none
   |_,_=>pure ():Sem Unit) Q ci s):wpAny M A (ie tg (.ref I) v) Q ci s:=by
 induction tg using dS with
 |Tuple=>induction v using cg with
  |ref a=>exact k a ae
  |_=>exact aw h
 |List=>induction v using cg with
  |ref a=>exact k a ae
  |_=>exact aw h
 |_=>exact aw h
theorem AW(hv:∀a,v≠ .ref a)(h:Q () s):wpAny M A (ie tg (.ref I) v) Q ci s:=DG h λa e=>absurd e (hv a)
theorem vm.next(hA:A.handled=ag)(i0:cV V W U s.heap)(x:vm prog w V W U s.heap I src l):wpAny (model prog w) A (pyNext (.ref I)) (λr s'=>Hb I s s'/\VA prog w V W I (λl h=>vm prog w V W U h I src l) r s' l) ci s:=
 x.elim (λx=>aV x λSt S y=>aI (S.nx hA id id i0 y) λr s' z=>⟨z.1,by
  induction l using am with
  |nil=>exact z.2
  |cons m l=>exact sB z.2 λu a b c d=>⟨u,a,b,.inl ⟨St,S,c⟩,d⟩⟩) λx=>Oj x λa ep i vs kvs r e z D y n zk el=>el▸vP (P:=λl=>wpAny _ _ _ (λr s'=>Hb I s s'/\VA prog w V W I _ r s' l) ci _) (λq=>wpAny_pyNext_dict_end hA y D (Option.map_eq_none_iff.mp ((dm ..).symm.trans q)) λh' he=>⟨gu h' s.toks ⟨ae,he⟩,ae⟩)
  λm q=>aV (cj.mp ((dm ..).symm.trans q)) λp hp em=>wpAny_pyNext_dict_item y D (k:=p.1) (v:=p.2) hp λkey h' hk hi hs=>⟨gu h' s.toks ⟨ae,R6 hs⟩,ee (lP (show gj p.1 key=ah from hk)) λt ht=>⟨key,ae,ht▸em▸.str ae (zk p.1 (em.symm▸aT q)),.inr (HF a ep (i+1) vs kvs ⟨r,e,z,D.imp λo=>s9 λes=>t9 (R6 hs _ o n),hi,n,zk,ae⟩),λh=>AW (λb e=>nomatch ht.symm.trans e) h⟩⟩
theorem AV(ho:∃o,s.heap.get? I=aa o/\o.cls= .type n/\o.data= .fields vs)
  (hn:["enumerate","zip","dict_itemiterator","dict_reverseitemiterator","odict_iterator","itertools.zip_longest","itertools.pairwise"].contains n=ac) (h:Q () s):wpAny (model prog w) A (ie tg (.ref I) v) Q ci s:=by
 refine jl ho λo ho hc hd=>?_
 refine DG h λa u=>ai (tD ho ?_)
 rw[hc,hd]
 dsimp only
 rw[hn,Bool.false_and,if_neg (by simp)]
 exact aw h
theorem IG{vs:Array Value}{i:Nat}(r:cN V W vs.toList ms)(e:ms[i]?=aa m):∃u,vs[i]?=aa u/\Rv V W u m:=(r.at e).imp λu q=>⟨b5▸q.1,q.2⟩
theorem Kx{vs:Array Value}{i:Nat}(r:cN V W vs.toList ms)(e:ms[i]?=ag):vs[i]?=ag:=Array.getElem?_eq_none_iff.mpr (qq r▸nu.mp e)
theorem NQ(r:Rv V W (.ref ax) src)(e:cC U src=aa (.L ms)):L4 prog w V W U I src (λl h=>∃i,h.IsListIter I ax i/\l=ms.drop i):=
 L4.of (λi h a=>aV a λo q v=>⟨o,q⟩) (λi h h' a k=>a.imp λo q=>⟨k o q.1,q.2⟩)
  (λhA m d I0 a q=>wx (listAt I0 (m r) (d e)) λa' vs n e1 g r z=>wpAny_pyNext_list_end hA a ⟨_,dC e1▸g,ae,n,ae⟩ (Kx r q) λh' he=>⟨gu h' _ ⟨ae,he⟩,ae⟩)
  (λhA m d I0 a q=>wx (listAt I0 (m r) (d e)) λa' vs n e1 g r z=>aV (IG r q) λu e2 e3=>wpAny_pyNext_list_item a ⟨_,dC e1▸g,ae,n,ae⟩ e2 λh' hi hs=>⟨gu h' _ ⟨ae,λb o hb e=>(hs.2 b hb).trans e⟩,u,ae,e3,hi,λh=>AV hi (by decide) h⟩)
  λhA a h=>wpAny_pyIter_listiter a h
theorem Rt(r:Rv V W (.ref ax) src)(e:cC U src=aa (.T ms)):L4 prog w V W U I src (λl h=>∃i,h.IsTupleIter I ax i/\l=ms.drop i):=
 L4.of (λi h a=>aV a λo q v=>⟨o,q⟩) (λi h h' a k=>a.imp λo q=>⟨k o q.1,q.2⟩)
  (λhA m d I0 a q=>wy (xf I0 (m r) (d e)) λa' vs n e1 g r z v=>wpAny_pyNext_tuple_end hA a ⟨_,dC e1▸g,ae,n,ae⟩ (Kx r q) λh' he=>⟨gu h' _ ⟨ae,he⟩,ae⟩)
  (λhA m d I0 a q=>wy (xf I0 (m r) (d e)) λa' vs n e1 g r z v=>aV (IG r q) λu e2 e3=>wpAny_pyNext_tuple_item a ⟨_,dC e1▸g,ae,n,ae⟩ e2 λh' hi hs=>⟨gu h' _ ⟨ae,λb o hb e=>(hs.2 b hb).trans e⟩,u,ae,e3,hi,λh=>AV hi (by decide) h⟩)
  λhA a h=>wpAny_pyIter_tupleiter a h
theorem Fp{St:Nat->Heap->Prop}(a:∀A':Around,A'.handled=ag->Walks prog w A' I [I] [I] ms.length P St)(c:∀{W j v m},P j v->ms[j]?=aa m->Rv V W v m)(z:∀j v,P j v->∀a,v≠ .ref a)(y:∀j h,St j h->∃o,h.get? I=aa o):
  L4 prog w V W U I src (λl h=>∃i,(i<=ms.length/\St i h)/\l=ms.drop i):=
 L4.of (λi h b=>y i h b.2) (λi h h' b k=>⟨b.1,(a {} ae).frame _ _ _ b.2 λp hp o ho=>bF.mp hp▸k o (bF.mp hp▸ho)⟩)
  (λhA m d I0 b q=>(a _ hA).done _ _ _ (qi b.1 (nu.mp q)▸b.2) λh' tk k=>⟨gu h' tk ⟨ae,λb o hb e=>k b o (λq=>hb (bF.mp q)) e⟩,ae⟩)
  (λhA m d I0 b q=>(a _ hA).item _ _ _ _ (cF.mp q).1 b.2 λv h' tk p st k=>⟨gu h' tk ⟨ae,λb o hb e=>k b o (λq=>hb (bF.mp q)) e⟩,v,ae,c p q,⟨(cF.mp q).1,st⟩,λh=>AW (z _ _ p) h⟩)
  λhA b h=>(a _ hA).self _ _ _ _ b.2 h
end
section
variable{V:Cfg}{W:Wd}{U:bN}{s s':Shared}{h':Heap}{prog:Program}{w:World}{I:Addr}{src:MV}{l:List MV}
noncomputable def nQ(prog:Program)(w:World)(V:Cfg)(W:Wd)(U:bN)(s:Shared)(src:MV)(l:List MV)(it:Value)(s':Shared):Prop:=
 ∃I,it= .ref I/\(∃h' tk,s'={s with heap:=h',toks:=tk}/\iF s.heap h')/\s.heap.get? I=ag/\vm prog w V W U s'.heap I src l
theorem nQ.push{St:List MV->Heap->Prop}(x:L4 prog w V W U s.heap.objs.size src St)(y:St l (s.heap.push o)):nQ prog w V W U s src l (.ref s.heap.objs.size) {s with heap:=s.heap.push o}:=
 ⟨_,ae,gu _ s.toks ⟨ae,eN _⟩,bJ _,.inl ⟨St,x,y⟩⟩
theorem OW{l:List α}{j:Nat}{c:α}{m:β}(h:(l.map f)[j]?=aa m)(e:l[j]?=aa c):f c=m:=oi ((congrArg (hV f) e).symm.trans ((dm ..).symm.trans h))
theorem Ef{St:Nat->Heap->Prop}{o:Obj}(q:x.cps.toList=bs)(Wk:∀A':Around,A'.handled=ag->Walks prog w A' s.heap.objs.size [s.heap.objs.size] [s.heap.objs.size] x.cps.size (SignAt x) St)(st:St 0 (s.heap.push o))(lv:∀j h,St j h->∃o,h.get? s.heap.objs.size=aa o):
  nQ prog w V W U s src (bs.map λc=>.S [c]) (.ref s.heap.objs.size) {s with heap:=s.heap.push o}:=
 .push (Fp (St:=St) (P:=SignAt x) (λA' hA=>((au ..).trans (q▸bB):(bs.map λc=>MV.S [c]).length=x.cps.size)▸Wk A' hA) (λp hm=>gR p λc u hc e=>e▸OW hm (q▸b5.trans hc)▸.str ae ae) (λj v p a e=>gR p λc u z q=>nomatch q.symm.trans e) lv) ⟨0,⟨bD _,st⟩,ae⟩
theorem ED(q:b.toList.map bp=bs):nQ prog w V W U s src (bs.map λc=>.I (aD c)) (.ref s.heap.objs.size) {s with heap:=s.heap.push {cls:=.type "bytes_iterator",data:=.fields #[.bytes b t,.int 0 0]}}:=
 .push (Fp (St:=λi h=>KBw.IsBytesIter h s.heap.objs.size b t i) (P:=λi v=>∃c u,b[i]?=aa c/\v= .int (c.toNat:Int) u)
   (λA' hA=>((au ..).trans (zD q).symm:(bs.map λc=>MV.I (aD c)).length=b.size)▸KBw.walks hA _ b t)
   (λp hm=>gR p λc u hc e=>e▸OW hm (q▸(dm ..).trans (congrArg (hV bp) (b5.trans hc)))▸.int _ _) (λj v p a e=>gR p λc u z q=>nomatch q.symm.trans e) λj h p=>aV p λo e z=>⟨o,e⟩)
   ⟨0,⟨bD _,_,aL _ ae,ae,ae⟩,ae⟩
theorem Yv:∀{vs:List MV} {es:List DictEntry} {ks:List MV},ks.all isStr=ah->Cw V W es ks vs->yw V W es ks vs
 |[],_,_,_,r=>r
 |_::_,_,_,h,r=>j9.gq (R:=λes ks=>ks.all isStr=ah->yw V W es ks _) r (λe r k s a u u h=>fI a λi t e1 u u=>ft ((congrArg isStr e1).symm.trans (aB h).1)) h
theorem RC(h:MV.S x= .S y):x=y:=oi (congrArg VU h)
theorem TR{P:List MV->Prop}(h:TQ ks=aa l)(g:ks.all isStr=ah->eJ ks=ah->ks.length<=1->(∀x,kS x∈ks->bX x.cps.toList.length=ah)->P ks):P l:=by
 induction ks using am with
 |nil=>exact gA h (g ae ae (bD _) λu h=>nomatch h)
 |cons k r=>
   refine gI h λq=>?_
   have e:=cI.mp (aB q).2
   subst e
   have z:=(aB q).1
   induction k using MV.casesOn with
   |S x=>exact g ae ae (bj _) λy hy=>(show y.cps.toList=x from RC (bF.mp hy))▸z
   |_=>exact ft z
theorem BR(hP:V.P=w.params)(i0:cV V W U s.heap)(r:Rv V W v x)(e:items U x=aa l):wpAny (model prog w) A (pyIter v) (nQ prog w V W U s x l) ci s:=gz e λc e1 e=>by
 induction c using MV.casesOn with
 |T l'=>
  exact gA e (wy (xf i0 r e1) λa vs k ev q rr z u=>by
   subst ev
   exact mK (items:=vs) ⟨_,q,ae,k,ae⟩ (.push (Rt r e1) ⟨0,⟨_,aL s.heap ae,ae,ae⟩,ae⟩))
 |L l'=>
  exact gA e (wx (listAt i0 r e1) λa vs k ev q rr z=>by
   subst ev
   exact wpAny_pyIter_list (items:=vs) ⟨_,q,ae,k,ae⟩ (.push (NQ r e1) ⟨0,⟨_,aL s.heap ae,ae,ae⟩,ae⟩))
 |Y l'=>exact gA e (sC (BD i0 r e1) λb t ev q z u=>ev▸KBw.pyIter_bytes (ED q))
 |S l'=>
  exact gA e (sC (Pm i0 r e1) λx t ev q z u=>by
   subst ev
   cases ha:x.cps.all (· <128)
   ·exact wpAny_pyIter_wide ha (Ef q (λA' hA=>Walks.strWide hA _ x t) ⟨_,aL _ ae,ae,ae⟩ λj h hs=>aV hs λo e u=>⟨o,e⟩)
   ·exact wpAny_pyIter_ascii ha (Ef q (λA' hA=>Walks.strAscii hA _ x t) ⟨_,aL _ ae,ae,ae⟩ λj h hs=>aV hs λo e u=>⟨o,e⟩))
 |D ks vs=>
  exact TR (P:=λl=>wpAny (model prog w) A (pyIter v) (nQ prog w V W U s x l) ci s) e λa1 a2 a3 a4=>wy (yO i0 r e1) λa es k ev q rr z lo=>sB ((RZ (prog:=prog) hP).Fx q (rr.elim id (Yv a1)) a2) λkvs D ek u u=>by
   subst ev
   subst ek
   exact D.dictAt.elim λep D=>wpAny_pyIter_dict lo D ⟨_,ae,gu _ s.toks ⟨ae,eN _⟩,bJ _,.inr (HF a ep 0 vs kvs ⟨r,e1,ao (bV (au _).symm) a3,D.push _,⟨_,aL s.heap ae,ae,ae⟩,cT q (bJ _),a4,ae⟩)⟩
 |_=>exact nn e
end
section
theorem G1{s:Int}:∀{n:Nat} {a:Int} {j:Nat} {m:MV},(Ik s n a)[j]?=aa m->MV.I (a+(j:Nat)*s)=m
 |0,_,_,_,h=>nn h
 |_+1,a,0,_,h=>(congrArg MV.I ((congrArg (a+ ·) (Int.zero_mul s)).trans (uc a))).trans (oi h)
 |n+1,a,j+1,_,h=>(congrArg MV.I (by exact ak (Int.natCast_succ ..) (ak (Int.add_mul ..) (ak (Int.one_mul ..) (ak (Int.add_comm (_*s) s) (ak (Int.add_assoc ..) ae)))))).trans (G1 (n:=n) (a:=a+s) (j:=j) h)
theorem En{s:Int}:∀(n:Nat) (a:Int),(Ik s n a).length=n
 |0,_=>ae
 |n+1,a=>congrArg (· +1) (En n (a+s))
theorem WV{p:Prop}[Decidable p]{x y:Int}{m n:Nat}(h1:p->x=m)(h2:¬p->y=n):(if p then x else y)=((match decide p with|true=>m|false=>n:Nat):Int):=by
 by_cases h:p
 ·exact ak (if_pos h) (ak (decide_eq_true h) (ak (h1 h) ae))
 ·exact ak (if_neg h) (ak (decide_eq_false h) (ak (h2 h) ae))
theorem GJ{a b c:Int}(q:a<b)(h:0<=c):(b-a-1)/c+1=(((b-a-1)/c+1).toNat:Int):=(r9 (Int.add_nonneg (Int.ediv_nonneg (by lia) h) (by decide))).symm
theorem C7(a b c:Int):Builtin.Range.rangeSize a b c=(ng a b c:Int):=
 WV (p:=0<c) (λh=>WV (λq=>GJ q (lT h)) λu=>ae) λh=>WV (p:=b<a) (λq=>GJ q (by lia)) λu=>ae
theorem fits{i:Int}(h:i.natAbs<4398046511104):lY i=ah:=(dF _ _).mpr ⟨decide_eq_true (by lia),decide_eq_true (by lia)⟩
theorem Ui{b:Int}{c d:Int}(hb:b.natAbs<1099511627776)(hc:c.natAbs<1073741824)(hd:d.natAbs<=1):(b+(c+d)).natAbs<4398046511104:=bG (ao (ue ..) (se (ue ..) _)) (bW (Nat.add_lt_add_of_lt_of_le hb (Nat.add_le_add (cZ hc) hd)) (by decide))
theorem MU [Decidable p](h1:a=ah)(h2:b=ah):(if p then a else b)=ah:=by
 by_cases h:p
 ·exact(if_pos h).trans h1
 ·exact(if_neg h).trans h2
theorem DZ{a b c:Int}(ha:a.natAbs<1099511627776)(hb:b.natAbs<1099511627776)(hc:c.natAbs<1073741824)(hz:bX (ng a b c)=ah):si a b c=ah:=by
 unfold si
 rw[C7,fits (aH ha (by decide)),fits (aH hb (by decide)),fits (aH hc (by decide)),fits (i:=(ng a b c:Int)) (bG (gb hz) (by decide)),MU (show lY (b+(c-1))=ah from fits (Ui (d:= -1) hb hc (by decide))) (fits (Ui (d:=1) hb hc (by decide))),Bool.or_true]
 rfl
theorem Fg{a b c:Int}(hr:IsRange s.heap r a b c t u v)(hl:Cf a b c=aa l):wpAny (model prog w) A (pyIter (.ref r)) (nQ prog w V W U s .N l) ci s:=gI hl λhh=>by
 have h1:=aB hh
 have h2:=aB h1.1
 have h3:=aB h2.1
 have h4:=aB h3.1
 refine wpAny_pyIter_range hr (DZ (of_decide_eq_true h4.1) (of_decide_eq_true h4.2) (of_decide_eq_true h3.2) h1.2) (.push (Fp (St:=λi h=>IsRangeIter h s.heap.objs.size (a+(i:Nat)*c) ((ng a b c:Int)-(i:Nat)) c) (P:=λi v=>∃t,v= .int (a+i*c) t) (λA' hA=>(En (ng a b c) a).symm▸Walks.range hA _ a c _) (λp hm=>p.elim λt e=>e▸G1 hm▸.int _ _) (λj v p a e=>p.elim λt q=>nomatch q.symm.trans e) λj h hs=>⟨_,hs⟩) ⟨0,⟨bD _,?_⟩,ae⟩)
 unfold IsRangeIter
 exact ak (aL _ ae) (ak (C7 ..) (ak Int.natCast_zero (ak (Int.zero_mul ..) (ak (uc ..) (ak (Int.sub_zero ..) ae)))))
end
section
variable{X:Cx}{V:Cfg}{W W':Wd}{U U':bN}{s s':Shared}{ns:List Str}{sc:Kinds}{env:Env}{l:Loc}{O:Addr->Prop}{c:Addr}{y:Str}
structure Sd(W:Wd)(O:Addr->Prop)(s s':Shared):Prop where
 keep:∀b o,s.heap.get? b=aa o->¬W.cell b->¬O b->s'.heap.get? b=aa o
 live:∀b o,s.heap.get? b=aa o->∃o',s'.heap.get? b=aa o'
 ep:∀p∈W.F,Iu s.heap s'.heap p.1
 os:s'.os=s.os
 gens:s'.gens=s.gens
structure kB(V:Cfg)(W:Wd)(O:Addr->Prop)(s:Shared)(W':Wd)(U':bN)(s':Shared):Prop where
 x:i3 s.heap W W'
 p:Sd W O s s'
 I:cV V W' U' s'.heap
theorem cQ.toF(t:cQ V W s W' U' s'):kB V W O s W' U' s':=⟨t.x,⟨λb o e c u=>t.p.keep b o e c,t.p.live,t.p.ep,t.p.os,t.p.gens⟩,t.I⟩
theorem kB.trans(t:kB V W O s W1 U1 s1)(u:kB V W1 O s1 W2 U2 s2):kB V W O s W2 U2 s2:=
 ⟨t.x.trans u.x t.p.live,⟨λb o hb hn ho=>u.p.keep b o (t.p.keep b o hb hn ho) (t.x.xQ hb hn) ho,λb o hb=>(t.p.live b o hb).elim λo' k=>u.p.live b o' k,λp hp=>(t.p.ep p hp).trans (u.p.ep p (t.x.RY hp)),u.p.os.trans t.p.os,u.p.gens.trans t.p.gens⟩,u.I⟩
theorem kB.one(I:cV V W U s.heap)(t:kB V W O s W' U' s')(q:cC U' src=cC U src)(r:Rv V W (.ref a) src)(e:cC U src=aa (.D ks vs))(z:ks.length<=1):∀o,s.heap.get? a=aa o->s'.heap.get? a=aa o:=
 Y3 (i:=0) e (λi ei=>by
  subst ei
  exact gR r λb d ev hi=>gR (r.mono t.x) λb2 d2 ev2 hi2=>by
   obtain rfl:=dC ev
   obtain rfl:=dC ev2
   exact fI (I.cellAt hi e) λes n ho rr u=>fI (t.I.cellAt hi2 (q.trans e)) λes2 n2 ho2 rr2 u o h=>(t.p.ep _ (aT hi) es n ho).elim (λk=>ho.symm.trans h▸k) λk=>gR k λes3 n3 ho3 lt=>by
    have e3:=congrArg o8 (oi (ho2.symm.trans ho3))
    have s1:=rr.elim j9.len j9.len
    have s2:=rr2.elim j9.len j9.len
    refine gQ (Aa e3) λe0_ e1_=>?_
    subst e0_
    subst e1_
    rw[bB]at s1 s2
    rw[s1,s2]at lt
    exact absurd z (pJ.mpr (lt.elim (λq=>absurd q (Nat.lt_irrefl _)) id)))
  λas bs es=>L1 (es▸r:Rv V W (.ref a) (.D as bs)) λb es n ev k u o h=>by
   obtain rfl:=dC ev
   exact((I.fz _ _ k).symm.trans h)▸t.I.fz _ _ (t.x.K _ _ k)
theorem vm.step{l:List MV}{prog:Program}{w:World}(x:vm prog w V W U s.heap J src l)(I:cV V W U s.heap)(t:kB V W O s W' U' s')(q:cC U' src=cC U src)(k:∀o,s.heap.get? J=aa o->s'.heap.get? J=aa o):vm prog w V W' U' s'.heap J src l:=
 x.frame (λr=>r.mono t.x) k (λe=>q.trans e) λr e z=>t.one I q r e z
structure lQ(X:Cx)(W:Wd)(ns:List Str)(sc:Kinds)(env:Env)(O:Addr->Prop)(s:Shared)(l:Loc)(U:bN)(W':Wd)(s':Shared):Prop where
 t:kB X.V W O s W' U s'
 F:ta X W' ns sc env l s'.heap
theorem lQ.trans(t:kB X.V W O s W1 U1 s1)(b:lQ X W1 ns sc env O s1 l U2 W2 s2):lQ X W ns sc env O s l U2 W2 s2:=⟨t.trans b.t,b.F⟩
theorem cQ.Sg(t:cQ X.V W s W' U' s')(F:ta X W ns sc env l s.heap):lQ X W ns sc env O s l U' W' s':=⟨t.toF,F.step t⟩
theorem zC{i:Nat}{v:MV}{P:Prop}{u:MV}(h:(mj l i v)[j]?=aa (aa u))(a:j=i->u=v->P)(b:j≠i->l[j]?=aa (aa u)->P):P:=by
 rw[show mj l i v=l.set i (aa v) from ae,List.getElem?_set]at h
 by_cases q:i=j
 ·rw[if_pos q]at h
  by_cases z:i<l.length
  ·rw[if_pos z]at h
   exact a q.symm (oi (oi h)).symm
  ·rw[if_neg z]at h
   exact nn h
 ·rw[if_neg q]at h
  exact b (Bs q) h
noncomputable def Iz(env:Env)(sc:Kinds)(O:Addr->Prop)(y:Str):Prop:=(bP sc y=aa .local->O env.locals)/\(bP sc y=aa .cell->∀c,env.cells.lookup y=aa c->O c)
theorem DT:Iz env sc (oI env) y:=⟨λu=>.inl ae,λu c e=>.inr ⟨y,e⟩⟩
theorem Ee(F:ta X W ns sc env l s.heap)(I:cV X.V W U s.heap)(own:oI env c)(hO:O c)(k:mC c s.heap h')(lv:∃o,h'.get? c=aa o)
  (vars:∃m,h'.Ns env.locals m/\ ∀x i w,cL ns 0 x=aa i->bP sc x=aa .local->l'[i]?=aa (aa w)->∃u,m x=aa u/\Rv X.V W u w)
  (cells:∀x,bP sc x=aa .cell\/bP sc x=aa .free->∃c o,env.cells.lookup x=aa c/\h'.IsCell c o/\ ∀i w,cL ns 0 x=aa i->l'[i]?=aa (aa w)->∃u,o=aa u/\Rv X.V W u w)
  (len:l'.length=l.length):lQ X W ns sc env O s l' U W {s with heap:=h',toks:=tk}:=
 have live:∀b o,s.heap.get? b=aa o->∃o',h'.get? b=aa o':=λb o e=>(jX (b=c)).elim (λq=>q▸lv) λq=>⟨o,k b o q e⟩
 ⟨⟨i3.refl _ _,⟨λb o e v ho=>k b o (λq=>ho (q▸hO)) e,live,λp hp=>.kept λo=>k _ o λq=>(F.own _ own).1.F ⟨p,hp,.inl q.symm⟩,ae,ae⟩,I.other (F.own _ own).1 k⟩,F.fn,F.names,F.gl,F.bu,vars,cells,λa ha=>⟨(F.own a ha).1,(F.own a ha).2.elim (live a)⟩,len.trans F.len,F.apart⟩
theorem ko(sb:j5 c h h'):mC c h h':=λb o hb e=>(sb.2 b hb).trans e
noncomputable def oN:Option NameKind->Bool
 |some .local=>ah
 |some .cell=>ah
 |_=>ac
theorem Ro(hs:cL ns 0 y=aa i)(hk:oN (bP sc y)=ah)(hO:Iz env sc O y)(F:ta X W ns sc env l s.heap)(I:cV X.V W U s.heap)(r:Rv X.V W u v):
  wpAny (model X.prog X.w) A (storeName env y u) (λz s'=>lQ X W ns sc env O s (mj l i v) U W s') ci s:=by
 have hN:=F.names y
 have hlen:(mj l i v).length=l.length:=qh
 cases e:bP sc y with
 |none=>rw[e]at hk;exact ft hk
 |some kd=>
  rw[e]at hk hN
  induction kd using dY with
  | «local» =>
    refine aV F.vars λm nn rr=>wpAny_storeName_local hN nn (λh' n' sb=>Ee F I (.inl ae) (hO.1 e) (ko sb) (n'.imp λo q=>q.elim λz q=>q.elim λz q=>q.1)
     ⟨_,n',λx j w hj hkx hw=>zC hw (λq1 q2=>⟨u,if_pos (nj (q1▸hj) hs),q2▸r⟩) λq1 hw=>aV (rr x j w hj hkx hw) λu' a b=>⟨u',(if_neg λq:x=y=>q1 (oi (hj.symm.trans (q▸hs)))).trans a,b⟩⟩
     (λx hx=>fI (F.cells x hx) λc o e1 e2 e3=>gu c o ⟨e1,rM (λo e=>ko sb _ _ (F.apart x c e1).1 e) e2,λj w hj hw=>zC hw (λq1 q2=>False.elim ?_) λz hw=>e3 j w hj hw⟩) hlen) (by refine ak F.fn ?_;rfl)
    exact hx.elim (λhx=>nomatch(nj (q1▸hj) hs▸hx).symm.trans e) λhx=>nomatch(nj (q1▸hj) hs▸hx).symm.trans e
  |cell=>
   refine fI (F.cells y (.inl e)) λc o e1 e2 e3=>wpAny_storeName_cell F.fn hN e1 e2 λh' n' sb=>Ee F I (.inr ⟨_,e1⟩) (hO.2 e c e1) (ko sb) (n'.imp λz q=>q.1)
    (aV F.vars λm nn rr=>⟨m,Heap.Ns.keep (λo e=>ko sb _ _ (λq=>(F.apart y c e1).1 q.symm) e) nn,λx j w hj hkx hw=>zC hw (λq1 q2=>nomatch(nj (q1▸hj) hs▸hkx).symm.trans e) λz hw=>rr x j w hj hkx hw⟩)
    (λx hx=>(jX (x=y)).elim (λq=>gu c (aa u) ⟨q▸e1,n',λj w hj hw=>zC hw (λq1 q2=>⟨u,ae,q2▸r⟩) λq1 z=>(q1 (oi (hj.symm.trans (q▸hs)))).elim⟩) λq=>fI (F.cells x hx) λc2 o2 f1 f2 f3=>gu c2 o2 ⟨f1,rM (λo e=>ko sb _ _ ((F.apart x c2 f1).2 y c e1 q) e) f2,λj w hj hw=>zC hw (λq1 z=>(q (nj (q1▸hj) hs)).elim) λz hw=>f3 j w hj hw⟩) hlen
  |_=>exact ft hk
end
section
variable{ns:List Str}{sc:Kinds}{env:Env}{O:Addr->Prop}{i:Nat}
noncomputable def sQ(ns:List Str)(sc:Kinds)(env:Env)(O:Addr->Prop):List Str->List Nat->Prop
 |[],is=>is=[]
 |x::xs,is=>∃i r,is=i::r/\cL ns 0 x=aa i/\(oN (bP sc x)=ah/\Iz env sc O x)/\sQ ns sc env O xs r
theorem tK(hs:cL ns 0 y=aa i)(hk:oN (bP sc y)=ah/\Iz env sc O y)(F:ta X W ns sc env l s.heap)(I:cV X.V W U s.heap)(r:Rv X.V W u v):
  wpAny (model X.prog X.w) A (assign (.Name y p) env u) (λz s'=>lQ X W ns sc env O s (mj l i v) U W s') ci s:=wpAny_assign_Name (Ro hs hk.1 hk.2 F I r)
@[elab_as_elim]theorem LF{y:Str}{P:Expr->Prop}(h:Ej x=aa y)(g:∀p,P (.Name y p)):P x:=
  jc h (λu=>nn) (λu u u=>nn) (λu p e=>oi e▸g p) (λu u u u=>nn) (λu u u=>nn) (λu u u=>nn) (λu u u u=>nn) (λu u u u=>nn) (λu u u u=>nn) (λu u u=>nn) (λu u u=>nn) (λu u u u=>nn) (λu u u=>nn) (λu u=>nn) (λu u u=>nn) (λu u u u=>nn) (λu u=>nn) λu u u=>nn
@[elab_as_elim]theorem N2{P:Expr->List Str->Prop}{xs:List Str}(h:np x=aa xs)(n:∀y p,P (.Name y p) [y])(t:∀es q p x y r,jU Ej es=aa (x::y::r)->P (.Tuple es q p) (x::y::r)):P x xs:=
  jc (P:=λx=>P x xs) h (λu=>nn) (λu u u=>nn) (λy p e=>oi e▸n y p) (λu u u u=>nn) (λu u u=>nn) (λu u u=>nn) (λu u u u=>nn) (λu u u u=>nn) (λu u u u=>nn) (λu u u=>nn) (λu u u=>nn) (λu u u u=>nn)
   (λes q p e=>gz e λys e1 e=>by
     induction ys using am with
     |nil=>exact nn e
     |cons a r=>
      induction r using am with
      |nil=>exact nn e
      |cons b r=>exact gA (P:=λxs=>P _ xs) e (t es q p a b r e1)) (λu u=>nn) (λu u u=>nn) (λu u u u=>nn) (λu u=>nn) (λu u u=>nn)
theorem Dp:∀{es:List Expr} {xs:List Str},jU Ej es=aa xs->(dJ es env).length=xs.length/\(dJ es env).findIdx? (·.1)=ag
 |[],xs,h=>gA h ⟨ae,ae⟩
 |e::r,xs,h=>gz h λy e1 h=>rY h λys e2=>LF (P:=λe=>(dJ (e::r) env).length=(y::ys).length/\(dJ (e::r) env).findIdx? (·.1)=ag) e1 λp=>
  have g:=Dp e2
  ⟨congrArg (· +1) g.1,by
    refine ak (show dJ (.Name y p::r) env=(ac,assign (.Name y p) env)::dJ r env from ae) (ak (tj) (ak g.2 ?_))
    rfl⟩
theorem wO:∀{es:List Expr} {xs:List Str} {ts:List Nat} {us:List Value} {vs:List MV} {l l':Loc} {s:Shared},jU Ej es=aa xs->sQ ns sc env O xs ts->cN X.V W us vs->jh.go l ts vs=aa l'->ta X W ns sc env l s.heap->cV X.V W U s.heap->
  wpAny (model X.prog X.w) A (jr ((dJ es env).map (·.2)) us) (λz s'=>lQ X W ns sc env O s l' U W s') ci s
 |[],xs,ts,us,vs,l,l',s,h,hs,r,hb,F,I=>by
  refine R5 h λh=>?_
  subst h
  have hs:ts=[]:=hs
  subst hs
  induction vs using am with
  |nil=>exact r.mX (wpAny_assignInOrder_none (gA hb ((cQ.refl I).Sg F)))
  |cons=>exact nn hb
 |e::es,xs,ts,us,vs,l,l',s,h,hs,r,hb,F,I=>gz h λy e1 h=>rY (P:=λxs=>sQ ns sc env O xs ts->_) h (λys e2 hs=>sC hs λi is e q1 q2 q3=>by
  subst e
  induction vs using am with
  |nil=>exact nn hb
  |cons v vs=>
   refine r.gq λu us r1 r2=>LF (P:=λe=>wpAny _ _ (jr ((dJ (e::es) env).map (·.2)) (u::us)) _ _ _) e1 λp=>?_
   exact oj (aI (tK q1 q2 F I r1) λz s1 a1=>aI (wO e2 q3 r2 hb a1.F a1.t.I) λz s2 a2=>a2.trans a1.t)) hs
theorem JL:∀{ts:List Nat} {vs:List MV} {l:Loc},jh.go l ts vs=aa l'->ts.length=vs.length
 |[],[],_,_=>ae
 |[],_::_,_,h=>nn h
 |_::_,[],_,h=>nn h
 |_::ts,_::vs,_,h=>congrArg (· +1) (JL (ts:=ts) (vs:=vs) h)
theorem Bc:∀{xs:List Str} {ts:List Nat},sQ ns sc env O xs ts->xs.length=ts.length
 |[],_,h=>congrArg dK (aZ h)
 |_::_,_,h=>sC h λu u e u u q=>e▸congrArg (· +1) (Bc q)
theorem D5(hh:A.handled=ag)(ht:np tg=aa xs)(hs:sQ ns sc env O xs ts)(F:ta X W ns sc env l s.heap)(I:cV X.V W U s.heap)(r:Rv X.V W u v)(hb:jh l ts v=aa l'):
  wpAny (model X.prog X.w) A (assign tg env u) (λk s'=>lQ X W ns sc env O s l' U W s') ci s:=
 N2 (P:=λtg xs=>sQ ns sc env O xs ts->wpAny (model X.prog X.w) A (assign tg env u) (λk s'=>lQ X W ns sc env O s l' U W s') ci s) ht (λy p hs=>sC hs λi is e q1 q2 q3=>by
  have q3:is=[]:=q3
  subst q3
  subst e
  exact gA hb (tK q1 q2 F I r)) (λes q p x y xs e1 hs=>sC hs λi is e q1 q2 q3=>sC q3 λj js e' k k k=>by
  subst e'
  subst e
  induction v using MV.casesOn with
  |T vs=>
   refine r.Aq λa arr n ev ha rr z=>?_
   subst ev
   have g:=Dp (env:=env) e1
   refine wpAny_assign_Tuple hh ⟨_,I.fz _ _ ha,ae,n,ae⟩ (g.1.trans ((Bc hs).trans ((JL hb).trans (qq rr).symm))) g.2 λh' he=>?_
   have t:cQ X.V W s W U {s with heap:=h'}:=cQ.kept (tk:=s.toks) I λb o e=>he b o (cT e (bJ _)) e
   exact aI (wO (s:={s with heap:=h'}) e1 hs rr hb (F.step t) t.I) λk s1 a1=>a1.trans t.toF
  |_=>exact nn hb) hs
end
section
variable{env:Env}{x:Str}{c:Addr}
noncomputable def wT(env:Env)(x:Str)(k:NameKind)(cs:List (Str×Addr)):List (Str×Addr):=match k with
 | .free=>(match env.cells.lookup x with
   |some c=>(x,c)::cs
   |none=>cs)
 |_=>cs
noncomputable def vM(env:Env):Kinds->List (Str×Addr)->List (Str×Addr)
 |[],cs=>cs
 |p::r,cs=>vM env r (wT env p.1 p.2 cs)
theorem pU(h:env.cells.lookup x=aa c):wT env x .free cs=(x,c)::cs:=by
 unfold wT
 exact ak h ae
theorem FX:∀(l:Kinds) (cs:List (Str×Addr)),(∀p∈l,p.2= .free->∃c,env.cells.lookup p.1=aa c)->
   (forIn l cs λ(x:Str×NameKind) (r:List (Str×Addr))=>(match x with
     |(name,kind)=>if(kind== .free)=ah then do let a<-cellOf env name;pure (cR ((name,a)::r))else pure (cR r):Sem (ForInStep (List (Str×Addr)))))=pure (vM env l cs)
 |[],_,_=>ae
 |(x,k)::r,cs,hp=>by
  have ih:=λcs=>FX r cs λp hq=>hp p (.tail _ hq)
  refine ak (eG ..) ?_
  cases k with
  |free=>
   exact(hp (x,.free) (.head _) ae).elim λc hc=>by
    show(cellOf env x>>=_)>>=_=pure (vM env r (wT env x .free cs))
    refine ak (show cellOf env x=pure c by unfold cellOf;rw[show env.cells.lookup x=aa c from hc]) (ak (pU hc) ?_)
    exact ih _
  |_=>exact ih _
theorem Mo(h:∀p∈scope.names,p.2= .free->∃c,env.cells.lookup p.1=aa c):closureFor scope env=pure (vM env scope.names []):=by
 unfold closureFor
 show(forIn scope.names [] _>>=λ(cs:List (Str×Addr))=>(pure cs:Sem (List (Str×Addr))))=_
 refine Eq.trans (congrArg (λ(m:Sem (List (Str×Addr)))=>m>>=λcs=>pure cs) (FX scope.names [] h)) ?_
 rfl
theorem jL:∀{l:List (Str×α)} {x:Str} {c:α},l.lookup x=aa c->(x,c)∈l
 |[],_,_,h=>nn h
 |(y,d)::r,x,c,h=>n6 (b:=x==y) (f:=aa d) (g:=r.lookup x) h (λe h=>oi h▸eq_of_beq e▸.head _) λu h=>.tail _ (jL h)
theorem nY:∀{l:List (Str×α)} {x:Str} {c:α},(x,c)∈l->∃d,l.lookup x=aa d
 |(y,d)::r,x,c,h=>by
  show∃e,(match x==y with|true=>aa d|false=>r.lookup x)=aa e
  cases q:x==y with
  |true=>exact⟨d,ae⟩
  |false=>exact(bc.mp h).elim (λe=>ft (q.symm.trans (beq_iff_eq.mpr (congrArg dq e)))) nY
theorem Qb(h:p∈wT env x k cs):p∈cs\/env.cells.lookup p.1=aa p.2:=by
 induction k using dY with
 |free=>
  cases e:env.cells.lookup x with
  |none=>
   unfold wT at h
   rw[e]at h
   exact .inl h
  |some c=>exact(bc.mp (pU e▸h)).elim (λq:p=(x,c)=>.inr (q.symm▸e)) .inl
 |_=>exact .inl h
theorem IW:∀{l:Kinds} {cs:List (Str×Addr)} {p:Str×Addr},p∈vM env l cs->p∈cs\/env.cells.lookup p.1=aa p.2
 |[],cs,p,h=>.inl h
 |_::r,cs,p,h=>(IW (l:=r) h).elim Qb .inr
theorem Mn(h:p∈cs):p∈wT env x k cs:=by
 induction k using dY with
 |free=>
  cases e:env.cells.lookup x with
  |none=>
   unfold wT
   refine ak e ?_
   exact h
  |some c=>exact(pU e).symm▸.tail _ h
 |_=>exact h
theorem FW:∀{l:Kinds} {cs:List (Str×Addr)} {p:Str×Addr},p∈cs->p∈vM env l cs
 |[],cs,p,h=>h
 |_::r,cs,p,h=>FW (l:=r) (Mn h)
theorem IV:∀{l:Kinds} {cs:List (Str×Addr)} {x:Str} {c:Addr},(x,.free)∈l->env.cells.lookup x=aa c->(x,c)∈vM env l cs
 |(y,k)::r,cs,x,c,h,hc=>(bc.mp h).elim (λe=>FW (l:=r) ((congrArg dq e:x=y)▸(congrArg dX e: .free=k)▸(pU hc).symm▸.head _)) λh=>IV (l:=r) h hc
theorem pV(h:(vM env l []).lookup x=aa c):env.cells.lookup x=aa c:=(IW (jL h)).elim (λq=>nomatch q) id
theorem SA(h:(x,.free)∈l)(hc:env.cells.lookup x=aa c):(vM env l []).lookup x=aa c:=ee (nY (IV (cs:=[]) h hc)) λd hd=>hd.trans ((pV hd).symm.trans hc)
end
section
variable{sc:Kinds}{x:Str}{k:NameKind}{ts:List Str}
theorem Al(fn:env.scope.kind= .function)(nm:∀x,env.kindOf x=bP sc x):(relabel scope env).names=rA sc scope.names:=by
 unfold relabel rA
 refine gw λp hp=>?_
 obtain⟨x,k⟩:=p
 dsimp only
 refine ak fn (ak (nm x) ?_)
 simp
theorem jJ:∀{l:Kinds} {x:Str} {k:NameKind},bP l x=aa k->(x,k)∈l
 |[],_,_,h=>nn h
 |(y,k')::r,x,k,h=>n6 (b:=fy x y) (f:=aa k') (g:=bP r x) h (λe h=>oi h▸fN e▸.head _) λu h=>.tail _ (jJ h)
noncomputable def rk(sc:Kinds)(x:Str)(k:NameKind):NameKind:=if(k== .free&&bP sc x==aa .cell)then .cell else k
theorem NB:∀{l:Kinds},rA sc l=l.map λp=>(p.1,rk sc p.1 p.2):=gw λp u=>(apply_ite (Prod.mk p.1) _ _ _).symm
theorem ze:∀{l:Kinds} {x:Str},bP (l.map λp=>(p.1,rk sc p.1 p.2)) x=(bP l x).map (rk sc x)
 |[],_=>ae
 |(y,k)::r,x=>by
  show(match fy x y with|true=>aa (rk sc y k)|false=>bP (r.map λp=>(p.1,rk sc p.1 p.2)) x)=hV (rk sc x) (match fy x y with|true=>aa k|false=>bP r x)
  cases e:fy x y with
  |true=>exact fN e▸ae
  |false=>exact ze (l:=r)
theorem w0:bP (rA sc l) x=(bP l x).map (rk sc x):=NB▸ze
theorem NC{P:Prop}(h:rk sc x k=j)(a:j= .cell->k= .free->P)(b:k=j->P):P:=by
 by_cases c:(k== .free&&bP sc x==aa .cell)=ah
 ·exact a ((if_pos c).symm.trans h).symm (by
   have:=(aB c).1
   induction k using dY with
   |free=>rfl
   |_=>exact ft this)
 ·exact b ((if_neg c).symm.trans h)
theorem wq{P:Prop}{j:NameKind}(h:bP (rA sc l) x=aa j)(a:j= .cell->bP l x=aa .free->P)(b:bP l x=aa j->P):P:=
 aV (cj.mp (w0.symm.trans h)) λk e q=>NC q (λc d=>a c (d▸e)) λd=>b (d▸e)
theorem Fi(h:bP (rA sc l) x=aa .local):bP l x=aa .local:=wq h (λa u=>NameKind.noConfusion a) id
theorem H8(h:bP (rA sc l) x=aa .cell\/bP (rA sc l) x=aa .free):bP l x=aa .cell\/bP l x=aa .free:=
 h.elim (λh=>wq h (λu=>.inr) .inl) λh=>wq h (λu=>.inr) .inr
noncomputable def YX(sc:Kinds)(ts:List Str)(x:Str)(k:NameKind):Bool:=match k with
  | .local=>fy x ".0"||ts.any (fy x)
  | .free=>(match bP sc x with|some .cell=>ah|some .free=>ah|_=>ac)&& !iq x&& !ts.any (fy x)
  | .globalImplicit=> !ts.any (fy x)
  |_=>ac
theorem kT:∀{l:Kinds},xO sc ns ts l=ah->∀{x:Str} {k:NameKind},(x,k)∈l->YX sc ts x k=ah
 |[],_,x,k,hm=>nomatch hm
 |(y,k')::r,h,x,k,hm=>(bc.mp hm).elim (λe=>(congrArg (λp:Str×NameKind=>YX sc ts p.1 p.2) e).trans (aB h).1) (kT (l:=r) (aB h).2)
theorem yI{o:Option NameKind}(h:(match o with|some .cell=>ah|some .free=>ah|_=>ac)=ah):o=aa .cell\/o=aa .free:=by
 induction o using bg with
 |none=>exact ft h
 |some k=>
  induction k using dY with
  |cell=>exact .inl ae
  |free=>exact .inr ae
  |_=>exact ft h
end
section
theorem CI:∀{l:Loc} {i:Nat} {v:MV},(l++[ag])[i]?=aa (aa v)->l[i]?=aa (aa v)
 |[],0,_,h=>nn (oi h)
 |[],_+1,_,h=>nn h
 |_::_,0,_,h=>h
 |_::l,i+1,_,h=>CI (l:=l) (i:=i) h
theorem xL:∀{ts:List Nat} {l:Loc} {i:Nat} {v:MV},(grow l ts)[i]?=aa (aa v)->l[i]?=aa (aa v)
 |[],_,_,_,h=>h
 |_::r,_,_,_,h=>CI (xL (ts:=r) h)
theorem Dq:∀{ts:List Nat} {l:Loc},(grow l ts).length=l.length+ts.length
 |[],_=>ae
 |_::r,l=>(Dq (ts:=r)).trans ((congrArg (· +r.length) aj).trans (og ..))
theorem pA(x:Str):fy x x=ah:=iO _
theorem NH(h:fy x y=ac):fy y x=ac:=fZ.mpr λq=>ft (h.symm.trans (fN q▸pA _))
theorem n8:∀{xs:List Str} {n:Nat} {x:Str},xs.any (fy x)=ac->cL xs n x=ag
 |[],_,_,_=>ae
 |y::r,n,x,h=>by
  have h:=dt.mp h
  show(match cL r (n+1) x with|some i=>aa i|none=>match fy y x with|true=>aa n|false=>ag)=ag
  exact ak (n8 h.2) (ak (NH h.1) ae)
theorem xb:∀{xs:List Str} {n:Nat} {x:Str},xs.any (fy x)=ah->∃i,cL xs n x=aa i
 |[],_,_,h=>ft h
 |y::r,n,x,h=>by
  show∃i,(match cL r (n+1) x with|some i=>aa i|none=>match fy y x with|true=>aa n|false=>ag)=aa i
  cases e:cL r (n+1) x with
  |some j=>exact⟨j,ae⟩
  |none=>exact((ia _ _).mp h).elim (λq=>⟨n,by exact ak (fN q) (ak (pA ..) ae)⟩) λq=>(xb q).elim λu z=>zF e z
theorem t6:∀{ns xs:List Str} {n:Nat} {x:Str},cL (ns++xs) n x=match cL xs (n+ns.length) x with
  |some i=>aa i
  |none=>cL ns n x
 |[],xs,n,x=>by
  show cL xs n x=match cL xs n x with|some i=>aa i|none=>ag
  cases cL xs n x<;>rfl
 |y::r,xs,n,x=>by
  show(match cL (r++xs) (n+1) x with|some i=>aa i|none=>match fy y x with|true=>aa n|false=>ag)=match cL xs (n+(r.length+1)) x with
   |some i=>aa i
   |none=>(match cL r (n+1) x with|some i=>aa i|none=>match fy y x with|true=>aa n|false=>ag)
  refine ak (t6 (ns:=r) (xs:=xs) (n:=n+1) (x:=x)) (ak (og ..) ?_)
  cases cL xs (n+(r.length+1)) x<;>rfl
theorem w9{P:Prop}(h:cL (ns++xs) n x=aa i)(a:cL xs (n+ns.length) x=aa i->P)(b:cL xs (n+ns.length) x=ag->cL ns n x=aa i->P):P:=
 msN (o:=cL xs (n+ns.length) x) (f:=aa) (g:=cL ns n x) (t6.symm.trans h) (λj e h=>a (e.trans h)) b
end
section
variable{ns:List Str}{sc:Kinds}
structure vk(ns:List Str)(sc:Kinds)(ts:List Nat)(q:Expr)(a:Int)(scope:Scope)(xs:List Str):Prop where
 a:a=0
 q:mY q=ah
 dot:ns.any (fy ".0")=ac
 up:LN ns.length ts=ah
 len:ts.length=xs.length
 Zx:rN xs=ah
 odd:xs.any iq=ac
 kind:scope.kind= .function
 inner:xO sc ns xs scope.names=ah
 loc:∀y∈xs,bP scope.names y=aa .local
 lk:∀y∈scope.names,y.2= .local->bP scope.names y.1=aa .local
theorem Gh{o:Option NameKind}(h:(match o with|some .local=>ah|_=>ac)=ah):o=aa .local:=by
 induction o using bg with
 |none=>exact ft h
 |some k=>
  induction k using dY with
  | «local» =>rfl
  |_=>exact ft h
theorem QB{o:ScopeKind}(h:(match o with| .function=>ah|_=>ac)=ah):o= .function:=by
 induction o using ScopeKind.casesOn with
 |function=>rfl
 |_=>exact ft h
theorem DJ:∀{r:Kinds},Ke l r=ah->∀y∈r,y.2= .local->bP l y.1=aa .local
 |[],_,y,hy,_=>nomatch hy
 |(x,k)::r,h,y,hy,e=>(bc.mp hy).elim (λq=>by
  subst q
  have e:k= .local:=e
  subst e
  exact Gh (aB h).1) λhy=>DJ (r:=r) (aB h).2 y hy e
theorem Hs{a:Int}(h:I5 ns sc ts q a scope xs=ah):vk ns sc ts q a scope xs:=
 have h11:=aB h
 have h10:=aB h11.1
 have h9:=aB h10.1
 have h8:=aB h9.1
 have h7:=aB h8.1
 have h6:=aB h7.1
 have h5:=aB h6.1
 have h4:=aB h5.1
 have h3:=aB h4.1
 have h2:=aB h3.1
 ⟨of_decide_eq_true h2.1,h2.2,bK _▸h3.2,h4.2,aN h5.2,h6.2,bK _▸h7.2,QB h8.2,h9.2,λy hy=>Gh (aP.mp h10.2 y hy),DJ h11.2⟩
theorem ta.inner{a:Int}(F:ta X W ns sc env l h)(I:cV X.V W U h)(ok:vk ns sc ts q a scope xs)(k:iF h h')(hC:h.get? C=ag)(hn:h'.Ns C m0):
  ta X W (ns++xs) (rA sc scope.names) (compEnvC scope (vM env scope.names []) C env) (Mine.grow l ts) h' where
 fn:=ok.kind
 names:=λx=>(congrArg (·.lookup x) (Al F.fn F.names)).trans (my _ _)
 gl:=F.gl
 bu:=F.bu
 vars:=⟨m0,hn,λx i v hs hk hv=>absurd ((cF.mp (xL hv)).1) (eA.mpr (F.len▸w9 hs (λe=>eQ ns.length▸(pC e).1) λe z=>
  ((ia _ _).mp (kT ok.inner (jJ (Fi hk)))).elim (λq=>zF (n8 ok.dot) (fN q▸z)) λq=>(xb q).elim λu z=>zF e z))⟩
 cells:=λx hx=>(H8 hx).elim (λe=>ft (kT ok.inner (jJ e))) λe=>
  have io:=aB (kT ok.inner (jJ e))
  fI (F.cells x (yI (aB io.1).1)) λc o e1 e2 e3=>gu c o ⟨SA (jJ e) e1,rM (λo e=>k _ _ e) e2,λi v hs hv=>e3 i v (w9 hs (λz=>zF (n8 (bK _▸io.2)) z) λu z=>z) (xL hv)⟩
 own:=λb hb=>hb.elim (λe=>e▸⟨ga.fresh I hC,ee hn λo n=>n.elim λu n=>n.elim λu n=>⟨o,n.1⟩⟩) λe=>ee e λx hx=>⟨(F.own b (.inr ⟨x,pV hx⟩)).1,(F.own b (.inr ⟨x,pV hx⟩)).2.imp λo=>k _ o⟩
 len:=by exact ak Dq (ak F.len (ak ok.len (ak aj ae)))
 apart:=λx c e=>⟨ee (F.own c (.inr ⟨x,pV e⟩)).2 λo e2=>cT e2 hC,λy c' e' ne=>(F.apart x c (pV e)).2 y c' (pV e') ne⟩
end
section
variable{X:Cx}{V:Cfg}{W W':Wd}{U U':bN}{s s':Shared}{h h':Heap}{A:Around}{prog:Program}{w:World}{ns:List Str}{sc:Kinds}{env:Env}{l l':Loc}{O:Addr->Prop}{v:MV}{ts:List Nat}
theorem ta.weak(F:ta X W ns sc env l' h)(hl:l'.length=l.length)(k:∀(i:Nat) (v:MV),l[i]?=aa (aa v)->l'[i]?=aa (aa v)):ta X W ns sc env l h where
 fn:=F.fn
 names:=F.names
 gl:=F.gl
 bu:=F.bu
 vars:=F.vars.imp λm n=>⟨n.1,λx i v a b c=>n.2 x i v a b (k i v c)⟩
 cells:=λx hx=>(F.cells x hx).imp λc n=>n.imp λo n=>⟨n.1,n.2.1,λi v a b=>n.2.2 i v a (k i v b)⟩
 own:=F.own
 len:=hl.symm.trans F.len
 apart:=F.apart
theorem GR{i j:Nat}(h:j≠i):(mj l i v)[j]?=l[j]?:=List.getElem?_set_ne h.symm
theorem Aw:∀{ts:List Nat} {vs:List MV} {l:Loc},jh.go l ts vs=aa l'->l'.length=l.length/\ ∀j,j∉ts->l'[j]?=l[j]?
 |[],[],_,h=>gA h ⟨ae,λu u=>ae⟩
 |[],_::_,_,h=>nn h
 |_::_,[],_,h=>nn h
 |t::r,v::vs,l,h=>
  have g:=Aw (l:=mj l t v) h
  ⟨g.1.trans qh,λj hj=>(g.2 j λm=>hj (.tail _ m)).trans (GR λe=>hj (e▸.head _))⟩
theorem yC(h:(match v with| .T vs=>jh.go l ts vs|_=>ag)=aa l'):l'.length=l.length/\ ∀j,j∉ts->l'[j]?=l[j]?:=by
 induction v using MV.casesOn with
 |T vs=>exact Aw h
 |_=>exact nn h
theorem Hl(h:jh l ts v=aa l'):l'.length=l.length/\ ∀j,j∉ts->l'[j]?=l[j]?:=by
 induction ts using am with
 |nil=>exact yC h
 |cons t r=>
  induction r using am with
  |nil=>exact gA h ⟨qh,λj hj=>GR λe=>hj (e▸.head _)⟩
  |cons=>exact yC h
theorem G2:∀{ts:List Nat} {n:Nat},LN n ts=ah->∀t∈ts,n<=t
 |[],_,_,_,h=>nomatch h
 |_::r,_,h,_,ht=>(bc.mp ht).elim (λe=>bV ((aN (aB h).1).symm.trans e.symm)) λht=>nG (G2 (ts:=r) (aB h).2 _ ht)
theorem Bb{NS:List Str}{SC:Kinds}:∀{ys:List Str} {n:Nat} {ts:List Nat},LN n ts=ah->ts.length=ys.length->rN ys=ah->(∀x i,cL ys n x=aa i->cL NS 0 x=aa i)->(∀x∈ys,oN (bP SC x)=ah/\Iz env SC O x)->sQ NS SC env O ys ts
 |[],_,_,_,hl,_,_,_=>List.length_eq_zero_iff.mp hl
 |y::r,n,ts,hu,hl,hd,hs,hp=>by
  induction ts using am with
  |nil=>exact nomatch hl
  |cons t ts=>
   have e:t=n:=aN (aB hu).1
   subst e
   refine gu t ts ⟨ae,hs y t ?_,hp y (.head _),Bb (aB hu).2 (j4 hl) (aB hd).2 (λx i e=>hs x i ?_) λx hx=>hp x (.tail _ hx)⟩
   ·unfold cL
    refine ak (n8 (bK _▸(aB hd).1)) ?_
    dsimp only
    exact ak (pA ..) ae
   ·unfold cL
    exact ak e ae
theorem xd{M:Model}{Q:Bool->Shared->Prop}(h:Q ac s):∀r:List Expr,
  wpAny M A (forIn r ac λc r=>if r=ah then do let ok<-isTrue c env (bC c env);pure (cR ok)else pure (cR r)) Q ci s
 |[]=>aw h
 |c::r=>by
  refine ak (eG ..) (ak (if_neg cY) ?_)
  exact ai (aw (xd h r))
theorem Ll{k:Nat}:∀{cond:List ME},(∀e∈cond,ST X e)->∀{ifs},dM X.T k ns sc cond ifs=ah->∀{W s U b},At X k ns sc A env W s l U->ji X.C X.M X.G cond l U=aa (b,U')->
  wpAny (model X.prog X.w) A (forIn ifs ah λc r=>if r=ah then do let ok<-isTrue c env (bC c env);pure (cR ok)else pure (cR r)) (s7 X.V W s b U') ci s
 |[],_,ifs,hc,W,s,U,b,z,hd=>pZ hc (CA hd (aw (.of (.refl z.I))))
 |e::cond,hs,ifs,hc,W,s,U,b,z,hd=>mS hc λy t c1 c2=>gz (o:=bh (cm X.C X.M X.G e l U)) hd λp e1 hd=>by
  refine ak (eG ..) (ak (if_pos ae) ?_)
  refine ai (ai (Bv (hs e (.head _) c1 z e1) λs1 W1 t1=>aw (n6 hd (λq hd=>?_) λq hd=>?_)))
  ·refine ak q ?_
   exact aI (Ll (λe he=>hs e (.tail _ he)) c2 (z.step t1) hd) λc s2 a2=>a2.trans t1
  ·have hd:p=(b,U'):=oi hd
   subst hd
   have q:b=ac:=q
   subst q
   exact xd (.of t1) t
theorem Af{elt target iter:Expr}{ifs:List Expr}{scope:Scope}{pos:Pos}{it acc:Value}{env:Env}{R:Result->Shared->Prop}(I:Nat->Shared->Prop)
  (turn:∀n s,I n s->wpAny (model prog w) A (pyNext it) (λr s₁=>match r with
    |none=>R (.ok .next) s₁
    |some v=>wpAny (model prog w) A (ie target it v) (λu s₁'=>wpAny (model prog w) A (assign target env v) (λu s₂=>
      wpAny (model prog w) A (forIn ifs ah λc r=>if r=ah then do let ok<-isTrue c env (bC c env);pure (cR ok)else pure (cR r)) (λok s₃=>
       if ok=ah then wpAny (model prog w) A (bC elt env) (λx s₄=>
        wpAny (model prog w) A (call (.builtin "list.append") [acc,x]) (λu s₅=>∃m,m<n/\I m s₅) ci s₄) ci s₃
       else∃m,m<n/\I m s₃) ci s₂) ci s₁') ci s₁) ci s)
  (n:Nat) (h:I n s):codeAny (model prog w) A (.compLoop (.ListComp elt [⟨target,iter,ifs,0⟩] scope pos) 0 it acc env) R s:=by
 refine codeAny_loop ae I (λn s hI=>?_) n h
 show wpAny _ A ((compTurn (.ListComp elt [⟨target,iter,ifs,0⟩] scope pos) 0 it acc env).onRaise λx=>do noteFrame x env;theTreesLotGoes x) _ _ s
 refine wpAny_noted (fm ?_)
 refine ak (compTurn_list ..) ?_
 refine ai (ip (ai (aI (turn n s hI) λr s₁ h₁=>?_)))
 induction r using bg with
 |none=>exact aw h₁
 |some v=>
  refine ai (aI h₁ λu s₁' h₁'=>ai (aI h₁' λu s₂ h₂=>ai (aI h₂ λok s₃ h₃=>?_)))
  induction ok using aY with
  |false=>exact aw ⟨ae,h₃⟩
  |true=>exact ai (ai (aI h₃ λx s₄ h₄=>ai (aI h₄ λu s₅ h₅=>aw (aw ⟨ae,h₅⟩))))
end
section
variable{X:Cx}{V:Cfg}{W W':Wd}{U U' Ue:bN}{s s' s₀:Shared}{A:Around}{ns:List Str}{sc:Kinds}{env:Env}{l:Loc}{D C J:Addr}{src v m:MV}{done rest all:List MV}{xs:List Str}{ts:List Nat}
theorem kB.into(u:kB V W1 O s1 W2 U2 s2)(t:cQ V W s₀ W1 U1 s1)(hO:∀b,O b->s₀.heap.get? b=ag):cQ V W s₀ W2 U2 s2:=
 ⟨t.x.trans u.x t.p.live,⟨λb o e c=>u.p.keep b o (t.p.keep b o e c) (t.x.xQ e c) λho=>zF (hO b ho) e,λb o e=>(t.p.live b o e).elim λo' k=>u.p.live b o' k,λp hp=>(t.p.ep p hp).trans (u.p.ep p (t.x.RY hp)),u.p.os.trans t.p.os,u.p.gens.trans t.p.gens⟩,u.I⟩
structure yb(ns:List Str)(sc:Kinds)(env:Env)(l:Loc)(s₀:Shared)(D J:Addr)(xs:List Str)(ts:List Nat):Prop where
 nJ:s₀.heap.get? J=ag
 nD:s₀.heap.get? D=ag
 nC:s₀.heap.get? env.locals=ag
 JD:J≠D
 own:∀b,oI env b->b≠J/\b≠D
 SL:sQ ns sc env (· =env.locals) xs ts
 un:∀i v,l[i]?=aa (aa v)->i∉ts
structure Iy(X:Cx)(W:Wd)(s₀:Shared)(D J:Addr)(W':Wd)(U':bN)(s':Shared)(done:List MV):Prop where
 t:cQ X.V W s₀ W' U' s'
 d:ga W' D
 j:ga W' J
 us:∃us,s'.heap.PlainList D us/\cN X.V W' us.toList done
theorem Iy.turn(K:yb ns sc env l s₀ D J xs ts)(M:Iy X W s₀ D J W1 U1 s1 done)(oJ:∃o,s1.heap.get? J=aa o)(u:kB X.V W1 (· =env.locals) s1 W2 U2 s2):Iy X W s₀ D J W2 U2 s2 done where
 t:=u.into M.t λb hb=>hb▸K.nC
 d:=aV M.us λus p v=>p.elim λv e=>M.d.ext u.x e
 j:=oJ.elim λv e=>M.j.ext u.x e
 us:=M.us.imp λus q=>⟨q.1.imp λv e=>u.p.keep _ _ e M.d.F λq=>(K.own _ (.inl ae)).2 q.symm,q.2.mono u.x⟩
theorem Iy.push{U1:bN}{s1:Shared}{h':Heap}{us:Array Value}(K:yb ns sc env l s₀ D J xs ts)(M:Iy X W s₀ D J W1 U1 s1 done)(k:mC D s1.heap h')(p:h'.PlainList D (us.push y))(r:cN X.V W1 us.toList done)(ry:Rv X.V W1 y m):Iy X W s₀ D J W1 U1 {s1 with heap:=h'} (done++[m]):=
 ⟨M.t.other (tk:=s1.toks) M.d K.nD k,M.d,M.j,_,p,by
   refine ak jV ?_
   exact r.append (.cons ry .nil)⟩
noncomputable def uG(X:Cx)(src:MV)(U:bN)(l:Loc)(ts:List Nat)(cond:List ME)(elt:ME):List MV->bN->Option (List MV×bN):=gN src U l ts (λl U=>ji X.C X.M X.G cond l U) λl U=>cm X.C X.M X.G elt l U
noncomputable def FJ(X:Cx)(W:Wd)(s₀:Shared)(D J:Addr)(ns:List Str)(sc:Kinds)(env:Env)(l:Loc)(src:MV)(U:bN)(g:List MV->bN->Option (List MV×bN))(all:List MV)(Ue:bN)(n:Nat)(s':Shared):Prop:=
 ∃rest W' U' done xs',n=rest.length/\Iy X W s₀ D J W' U' s' done/\ta X W' ns sc env l s'.heap/\vm X.prog X.w X.V W' U' s'.heap J src rest/\cC U' src=cC U src/\g rest U'=aa (xs',Ue)/\done++xs'=all
noncomputable def jw(V:Cfg)(W:Wd)(s:Shared)(m:MV)(U:bN)(v:Value)(C:Addr)(s':Shared):Prop:=
 ∃W',Rv V W' v m/\cQ V W s W' U s'/\ga W' C/\s.heap.get? C=ag/\ ∃n,s'.heap.Ns C n
theorem Iy.fin(K:yb ns sc env l s₀ D J xs ts)(M:Iy X W s₀ D J W1 U1 s1 done)(F:ta X W1 ns sc env l s1.heap)(z:bX done.length=ah):jw X.V W s₀ (.L done) U1 (.ref D) env.locals s1:=
 aV M.us λus p r=>p.elim λk hk=>⟨_,.lst Wd.ph (r.mono (i3.add K.nD M.d.K)) z,M.t.zN M.d K.nD hk,⟨(if_neg (K.own _ (.inl ae)).2).trans (F.own _ (.inl ae)).1.K,(F.own _ (.inl ae)).1.F⟩,K.nC,F.vars.imp λu q=>q.1⟩
theorem ND{us:Array Value}(r:cN V W us.toList done)(z:bX all.length=ah)(e:done++xs'=all):us.size<=sizeLine:=lM▸ao (bV (qq r)) (ao (aU _ _) (aj▸e▸gb z))
theorem C5{cond:List ME}{p tg:Expr}{ifs:List Expr}{k n:Nat}{RR:Result->Shared->Prop}(he:SE X elt)(hcond:∀e∈cond,ST X e)(K:yb ns sc env l s₀ D J xs ts)(ht:np tg=aa xs)(ce:ch X.T k ns sc elt p=ah)(cf:dM X.T k ns sc cond ifs=ah)
  (R:vA A X.d k) (z:bX all.length=ah) (hR:∀s',jw X.V W s₀ (.L all) Ue (.ref D) env.locals s'->RR (.ok .next) s') (st:FJ X W s₀ D J ns sc env l src U (uG X src U l ts cond elt) all Ue n s'):
  wpAny (model X.prog X.w) A (pyNext (.ref J)) (λr s₁=>match r with
   |none=>RR (.ok .next) s₁
   |some v=>wpAny (model X.prog X.w) A (ie tg (.ref J) v) (λg s₁'=>wpAny (model X.prog X.w) A (assign tg env v) (λg s₂=>
     wpAny (model X.prog X.w) A (forIn ifs ah λc r=>if r=ah then do let ok<-isTrue c env (bC c env);pure (cR ok)else pure (cR r)) (λok s₃=>
      if ok=ah then wpAny (model X.prog X.w) A (bC p env) (λx s₄=>
       wpAny (model X.prog X.w) A (call (.builtin "list.append") [.ref D,x]) (λg s₅=>∃m,m<n/\FJ X W s₀ D J ns sc env l src U (uG X src U l ts cond elt) all Ue m s₅) ci s₄) ci s₃
      else∃m,m<n/\FJ X W s₀ D J ns sc env l src U (uG X src U l ts cond elt) all Ue m s₃) ci s₂) ci s₁') ci s₁) ci s':=by
 refine X9 st λrest W1 U1 done xs' en M F it eq hg ha=>aI (it.next R.handled M.t.I) λr s₁ h₁=>gR h₁.1 λh2 tk2 es k2=>?_
 have hr:=h₁.2
 subst es
 have M:Iy X W s₀ D J W1 U1 {s' with heap:=h2,toks:=tk2} done:=⟨M.t.other M.j K.nJ k2,M.d,M.j,M.us.imp λus q=>⟨q.1.imp λg e=>k2 _ _ K.JD.symm e,q.2⟩⟩
 have F:ta X W1 ns sc env l h2:=F.grow (i3.refl _ _) λb hb o e=>k2 b o (K.own b hb).1 e
 induction rest using am with
 |nil=>
  have hr:r=ag:=hr
  subst hr
  refine Un (c:=xs') (d:=Ue) hg λe1 e2=>?_
  subst e1
  subst e2
  rw[aG]at ha
  subst ha
  exact hR _ (M.fin K F z)
 |cons v rest=>
  refine sB hr λu er ru L5 go=>?_
  subst er
  refine go (gz hg λlb hb hg=>gz hg λp1 e1 hg=>aI (D5 R.handled ht K.SL F M.t.I ru hb) λg s2 a2=>Bv (Ll hcond cf ⟨R,a2.F,a2.t.I⟩ e1) λs3 W3 t3=>?_)
  have lv:∃o,h2.get? J=aa o:=L5.live
  have u3:kB X.V W1 (· =env.locals) {s' with heap:=h2,toks:=tk2} W3 p1.2 s3:=a2.t.trans t3.toF
  have B:=Hl hb
  have jk:∀{W4 U4 s4},kB X.V W1 (· =env.locals) {s' with heap:=h2,toks:=tk2} W4 U4 s4->∀o,h2.get? J=aa o->s4.heap.get? J=aa o:=λu o e=>u.p.keep _ _ e M.j.F λq=>(K.own _ (.inl ae)).1 q.symm
  refine n6 hg (λq hg=>?_) λq hg=>n6 hg (λhu hg=>?_) λg=>nn
  ·refine ak q (ak (if_pos ae) ?_)
   refine gz hg λy e2 hg=>n6 hg (λhu hg=>aV (cj.mp hg) λt eg et=>q6 (he ce ⟨R,a2.F.step t3,t3.I⟩ e2) λw s4 W4 r4 t4=>?_) λg=>nn
   refine Un (congrArg aa et) λe3 e4=>?_
   have u4:=u3.trans t4.toF
   have M4:=M.turn K lv u4
   refine aV M4.us λus hus rus=>pg hus (λh5 hus5 sb=>?_) (ND rus z ha)
   have k5:=ko sb
   refine⟨rest.length,en▸cn _,HF rest W4 y.2 (done++[y.1]) t.1 ⟨ae,M4.push K k5 hus5 rus r4,((a2.F.step t3).step t4|>.grow (i3.refl _ _) λb hb o e=>k5 b o (K.own b hb).2 e).weak B.1 λi v e=>(B.2 i (K.un i v e)).trans e,(L5.step M.t.I u4 ((jS hu).trans eq.symm) (jk u4)).but M4.d K.JD k5,jS hu,eg.trans (e4▸ae),?_⟩⟩
   refine ak (ay ..) ?_
   exact(congrArg (done++ ·) e3.symm).trans ha
  ·refine ak q (ak (if_neg cY) ?_)
   exact⟨rest.length,en▸cn _,HF rest W3 p1.2 done xs' ⟨ae,M.turn K lv u3,(a2.F.step t3).weak B.1 λi v e=>(B.2 i (K.un i v e)).trans e,L5.step M.t.I u3 ((jS hu).trans eq.symm) (jk u3),jS hu,hg,ha⟩⟩
theorem BG{vs:List MV}{cond:List ME}{q tg:Expr}{ifs:List Expr}{k:Nat}{RR:Result->Shared->Prop}{scope:Scope}{pos:Pos}(he:SE X elt)(hcond:∀e∈cond,ST X e)(K:yb ns sc env l s₀ D J xs ts)(ht:np tg=aa xs)(ce:ch X.T k ns sc elt p=ah)(cf:dM X.T k ns sc cond ifs=ah)
  (R:vA A X.d k) (z:bX all.length=ah) (hR:∀s',jw X.V W s₀ (.L all) Ue (.ref D) env.locals s'->RR (.ok .next) s') (M:Iy X W s₀ D J W U s' []) (F:ta X W ns sc env l s'.heap) (it:vm X.prog X.w X.V W U s'.heap J src vs) (hg:uG X src U l ts cond elt vs U=aa (all,Ue)):
  codeAny (model X.prog X.w) A (.compStart (.ListComp p [⟨tg,q,ifs,0⟩] scope pos) 0 (.ref J) (.ref D) env) RR s':=
 have loop:=Af (elt:=p) (target:=tg) (iter:=q) (scope:=scope) (pos:=pos) (FJ X W s₀ D J ns sc env l src U (uG X src U l ts cond elt) all Ue) (λn s st=>C5 he hcond K ht ce cf R z hR st) vs.length (HF vs W U [] all ⟨ae,M,F,it,ae,hg,ae⟩)
 codeAny_compStart_list loop (fm (it.self R.handled loop))
theorem Ht{a:Int}(ok:vk ns sc ts q a scope xs):sQ (ns++xs) (rA sc scope.names) (compEnvC scope (vM env scope.names []) C env) (· =C) xs ts:=
 Bb ok.up ok.len ok.Zx (λx i e=>t6.trans (by exact ak (eQ ..) (ak e ae))) λx hx=>
  have hk:bP (rA sc scope.names) x=aa .local:=w0.trans (congrArg (hV _) (ok.loc x hx))
  ⟨hk▸ae,λu=>ae,λh=>nomatch hk.symm.trans h⟩
end
section
variable{X:Cx}{W:Wd}{U U' U1 Ue:bN}{s s':Shared}{A:Around}{ns:List Str}{sc:Kinds}{env:Env}{l:Loc}{C:Addr}{src m:MV}{all vs:List MV}{xs:List Str}{ts:List Nat}
theorem jw.trans(t:cQ V W s W' U1 s')(a:jw V W' s' m U v C s''):jw V W s m U v C s'':=s9 (λW'' a=>⟨a.1,t.trans a.2.1,a.2.2.1,eE t.p.live a.2.2.2.1,a.2.2.2.2⟩) a
theorem jw.done(h:jw V W s m U v C s'):∃n,s'.heap.Ns C n/\ ∀h',j5 C s'.heap h'->b7 V W s m U v {s' with heap:=h'}:=
 Vq h λW' r t u nC n=>n.imp λn hn=>⟨hn,λh' sb=>⟨W',r,t.other (tk:=s'.toks) u nC (ko sb)⟩⟩
theorem IZ{cond:List ME}{ifs:List Expr}{a:Int}{scope:Scope}{pos:Pos}{k:Nat}{RR:Value->Addr->Result->Shared->Prop}{it:Value}(he:SE X elt)(hcond:∀e∈cond,ST X e)(ok:vk ns sc ts q a scope xs)(ht:np tg=aa xs)
  (ce:ch X.T k (ns++xs) (rA sc scope.names) elt p=ah) (cf:dM X.T k (ns++xs) (rA sc scope.names) cond ifs=ah) (z:At X k ns sc A env W s l U) (st:nQ X.prog X.w X.V W U s src vs it s') (hg:uG X src U (grow l ts) ts cond elt vs U=aa (all,Ue)) (hz:bX all.length=ah)
  (hR:∀acc C s',jw X.V W s (.L all) Ue acc C s'->RR acc C (.ok .next) s'):
  wpAny (model X.prog X.w) A (newList []) (λacc s₃=>wpAny (model X.prog X.w) A (newFunctionEnv scope env.globals (vM env scope.names []) [] env.qual ag .none (aa env)) (λcenv s₄=>
   codeAny (model X.prog X.w) A (.compStart (.ListComp p [⟨tg,q,ifs,0⟩] scope pos) 0 it acc {cenv with scope:=relabel scope env}) (RR acc cenv.locals) s₄) ci s₃) ci s':=sB st λJ ej hs nJ it0=>gR hs λh tk es k0=>by
 subst ej
 subst es
 refine ct (wpAny_newFunctionEnv (λy hy e=>ft (kT ok.inner (x:=y.1) (k:=.cell) (e▸hy))) (λy hy=>nomatch hy) (λh₁ hns sb=>?_) ok.kind)
 have kD:iF h (h.push (hZ #[] 0)):=eN _
 have kC:iF (h.push (hZ #[] 0)) h₁:=λb o e=>sb.extBut b o (cT e (bJ _)) (aF _ e)
 have getD:(h.push (hZ #[] 0)).get? h.objs.size=aa (hZ #[] 0):=aL _ ae
 have k1:iF h h₁:=λb o e=>kC b o (kD b o e)
 have k2:iF s.heap h₁:=λb o e=>k1 b o (k0 b o e)
 have nD:s.heap.get? h.objs.size=ag:=eE k0.live (bJ h)
 have nC:s.heap.get? (h.push (hZ #[] 0)).objs.size=ag:=eE (λb o e=>⟨o,kD b o (k0 b o e)⟩) (bJ _)
 have JD:J≠h.objs.size:=it0.live.elim λo e=>cT e (bJ _)
 have JC:J≠(h.push (hZ #[] 0)).objs.size:=it0.live.elim λo e=>cT (kD _ _ e) (bJ _)
 exact BG (env:=compEnvC scope (vM env scope.names []) (h.push (hZ #[] 0)).objs.size env) (RR:=RR (.ref h.objs.size) _) he hcond
  ⟨nJ,nD,nC,JD,λb hb=>hb.elim (λe=>e▸⟨JC.symm,(cT getD (bJ _)).symm⟩) λe=>ee e λx hx=>ee (z.F.own b (.inr ⟨x,pV hx⟩)).2 λo e=>⟨cT e nJ,cT e nD⟩,Ht ok,λi v e hm=>absurd (cF.mp (xL e)).1 (eA.mpr (z.F.len▸G2 ok.up i hm))⟩
  ht ce cf z.R hz (hR _ _) ⟨.kept z.I k2,.fresh z.I nD,.fresh z.I nJ,#[],⟨0,kC _ _ getD⟩,.nil⟩ (z.F.inner z.I ok k2 nC hns) (it0.keeps k1) hg
theorem oG(h:mY q=ah)(x:Value):foldedSetIterable q env x=pure x:=by
 induction q using dS with
 |Set=>exact ft h
 |_=>rfl
theorem Mq{cond:List ME}{tg:Expr}{ifs:List Expr}{a:Int}{scope:Scope}{pos pos':Pos}{k:Nat}{first:Sem Value}{use:Option (Value->Sem Unit)}{Q:Value->Shared->Prop}
  (he:SE X elt) (hcond:∀e∈cond,ST X e) (ok:vk ns sc ts q a scope xs) (ht:np tg=aa xs) (ce:ch X.T k (ns++xs) (rA sc scope.names) elt p=ah) (cf:dM X.T k (ns++xs) (rA sc scope.names) cond ifs=ah) (z:At X k ns sc A env W s l U)
  (hfirst:wpAny (model X.prog X.w) A first (λx s1=>∃W1,cQ X.V W s W1 U1 s1/\wpAny (model X.prog X.w) A (pyIter x) (nQ X.prog X.w X.V W1 U1 s1 src vs) ci s1) ci s) (hg:uG X src U1 (grow l ts) ts cond elt vs U1=aa (all,Ue)) (hz:bX all.length=ah)
  (hQ:∀acc C s',jw X.V W s (.L all) Ue acc C s'->compPost (model X.prog X.w) A ci use Q acc C (.ok .next) s'):
  wpAny (model X.prog X.w) A (comprehension (.ListComp p [⟨tg,q,ifs,0⟩] scope pos) scope env pos' (newList []) ac first use) Q ci s:=
 wpAny_comprehension_free ae (oG ok.q) (Mo λy hy e=>fI (z.F.cells y.1 (yI (aB (aB (kT ok.inner (x:=y.1) (k:=.free) (e▸hy))).1).1)) λc o e1 u u=>⟨c,e1⟩) ok.kind (λx hx e=>(my _ _).trans (ok.lk x hx e))
  (aI hfirst λx s1 h1=>aV h1 λW1 t1 h1=>aI h1 λit s2 st=>IZ (RR:=λacc C=>compPost (model X.prog X.w) A ci use Q acc C) he hcond ok ht ce cf (z.step t1) st hg hz λacc C s' e=>hQ _ _ _ (e.trans t1))
@[elab_as_elim]theorem RG{P:List Comprehension->Prop}(h:PH gs f=ah)(g:∀tg q ifs a,f tg q ifs a=ah->P [⟨tg,q,ifs,a⟩]):P gs:=by
  induction gs using am with
  |nil=>exact ft h
  |cons c r=>
   induction c using Comprehension.casesOn with
   |mk tg q ifs a=>
    induction r using am with
    |nil=>exact g tg q ifs a h
    |cons=>exact ft h
theorem By{P:Prop}(h:o.any f=ah)(k:∀x,o=aa x->f x=ah->P):P:=by
 induction o using bg with
 |none=>exact ft h
 |some x=>exact k x ae h
theorem vA.inner(R:vA A X.d (k+1)):vA A X.d k:=⟨R.handled,by have:=R.depth;exact cZ ‹_›,by have:=R.units;lia⟩
theorem I4{P:MV->bN->Prop}(h:uF r=aa (m,U'))(g:∀all Ue,r=aa (all,Ue)->bX all.length=ah->P (.L all) Ue):P m U':=gz h λt e h=>n6 h (λz h=>CA h (g t.1 t.2 e z)) λu=>nn
@[elab_as_elim]theorem Qc{P:List Comprehension->Prop}{p:Expr}{gs:List Comprehension}{scope:Scope}(h:AC ns sc ts f g p gs scope=ah)(k:∀tg q ifs xs,np tg=aa xs->vk ns sc ts q 0 scope xs->f q=ah->g (ns++xs) (rA sc scope.names) p ifs=ah->P [⟨tg,q,ifs,0⟩]):P gs:=
  RG h λtg q ifs a h=>By h λxs hx h=>have ok:=Hs (aB (aB h).1).1;ok.a▸k tg q ifs xs hx (ok.a▸ok) (aB (aB h).1).2 (aB h).2
noncomputable def lS(X:Cx)(A:Around)(env:Env)(W:Wd)(s:Shared)(p:Expr)(gs:List Comprehension)(scope:Scope)(pos:Pos)(m:MV)(U':bN):Prop:=∀(use:Option (Value->Sem Unit)) (Q:Value->Shared->Prop),(∀acc C s',jw X.V W s m U' acc C s'->compPost (model X.prog X.w) A ci use Q acc C (.ok .next) s')->
 wpAny (model X.prog X.w) A (comprehension (.ListComp p gs scope pos) scope env (firstIterPos gs pos) (newList []) (firstAsync gs) (firstIter gs env) use) Q ci s
theorem FY{e:ME}{cond:List ME}{k:Nat}{f:Expr->Bool}{gs:List Comprehension}{scope:Scope}{pos:Pos}(he:SE X e)(hcond:∀e∈cond,ST X e)(h:AC ns sc ts f (λns sc p ifs=>ch X.T k ns sc e p&&dM X.T k ns sc cond ifs) p gs scope=ah)(z:At X (k+1) ns sc A env W s l U)
  (hf:∀q,f q=ah->At X k ns sc A env W s l U->wpAny (model X.prog X.w) A (bC q env) (λx s1=>∃W1,cQ X.V W s W1 U1 s1/\wpAny (model X.prog X.w) A (pyIter x) (nQ X.prog X.w X.V W1 U1 s1 src vs) ci s1) ci s) (hd:uF (uG X src U1 (grow l ts) ts cond e vs U1)=aa (m,U')):lS X A env W s p gs scope pos m U':=by
 refine Qc h λtg q ifs xs hx ok c1 c2=>I4 (P:=λm U'=>lS X A env W s p [⟨tg,q,ifs,0⟩] scope pos m U') hd λall Ue eg hz=>?_
 have z':At X k ns sc A env W s l U:=⟨z.R.inner,z.F,z.I⟩
 exact λuse Q hQ=>Mq he hcond ok hx (aB c2).1 (aB c2).2 z' (hf q c1 z') eg hz hQ
theorem lS.ev(h:lS X A env W s p gs scope pos m U'):Ac X A env W s (.ListComp p gs scope pos) m U':=by
 unfold Ac
 refine ak (eval_ListComp ..) ?_
 exact h ag _ λacc C s' ce=>ce.done
theorem FZ{cond:List ME}{gs:List Comprehension}{scope:Scope}{pos:Pos}(Y:X.Good)(he:SE X elt)(hcond:∀e∈cond,ST X e)(hit:SE X it)(hc:ch X.T k ns sc (.f elt ts it cond) (.ListComp p gs scope pos)=ah)(z:At X k ns sc A env W s l U)(hd:cm X.C X.M X.G (.f elt ts it cond) l U=aa (m,U')):lS X A env W s p gs scope pos m U':=by
 induction k using cX with
 |zero=>exact ft hc
 |succ k=>exact gz hd λp1 e1 hd=>gz e1 λp0 e0 e1=>rY (P:=λt:MV×List MV×bN=>uF (uG X t.1 t.2.2 (grow l ts) ts cond elt t.2.1 t.2.2)=aa (m,U')->lS X A env W s p gs scope pos m U') e1 (λvs e3 hd=>FY he hcond hc z (λq hq z'=>q6 (hit hq z' e0) λu s1 W1 r1 t1=>⟨W1,t1,BR Y.P t1.I r1 e3⟩) hd) hd
theorem SB.comp{cond:List ME}(Y:X.Good)(he:SE X elt)(hcond:∀e∈cond,ST X e)(hit:SE X it):SB X (.f elt ts it cond):=
 have key:∀{k ns sc x} {P:Expr->Prop},ch X.T k ns sc (.f elt ts it cond) x=ah->(∀p gs scope pos,ch X.T k ns sc (.f elt ts it cond) (.ListComp p gs scope pos)=ah->P (.ListComp p gs scope pos))->P x:=λ{k ns sc x P} hc g=>by
  induction k using cX with
  |zero=>exact ft hc
  |succ k=>exact LQ (x:=x) (P:=P) (f:=λp gs scope=>AC ns sc ts (λq=>ch X.T k ns sc it q) (λns sc p ifs=>ch X.T k ns sc elt p&&dM X.T k ns sc cond ifs) p gs scope) hc g
 ST.of (@λk ns sc x hc A env W s l U m U' z hd=>key (P:=λx=>Ac X A env W s x m U') hc λp gs scope pos hc=>(FZ Y he hcond hit hc z hd).ev) @λk ns sc x hc env m=>key (P:=λx=>isTrue x env m=(do let v<-m;standAt x.pos;holding [v] (truthy v))) hc λu u u u u=>ae
end
section
variable{X:Cx}{W:Wd}{U:bN}{s:Shared}{A:Around}{l:Loc}{b c:ME}{ts:List Nat}
theorem mq(h:cm C M G a l U=aa (x,U₁))(g:iC C M G r l U₁=aa (ms,U₂)):iC C M G (a::r) l U=aa (x::ms,U₂):=by
 show lr (cm C M G a l U) _=_
 refine ak h ?_
 show hV _ (iC C M G r l U₁)=_
 refine ak g ?_
 rfl
theorem kQ(h:ch T k ns sc a q=ah)(g:dM T k ns sc r t=ah):dM T k ns sc (a::r) (q::t)=ah:=(dF _ _).mpr ⟨h,g⟩
theorem wp(Y:X.Good)(hn:iN sc "range" y=ah)(hc:dM X.T k ns sc es xs=ah)(hs:xo X es)(z:At X k ns sc A env W s l U)
  (hd:iC X.C X.M X.G es l U=aa (ms,U')) (h:∀us s1 W1,cN X.V W1 us ms->cQ X.V W s W1 U' s1->wpAny (model X.prog X.w) A (call (.type "range") us) Q ci s1):
  wpAny (model X.prog X.w) A (bC (.Call (.Name y p) xs [] pos) env) Q ci s:=
 fN (aB hn).1▸kP (kj (v:=.type "range") Y (fN (aB hn).1▸(aB hn).2) (aT (i:=16) ae) z.F z.I) (iH (first:=[]) (Xp hc) (nX hc (Bw (hs hc _ z hd) h)))
theorem vK{i:Int}(h:yL f i e ag=ah):e= .c (.I i):=by
 induction e using ME.casesOn with
 |c v=>
  induction v using MV.casesOn with
  |I j=>exact of_decide_eq_true h▸ae
  |_=>exact ft h
 |_=>exact ft h
@[elab_as_elim]theorem Lc{P:MV->MV->MV->Prop}(h:u9 x y z=aa vs)(g:∀a b c,Cf a b c=aa vs->P (.I a) (.I b) (.I c)):P x y z:=by
  induction x using MV.casesOn with
  |I a=>
   induction y using MV.casesOn with
   |I b=>
    induction z using MV.casesOn with
    |I c=>exact g a b c h
    |_=>exact nn h
   |_=>exact nn h
  |_=>exact nn h
theorem EM{i:Int}{U₁:bN}{P:Prop}{j:Int}(h:cm C M G (.c (.I j)) l U=aa (.I i,U₁))(g:i=j->U₁=U->P):P:=Un (a:=MV.I j) (c:=MV.I i) (b:=U) (d:=U₁) h λa b=>g (congrArg (λv=>match v with|MV.I i=>i|_=>0) a) b
noncomputable def rgA(f:Option Expr->Expr->Option Expr->Bool)(ps:List Expr):Bool:=match ps with
 |[q]=>f ag q ag
 |[p,q]=>f (aa p) q ag
 |[p,q,r]=>f (aa p) q (aa r)
 |_=>ac
theorem zu{i j:Int}{s1:Shared}{vs:List MV}{st:Int}{e:Tok}{r:Addr}(T:cQ X.V W s W1 U s1)(h:Cf i j st=aa vs){h':Heap}{tk:Nat}(k:iF s1.heap h')(hr:IsRange h' r i j st t u e):
  ∃W1,cQ X.V W s W1 U {s1 with heap:=h',toks:=tk}/\wpAny (model X.prog X.w) A (pyIter (.ref r)) (nQ X.prog X.w X.V W1 U {s1 with heap:=h',toks:=tk} .N vs) ci {s1 with heap:=h',toks:=tk}:=
 ⟨W1,T.trans (cQ.kept T.I k),Fg hr h⟩
theorem DY(Y:X.Good)(ha:SE X a)(hb:SE X b)(hc:SE X c)(h:Ct sc q (λp0 p1 p2=>yL (λq=>ch X.T k ns sc a q) 0 a p0&&ch X.T k ns sc b p1&&yL (λq=>ch X.T k ns sc c q) 1 c p2)=ah)(Z:At X k ns sc A env W s l U)
  (e1:cm X.C X.M X.G a l U=aa (x,U₁)) (e2:cm X.C X.M X.G b l U₁=aa (y,U₂)) (e3:cm X.C X.M X.G c l U₂=aa (z,U₃)) (hv:u9 x y z=aa vs):
  wpAny (model X.prog X.w) A (bC q env) (λv s1=>∃W1,cQ X.V W s W1 U₃ s1/\wpAny (model X.prog X.w) A (pyIter v) (nQ X.prog X.w X.V W1 U₃ s1 .N vs) ci s1) ci s:=
 Lc (P:=λx y z=>cm X.C X.M X.G a l U=aa (x,U₁)->cm X.C X.M X.G b l U₁=aa (y,U₂)->cm X.C X.M X.G c l U₂=aa (z,U₃)->wpAny (model X.prog X.w) A (bC q env) (λv s1=>∃W1,cQ X.V W s W1 U₃ s1/\wpAny (model X.prog X.w) A (pyIter v) (nQ X.prog X.w X.V W1 U₃ s1 .N vs) ci s1) ci s) hv
 (λi j st hr e1 e2 e3=>Dy (x:=q) (f:=λy=>iN sc "range" y) (g:=rgA λp0 p1 p2=>yL (λq=>ch X.T k ns sc a q) 0 a p0&&ch X.T k ns sc b p1&&yL (λq=>ch X.T k ns sc c q) 1 c p2) h λg q0 ps pos hn h=>by
 induction ps using am with
 |nil=>exact ft h
 |cons p0 r=>
  induction r using am with
  |nil=>
   have c2:=aB h
   have c1:=aB c2.1
   have ea:=vK c1.1
   have ec:=vK c2.2
   subst ea
   subst ec
   refine EM e1 λq1 q2=>EM e3 λq3 q4=>?_
   subst q2
   subst q4
   subst q1
   subst q3
   exact wp Y hn (kQ c1.2 ae) (xo.cons hb xo.nil) Z (mq e2 ae) λus s1 W1 r1 t1=>r1.DS λv r1=>r1.jI λt=>call_range_1 (zu t1 hr (eN _) (wC ..))
  |cons p1 r=>
   induction r using am with
   |nil=>
    have c2:=aB h
    have c1:=aB c2.1
    have ec:=vK c2.2
    subst ec
    refine EM e3 λq3 q4=>?_
    subst q4
    subst q3
    exact wp Y hn (kQ c1.1 (kQ c1.2 ae)) (xo.cons ha (xo.cons hb xo.nil)) Z (mq e1 (mq e2 ae)) λus s1 W1 r1 t1=>r1.Ij λv u r1 r2=>r1.jI λt=>r2.jI λt'=>call_range_2 (zu t1 hr (eN _) (wC ..))
   |cons p2 r=>
    induction r using am with
    |nil=>
     have c2:=aB h
     have c1:=aB c2.1
     refine n6 hr (λhh e=>?_) λe=>nn
     have h1:=aB (aB hh).1
     exact wp Y hn (kQ c1.1 (kQ c1.2 (kQ c2.2 ae))) (xo.cons ha (xo.cons hb (xo.cons hc xo.nil))) Z (mq e1 (mq e2 (mq e3 ae))) λus s1 W1 r1 t1=>r1.gq λv us r1 r2=>r2.Ij λu u' r2 r3=>r1.jI λt=>r2.jI λt'=>r3.jI λt''=>
      call_range_3 (of_decide_eq_true h1.2) (zu t1 hr (eN _) (wC ..)) (.inl (PyProof.noPylong_small (of_decide_eq_true (aB h1.1).2)))
    |cons=>exact ft h) e1 e2 e3
theorem C4{U':bN}{ns:List Str}{sc:Kinds}{env:Env}{a:ME}{m:MV}{k:Nat}{cond:List ME}{pos:Pos}(Y:X.Good)(he:SE X elt)(hcond:∀e∈cond,ST X e)(ha:SE X a)(hb:SE X b)(hc':SE X c)(hc:ch X.T k ns sc (.j elt ts a b c cond) (.ListComp p gs scope pos)=ah)(z:At X k ns sc A env W s l U)(hd:cm X.C X.M X.G (.j elt ts a b c cond) l U=aa (m,U')):lS X A env W s p gs scope pos m U':=by
 induction k using cX with
 |zero=>exact ft hc
 |succ k=>exact nr hd λx1 U1 e1 hd=>nr hd λx2 U2 e2 hd=>nr hd λx3 U3 e3 hd=>gz hd λvs hv hd=>FY he hcond hc z (λq hq z'=>DY Y ha hb hc' hq z' e1 e2 e3 hv) hd
theorem SB.jv{cond:List ME}(Y:X.Good)(he:SE X elt)(hcond:∀e∈cond,ST X e)(ha:SE X a)(hb:SE X b)(hc':SE X c):SB X (.j elt ts a b c cond):=
 have key:∀{k ns sc x} {P:Expr->Prop},ch X.T k ns sc (.j elt ts a b c cond) x=ah->(∀p gs scope pos,ch X.T k ns sc (.j elt ts a b c cond) (.ListComp p gs scope pos)=ah->P (.ListComp p gs scope pos))->P x:=λ{k ns sc x P} hc g=>by
  induction k using cX with
  |zero=>exact ft hc
  |succ k=>exact LQ (x:=x) (P:=P) (f:=λp gs scope=>AC ns sc ts (λq=>Ct sc q λp0 p1 p2=>yL (λq=>ch X.T k ns sc a q) 0 a p0&&ch X.T k ns sc b p1&&yL (λq=>ch X.T k ns sc c q) 1 c p2) (λns sc p ifs=>ch X.T k ns sc elt p&&dM X.T k ns sc cond ifs) p gs scope) hc g
 ST.of (@λk ns sc x hc A env W s l U m U' z hd=>key (P:=λx=>Ac X A env W s x m U') hc λp gs scope pos hc=>(C4 Y he hcond ha hb hc' hc z hd).ev) @λk ns sc x hc env m=>key (P:=λx=>isTrue x env m=(do let v<-m;standAt x.pos;holding [v] (truthy v))) hc λu u u u u=>ae
end
theorem qr:Slot "bytes" "find" "bytes.find":=
 .of (owner:="bytes") (n:="find") (by refine ak (cc ..) (ak bw ?_);kernel_rfl) (by decide+kernel) (by decide+kernel) (by decide+kernel)
   (by first|exact .inl (by decide+kernel)|exact .inr (by decide+kernel)) (by refine ak (j8 ..) ?_;kernel_rfl)
theorem pD:Slot "bytes" "split" "bytes.split":=
 .of (owner:="bytes") (n:="split") (by refine ak (cc ..) (ak bw ?_);kernel_rfl) (by decide+kernel) (by decide+kernel) (by decide+kernel)
   (by first|exact .inl (by decide+kernel)|exact .inr (by decide+kernel)) (by refine ak (j8 ..) ?_;kernel_rfl)
theorem pE:Slot "bytes" "strip" "bytes.strip":=
 .of (owner:="bytes") (n:="strip") (by refine ak (cc ..) (ak bw ?_);kernel_rfl) (by decide+kernel) (by decide+kernel) (by decide+kernel)
   (by first|exact .inl (by decide+kernel)|exact .inr (by decide+kernel)) (by refine ak (j8 ..) ?_;kernel_rfl)
theorem n9:Slot "bytes" "rstrip" "bytes.rstrip":=
 .of (owner:="bytes") (n:="rstrip") (by refine ak (cc ..) (ak bw ?_);kernel_rfl) (by decide+kernel) (by decide+kernel) (by decide+kernel)
   (by first|exact .inl (by decide+kernel)|exact .inr (by decide+kernel)) (by refine ak (j8 ..) ?_;kernel_rfl)
theorem qu:Slot "bytes" "join" "bytes.join":=
 .of (owner:="bytes") (n:="join") (by refine ak (cc ..) (ak bw ?_);kernel_rfl) (by decide+kernel) (by decide+kernel) (by decide+kernel)
   (by first|exact .inl (by decide+kernel)|exact .inr (by decide+kernel)) (by refine ak (j8 ..) ?_;kernel_rfl)
theorem xA:typeOf (.builtin "bytes.find")=pure (.type "method_descriptor"):=by show nM _=_;refine ak gy ?_;kernel_rfl
theorem wv:typeOf (.builtin "bytes.split")=pure (.type "method_descriptor"):=by show nM _=_;refine ak gy ?_;kernel_rfl
theorem ww:typeOf (.builtin "bytes.strip")=pure (.type "method_descriptor"):=by show nM _=_;refine ak gy ?_;kernel_rfl
theorem vc:typeOf (.builtin "bytes.rstrip")=pure (.type "method_descriptor"):=by show nM _=_;refine ak gy ?_;kernel_rfl
theorem xB:typeOf (.builtin "bytes.join")=pure (.type "method_descriptor"):=by show nM _=_;refine ak gy ?_;kernel_rfl
theorem vR:entryFor table "bytes.find"=aa Builtin.«bytes.find» :=gM (by kernel_rfl)
theorem uK:entryFor table "bytes.split"=aa Builtin.«bytes.split» :=gM (by kernel_rfl)
theorem uL:entryFor table "bytes.strip"=aa Builtin.«bytes.strip» :=gM (by kernel_rfl)
theorem tO:entryFor table "bytes.rstrip"=aa Builtin.«bytes.rstrip» :=gM (by kernel_rfl)
theorem vS:entryFor table "bytes.join"=aa Builtin.«bytes.join» :=gM (by kernel_rfl)
theorem uu(a b:Value):argsOk "bytes.find" ⟨[a,b],[]⟩:=by
 unfold argsOk;refine ak (ik (id:="bytes.find") (n:=['d','n','i','f']) (o:=['s','e','t','y','b']) (by kernel_rfl) gH) ?_;kernel_rfl
theorem uw(a b c:Value):argsOk "bytes.find" ⟨[a,b,c],[]⟩:=by
 unfold argsOk;refine ak (ik (id:="bytes.find") (n:=['d','n','i','f']) (o:=['s','e','t','y','b']) (by kernel_rfl) gH) ?_;kernel_rfl
theorem ux(a b c d:Value):argsOk "bytes.find" ⟨[a,b,c,d],[]⟩:=by
 unfold argsOk;refine ak (ik (id:="bytes.find") (n:=['d','n','i','f']) (o:=['s','e','t','y','b']) (by kernel_rfl) gH) ?_;kernel_rfl
theorem tI(a b:Value):argsOk "bytes.split" ⟨[a,b],[]⟩:=by
 unfold argsOk;refine ak (ik (id:="bytes.split") (n:=['t','i','l','p','s']) (o:=['s','e','t','y','b']) (by kernel_rfl) gH) ?_;kernel_rfl
theorem tJ(a b:Value):argsOk "bytes.strip" ⟨[a,b],[]⟩:=by
 unfold argsOk;refine ak (ik (id:="bytes.strip") (n:=['p','i','r','t','s']) (o:=['s','e','t','y','b']) (by kernel_rfl) gH) ?_;kernel_rfl
theorem sn(a b:Value):argsOk "bytes.rstrip" ⟨[a,b],[]⟩:=by
 unfold argsOk;refine ak (ik (id:="bytes.rstrip") (n:=['p','i','r','t','s','r']) (o:=['s','e','t','y','b']) (by kernel_rfl) gH) ?_;kernel_rfl
theorem uy(a b:Value):argsOk "bytes.join" ⟨[a,b],[]⟩:=by
 unfold argsOk;refine ak (ik (id:="bytes.join") (n:=['n','i','o','j']) (o:=['s','e','t','y','b']) (by kernel_rfl) gH) ?_;kernel_rfl
section
variable{b c:Array UInt8}
theorem Hm{i:Int}(h:Q (aa i) s):wpAny M A (pL (aa (.int i u))) Q E s:=by
 refine ai (ig (T:="int") (typeIs_int _ _ _) F.slot_int_index.lookup ?_)
 refine vy (by refine ak (if_neg (by simp)) ?_;exact ai (bH ae (aw h)))
noncomputable def F8(b c:Array UInt8)(st en:Option Int):Int:=
 match(if(eB b.size st en).2-(eB b.size st en).1<c.size then ag else aa ((eB b.size st en).1.toNat,(eB b.size st en).2.toNat)).bind λp=>dw b c p.1 p.2 with
 |some i=>i
 |none=> -1
theorem ER{t u:Tok}{st en:Option Int}(hl:r.length<=2)(h1:∀(M:Model) (A:Around) (E:Value->Shared->Prop) (s:Shared) (Q:Option Int->Shared->Prop),Q st s->wpAny M A (pL r[0]?) Q E s)
  (h2:∀(M:Model) (A:Around) (E:Value->Shared->Prop) (s:Shared) (Q:Option Int->Shared->Prop),Q en s->wpAny M A (pL r[1]?) Q E s):
  Gives («bytes.find» ⟨.bytes b t:: .bytes c u::r,[]⟩) (.int (F8 b c st en)):=by
 refine .of_wp λM A E s Q hq=>?_
 have go:wpAny M A (Bytes.searchArgs .bytes "find" ⟨.bytes b t:: .bytes c u::r,[]⟩) (λp s'=>s'=s/\p=(b,c,if(eB b.size st en).2-(eB b.size st en).1<c.size then ag else aa ((eB b.size st en).1.toNat,(eB b.size st en).2.toNat))) E s:=by
  have e0:selfAndSome "bytes.find" "find" 1 3 ⟨.bytes b t:: .bytes c u::r,[]⟩=pure (.bytes b t,.bytes c u::r):=by
   induction r using am with
   |nil=>rfl
   |cons _ r=>
    induction r using am with
    |nil=>rfl
    |cons _ r=>
     induction r using am with
     |nil=>rfl
     |cons _ r=>exact(qO _ (gX (gX hl))).elim
  refine ai (bH e0 ?_)
  refine ai (h1 _ _ _ _ _ (ai (h2 _ _ _ _ _ ?_)))
  refine ai (bH lf ?_)
  refine ai (aw ?_)
  refine ai (bH (a:=b) ae ?_)
  exact aw ⟨ae,ae⟩
 refine ai (tE go (λp s' hp=>?_) λv v e=>e)
 refine gQ hp λe0_ e1_=>?_
 subst e0_
 subst e1_
 generalize hW:(if(eB b.size st en).2-(eB b.size st en).1<c.size then ag else aa ((eB b.size st en).1.toNat,(eB b.size st en).2.toNat))=W
 have e:F8 b c st en=match W.bind λp=>dw b c p.1 p.2 with|some i=>(i:Int)|none=> -1:=by unfold F8;exact ak hW ae
 rw[e]at hq
 induction W using bg with
 |none=>exact ai (dU (ai (wI (aw ⟨_,ae,hq⟩))))
 |some p=>
  show wpAny M A (match dw b c p.1 p.2 with|some i=>retInt i|none=>_) _ E s'
  have hq:(Made.int (match dw b c p.1 p.2 with|some i=>(i:Int)|none=> -1)).post Q s':=hq
  cases hf:dw b c p.1 p.2 with
  |some i=>rw[hf]at hq;exact ai (wI (aw ⟨_,ae,hq⟩))
  |none=>rw[hf]at hq;exact ai (dU (ai (wI (aw ⟨_,ae,hq⟩))))
noncomputable def fq(left right:Bool)(b c:Array UInt8):List UInt8:=
 if right then((if left then b.toList.dropWhile c.contains else b.toList).reverse.dropWhile c.contains).reverse else(if left then b.toList.dropWhile c.contains else b.toList)
theorem Eg:Gives («bytes.strip» ⟨[.bytes b t,.bytes c u],[]⟩) (if(fq ah ah b c).length==b.size then .val (.bytes b t)else .bytes (fq ah ah b c).toArray):=by
 refine .of_wp λM A E s Q hq=>?_
 show wpAny M A (xn "bytes.strip" (.bytes c u)>>=λr=>_) _ E s
 refine ai (bH wE ?_)
 show wpAny M A (if((fq ah ah b c).length==b.size)=ah then _ else _) _ E s
 split
 ·rename_i h
  rw[if_pos h]at hq
  refine ai (dU (ai ?_))
  refine ai (eD (b6 _ _ _) ?_)
  exact aw (aw ⟨_,ae,hq⟩)
 ·rename_i h
  rw[if_neg h]at hq
  exact ai (om (aw ⟨_,ae,hq.2⟩) hq.1)
theorem Ch:Gives («bytes.rstrip» ⟨[.bytes b t,.bytes c u],[]⟩) (if(fq ac ah b c).length==b.size then .val (.bytes b t)else .bytes (fq ac ah b c).toArray):=by
 refine .of_wp λM A E s Q hq=>?_
 show wpAny M A (xn "bytes.rstrip" (.bytes c u)>>=λr=>_) _ E s
 refine ai (bH wE ?_)
 show wpAny M A (if((fq ac ah b c).length==b.size)=ah then _ else _) _ E s
 split
 ·rename_i h
  rw[if_pos h]at hq
  refine ai (dU (ai ?_))
  refine ai (eD (b6 _ _ _) ?_)
  exact aw (aw ⟨_,ae,hq⟩)
 ·rename_i h
  rw[if_neg h]at hq
  exact ai (om (aw ⟨_,ae,hq.2⟩) hq.1)
end
noncomputable def cP(b:Array UInt8):List Nat:=b.toList.map bp
theorem d9(b:Array UInt8):(cP b).length=b.size:=(au ..).trans bB
theorem qc(b:Array UInt8)(i j:Nat):cP (b.extract i j)=cut (cP b) i j:=by
 unfold cP cut
 exact ak iE (ak fP (ak j0 (ak ob (ak sI ae))))
theorem Kq(h:cP b=cP c):b=c:=iT.mp ((tp λa b h=>lK.mp h).mp h)
theorem I9(L:List Nat)(i n:Nat):cut L i (i+n)=(L.drop i).take n:=by
 unfold cut
 exact ak j0 (ak (bZ ..) ae)
theorem IH(b c:Array UInt8)(i:Nat):(b.extract i (i+c.size)==c)=bA (cP c) ((cP b).drop i):=by
 have e:cP (b.extract i (i+c.size))=((cP b).drop i).take (cP c).length:=by exact ak (qc ..) (ak (I9 ..) (ak (d9 ..) ae))
 refine ak tT (ak (aZ e) ?_);rewrite[cG,beq_iff_eq,decide_eq_true_iff]
 exact⟨congrArg cP,Kq⟩
theorem Dg{β:Type}{f g:β->α->β}(h:∀b a,f b a=g b a):∀(l:List α) (b:β),l.foldl f b=l.foldl g b
 |[],_=>ae
 |a::l,b=>(h b a▸Dg h l (f b a):l.foldl f (f b a)=l.foldl g (g b a))
theorem QZ(b c:Array UInt8):ix b c 0 b.size=Xs (cP c) (cP b):=by
 unfold ix Xs
 refine ak (eQ ..) (ak (d9 ..) (ak (d9 ..) (ak (show(gh (b.size+1-c.size)).map (λx=>x+0)=_ from lm _) ?_)))
 refine congrArg (λp:List Nat×Nat=>p.1.reverse) (Dg (λacc i=>?_) _ _)
 show(if(decide (acc.2<=i)&&b.extract i (i+c.size)==c)=ah then(i::acc.1,i+c.size)else acc)=_
 refine ak (IH ..) (ak (show decide (acc.2<=i)=cr acc.2 i from cG.mpr (by rw[decide_eq_true_iff,tq])) ?_)
 cases cr acc.2 i&&bA (cP c) ((cP b).drop i)<;>rfl
theorem yB(b:Array UInt8)(w:Nat):∀(places:List Nat) (parts:Array (Array UInt8)) (last:Nat),
  ((let(ps,l):=places.foldl (λ(parts,last) p=>(parts.push (b.extract last p),p+w)) (parts,last);(ps.push (b.extract l b.size)).toList):List (Array UInt8)).map cP=parts.toList.map cP++PV (cP b) w last places
 |[],parts,last=>by
  show((parts.push (b.extract last b.size)).toList).map cP=_
  refine ak jV (ak bS (ak bz (ak (qc ..) ?_)))
  unfold cut
  refine ak (ew (bV (d9 b))) ?_
  rfl
 |p::r,parts,last=>by
  refine ak jx (ak (yB b w r (parts.push (b.extract last p)) (p+w)) (ak jV (ak bS (ak (ay ..) (ak bz (ak (qc ..) ?_))))))
  rfl
noncomputable def kX(b c:Array UInt8):List (Array UInt8):=Bytes.between b c.size ((ix b c 0 b.size).take (b.size+1))
theorem rD(b c:Array UInt8):(kX b c).map cP=kW (cP c) (cP b):=by
 unfold kX kW
 refine ak (QZ b c) (ak (d9 ..) (ak (d9 ..) ?_))
 exact yB b c.size _ #[] 0
theorem Fo(b c:Array UInt8)(h:((ix b c 0 b.size).take (b.size+1)).isEmpty=ah):kX b c=[b]:=by
 unfold kX
 refine ak (cI.mp h) ?_
 show[b.extract 0 b.size]=[b]
 exact ak Array.extract_size ae
theorem Fh(I:Nat->β->Shared->Prop)(h0:I 0 b s)
  (step:∀i,i<n->∀b s,I i b s->wpAny M A (f i b) (λr s'=>∃b',r= .yield b'/\I (i+1) b' s') E s) (hQ:∀b s,I n b s->Q b s):wpAny M A (forIn ([0:n]:vB) b f) Q E s:=by
 refine ak (q5 ..) ?_
 have hsz:([0:n]:vB).size=n:=by simp[Cy]
 refine ak hsz ?_
 have key:∀k i (b:β) (s:Shared),i+k=n->I i b s->wpAny M A (forIn (List.range' i k 1) b f) Q E s:=by
  intro k
  induction k with
  |zero=>
   intro i b s hi h
   obtain rfl:i=n:=by omega(config:={})
   exact aw (hQ _ _ h)
  |succ k ih=>
   intro i b s hi h
   refine ak vo (ak (eG ..) ?_)
   refine ai (tE (step i (by lia) b s h) (λr s' hr=>?_) λu u e=>e)
   refine aV hr λb' e1_ h'=>?_
   subst e1_
   exact ih (i+1) b' s' (by lia) h'
 exact key n 0 b s (dn ..) h0
noncomputable def oo(xs:List (Array UInt8×Tok)):List Value:=xs.map λp=>.bytes p.1 p.2
theorem NX{t:Tok}{id:String}{f:Int}(hf:(f==Bytes.fullReadOnly)=ac):pM id (.bytes b t) f=pure (aa (b,ag)):=by
 unfold pM Bytes.takeBuffer?
 refine ak (KBy.special_eq KBy.look_buffer) (ak KBy.own_buffer (ak hf (ak lf ?_)))
 kernel_rfl
theorem Gp:∀{taken:List (Value×Option Value)},(∀x∈taken,x.2=ag)->Q () s->wpAny M A (Bytes.joinLetGo taken keep) Q E s
 |[],_,h=>aw h
 |(x,w)::r,hn,h=>by
  obtain rfl:w=ag:=hn _ (.head _)
  exact ai (wH (Gp (λy hy=>hn y (.tail _ hy)) h))
section
theorem Ih(h:i<ys.length):(oo ys).toArray.getD i .none= .bytes ys[i].1 ys[i].2:=by simp[Array.getD,oo,h]
theorem QV(ys:List (Array UInt8×Tok)):((ys.map λp=>(nL p.1 p.2,(ag:Option Value))).any λx=>x.1.onHeap)=ac:=by
 refine ak List.any_map ?_
 exact nF.mpr λu u=>cY
theorem J2(hl:s.heap.get? l=aa {cls:=.type "list",data:=.seq (oo xs).toArray n})
  (hz:Bytes.tooLong ((xs.map (·.1)).foldl (· + ·.size) (c.size*(xs.length-1)))=ac) (hs:(lW c (xs.map (·.1))).size<=sizeLine) (h1:∀p,xs=[p]->Q (.bytes p.1 p.2) s) (h2:∀t,Q (.bytes (lW c (xs.map (·.1))) t) {s with toks:=s.toks+1}):
  wpAny (model prog w) A (call (.builtin "bytes.join") [.bytes c t,.ref l]) Q E s:=by
 refine dZ qu (b6 _ _ _) vS ?_ (uy _ _)
 refine ai (bH (a:=(nL c t,di l)) ae ?_)
 refine ai (ai (eD ⟨_,hl,ae⟩ (aw (ai (db hl ae ?_)))))
 dsimp-zeta only
 extract_lets+onlyGivenNames p0 t0 jp
 have hj:wpAny (model prog w) A.in1 (jp ()) (λfin s'=>∃v,fin=Fin.done (Flow.ret v)/\Q v s') E s:=by
  refine ai (Fh (I:=λi st s'=>s'=s/\st=(((xs.take i).map (·.1)).toArray,(xs.take i).map λp=>(nL p.1 p.2,ag))) ⟨ae,by simp[p0,t0]⟩ ?_ ?_)
  ·refine λi hi' st s' hst=>gQ hst λe1 e2=>?_
   subst e1
   subst e2
   have hi':i<xs.length:=au (as:=xs) _▸hi'
   refine ai (db hl ae ?_)
   dsimp-zeta only
   extract_lets+onlyGivenNames k
   have hk:k= .bytes xs[i].1 xs[i].2:=Ih hi'
   clear_value k
   extract_lets+onlyGivenNames kp
   have hkp:wpAny (model prog w) A.in1 (kp ()) (λr s'_1=>∃b',r=cR b'/\s'_1=s'/\b'=(((xs.take (i+1)).map (·.1)).toArray,(xs.take (i+1)).map λp=>(nL p.1 p.2,ag))) E s':=by
    refine ai (cb (bH (hk▸NX (by decide)) ?_))
    refine ai (db hl ae (vy ?_))
    refine ak (if_neg (ne_true_of_eq_false (bne_self_eq_false _))) ?_
    refine aw ⟨_,ae,ae,?_⟩
    refine ak List.take_add_one (ak (b8 hi') (ak hk (ak (Option.toList_some ..) (ak bS (ak bS (ak (List.push_toArray ..) ?_))))))
    rfl
   clear_value kp
   refine ak (QV ..) ?_
   exact hkp
  ·refine λst s' hst=>gQ hst λe1 e2=>?_
   subst e1
   subst e2
   refine ai (bH (a:=c) ae ?_)
   refine ak (show(oo xs).toArray.size=xs.length from au _) (ak iV ?_)
   extract_lets+onlyGivenNames fp
   have hfp:wpAny (model prog w) A.in1 (fp ()) (λfin s'=>∃v,fin=Fin.done (Flow.ret v)/\Q v s') E s':=by
    refine ai (om ?_ hs)
    refine ai (cb (wpAny_point (ai (Gp (λx hx=>(aQ.mp hx).elim λp q=>q.2▸ae) (aw ⟨_,ae,h2 _⟩)))))
   clear_value fp
   refine ak (if_neg (by
    rw[List.foldl_toArray,show((xs.map (·.1)).toArray).size=xs.length from au _]
    exact ne_true_of_eq_false hz)) ?_
   exact hfp
 clear_value jp p0 t0
 refine ak (if_pos (by rfl)) ?_
 induction xs using am with
 |nil=>exact hj
 |cons p r=>
  induction r using am with
  |nil=>exact ai (eD (b6 _ _ _) (ai (dU (aw ⟨_,ae,h1 p ae⟩))))
  |cons=>exact hj
end
theorem I8(h:i<j)(hj:j<=L.length):cut L i j=L[i]'(ao ‹_› ‹_›)::cut L (i+1) j:=by
 unfold cut
 refine ak (i4 (by rw[eK];lia)) ?_
 exact ak List.getElem_take ae
theorem F0(h:j<=i):cut L i j=[]:=by
 unfold cut
 exact List.drop_eq_nil_of_le (by refine ak eK ?_;lia)
theorem F9(b:Array UInt8)(x:UInt8):∀(n lo:Nat),lo+n<=b.size->(List.range' lo n).find? (λi=>b.extract i (i+1)== #[x])=dk [x.toNat] (cut (cP b) lo (lo+n)) lo
 |0,lo,h=>by refine ak (F0 (by simp+arith only)) ?_;rfl
 |n+1,lo,h=>by
  have hl:=d9 b
  refine ak vo (ak (ib) (ak (I8 (by simp+arith only) (by lia)) ?_))
  have e1:=IH b #[x] lo
  have e2:bA (cP #[x]) ((cP b).drop lo)=bA [x.toNat] ((cP b)[lo]'(by lia)::cut (cP b) (lo+1) (lo+(n+1))):=by
   refine ak (i4 (by lia)) ?_
   rfl
  rw[e2]at e1
  unfold dk
  have e3:(b.extract lo (lo+1)== #[x])=bA [x.toNat] ((cP b)[lo]'(by lia)::cut (cP b) (lo+1) (lo+(n+1))):=e1
  refine ak e3 ?_
  cases bA [x.toNat] ((cP b)[lo]'(by lia)::cut (cP b) (lo+1) (lo+(n+1)))with
  |true=>rfl
  |false=>
   dsimp only
   exact ak (F9 b x n (lo+1) (by lia)) (ak (show lo+1+n=lo+(n+1) by lia) ae)
theorem Jw(b:Array UInt8)(x:UInt8){lo:Nat}(h:lo<=hi)(hh:hi<=b.size):dw b #[x] lo hi=dk [x.toNat] (cut (cP b) lo hi) lo:=by
 have:=F9 b x (hi-lo) lo (by omega)
 rw[show lo+(hi-lo)=hi by exact jd ‹_›]at this
 refine ak (aZ this) ?_
 unfold dw
 have e:hi+1-(lo+(#[x]:Array UInt8).size)=hi-lo:=by show hi+1-(lo+1)=_;lia
 refine ak e (ak List.range'_eq_map_range ?_)
 have:(λx=>lo+x)=(λx=>x+lo):=by funext y;exact dn ..
 refine ak this ?_
 rfl
noncomputable def pW(n d:Nat):Option Int->Nat
 |none=>d
 |some i=>yN n i
theorem mm(x:Int)(n:Nat):min (n:Int) (max 0 x)=max 0 (min x n):=(Int.min_comm ..).trans ((congrArg (min (max 0 x)) (iU (cw n)).symm).trans (Int.max_min_distrib_left ..).symm)
noncomputable def uP(n:Nat)(i:Int):Int:=if i<0 then max 0 (i+n)else i
theorem JE(n:Nat)(i:Int):0<=uP n i:=by
 unfold uP
 by_cases h:i<0
 ·refine ak (if_pos h) ?_
  exact xh ..
 ·refine ak (if_neg h) ?_
  exact gW.mp h
theorem C0(n:Nat)(i:Int):(yN n i:Int)=min (n:Int) (uP n i):=by
 refine(r9 (xh ..)).trans ?_
 unfold uP
 by_cases h:i<0
 ·exact ak (if_pos h) (ak (if_pos h) (ak (mm ..) ae))
 ·exact ak (if_neg h) (ak (if_neg h) (ak (aZ (mm ..)) (ak (iU (gW.mp h)) ae)))
theorem fw1{L:Int}{lo hi:Nat}(hh:hi<=s)(e:(lo:Int)=min (s:Int) L)(hc:(hi:Int)-L<1):hi<=lo:=
 dG.mp (e▸Int.le_min.mpr ⟨dG.mpr hh,Int.le_of_sub_nonpos ((Int.lt_add_one_iff (b:=0)).mp hc)⟩)
theorem fw2{L:Int}{lo hi:Nat}(hh:hi<=s)(e:(lo:Int)=min (s:Int) L)(hc:¬(hi:Int)-L<1):L=lo/\lo<=hi:=
 have h2:L<=hi:=lT (Int.lt_of_sub_pos (mB (by decide) (gW.mp hc)))
 have h3:(lo:Int)=L:=e.trans (oO (gV h2 (dG.mpr hh)))
 ⟨h3.symm,dG.mp (h3▸h2)⟩
theorem Jx{L:Int}(b:Array UInt8)(x:UInt8){lo:Nat}(h0:0<=L)(hh:hi<=b.size)(e:(lo:Int)=min (b.size:Int) L):
  (match(if(hi:Int)-L<1 then ag else aa (L.toNat,hi)).bind λp=>dw b #[x] p.1 p.2 with|some i=>(i:Int)|none=> -1)=Fa (dk [x.toNat] (cut (cP b) lo hi) lo):=by
 by_cases hc:(hi:Int)-L<1
 ·exact ak (if_pos hc) (ak (F0 (fw1 hh e hc)) ae)
 ·have q:=fw2 hh e hc
  refine ak (if_neg hc) (ak (show L.toNat=lo from congrArg rH q.1) ?_)
  show(match dw b #[x] lo hi with|some i=>(i:Int)|none=> -1)=_
  refine ak (Jw b x (lo:=lo) (hi:=hi) q.2 hh) ?_
  cases dk [x.toNat] (cut (cP b) lo hi) lo<;>rfl
theorem uE(hd:d<=n)(o:Option Int):(pW n d o:Int)=min (n:Int) (uP n (o.getD d)):=by
 induction o using bg with
 |none=>exact(oO (dG.mpr hd)).symm.trans (congrArg (min (n:Int)) (if_neg (gW.mpr (cw d))).symm)
 |some i=>exact C0 n i
theorem Js(b:Array UInt8)(x:UInt8)(st en:Option Int):F8 b #[x] st en=Fa (dk [x.toNat] (cut (cP b) (pW (cP b).length 0 st) (pW (cP b).length (cP b).length en)) (pW (cP b).length 0 st)):=by
 refine ak (d9 ..) ?_
 have e:=uE (bj b.size) en
 show(match(if min (b.size:Int) (uP b.size (en.getD b.size))-uP b.size (st.getD 0)<1 then ag else aa ((uP b.size (st.getD 0)).toNat,(min (b.size:Int) (uP b.size (en.getD b.size))).toNat)).bind λp=>dw b #[x] p.1 p.2 with|some i=>(i:Int)|none=> -1)=_
 refine ak (aZ e) (ak (jY ..) ?_)
 exact Jx b x (JE _ _) (dG.mp (e▸Int.min_le_left ..)) (uE (bD _) st)
theorem uI(c:Array UInt8):∀l:List UInt8,(l.dropWhile c.contains).map bp=yQ (λx=>cv x (cP c)) (l.map bp)
 |[]=>ae
 |x::r=>by
  have e:c.contains x=cv x.toNat (cP c):=by
   have h:∀(l:List UInt8),l.contains x=cv x.toNat (l.map bp):=by
    intro l
    induction l with
    |nil=>rfl
    |cons y t ih=>
     refine ak ti (ak bz ?_);rewrite[cv];refine ak ih ?_
     cases q:bo x.toNat y.toNat with
     |true=>
      have:x=y:=lK.mp (aN q)
      subst this
      exact ak (beq_self_eq_true ..) (ak (Bool.true_or ..) ae)
     |false=>
      have:(x==y)=ac:=by
       rw[beq_eq_false_iff_ne]
       rintro rfl
       rw[ez]at q
       exact tf q
      exact ak this (ak (Bool.false_or ..) ae)
   refine ak (aZ qv) ?_
   exact h c.toList
  refine ak List.dropWhile_cons (ak bz ?_)
  unfold yQ
  refine ak e ?_
  cases cv x.toNat (cP c)with
  |true=>exact uI c r
  |false=>rfl
theorem D3(b c:Array UInt8):(fq ac ah b c).map bp=r6 (cP c) (cP b):=by
 unfold fq r6 cP
 simp only[if_true,gU,if_false]
 refine ak kK (ak (uI ..) (ak kK ?_))
 rfl
theorem Fq(b c:Array UInt8):(fq ah ah b c).map bp=Cn (cP c) (cP b):=by
 unfold fq Cn r6 cP
 simp only[if_true]
 refine ak kK (ak (uI ..) (ak kK (ak (uI ..) ?_)))
 rfl
theorem AT(c:Array UInt8):∀(ps:List (Array UInt8)) (k:Nat) (out:Array UInt8),1<=k->cP ((ps.zipIdx k).foldl (λout (p,i)=>(if i>0 then out++c else out)++p) out)=cP out++((ps.map cP).map (cP c++ ·)).flatten
 |[],k,out,h=>(aG _).symm
 |p::r,k,out,h=>by
  refine ak oQ (ak jx ?_)
  dsimp only
  refine ak (AT c r (k+1) _ (dL h)) (ak (if_pos (show k>0 from h)) ?_)
  unfold cP
  simp
theorem rj(c:Array UInt8):∀ps:List (Array UInt8),cP (lW c ps)=y1 (cP c) (ps.map cP)
 |[]=>ae
 |a::r=>by
  show cP ((r.zipIdx 1).foldl (λout (p,i)=>(if i>0 then out++c else out)++p) ((if 0>0 then#[]++c else#[])++a))=cP a++((r.map cP).map (cP c++ ·)).flatten
  exact ak (AT c r _ _ (bj _)) (ak (if_neg (Nat.lt_irrefl _)) (ak Array.empty_append ae))
theorem Df(s:List Nat):∀r:List (List Nat),((r.map (s++ ·)).flatten).length=s.length*r.length+(r.map dK).sum
 |[]=>ae
 |a::r=>by
  refine ak bz (ak List.flatten_cons (ak aj (ak (Df s r) (ak aj (ak bz (ak List.sum_cons (ak aq (ak (Nat.mul_succ ..) ?_))))))))
  simp+arith only
theorem Do(s:List Nat)(r:List (List Nat)):(y1 s r).length=s.length*(r.length-1)+(r.map dK).sum:=by
 induction r using am with
 |nil=>rfl
 |cons a r=>exact aj.trans ((congrArg (a.length+ ·) (Df s r)).trans (Nat.add_left_comm ..))
theorem wW(c:Nat):∀(l:List Nat) (n:Nat),(dk [c] l n=ag/\ ∀i:Nat,l[i]?≠aa c)\/ ∃i:Nat,dk [c] l n=aa (n+i)/\l[i]?=aa c/\ ∀k,k<i->l[k]?≠aa c
 |[],n=>.inl ⟨ae,by simp⟩
 |x::r,n=>by
  have e:bA [c] (x::r)=bo c x:=by unfold bA;unfold bA;exact ak (sD ..) ae
  unfold dk
  refine ak e ?_
  cases q:bo c x with
  |true=>
   right
   obtain rfl:=aN q
   exact⟨0,ae,ae,λk hk=>absurd hk (xm _)⟩
  |false=>
   have hne:x≠c:=by
    rintro rfl
    rw[ez]at q
    exact tf q
   dsimp only
   rcases wW c r (n+1)with⟨h1,h2⟩|⟨i,h1,h2,h3⟩
   ·left
    refine⟨h1,λi=>?_⟩
    induction i using cX with
    |zero=>simpa using hne
    |succ i=>simpa using h2 i
   ·right
    refine⟨i+1,by refine ak h1 ?_;congr 1;exact bt ..,by simpa using h2,λk hk=>?_⟩
    induction k using cX with
    |zero=>simpa using hne
    |succ k=>simpa using h3 k (by lia)
theorem Bz(x:Str)(c i:Nat):StrLaws.At x ⟨#[c]⟩ x.length i↔x.cps.toList[i]?=aa c:=by
 unfold StrLaws.At Builtin.Str.subAt
 have hl:(Str.mk #[c]).length=1:=ae
 have hx:x.length=x.cps.toList.length:=(bB ..).symm
 refine ak hl ?_;rewrite[beq_iff_eq]
 constructor
 ·rintro ⟨h1,h2⟩
  have:=congrArg Array.toList h2
  rw[iE,fP]at this
  rw[show i+1-i=1 by exact bZ ..]at this
  have h3:=congrArg (λl:List Nat=>l[0]?) this
  simpa using h3
 ·intro h
  have hi:i<x.cps.toList.length:=by
   rcases Nat.lt_or_ge i x.cps.toList.length with q|q
   ·exact q
   ·rw[iu q]at h;exact nn h
  refine⟨by assumption,?_⟩
  apply iT.mp
  refine ak iE (ak fP (ak (show i+1-i=1 by lia) (ak (i4 hi) ?_)))
  rw[b8 hi]at h
  simp at h
  simp[h]
theorem De(x:Str)(c:Nat):Txt.find x ⟨#[c]⟩=(match dk [c] x.cps.toList 0 with|some k=>aD k|none=> -1):=by
 rcases wW c x.cps.toList 0 with⟨h1,h2⟩|⟨i,h1,h2,h3⟩
 ·refine ak h1 ?_
  rcases find_whole x ⟨#[c]⟩with⟨e,_⟩|⟨j,_,e,_⟩
  ·exact e
  ·exact absurd ((Bz x c j).mp e) (h2 j)
 ·refine ak h1 ?_
  rcases find_whole x ⟨#[c]⟩with⟨_,e⟩|⟨j,e,e1,e2⟩
  ·exact absurd ((Bz x c i).mpr h2) (e i)
  ·have:i=j:=by
    rcases um i j with q|q|q
    ·exact absurd ((Bz x c i).mpr h2) (e2 i q)
    ·exact q
    ·exact absurd ((Bz x c j).mp e1) (h3 j q)
   subst this
   refine ak e ?_
   simp
section
variable{s:Shared}{A:Around}{prog:Program}{w:World}
noncomputable def CR(m:Bm)(o:MV):String:=match m with
 | .a=>"list.append"
 | .e=>"list.extend"
 | .g=>"dict.get"
 | .f=>match o with| .S _=>"str.find"|_=>"bytes.find"
 | .j=>match o with| .S _=>"str.join"|_=>"bytes.join"
 | .l=>"str.lower"
 | .u=>"str.upper"
 | .s=>"bytes.split"
 | .t=>"bytes.strip"
 | .r=>"bytes.rstrip"
section
variable{P:Str->String->Prop}{m:Bm}{x:MV}
theorem Sp(h:CQ m (.L l)=ah)(a:P "append" "list.append")(b:P "extend" "list.extend"):P m.name (CR m x):=by
 induction m using Bm.casesOn with
 |a=>exact a
 |e=>exact b
 |_=>exact ft h
theorem Sn{l:List MV}(h:CQ m (.D k l)=ah)(a:P "get" "dict.get"):P m.name (CR m x):=by
 induction m using Bm.casesOn with
 |g=>exact a
 |_=>exact ft h
theorem Sm(h:CQ m (.Y l)=ah)(a:P "find" "bytes.find")(b:P "join" "bytes.join")(c:P "split" "bytes.split")(d:P "strip" "bytes.strip")(e:P "rstrip" "bytes.rstrip"):P m.name (CR m (.Y l)):=by
 induction m using Bm.casesOn with
 |f=>exact a
 |j=>exact b
 |s=>exact c
 |t=>exact d
 |r=>exact e
 |_=>exact ft h
theorem Sq(h:CQ m (.S l)=ah)(a:P "find" "str.find")(b:P "join" "str.join")(c:P "lower" "str.lower")(d:P "upper" "str.upper"):P m.name (CR m (.S l)):=by
 induction m using Bm.casesOn with
 |f=>exact a
 |j=>exact b
 |l=>exact c
 |u=>exact d
 |_=>exact ft h
end
noncomputable def zZ(prog:Program)(w:World)(A:Around)(s:Shared)(Q:Value×List Value->Shared->Prop)(pl:Sem Bool)(u:Value)(name:Str)(id:String):Prop:=Q (.builtin id,[u]) s->wpAny (model prog w) A (getMethod u name pl) Q ci s
theorem B7{t:Tok}{name:Str}{id:String}{pl:Sem Bool}{Q:Value×List Value->Shared->Prop}(slot:Slot "str" name id)(ty:typeOf (.builtin id)=pure (.type "method_descriptor")):zZ prog w A s Q pl (.str x t) name id:=
 nO (tC _ _ _) F.plainAttrs_str slot ty λu e=>nomatch e
theorem rz{t:Tok}{name:Str}{id:String}{pl:Sem Bool}{Q:Value×List Value->Shared->Prop}(slot:Slot "bytes" name id)(ty:typeOf (.builtin id)=pure (.type "method_descriptor")):zZ prog w A s Q pl (.bytes x t) name id:=
 nO (b6 _ _ _) FB.plainAttrs_bytes slot ty λu e=>nomatch e
theorem E8{T:String}{d:Data}{name:Str}{id:String}{pl:Sem Bool}{Q:Value×List Value->Shared->Prop}(hq:s.heap.get? a=aa {cls:=.type T,data:=d})(pa:PlainAttrs T)(slot:Slot T name id)(ty:typeOf (.builtin id)=pure (.type "method_descriptor")):zZ prog w A s Q pl (.ref a) name id:=
 nO ⟨_,hq,ae⟩ pa slot ty λb e=>⟨_,dC e▸hq,ae⟩
theorem So(I:cV V W U s.heap)(r:Rv V W u x)(h:PW U m x=ah):zZ prog w A s Q pl u m.name (CR m x):=By h λc e hb=>by
 induction c using MV.casesOn with
 |L l=>
  refine FE (listAt I r e) λa vs n ev q=>?_
  subst ev
  refine Sp (P:=zZ prog w A s Q pl _) hb ?_ ?_
  ·with_reducible exact E8 q.1 ut slot_list_append type_list_append
  ·with_reducible exact E8 q.1 ut tw F.type_list_extend
 |D k l=>
  refine FE (yO I r e) λa es n ev q=>?_
  subst ev
  refine Sn (P:=zZ prog w A s Q pl _) hb ?_
  with_reducible exact E8 q.1 F.plainAttrs_dict F.slot_dict_get F.type_dict_get
 |Y l=>
  refine eX (Q:=λu x=>zZ prog w A s Q pl u m.name (CR m x)) I r e λb t v v v=>Sm (P:=zZ prog w A s Q pl _) hb ?_ ?_ ?_ ?_ ?_
  ·with_reducible exact rz qr xA
  ·with_reducible exact rz qu xB
  ·with_reducible exact rz pD wv
  ·with_reducible exact rz pE ww
  ·with_reducible exact rz n9 vc
 |S l=>
  refine ml (Q:=λu x=>zZ prog w A s Q pl u m.name (CR m x)) I r e λb t v v v=>Sq (P:=zZ prog w A s Q pl _) hb ?_ ?_ ?_ ?_
  ·with_reducible exact B7 F.slot_str_find F.type_str_find
  ·with_reducible exact B7 F.slot_str_join F.type_str_join
  ·with_reducible exact B7 F.slot_str_lower F.type_str_lower
  ·with_reducible exact B7 F.slot_str_upper F.type_str_upper
 |_=>exact ft hb
theorem b7.Qu(I:cV V W U s.heap)(hi:W.F[i]?=aa (a,d))(h0:s.heap.get? a=aa (hZ vs0 k0))(kp:mC a s.heap h')(ha:h'.get? a=aa (hZ vs k))(r:cN V W vs.toList l)(z:bX l.length=ah):
  b7 V W s .N (U.set i (.L l)) .none {s with heap:=h'}:=
 ⟨W,.none,cQ.setCell (tk:=s.toks) I hi (λb o hb u e=>kp b o hb e) ⟨_,ha⟩ ((I.free _ (aT hi)).2.2.elim λo e=>(jX (d=a)).elim (λq=>⟨_,q▸ha⟩) λq=>⟨o,kp _ _ q e⟩) (gu vs k ⟨ha,r,z⟩) (.not h0 λu u q=>nomatch congrArg o8 q)⟩
theorem Ua{U U':bN}{m:MV}{r:List MV}{P:MV->MV->bN->Prop}(h:HX U x r=aa (m,U'))(g:∀i l,U[i]?=aa (.L l)->bX (l.length+r.length)=ah->P (.R i) .N (U.set i (.L (l++r)))):P x m U':=by
 induction x using MV.casesOn with
 |R i=>
  refine gz h λc e h=>?_
  induction c using MV.casesOn with
  |L l=>exact n6 h (λz h=>CA h (g i l e z)) λu=>nn
  |_=>exact nn h
 |_=>exact nn h
theorem Pj(I:cV V W U s.heap)(ru:Rv V W u x)(rr:cN V W us.toList r)(h:HX U x r=aa (m,U'))
  (g:∀a vs n,u= .ref a->s.heap.get? a=aa (hZ vs n)->vs.size+us.size<=16777216->∀{Q:Value->Shared->Prop},(∀h' k,mC a s.heap h'->h'.get? a=aa (hZ (vs++us) k)->Q .none {s with heap:=h'})->wpAny (model prog w) A t Q ci s):wpAny (model prog w) A t (b7 V W s m U') ci s:=
 Ua (P:=λx m U'=>Rv V W u x->wpAny (model prog w) A t (b7 V W s m U') ci s) h (λi l e z ru=>ru.Cg λa d eu hi=>fI (I.cellAt hi e) λvs n q rv zz=>g a vs n eu q (qq rv▸qq rr▸gb z) λh' k kp hk=>b7.Qu I hi q kp hk (by
  refine ak dI ?_
  exact rv.append rr) (aj▸z)) ru
theorem NF(I:cV V W U s.heap)(ru:Rv V W u x)(rv:Rv V W v y)(h:HX U x [y]=aa (m,U')):wpAny (model prog w) A (call (.builtin "list.append") [u,v]) (b7 V W s m U') ci s:=
 Pj (us:= #[v]) I ru (.cons rv .nil) h λa vs n e q z Q g=>e▸pg ⟨n,q⟩ (λh' hl' sb=>hl'.elim λk hk=>g h' k (ko sb) (hk.trans (by exact ak Array.push_eq_append ae))) (lM▸ao (aU _ _) z)
theorem NI(I:cV V W U s.heap)(ru:Rv V W u x)(rv:Rv V W v (.L r))(h:HX U x r=aa (m,U')):wpAny (model prog w) A (call (.builtin "list.extend") [u,v]) (b7 V W s m U') ci s:=
 rv.DK λb us nb ev hb rr y=>Pj I ru rr h λa vs n e q z Q g=>by
  subst e
  subst ev
  have z:vs.size+us.size<=sizeLine:=lM▸z
  exact pQ tw ⟨_,q,ae⟩ F.entry_list_extend (F.args_list_extend_2 _ _) (AutoSeq1.list_extend_list_list_0 a vs n b us nb (extend_door z) (ao (aU _ _) z) (dL z)) ⟨q,I.fz _ _ hb,g _ _ (ko (jf ..)) (eI (mI λx=>x++us) q ae)⟩
theorem Lg(hP:V.P=w.params)(I:cV V W U s.heap)(ru:Rv V W u x)(rv:Rv V W v y)(rv2:Rv V W v2 y2)(e:cC U x=aa (.D ks vs))(hk:i9 y=ah)(h:qE ks vs y=aa o):
  wpAny (model prog w) A (call (.builtin "dict.get") [u,v,v2]) (b7 V W s (o.getD y2) U) ci s:=
 wy (yO I ru e) λa es n ev hb qb zb lo=>ev▸EL hP hb qb rv hk h λknd key f h1 h2 h3=>call_meetsIn F.slot_dict_get ⟨_,hb,ae⟩ F.entry_dict_get (F.args_dict_get_3 _ _ _) (meets_dict_get_default knd a h1 lo v2) ⟨_,h2,by
  induction o using bg with
  |none=>exact(show f key=ag from h3).symm▸b7.fc I rv2
  |some m=>exact aV h3 λv e r=>e.symm▸b7.fc I r⟩
end
section
variable{X:Cx}{V:Cfg}{W W':Wd}{U U':bN}{s s':Shared}{h:Heap}{A:Around}{prog:Program}{w:World}{n d k:Nat}{a m:MV}{u v:Value}{us vs:List Value}{l:List Nat}{xs ms:List MV}{P:Prop}
noncomputable def FI(o:Option Int)(v:Option Value):Prop:=∀(M:Model) (A:Around) (E:Value->Shared->Prop) (s:Shared) (Q:Option Int->Shared->Prop),Q o s->wpAny M A (pL v) Q E s
theorem EB:FI ag ag:=λu u u u u h=>aw h
theorem BB(r:Rv V W v a)(e:PX n d a=aa k)(g:∀o,pW n d o=k->FI o (aa v)->P):P:=by
 induction a using MV.casesOn with
 |N=>exact g ag (oi e) (r.qn λu u u u u h=>aw h)
 |I i=>exact n6 e (λu e=>g (aa i) (oi e) (r.jI λu u u u u u h=>Hm h)) λu=>nn
 |_=>exact nn e
theorem KF{b:Array UInt8}{c:Nat}(h:b.toList.map bp=[c]):∃x:UInt8,b= #[x]/\x.toNat=c:=by
 induction b using zY with
 |mk l=>
  induction l using am with
  |nil=>exact nomatch h
  |cons x r=>exact⟨x,congrArg (λr=>(⟨x::r⟩:Array UInt8)) (eF.mp (ij h).2),(ij h).1⟩
theorem HA{q:Nat×Nat}(rs:cN V W us xs)(e:Jy n xs=aa q)(g:∀st en,us.length<=2->(∀a b,argsOk "bytes.find" ⟨a::b::us,[]⟩)->pW n 0 st=q.1->pW n n en=q.2->FI st us[0]?->FI en us[1]?->P):P:=by
 induction xs using am with
 |nil=>
  refine rs.Kt λeu=>R5 e λe=>?_
  subst eu
  subst e
  exact g ag ag (by decide) uu ae ae EB EB
 |cons x xs=>
  induction xs using am with
  |nil=>
   revert g
   exact rs.DS λv rv g=>(cj.mp e).elim λk h=>BB rv h.1 λo e1 b=>by
    have e2:=h.2
    subst e2
    exact g o ag (nH 1) (λa b=>uw a b _) e1 ae b EB
  |cons y xs=>
   induction xs using am with
   |nil=>
    revert g
    exact rs.Ij λv u rv ru g=>gz e λk e1 e=>(cj.mp e).elim λk2 h=>BB rv e1 λo e1 b=>BB ru h.1 λo2 e3 b2=>by
     have e2:=h.2
     subst e2
     exact g o o2 (bj 2) (λa b=>ux a b _ _) e1 e3 b b2
   |cons=>exact nn e
@[elab_as_elim]theorem Qm{P:List MV->MV->Prop}(h:Jr l xs=aa m)(g:∀c r q,Jy l.length r=aa q->P (.Y [c]::r) (.I (Fa (dk [c] (cut l q.1 q.2) q.1)))):P xs m:=by
  induction xs using am with
  |nil=>exact nn h
  |cons a r=>
   induction a using MV.casesOn with
   |Y p=>
    induction p using am with
    |nil=>exact nn h
    |cons c p=>
     induction p using am with
     |nil=>exact rY (P:=λm=>P _ m) h λq e=>g c r q e
     |cons=>exact nn h
   |_=>exact nn h
theorem Rh(I:cV V W U s.heap)(ru:Rv V W u (.Y l))(rs:cN V W us xs)(h:Jr l xs=aa m):wpAny (model prog w) A (call (.builtin "bytes.find") (u::us)) (b7 V W s m U) ci s:=
 Qm (P:=λxs m=>cN V W us xs->wpAny (model prog w) A (call (.builtin "bytes.find") (u::us)) (b7 V W s m U) ci s) h (λc r q e rs=>rs.gq λv vs r1 r2=>HA r2 e λst en hl ha e1 e2 b1 b2=>ru.eX λb t eb zb=>r1.eX λb1' t1 ec zc=>aV (KF ec) λx ex Jk=>by
  subst ex
  subst Jk
  subst eb
  refine call_gives qr (b6 _ _ _) vR (ha _ _) (ER (st:=st) (en:=en) hl b1 b2) ?_
  have f:=Js b x st en
  rw[show pW (cP b).length 0 st=q.1 from e1,show pW (cP b).length (cP b).length en=q.2 from e2]at f
  exact f▸b7.fc I (.int _ _)) rs
@[elab_as_elim]theorem Um{f:MV->Option MV}{P:List MV->Prop}(h:one xs f=aa m)(g:∀x,f x=aa m->P [x]):P xs:=by
  induction xs using am with
  |nil=>exact nn h
  |cons x xs=>
   induction xs using am with
   |nil=>exact g x h
   |cons=>exact nn h
theorem uY{f:MV->Option MV}{t:List Value->Sem Value}(rs:cN V W us xs)(h:one xs f=aa m)(g:∀x v,Rv V W v x->f x=aa m->wpAny (model prog w) A (t [v]) (b7 V W s m U) ci s):wpAny (model prog w) A (t us) (b7 V W s m U) ci s:=
 Um (P:=λxs=>cN V W us xs->_) h (λx e rs=>rs.DS (R:=λus=>wpAny (model prog w) A (t us) (b7 V W s m U) ci s) λv r=>g x v r e) rs
theorem Ri(I:cV V W U s.heap)(ru:Rv V W u (.S l))(rs:cN V W us xs)(h:one xs (OL l)=aa m):wpAny (model prog w) A (call (.builtin "str.find") (u::us)) (b7 V W s m U) ci s:=
 uY (t:=λus=>call (.builtin "str.find") (u::us)) rs h λa v rv h=>by
  induction a using MV.casesOn with
  |S p=>
   induction p using am with
   |nil=>exact nn h
   |cons c p=>
    induction p using am with
    |cons=>exact nn h
    |nil=>exact gA h (ru.ml λx t ex z=>rv.ml λy t1 ey z=>by
      have hy:y=⟨#[c]⟩:=congrArg Str.mk (iT.mp ey)
      subst hy
      subst ex
      refine SC.find ?_
      refine ak (De ..) ?_
      exact b7.fc I (.int _ _))
  |_=>exact nn h
theorem Co(left:Bool)(b c:Array UInt8):(fq left ah b c).Sublist b.toList:=
 have key:∀L:List UInt8,((L.reverse.dropWhile c.contains).reverse).Sublist L:=λL=>by
  have h:=(pG c.contains (l:=L.reverse)).reverse
  rwa [List.reverse_reverse]at h
 match left with
 |true=>(key _).trans (pG _)
 |false=>key _
theorem zK{left:Bool}{b c:Array UInt8}{t:Tok}(I:cV V W U s.heap)(e:(fq left ah b c).map bp=l)(zb:bX b.toList.length=ah):
  (if(fq left ah b c).length==b.size then Made.val (.bytes b t)else .bytes (fq left ah b c).toArray).post (b7 V W s (.Y l) U) s:=by
 have sb:=Co left b c
 have hz:(fq left ah b c).length<=16777216:=ao sb.length_le (gb zb)
 have z:bX l.length=ah:=e▸km (ao (bV (au _)) hz)
 by_cases hq:((fq left ah b c).length==b.size)=ah
 ·refine ak (if_pos hq) ?_
  exact b7.fc (tk:=s.toks) I (.bytes (sb.eq_of_length ((eq_of_beq hq).trans bB.symm)▸e) z)
 ·refine ak (if_neg hq) ?_
  exact⟨lM▸hz,b7.fc I (.bytes e z)⟩
theorem CU{f:List Nat->MV}{P:MV->Prop}(h:(match a with| .Y cs=>aa (f cs)|_=>ag)=aa m)(g:∀cs,a= .Y cs->P (f cs)):P m:=by
 induction a using MV.casesOn with
 |Y cs=>exact gA h (g cs ae)
 |_=>exact nn h
theorem Rp(I:cV V W U s.heap)(ru:Rv V W u (.Y l))(rs:cN V W us xs)(h:one xs (λa=>match a with| .Y cs=>aa (.Y (Cn cs l))|_=>ag)=aa m):wpAny (model prog w) A (call (.builtin "bytes.strip") (u::us)) (b7 V W s m U) ci s:=
 uY (t:=λus=>call (.builtin "bytes.strip") (u::us)) rs h λa v rv h=>CU (P:=λm=>wpAny _ _ _ (b7 V W s m U) ci s) h λcs ea=>(ea▸rv:Rv V W v (.Y cs)).eX λc t1 ec zc=>ru.eX λb t eb zb=>
  call_gives pE (b6 _ _ _) uL (tJ _ _) Eg (zK I (eb▸ec▸Fq b c) ((au bp).symm.trans (congrArg _ eb)▸zb))
theorem NK(I:cV V W U s.heap)(ru:Rv V W u (.Y l))(rs:cN V W us xs)(h:one xs (λa=>match a with| .Y cs=>aa (.Y (r6 cs l))|_=>ag)=aa m):wpAny (model prog w) A (call (.builtin "bytes.rstrip") (u::us)) (b7 V W s m U) ci s:=
 uY (t:=λus=>call (.builtin "bytes.rstrip") (u::us)) rs h λa v rv h=>CU (P:=λm=>wpAny _ _ _ (b7 V W s m U) ci s) h λcs ea=>(ea▸rv:Rv V W v (.Y cs)).eX λc t1 ec zc=>ru.eX λb t eb zb=>
  call_gives n9 (b6 _ _ _) tO (sn _ _) Ch (zK I (eb▸ec▸D3 b c) ((au bp).symm.trans (congrArg _ eb)▸zb))
theorem Kj{M:Model}{E:Value->Shared->Prop}:∀{ps:List (Array UInt8)} {s:Shared} {Q:List Value->Shared->Prop},(∀p∈ps,p.size<=sizeLine)->(∀xs tk,(xs.map (·.1))=ps->Q (oo xs) {s with toks:=tk})->wpAny M A (ps.mapM Bytes.Kind.bytes.new) Q E s
 |[],s,Q,_,h=>aw (h [] s.toks ae)
 |p::r,s,Q,hz,h=>by
  refine ak List.mapM_cons ?_
  exact ai (om (ai (Kj (λq hq=>hz q (.tail _ hq)) λxs tk e=>aw (h ((p,s.toks)::xs) tk (congrArg (p:: ·) e)))) (hz _ (.head _)))
theorem Az:∀{xs:List (Array UInt8×Tok)},(∀p∈xs,bX (cP p.1).length=ah)->cN V W (oo xs) (xs.map λp=>.Y (cP p.1))
 |[],_=>.nil
 |p::r,h=>.cons (.bytes ae (h p (.head _))) (Az λq hq=>h q (.tail _ hq))
@[elab_as_elim]theorem NP{P:MV->MV->Prop}(h:Fm l a=aa m)(g:∀c s,bX (kW (c::s) l).length=ah->(kW (c::s) l).all (λp=>bX p.length)=ah->P (.Y (c::s)) (.L ((kW (c::s) l).map .Y))):P a m:=by
  induction a using MV.casesOn with
  |Y p=>
   induction p using am with
   |nil=>exact nn h
   |cons c s=>exact gI (P:=λm=>P _ m) h λz=>g c s (aB z).1 (aB z).2
  |_=>exact nn h
theorem Bf{b c:Array UInt8}{xs:List (Array UInt8×Tok)}{tk:Nat}(I:cV V W U s.heap)(z:bX (kW (cP c) (cP b)).length=ah)(za:(kW (cP c) (cP b)).all (λp=>bX p.length)=ah)(hx:xs.map (·.1)=kX b c):
  b7 V W s (.L ((kW (cP c) (cP b)).map .Y)) U (.ref s.heap.objs.size) {s with heap:=s.heap.push (hZ (oo xs).toArray 0),toks:=tk}:=by
 have e:xs.map (λp=>cP p.1)=kW (cP c) (cP b):=(bx (f:=λp:Array UInt8×Tok=>p.1) (g:=cP)).symm.trans ((congrArg _ hx).trans (rD b c))
 rw[<-e]at z za⊢
 refine ak bx ?_
 exact b7.list I (Az λp hp=>aP.mp za _ (bM hp)) ((au ..).trans (au ..).symm▸z)
theorem KJ{b c:Array UInt8}(za:(kW (cP c) (cP b)).all (λp=>bX p.length)=ah)(p:Array UInt8)(hp:p∈kX b c):p.size<=sizeLine:=lM▸d9 p▸gb (aP.mp za _ (rD b c▸bM hp))
theorem Rn(I:cV V W U s.heap)(ru:Rv V W u (.Y l))(rs:cN V W us xs)(h:one xs (Fm l)=aa m):wpAny (model prog w) A (call (.builtin "bytes.split") (u::us)) (b7 V W s m U) ci s:=
 uY (t:=λus=>call (.builtin "bytes.split") (u::us)) rs h λa v rv h=>NP (P:=λa m=>Rv V W v a->wpAny (model prog w) A (call (.builtin "bytes.split") [u,v]) (b7 V W s m U) ci s) h (λc0 cs z za rv=>rv.eX λc t1 ec zc=>ru.eX λb t eb zb=>by
  have hc0:¬c.isEmpty=ah:=λq=>nomatch ec.symm.trans (congrArg (λa=>(Array.toList a).map bp) (nE.mp q))
  rw[<-show cP c=c0::cs from ec,<-show cP b=l from eb]at z za⊢
  refine dZ pD (b6 _ _ _) uK (ai (bH (a:=[aa (nL c t1),ag]) ae (ai (aw (ai (bH (a:=b) ae (ai (bH wE ?_)))))))) (tI _ _)
  refine ak (if_neg hc0) ?_
  by_cases hp:((ix b c 0 b.size).take (b.size+1)).isEmpty=ah
  ·refine vy (if_pos hp▸ai (dU (ai ?_)))
   exact ai (eD (b6 _ _ _) (aw (ai (ct (aw ⟨_,ae,Bf (xs:=[(b,t)]) (tk:=s.toks) I z za (Fo b c hp).symm⟩)))))
  ·refine vy (if_neg hp▸ai (Kj (KJ za) λxs tk hx=>?_))
   refine ai (ct (aw ⟨_,ae,Bf I z za hx⟩) ?_)
   exact(show(oo xs).toArray.size<=sizeLine from fL ((au _).trans ((au _).symm.trans ((congrArg dK hx).trans ((au cP).symm.trans (congrArg dK (rD b c)))))) z)) rv
theorem wY:∀{ms:List MV} {vs:List Value} {t:List (List Nat)},cN V W vs ms->jU VT ms=aa t->∃xs:List (Array UInt8×Tok),vs=oo xs/\(xs.map (·.1)).map cP=t
 |[],_,_,r,h=>r.Kt λe=>⟨[],e,oi h⟩
 |m::ms,_,_,r,h=>gz h λx ex h=>zj h λy ey e=>r.jP λv us ev a b=>by
  induction m using MV.casesOn with
  |Y l=>exact a.yE λc u ev2 ec w=>(wY b ey).elim λxs q=>⟨(c,u)::xs,ev.trans (ev2▸q.1▸ae),e▸oi ex▸ec▸q.2▸ae⟩
  |_=>exact nn ex
theorem wZ:∀{ms:List MV} {vs:List Value} {t:List (List Nat)},cN V W vs ms->jU VU ms=aa t->∃ys:List Str,StrsAre vs ys/\ys.map (·.cps.toList)=t
 |[],_,_,r,h=>r.Kt λe=>⟨[],e▸.nil,oi h⟩
 |m::ms,_,_,r,h=>gz h λx ex h=>zj h λy ey e=>r.jP λv us ev a b=>by
  induction m using MV.casesOn with
  |S l=>exact a.Ao λc u ev2 ec w=>(wZ b ey).elim λys q=>⟨c::ys,ev▸ev2▸.cons c u q.1,e▸oi ex▸ec▸q.2▸ae⟩
  |_=>exact nn ex
theorem UI(ps:List (Array UInt8))(k:Nat):ps.foldl (λx1 x2=>x1+x2.size) k=k+((ps.map cP).map dK).sum:=by
 induction ps generalizing k with
 |nil=>rfl
 |cons p r ih=>exact(ih _).trans ((b9 ..).trans (d9 p▸ae))
theorem Rk{r:List MV}{a:MV}(I:cV V W U s.heap)(ru:Rv V W u (.Y l))(rv:Rv V W v a)(e:cC U a=aa (.L r))(h:(AS l r).bind R2=aa m):wpAny (model prog w) A (call (.builtin "bytes.join") [u,v]) (b7 V W s m U) ci s:=by
 refine gz h λt h3 h4=>gI h4 λz=>(cj.mp h3).elim λt' h3=>kH I rv e λb vs n q k sz y=>ru.eX λc tc ec y=>aV (wY k h3.1) λxs e1 e2=>?_
 have et:cP (lW c (xs.map (·.1)))=t:=(rj c _).trans (e2▸(show cP c=l from ec)▸h3.2)
 have hv:vs=(oo xs).toArray:=e1▸ae
 rw[hv]at q
 have zz:(lW c (xs.map (·.1))).size<=16777216:=d9 _▸et▸gb z
 refine J2 q ?_ (lM▸zz) (λp hp=>?_) λt=>b7.fc I (.bytes et z)
 ·refine ak (UI ..) (ak (aZ (d9 c)) (ak (show xs.length=((xs.map (·.1)).map cP).length from((au _).trans (au _)).symm) (ak (aZ (Do ..)) (ak (aZ (rj ..)) (ak (d9 ..) ?_)))))
  exact KBy.tooLong_not zz
 ·subst hp
  exact b7.fc (tk:=s.toks) I (.bytes ((((rj c [p.1]).trans (aG _)).symm).trans et) z)
theorem DB(c:Str):∀ys:List Str,(yk c ys).cps.toList=y1 c.cps.toList (ys.map (·.cps.toList))
 |[]=>ae
 |[y]=>(aG _).symm
 |y::z::r=>by
  show((y.cps++c.cps++(yk c (z::r)).cps).toList)=y.cps.toList++(c.cps.toList++z.cps.toList++_)
  refine ak dI (ak dI (ak (DB c (z::r)) (ak (ay ..) (ak (ay ..) ?_))))
  rfl
theorem Rl{r:List MV}{a:MV}(I:cV V W U s.heap)(ru:Rv V W u (.S l))(rv:Rv V W v a)(e:cC U a=aa (.L r))(h:((OR l r).bind λt=>match bX (t.length+l.length)with|true=>Xj t|false=>ag)=aa m):wpAny (model prog w) A (call (.builtin "str.join") [u,v]) (b7 V W s m U) ci s:=by
 refine gz h λt h3 h4=>n6 h4 (λz2 h4=>gI h4 λz=>(cj.mp h3).elim λt' h3=>kH I rv e λb vs n q k sz x=>ru.ml λc tc ec x=>aV (wZ k h3.1) λys e1 e2=>?_) λx=>nn
 have et:(yk c ys).cps.toList=t:=(DB c _).trans (e2▸ec▸h3.2)
 refine PyProof.Rows.join_list (items:=vs) ⟨_,q,ae,n,ae⟩ e1 ?_ λt' k'=>(show Txt.join c ys=yk c ys from StrLaws.glued_eq_join c ys)▸b7.fc I (.str et z)
 have zz:=gb z2
 have hl:ys.map (·.length)=(ys.map (·.cps.toList)).map dK:=(bx ..).symm▸gw λx x=>bB.symm
 rw[<-h3.2,<-e2,Do,<-ec,<-hl,au,show c.cps.toList.length=c.length from bB]at zz
 refine ao ?_ zz
 induction ys using am with
 |nil=>exact(Nat.zero_mul _).symm▸bD _
 |cons y r=>refine ak aq (ak (Nat.add_sub_cancel ..) (ak (Nat.succ_mul ..) (ak (Nat.mul_comm ..) ?_)));simp+arith only
end
section
variable{V:Cfg}{W:Wd}{U U':bN}{s:Shared}{A:Around}{prog:Program}{w:World}{u:Value}{us:List Value}{m:MV}
theorem vF:∀{l:List Nat},pi l=ah->∀c∈l,c<128
 |[],_,_,hc=>nomatch hc
 |_::_,h,_,hc=>(bc.mp hc).elim (λe=>e▸ar (aB h).1) (vF (aB h).2 _)
theorem YY(a b c:Nat):(cr a c&&cr c b)=decide (a<=c/\c<=b):=cG.mpr (by refine ak (dF ..) (ak tq (ak tq ?_));rw[decide_eq_true_iff])
theorem YW [Decidable p]:(if p then a else b)=(match decide p with|true=>a|false=>b):=by
 by_cases h:p
 ·exact ak (if_pos h) (ak (decide_eq_true h) ae)
 ·exact ak (if_neg h) (ak (decide_eq_false h) ae)
theorem M8(c:Nat):lo1 c=EZ c:=YW.trans (by
 unfold EZ
 refine ak (YY ..) ?_
 try rfl)
theorem RD(c:Nat):up1 c=It c:=YW.trans (by
 unfold It
 refine ak (YY ..) ?_
 try rfl)
theorem Ia(h:n<=16777216):sj n=ac:=decide_eq_false (eA.mpr (nP▸h))
theorem Kz{P:List MV->MV->Prop}(h:(match xs with|[]=>f|_=>ag)=aa m)(g:f=aa m->P [] m):P xs m:=by
 induction xs using am with
 |nil=>exact g h
 |cons=>exact nn h
theorem Pi{id:String}{g:Str->Str}{t:Tok}(hg:g x=⟨x.cps.map f⟩)(zx:bX x.cps.toList.length=ah)(I:cV V W U s.heap)
  (H:sj (g x).length=ac->∀{Q:Value->Shared->Prop},Q (.str (g x) s.toks) {s with toks:=s.toks+1}->wpAny (model prog w) A (call (.builtin id) [.str x t]) Q ci s) {F:Nat->Nat} (hF:∀c,f c=F c):wpAny (model prog w) A (call (.builtin id) [.str x t]) (b7 V W s (.S (x.cps.toList.map F)) U) ci s:=
 have e:(g x).cps.toList=x.cps.toList.map F:=hg▸Array.toList_map.trans (gw λc u=>hF c)
 have z:bX (x.cps.toList.map F).length=ah:=(au F).symm▸zx
 H (Ia (ao (bV (bB.symm.trans (congrArg _ e))) (gb z))) (b7.fc I (.str e z))
theorem Rm(I:cV V W U s.heap)(ru:Rv V W u (.S l))(h:(match xs with|[]=>(match pi l with|true=>aa (.S (l.map EZ))|false=>ag)|_=>ag)=aa m)(rs:cN V W us xs):wpAny (model prog w) A (call (.builtin "str.lower") (u::us)) (b7 V W s m U) ci s:=
 Kz (P:=λxs m=>cN V W us xs->wpAny (model prog w) A (call (.builtin "str.lower") (u::us)) (b7 V W s m U) ci s) h (λh rs=>gI h λhA=>rs.mX (ru.ml λx t ex zx=>ex▸Pi (lower_ascii (x:=x) (vF (ex▸hA))) (ex▸zx) I (λa v b=>SC.lower a b) M8)) rs
theorem Rq(I:cV V W U s.heap)(ru:Rv V W u (.S l))(h:(match xs with|[]=>(match pi l with|true=>aa (.S (l.map It))|false=>ag)|_=>ag)=aa m)(rs:cN V W us xs):wpAny (model prog w) A (call (.builtin "str.upper") (u::us)) (b7 V W s m U) ci s:=
 Kz (P:=λxs m=>cN V W us xs->wpAny (model prog w) A (call (.builtin "str.upper") (u::us)) (b7 V W s m U) ci s) h (λh rs=>gI h λhA=>rs.mX (ru.ml λx t ex zx=>ex▸Pi (upper_ascii (x:=x) (vF (ex▸hA))) (ex▸zx) I (λa v b=>SC.upper a b) RD)) rs
noncomputable def ub(prog:Program)(w:World)(A:Around)(V:Cfg)(W:Wd)(s:Shared)(u:Value)(us:List Value)(m:MV)(U':bN)(id:String):Prop:=wpAny (model prog w) A (call (.builtin id) (u::us)) (b7 V W s m U') ci s
theorem wQ(h:(f.map λv=>(v,U))=aa (m,U')){id:String}(g:f=aa m->ub prog w A V W s u us m U id):ub prog w A V W s u us m U' id:=Q3 h g
theorem UC(rs:cN V W us xs)(h:one xs (λv=>(cC U v).bind λc=>match c with| .L r=>J1 o r|_=>ag)=aa m){id:String}(g:∀{v a r},Rv V W v a->cC U a=aa (.L r)->J1 o r=aa m->ub prog w A V W s u [v] m U id):ub prog w A V W s u us m U id:=
 uY (t:=λus=>call (.builtin id) (u::us)) rs h λa v rv h=>gz h λc e h=>by
  induction c using MV.casesOn with
  |L r=>exact g rv e h
  |_=>exact nn h
theorem PZ{m:Bm}{x r:MV}{xs:List MV}(hP:V.P=w.params)(I:cV V W U s.heap)(ru:Rv V W u x)(rs:cN V W us xs)(h:Ae U m x xs=aa (r,U')):ub prog w A V W s u us r U' (CR m x):=by
 induction m using Bm.casesOn with
 |a=>
  revert rs h
  induction xs using am with
  |nil=>exact λk h=>nn h
  |cons y ys=>
   induction ys using am with
   |nil=>exact λrs h=>rs.DS (R:=λus=>ub prog w A V W s u us r U' _) λv rv=>NF I ru rv h
   |cons=>exact λk h=>nn h
 |e=>
  revert rs h
  induction xs using am with
  |nil=>exact λk h=>nn h
  |cons y ys=>
   induction ys using am with
   |nil=>
    induction y using MV.casesOn with
    |L l=>exact λrs h=>rs.DS (R:=λus=>ub prog w A V W s u us r U' _) λv rv=>NI I ru rv h
    |_=>exact λk h=>nn h
   |cons=>exact λk h=>nn h
 |g=>
  refine wQ h λh=>gz h λc e h=>?_
  induction c using MV.casesOn with
  |D ks vs=>
   revert rs h
   induction xs using am with
   |nil=>exact λk h=>nn h
   |cons y ys=>
    induction ys using am with
    |nil=>exact λk h=>nn h
    |cons z zs=>
     induction zs using am with
     |nil=>exact λrs h=>rs.Ij (R:=λus=>ub prog w A V W s u us r U _) λv v2 rv rv2=>n6 h (λq h=>rY (P:=λr=>ub prog w A V W s u _ r U _) h λo ho=>Lg hP I ru rv rv2 e (by
       induction y using MV.casesOn with
       |S=>rfl
       |_=>exact ft q) ho) λk=>nn
     |cons=>exact λk h=>nn h
  |_=>exact nn h
 |f=>
  refine wQ h λh=>?_
  induction x using MV.casesOn with
  |Y l=>exact Rh I ru rs h
  |S l=>exact Ri I ru rs h
  |_=>exact nn h
 |j=>
  refine wQ h λh=>UC rs h λrv e h=>?_
  induction x using MV.casesOn with
  |Y l=>exact Rk I ru rv e h
  |S l=>exact Rl I ru rv e h
  |_=>exact nn h
 |l=>
  refine wQ h λh=>?_
  induction x using MV.casesOn with
  |S l=>exact Rm I ru h rs
  |_=>exact nn h
 |u=>
  refine wQ h λh=>?_
  induction x using MV.casesOn with
  |S l=>exact Rq I ru h rs
  |_=>exact nn h
 |s=>
  refine wQ h λh=>?_
  induction x using MV.casesOn with
  |Y l=>exact Rn I ru rs h
  |_=>exact nn h
 |t=>
  refine wQ h λh=>?_
  induction x using MV.casesOn with
  |Y l=>exact Rp I ru rs h
  |_=>exact nn h
 |r=>
  refine wQ h λh=>?_
  induction x using MV.casesOn with
  |Y l=>exact NK I ru rs h
  |_=>exact nn h
theorem SB.bm{m:Bm}(Y:X.Good)(ho:SE X o)(hs:xo X as):SB X (.k m o as):=ST.of (@λk ns sc x hc A env W s l U r U' z hd=>Gk (x:=x) (f:=λy=>fy y m.name) hc λo0 y q0 ps p0 c1 c2 c3 c4 c5 c6=>nr hd λx1 U1 e1 hd=>n6 hd (λhon hd=>nr hd λms U2 e2 hd=>by
 refine sY c2 c5 c6 (uW c4 env) (q6 (ho c3 z e1) λu s1 W1 r1 t1 pl=>(fN c1).symm▸So t1.I r1 hon ?_)
 exact oW (first:=[u]) (by refine ak (tL ..) ?_;exact uW c4 env) (nX c4 (Bw (hs c4 _ (z.step t1) e2) λvs s2 W2 r2 t2=>aI (PZ Y.P t2.I (r1.up t2) r2 hd) λv s3 a3=>a3.trans (t1.trans t2)))) λw=>nn) @λk ns sc x hc env m'=>Gk (x:=x) (f:=λy=>fy y m.name) hc λw w w w w w w w w w w=>ae
end
theorem zo:fE (.type "list") "keys"=pure ag:=by refine ak (cc ..) (ak bw ?_);kernel_rfl
theorem xu:fE (.type "tuple") "keys"=pure ag:=by refine ak (cc ..) (ak bw ?_);kernel_rfl
theorem qm:entryFor table "dict.update.loop"=aa Builtin.«dict.update.loop» :=gM (by kernel_rfl)
theorem qp:plainId "dict.update.loop"=ah:=by decide+kernel
section
theorem DP(hx:s.heap.get? a=aa (hZ xs k))(hA:A.handled=ag)(h:∀h' tk,(∀b o,s.heap.get? b=aa o->h'.get? b=aa o)->Q ag {s with heap:=h',toks:=tk}):wpAny (model prog w) A (getAttr? (.ref a) "keys") Q ci s:=by
 obtain⟨hp,g,d,tk,os⟩:=s
 have hT:∀tk',(⟨hp,g,d,tk',os⟩:Shared).TypeIs (.ref a) "list":=λu=>⟨_,hx,ae⟩
 have f1:=sub_AttributeError
 have f3:=jq.lookup
 have f4:=jq.bind (.ref a)
 have f5:=am_list_getattr_none
 unfold getAttr? getAttrBy? getAttrBy
 repeat (any_goals(first|assumption|exact hT _|((with_reducible show wpAny _ _ (call (Ab "list.__getattribute__") _ _) _ _ _);refine pQ jq (hT _) am_entry_list_getattribute (F.args_list_getattribute_2 _ _) (meets_getattribute_miss_list a xs k #[] "keys" _ zo (by decide)) ⟨hx,hA,λh' tk' e hx'=>?_⟩)|wp_step))
 refine L0 hx'.there λt' u' he=>?_
 have hTe:∀tk',(⟨h',g,d,tk',os⟩:Shared).TypeIs (.ref e) "AttributeError":=λu=>⟨_,he,ae⟩
 show wpAny _ _ (jF _ _ _ _ _ _ _) _ _ _
 unfold jF
 repeat (any_goals(first|assumption|exact hTe _|wp_step))
 exact h _ _ hx'.keeps
theorem B6(hx:s.heap.get? a=aa (mn xs k))(hA:A.handled=ag)(h:∀h' tk,(∀b o,s.heap.get? b=aa o->h'.get? b=aa o)->Q ag {s with heap:=h',toks:=tk}):wpAny (model prog w) A (getAttr? (.ref a) "keys") Q ci s:=by
 obtain⟨hp,g,d,tk,os⟩:=s
 have hT:∀tk',(⟨hp,g,d,tk',os⟩:Shared).TypeIs (.ref a) "tuple":=λu=>⟨_,hx,ae⟩
 have f1:=sub_AttributeError
 have f3:=i7.lookup
 have f4:=i7.bind (.ref a)
 have f5:=am_tuple_getattr_none
 unfold getAttr? getAttrBy? getAttrBy
 repeat (any_goals(first|assumption|exact hT _|((with_reducible show wpAny _ _ (call (Ab "tuple.__getattribute__") _ _) _ _ _);refine pQ i7 (hT _) am_entry_tuple_getattribute (F.args_tuple_getattribute_2 _ _) (meets_getattribute_miss_tuple a xs k #[] "keys" _ xu (by decide)) ⟨hx,hA,λh' tk' e hx'=>?_⟩)|wp_step))
 refine L0 hx'.there λt' u' he=>?_
 have hTe:∀tk',(⟨h',g,d,tk',os⟩:Shared).TypeIs (.ref e) "AttributeError":=λu=>⟨_,he,ae⟩
 show wpAny _ _ (jF _ _ _ _ _ _ _) _ _ _
 unfold jF
 repeat (any_goals(first|assumption|exact hTe _|wp_step))
 exact h _ _ hx'.keeps
end
section
variable{V:Cfg}{W W':Wd}{U U':bN}{s s':Shared}{h h':Heap}{A:Around}{prog:Program}{w:World}{n:Nat}{src:MV}{d J:Addr}
theorem GD{u:Value}{k v:MV}(I:cV V W U h)(r:Rv V W u (.T [k,v])):∃t n uk uv,u= .ref t/\h.get? t=aa (mn #[uk,uv] n)/\Rv V W uk k/\Rv V W uv v:=r.Aq λt vs n e g rr z=>by
 induction vs using zY with
 |mk l=>
  revert g
  exact rr.Ij (R:=λl=>W.K t=aa (mn ⟨l⟩ n)->∃t n uk uv,u= .ref t/\h.get? t=aa (mn #[uk,uv] n)/\Rv V W uk k/\Rv V W uv v) λa b ra rb g=>Ex t n a b ⟨e,I.fz _ _ g,ra,rb⟩
theorem DU{m:MV}{p:MV×MV}(h:A5 m=aa p):m= .T [p.1,p.2]/\i9 p.1=ah:=by
 induction m using MV.casesOn with
 |T l=>
  induction l using am with
  |nil=>exact nn h
  |cons a l=>
   induction l using am with
   |nil=>exact nn h
   |cons b l=>
    induction l using am with
    |nil=>exact gI (P:=λp:MV×MV=>MV.T [a,b]= .T [p.1,p.2]/\i9 p.1=ah) h λz=>⟨ae,z⟩
    |cons=>exact nn h
 |_=>exact nn h
section
variable{K:Type}[DecidableEq K]{knd:gi prog w K}{KP:DictEntry->MV->Prop}{kf:K->MV}{ok:K->Prop}{isK:MV->Bool}{ks vs ksR vsR:List MV}{acc:List (K×Value)}{R:Result->Shared->Prop}
structure CB(knd:gi prog w K)(kf:K->MV)(ok:K->Prop)(V:Cfg)(W:Wd)(d:Addr)(ks vs:List MV)(h:Heap)(ksR vsR:List MV)(acc:List (K×Value)):Prop where
 m:h.DictOf knd d acc
 ok:∀p∈acc,ok p.1
 k:acc.map (λp=>kf p.1)++ksR=ks
 v:∃us,cN V W (acc.map (·.2)) us/\us++vsR=vs
structure Vy(knd:gi prog w K)(kf:K->MV)(ok:K->Prop)(isK:MV->Bool):Prop where
 val:∀{V W u m},Rv V W u m->isK m=ah->∃κ,knd.is κ u=ah/\m=kf κ/\ok κ
 mv:∀{m},isK m=ah->∃κ,m=kf κ
theorem CB.new{κ:K}{uv:Value}{v:MV}(M:CB knd kf ok V W d ks vs h (kf κ::ksR) (v::vsR) acc)(nd:ks.Nodup)(ho:ok κ)(rv:Rv V W uv v)(hm:h'.DictOf knd d (stored acc κ uv)):CB knd kf ok V W d ks vs h' ksR vsR (acc++[(κ,uv)])where
 m:=zJ (λhm=>aV (aQ.mp hm) λq hq e=>(ui.mp (M.k▸nd)).2.2 _ (bM (f:=λp:K×Value=>kf p.1) hq) _ (.head _) (congrArg kf e))▸hm
 ok:=λp hp=>(bT.mp hp).elim (M.ok p) λhp=>bF.mp hp▸ho
 k:=(congrArg (· ++ksR) bS).trans ((ay ..).trans M.k)
 v:=aV M.v λus r e=>⟨us++[v],bS▸r.append (.cons rv .nil),(ay ..).trans e⟩
theorem CB.fits(M:CB knd kf ok V W d ks vs h ksR vsR acc)(z:bX ks.length=ah):acc.length<=sizeLine:=
 lM▸ao (ao (bV (au _).symm) (ao (aU _ _) (bV (aj.symm.trans (congrArg dK M.k))))) (gb z)
theorem C8(D:Vy knd kf ok isK)(hA:A.handled=ag)(ud:ga W d)(uJ:ga W J)(hdJ:d≠J)(nd:ks.Nodup)(z:bX ks.length=ah):∀{rest:List MV} {ps:List (MV×MV)} {i:Int} {tk:Tok} {s:Shared} {acc:List (K×Value)},jU A5 rest=aa ps->(∀p∈ps,isK p.1=ah)->vm prog w V W U s.heap J src rest->cV V W U s.heap->CB knd kf ok V W d ks vs s.heap (ps.map dq) (ps.map dX) acc->
  (∀h' tk acc,CB knd kf ok V W d ks vs h' [] [] acc->yc d J s.heap h'->R (.ok (.ret .none)) {s with heap:=h',toks:=tk})->codeAny (model prog w) A (.builtin "dict.update.loop" ⟨[.ref d,.ref J,.int i tk,.none],[]⟩) R s
 |[],ps,i,tk,s,acc,hp,hk,it,I,M,hR=>by
  refine dP qm ?_
  refine ak (cJ qp _) ?_
  refine ai (fm (aI (vm.next (A:=A.in1) hA I it) λr s1 h1=>gR h1.1 λh' tk' es k=>?_))
  have hr:r=ag:=h1.2
  subst es
  subst hr
  have hp:=oi hp
  subst hp
  exact ai (aw (aw (hR h' tk' acc ⟨Heap.DictOf.at M.m λo e=>k _ o hdJ e,M.ok,M.k,M.v⟩ λb o y hb e=>k b o hb e)))
 |m::rest,ps,i,tk,s,acc,hp0,hk,it,I,M,hR=>gz hp0 λp hp h=>zj h λps' hps e=>by
  subst e
  refine dP qm ?_
  refine ak (cJ qp _) ?_
  refine ai (fm (aI (vm.next (A:=A.in1) hA I it) λr s1 h1=>gR h1.1 λh2 tk2 es k1=>sB h1.2 λu er ru TM y=>?_))
  subst es
  subst er
  have I1:cV V W U h2:=I.other uJ k1
  refine Cu (GD I1 ((DU hp).1▸ru)) λt nt uk uv eu ht rk rv=>jl (D.val rk (hk _ (.head _))) λκ hκ ek ho=>?_
  subst eu
  have M1:CB knd kf ok V W d ks vs h2 (kf κ::ps'.map dq) (p.2::ps'.map dX) acc:=⟨Heap.DictOf.at M.m λo e=>k1 _ o hdJ e,M.ok,ek▸M.k,M.v⟩
  refine ai (cb (ai (wpAny_tryCatch ?_)))
  refine ai (eD ⟨_,ht,ae⟩ ?_)
  refine ai (ai (tD ht (aw (aw ?_))))
  refine cb (wpAny_dictSet_pairs hκ M1.m (λh3 hm3 sb=>?_) (M1.fits z))
  have k3:=R6 sb
  refine aw ⟨tu _ (by decide+kernel),C8 (s:={s with heap:=h3,toks:=_}) D hA ud uJ hdJ nd z hps (λq hq=>hk q (.tail _ hq)) (TM.but ud hdJ.symm k3) (I1.other ud k3) (M1.new nd ho rv hm3) λh' tk acc M' k4=>hR h' tk acc M' λb o b1 b2 e=>k4 b o b1 b2 (k3 b o b1 (k1 b o b2 e))⟩
theorem F4(E:Kd knd KP kf ok)(D:Vy knd kf ok isK){l:List MV}{ps:List (MV×MV)}{h2:Heap}{tk:Nat}{i:Int}{tk0:Tok}(inj:∀es,j9 V W KP es (ps.map dq) (ps.map dX)->yw V W es (ps.map dq) (ps.map dX)\/Cw V W es (ps.map dq) (ps.map dX))(hA:A.handled=ag)(I:cV V W U s.heap)(k2:iF s.heap h2)(nd:s.heap.get? d=ag)(nJ:s.heap.get? J=ag)(hdJ:d≠J)
  (ho:h2.get? d=aa (dR #[] 0)) (it:vm prog w V W U h2 J src l) (hp:jU A5 l=aa ps) (hall:∀p∈ps,isK p.1=ah) (hd:eJ (ps.map dq)=ah) (z:bX (ps.map dq).length=ah):
  codeAny (model prog w) A (.builtin "dict.update.loop" ⟨[.ref d,.ref J,.int i tk0,.none],[]⟩) (wants (λr s'=>r= .none/\b7 V W s (.D (ps.map dq) (ps.map dX)) U (.ref d) s') ci) {s with heap:=h2,toks:=tk}:=
 have hnd:∀{ks:List MV},(∀k∈ks,isK k=ah)->eJ ks=ah->ks.Nodup:=λ{ks}=>by
  induction ks with
  |nil=>exact λu u=>mE
  |cons k ks ih=>exact λh1 h2=>dO.mpr ⟨ee (D.mv (h1 k (.head _))) λκ e=>e▸E.row κ _ (e▸(aB h2).1),ih (λq hq=>h1 q (.tail _ hq)) (aB h2).2⟩
 have ud:=ga.fresh I nd
 C8 (s:={s with heap:=h2,toks:=tk}) (vs:=ps.map dX) (acc:=[]) D hA ud (ga.fresh I nJ) hdJ (hnd (λk hk=>aV (aQ.mp hk) λp hp e=>e▸hall p hp) hd) z hp hall it (I.kept k2) ⟨rg _ (#[]) 0 ⟨ho,⟨ae,ae,ae⟩,ae,(λe he=>nomatch he),.nil,mE⟩,(λu h=>nomatch h),ae,[],.nil,ae⟩
  λh' tk acc M k3=>⟨ae,aV M.v λus ru eu=>gR (E.E7 M.m M.ok ru) λes n hes re=>we (mu:=ac) (cQ.kept (tk:=tk) I λb o e=>k3 b o (cT e nd) (cT e nJ) (k2 b o e)) ud nd hes (inj _ (((aG _).symm.trans M.k)▸((aG _).symm.trans eu)▸re)) z ae⟩
end
theorem vV{f:MV->Option Bool}:∀{l:List MV},rQ (rh f l)=ah->∀y∈l,∃b,f y=aa b
 |[],_,_,hm=>nomatch hm
 |y::r,h,x,hm=>by
  have h:rQ ((f y).bind λa=>(rh f r).map λb=>a||b)=ah:=h
  cases e:f y with
  |none=>rw[e]at h;exact ft h
  |some b=>
   rw[e]at h
   cases q:rh f r with
   |none=>rw[kL,q]at h;exact ft h
   |some t=>
    rw[kL,q]at h
    exact(bc.mp hm).elim (λz=>⟨b,z▸e⟩) (vV (q▸(bK _).mpr (dt.mp (bK _▸h:(b||t)=ac)).2) x)
noncomputable def BQ:MV->Bool
 | .I i=>gO i
 |_=>ac
theorem Wa:Vy (strKind prog w) kS (λv=>True) isStr where
 val:=@λV W u m r h=>ee (y8 h) λl e=>(e▸r:Rv V W u (.S l)).Ao λx t eu ex v=>⟨x,eu▸kO prog w _ _,e.trans (congrArg MV.S ex.symm),trivial⟩
 mv:=λh=>ee (y8 h) λl e=>⟨⟨l.toArray⟩,e⟩
theorem AP{m:MV}(h:BQ m=ah):∃i,m= .I i/\gO i=ah:=by
 induction m using MV.casesOn with
 |I i=>exact⟨i,ae,h⟩
 |_=>exact ft h
theorem V9:Vy (intKind prog w) kI (λi=>gO i=ah) BQ where
 val:=@λV W u m r h=>aV (AP h) λi e z=>(e▸r:Rv V W u (.I i)).Dw λt eu=>⟨i,eu▸beq_self_eq_true _,e,z⟩
 mv:=λh=>aV (AP h) λi e v=>⟨i,e⟩
theorem MF{l:List Nat}{y:MV}{b:Bool}(e:Wc l y=aa b):isStr y=ah:=by
 induction y using MV.casesOn with
 |S=>rfl
 |_=>exact nn e
theorem MD{i:Int}{y:MV}{b:Bool}(e:Wb i y=aa b)(hk:i9 y=ah):BQ y=ah:=by
 induction y using MV.casesOn with
 |I=>exact hk
 |_=>exact nn e
theorem No{ks:List MV}(hd:eJ ks=ah)(hk:∀k∈ks,i9 k=ah):(∀k∈ks,isStr k=ah)\/ ∀k∈ks,BQ k=ah:=by
 induction ks using am with
 |nil=>exact .inl λu h=>nomatch h
 |cons k ks=>
  have hr:=(aB hd).1
  have h0:=hk k (.head _)
  induction k using MV.casesOn with
  |S l=>exact .inl λy hy=>(bc.mp hy).elim (λe=>e▸ae) λhm=>ee (vV hr y hm) λb e=>MF e
  |I i=>exact .inr λy hy=>(bc.mp hy).elim (λe=>e▸h0) λhm=>ee (vV hr y hm) λb e=>MD e (hk y hy)
  |_=>exact ft h0
theorem uZ:∀{l:List MV} {ps:List (MV×MV)},jU A5 l=aa ps->ps.length=l.length/\ ∀p∈ps,i9 p.1=ah
 |[],_,h=>gA h ⟨ae,λu h=>nomatch h⟩
 |m::l,_,h=>gz h λp hp h=>rY h λr hr=>⟨congrArg (· +1) (uZ hr).1,λq hq=>(bc.mp hq).elim (λe=>e▸(DU hp).2) ((uZ hr).2 q)⟩
noncomputable def SeqAt(h:Heap)(a:Addr)(ws:Array Value)(n:Nat):Prop:=h.get? a=aa (hZ ws n)\/h.get? a=aa (mn ws n)
theorem SeqAt.ty{a:Addr}{ws:Array Value}(q:SeqAt s.heap a ws n):∃T,s.TypeIs (.ref a) T/\(kN T !=kN "dict")=ah:=q.elim (λq=>⟨_,⟨_,q,ae⟩,by decide⟩) λq=>⟨_,⟨_,q,ae⟩,by decide⟩
theorem QW{a:Addr}{ws:Array Value}{Q:Option Value->Shared->Prop}(q:SeqAt s.heap a ws n)(hA:A.handled=ag)(h:∀h' tk,iF s.heap h'->Q ag {s with heap:=h',toks:=tk}):wpAny (model prog w) A (getAttr? (.ref a) "keys") Q ci s:=q.elim (DP · hA h) (B6 · hA h)
theorem Fj{v:Value}{x:MV}{l:List MV}{ps:List (MV×MV)}{a:Addr}{ws:Array Value}(hA:A.handled=ag)(I:cV V W U s.heap)(hP:V.P=w.params)(r:Rv V W v x)(ev:v= .ref a)(q:SeqAt s.heap a ws n)(hit:items U x=aa l)(z:bX l.length=ah)(hp:jU A5 l=aa ps)(hd:eJ (ps.map dq)=ah):
  wpAny (model prog w) A (call (.type "dict") [v]) (b7 V W s (.D (ps.map dq) (ps.map dX)) U) ci s:=by
 subst ev
 have nD:=bJ s.heap
 have kp:=eN (h:=s.heap) (dR #[] 0)
 have hnD:=aL s.heap (o:=dR #[] 0) ae
 have q1:SeqAt (s.heap.push (dR #[] 0)) a ws n:=q.imp (kp _ _) (kp _ _)
 have zk:bX (ps.map dq).length=ah:=(au _).trans (uZ hp).1▸z
 refine qS (Q₁:=λobj s₁=>obj= .ref s.heap.objs.size/\s₁={s with heap:=s.heap.push (dR #[] 0)}) F.kt_called_dict (F.kt_typeCall_dict_1 _) F.entry_dict_init (kt_code_dict_new _ ⟨ae,ae⟩) λobj s₁ e=>gQ e λe1 e2=>?_
 subst e1
 subst e2
 refine⟨⟨_,hnD,ae⟩,F.args_dict_init_2 _ _,ai (ai (wpAny_notOrdered_dict (show sJ _ _ "dict" from⟨_,hnD,ae⟩) (aw ?_)))⟩
 refine aV (SeqAt.ty (s:={s with heap:=s.heap.push (dR #[] 0)}) q1) λT hT hT2=>ai (eD hT ?_)
 refine ak (if_pos hT2) ?_
 refine ai (fm (QW q1 hA λh1 tk1 k1=>?_))
 refine ai (dU (ai (fm (aI (BR (s:={s with heap:=h1,toks:=tk1}) hP (I.kept λb o e=>k1 b o (kp b o e)) r hit) λit s2 st=>sB st λJ ej hs nJ it0=>gR hs λh2 tk2 es k2=>?_))))
 subst ej
 subst es
 refine aw ⟨tu _ (by decide+kernel),hX (?_:codeAny (model prog w) A.in1 (.builtin "dict.update.loop" ⟨[.ref s.heap.objs.size,.ref J,rawInt 0,.none],[]⟩) (wants (λr s'=>r= .none/\b7 V W s (.D (ps.map dq) (ps.map dX)) U (.ref s.heap.objs.size) s') ci) _) λr s3 hr=>by
  rcases r with e|(v|_|_|_)<;>first|exact hr|exact hr.elim⟩
 have k12:iF s.heap h2:=λb o e=>k2 b o (k1 b o (kp b o e))
 have nJ0:s.heap.get? J=ag:=eE (λb o e=>⟨o,k1 b o (kp b o e)⟩) nJ
 have hdJ:s.heap.objs.size≠J:=cT (k1 _ _ hnD) nJ
 exact(No hd λk hk=>aV (aQ.mp hk) λp hm e=>e▸(uZ hp).2 p hm).elim
  (λhall=>F4 (RZ hP) Wa (λu=>.inl) hA I k12 nD nJ0 hdJ (k2 _ _ (k1 _ _ hnD)) it0 hp (λp hm=>hall _ (bM hm)) hd zk)
  λhall=>F4 Y0 V9 (λu=>.inr) hA I k12 nD nJ0 hdJ (k2 _ _ (k1 _ _ hnD)) it0 hp (λp hm=>hall _ (bM hm)) hd zk
end
section
variable{s:Shared}
theorem C2(lo:(d==eM)=ac)(hm:s.heap.DictAt (lg prog w) d kvs ep)(hh:A.handled=ag)(hn:kvs.length<=sizeLine)
  (hQ:∀h' tk vs,(∀b o,s.heap.get? b=aa o->h'.get? b=aa o)->vs.length=kvs.length->(∀(j:Nat) v,vs[j]?=aa v->∃k x,kvs[j]?=aa (k,x)/\(lg prog w).is k v=ah)->Q vs {s with heap:=h',toks:=tk}):
  wpAny (model prog w) A (collect (.ref d)) Q E s:=by
 have hd:=hm.lt_size
 have key:codeAny (model prog w) A (.builtin "proto.collect" ⟨[.ref d],[]⟩) (wants (λv s'=>∃h' tk vs a c,s'={s with heap:=h',toks:=tk}/\v= .ref a/\h'.get? a=aa (hZ vs c)/\(∀b o,s.heap.get? b=aa o->h'.get? b=aa o)/\vs.size=kvs.length/\ ∀(j:Nat) v,vs[j]?=aa v->∃k x,kvs[j]?=aa (k,x)/\(lg prog w).is k v=ah) E) s:=by
  refine dP lZ ?_
  refine ak (cJ l8 _) ?_
  refine ai (ct ?_)
  refine aw ⟨jt gF _,dP oY ?_⟩
  refine ak (cJ gF _) ?_
  have hS:=aL s.heap (o:=hZ #[] 0) ae
  have kp:=eN (h:=s.heap) (hZ #[] 0)
  refine kdl_extend (s:={s with heap:=s.heap.push (hZ #[] 0)}) (kdl_dict lo) hh (hm.at' λo e=>kp _ _ e) s.heap.objs.size (eP hd) (eP hd) _ 0 hS (λh' tk acc c hk hc hi=>?_) hn
  exact HF h' tk acc _ c ⟨ae,ae,hc,λb o e=>hk b o (cT e (bJ _)) (kp b o e),hi.1,hi.2⟩
 refine ai (wpAny_runValue (hX key λr s' hr=>?_))
 rcases r with e|(v|_|_|_)<;>first|exact hr|exact hr.elim|skip
 refine X8 hr λh' tk vs a c e5_ e6_ hc hk h1 h2=>?_
 subst e5_
 subst e6_
 refine ai (tD hc (aw ?_))
 exact hQ h' tk vs.toList hk (by refine ak bB ?_;exact h1) λj v e=>h2 j v (by refine ak (aZ (b5)) ?_;exact e)
theorem DD:∀{kvs:List (Str×Value)} {vs:List Value},vs.length=kvs.length->(∀(j:Nat) v,vs[j]?=aa v->∃k x,kvs[j]?=aa (k,x)/\(lg prog w).is k v=ah)->StrsAre vs (kvs.map (·.1))
 |[],[],_,_=>.nil
 |[],_::_,h,_=>by cases h
 |_::_,[],h,_=>by cases h
 |(k,x)::r,v::vs,hl,hv=>by
  refine gR (hv 0 v ae) λk' x' e hi=>?_
  (refine Un e ?_;clear e;intro p q;subst p;subst q)
  refine ee (lP (show gj _ v=ah from hi)) λt e1_=>?_
  subst e1_
  exact .cons _ _ (DD (by simpa using hl) λj u hu=>by simpa using hv (j+1) u (by simpa using hu))
theorem KL{l m:List α}(hn:m.length<=1)(p:l.Perm m):l=m:=by
 induction m using am with
 |nil=>exact List.perm_nil.mp p
 |cons a r=>
  induction r using am with
  |nil=>exact List.perm_singleton.mp p
  |cons=>simp at hn
theorem Fk(lo:(d==eM)=ac)(hm:s.heap.DictAt (lg prog w) d kvs ep)(hh:A.handled=ag)(hn:kvs.length<=1)
  (hQ:∀h' tk a us n,(∀b o,s.heap.get? b=aa o->h'.get? b=aa o)->s.heap.get? a=ag->h'.get? a=aa (hZ us n)->StrsAre us.toList (kvs.map (·.1))->Q (.ref a) {s with heap:=h',toks:=tk}):
  wpAny (model prog w) A (call (.builtin "sorted") [.ref d]) Q E s:=by
 refine Calls.call_function_entry kind_sorted plain_sorted entry_sorted (args_sorted1 _) ?_
 refine ai (m:=checkCount "sorted" 1 1 _) (aw ?_)
 refine ai (C2 lo hm hh (by refine ak nP ?_;exact ao ‹_› (by decide)) λh1 tk1 vs k1 hl hv=>?_)
 have hS:StrsAre vs (kvs.map (·.1)):=DD hl hv
 refine ai (wpAny_newList ?_)
 have hlo:=aL h1 (o:=seqObj "list" vs.toArray 0) ae
 have kp:=eN (h:=h1) (seqObj "list" vs.toArray 0)
 refine ai (cb ?_)
 refine dZ slot_list_sort (show sJ _ _ "list" from⟨_,hlo,ae⟩) entry_list_sort ?_ (args_list_sort _)
 refine list_sort_treeK strKind_oneLt hlo hS.keysOf (λv₁ v₂ rest e=>?_) (by omega) λst' hp hs=>?_
 ·rw[e]at hl
  simp at hl
  lia
 ·refine jl (sorted_out_str hS hp hs) λss' e1 e2 e3=>?_
  refine⟨_,ae,aw ⟨_,ae,?_⟩⟩
  refine ee (sortedHeap_at (out:=(arrOf st').map (·.2)) hlo) λe he=>?_
  have nD:s.heap.get? h1.objs.size=ag:=eE (λb o e=>⟨o,k1 b o e⟩) (bJ h1)
  refine hQ _ tk1 h1.objs.size _ e (λb o e=>?_) nD he ?_
  ·have h3:=k1 b o e
   refine ak (sortedHeap_old (cT h3 (bJ _)) (by rw[eW];exact nK (eU h3))) ?_
   exact kp _ _ h3
  ·have:ss'=kvs.map (·.1):=KL (by refine ak (au ..) ?_;exact hn) e2
   refine ak (aZ this) ?_
   exact e1
theorem GU:∀{us:List Value} {ss:List Str},StrsAre us ss->(∀y∈ss,bX y.cps.toList.length=ah)->cN V W us (ss.map kS)
 |_,_,.nil,_=>.nil
 |_,_,.cons y t r,h=>.cons (.str ae (h _ (.head _))) (GU r λz hz=>h z (.tail _ hz))
structure PR(ks:List MV):Prop where
 s:ks.all isStr=ah
 d:eJ ks=ah
 l:ks.length<=1
 z:∀x,kS x∈ks->bX x.cps.toList.length=ah
theorem Lq(h:Lp ks=aa m):m= .L ks/\PR ks:=by
 induction ks using am with
 |nil=>exact⟨(oi h).symm,ae,ae,bD _,λu h=>nomatch h⟩
 |cons k r=>
  induction r using am with
  |cons=>exact nn h
  |nil=>
   induction k using MV.casesOn with
   |S l=>exact n6 h (λz h=>⟨(oi h).symm,ae,ae,bj _,λx hx=>(oi (congrArg VU (bF.mp hx)):x.cps.toList=l)▸z⟩) λu=>nn
   |_=>exact nn h
theorem NL(hP:V.P=w.params)(hA:A.handled=ag)(I:cV V W U s.heap)(r:Rv V W v x)(e:cC U x=aa (.D ks vs))(h:Lp ks=aa m):wpAny (model prog w) A (call (.builtin "sorted") [v]) (b7 V W s m U) ci s:=by
 refine gQ (Lq h) λem S=>wy (yO I r e) λa es n ev q rr z lo=>sB ((RZ (prog:=prog) hP).Fx q (rr.elim id (Yv S.s)) S.d) λkvs hd hk rv u=>(Heap.DictOf.dictAt hd).elim λep ha=>?_
 subst em
 subst ev
 subst hk
 have e2:kvs.map (λp=>kS p.1)=(kvs.map (·.1)).map kS:=(bx (f:=λp:Str×Value=>p.1) (g:=kS)).symm
 have hz:=S.z
 rw[e2]at hz z⊢
 exact Fk lo ha hA (ao (bV (au _).symm) S.l) λh' tk b us n k nb hb hs=>b7.listAt I k nb hb (GU hs λy hy=>hz y (bM hy)) z
end
theorem EX:fE (.type "bytes") "__bytes__"=pure (aa (.builtin "bytes.__bytes__")):=by refine ak (cc ..) (ak bw ?_);kernel_rfl
section
theorem EE(hQ:Q (.bytes b t) s):codeAny (model prog w) A (.call (.builtin "bytes.__new__") ⟨[.type "bytes",.bytes b t],[]⟩) (wants Q E) s:=by
 refine codeAny_of_tree ?_
 show wpAny _ A.in1 (do checkBuiltinCall "bytes.__new__" ⟨[.type "bytes",.bytes b t],[]⟩;again (.builtin "bytes.__new__" ⟨[.type "bytes",.bytes b t],[]⟩)) _ _ s
 refine ai (bH (F.bm_newCall _) (aw ⟨jt F.bm_plain _,dP F.bm_entry ?_⟩))
 refine ak (cJ F.bm_plain _) ?_
 unfold Builtin.«bytes.__new__»
 refine ai (bH (a:=ah) ae ?_)
 refine wG ae ?_
 refine ai (bH F.bm_sub ?_)
 refine wG ae ?_
 refine ai (bH (F.bm_bind _) ?_)
 refine ai (bH (a:=()) ae ?_)
 refine ai (bH (a:=()) ae ?_)
 refine wG ae ?_
 refine ai (ig (b6 _ _ _) EX ?_)
 refine ai (dU (ai (eD (b6 _ _ _) ?_)))
 refine bm_if_true ae ?_
 exact aw hQ
theorem xr(hQ:Q (.bytes b t) s):wpAny (model prog w) A (call (.type "bytes") [.bytes b t]) Q E s:=by
 refine qS (Q₁:=λobj s₁=>s₁.TypeIs obj "bytes"/\Q obj s₁) wB (F.bm_typeCall _) pN (EE ⟨b6 _ _ _,hQ⟩) λobj s₁ h₁=>?_
 exact⟨h₁.1,oX obj _,object_init_meets wB.init.lookup wB.made (by decide) prog w A.in1 _ s₁ ⟨h₁.1,ae,h₁.2⟩⟩
theorem Ou{V:Cfg}{W:Wd}{U:bN}{vs:List Value}{xs:List MV}{m:MV}{P:Prop}(r:cN V W vs xs)(h:vH U b xs=aa m)(hb:∀i j,VB b (.I i) (.I j)=ag)(g:∀x v c,vs=[v]->Rv V W v x->cC U x=aa c->V2 b c=aa m->P):P:=by
 induction xs using am with
 |nil=>exact nn h
 |cons x xs=>
  induction xs using am with
  |nil=>exact r.jP λv us e a q=>q.Kt λe2=>gz h λc e3 h=>g x v c (e2▸e) a e3 h
  |cons y xs=>
   induction xs using am with
   |nil=>exact gR (IN h) λi j e1 e2=>nn ((hb i j).symm.trans (e1▸e2▸h))
   |cons=>exact nn h
theorem HI(e:cC U x=aa (.L l)):items U x=aa l:=by
 unfold items
 refine ak e ?_
 rfl
theorem HJ(e:cC U x=aa (.T l)):items U x=aa l:=by
 unfold items
 refine ak e ?_
 rfl
theorem UB(hP:V.P=w.params)(hA:A.handled=ag)(I:cV V W U s.heap)(r:Rv V W v x)(e:cC U x=aa c)(h:SJ c=aa m):wpAny (model prog w) A (call (.type "dict") [v]) (b7 V W s m U) ci s:=by
 have fin:∀{l a ws n},v= .ref a->SeqAt s.heap a ws n->items U x=aa l->bX l.length=ah->Qh l=aa m->wpAny (model prog w) A (call (.type "dict") [v]) (b7 V W s m U) ci s:=λev q hit z h=>gz h λps hp h=>gI (P:=λm=>wpAny (model prog w) A (call (.type "dict") [v]) (b7 V W s m U) ci s) h λhd=>Fj hA I hP r ev q hit z hp hd
 induction c using MV.casesOn with
 |L l=>exact wx (listAt I r e) λa ws n ev q u z=>fin ev (.inl q) (HI e) z h
 |T l=>exact wx (xf I r e) λa ws n ev q u z=>fin ev (.inr q) (HJ e) z.1 h
 |_=>exact nn h
theorem V3(Y:X.Good):R8 X:=@λb vs xs m A W U s k hb R I r h=>by
 by_cases h1:b= .d
 ·subst h1
  refine Ou r h (λu u=>ae) λx v c ev rv e h=>?_
  subst ev
  exact UB Y.P R.handled I rv e h
 ·by_cases h2:b= .r
  ·subst h2
   refine Ou r h (λu u=>ae) λx v c ev rv e h=>?_
   subst ev
   induction c using MV.casesOn with
   |D ks vs=>exact NL Y.P R.handled I rv e h
   |_=>exact nn h
  ·by_cases h3:b= .y/\ ∃l,xs=[.Y l]
   ·refine gQ h3 λeb h3=>ee h3 λl ex=>?_
    subst eb
    subst ex
    exact gA h (r.DS (R:=λvs=>wpAny (model X.prog X.w) A (call Bi.y.val vs) (b7 X.V W s (.Y l) U) ci s) λv rv=>rv.eX λb t e z=>xr (b7.fc (tk:=s.toks) I (.bytes e z)))
   ·exact XN ⟨h1,h2,hb⟩ (λe l q=>h3 ⟨e,l,q⟩) R.handled I r h
end
noncomputable def FK(X:Cx):Prop:=∀as:List ME,(∀e∈as,SB X e)->SB X (.u .z as)
mutual
theorem jT{X:Cx}(Y:X.Good)(Z:jW X)(hz:FK X):∀e:ME,SB X e
 | .c v=>SB.c v
 | .v i=>SB.var i
 | .g g=>SB.glob Y g
 | .b op a b=>SB.bin (jT Y Z hz a).ev (jT Y Z hz b).ev
 | .n a=>SB.neg (jT Y Z hz a).ev
 | .o a=>SB.not (jT Y Z hz a)
 | .a l=>SB.and (mM Y Z hz l).2
 | .r l=>SB.or (mM Y Z hz l).2
 | .m op a b=>SB.cmp Y (jT Y Z hz a).ev (jT Y Z hz b).ev
 | .p o1 o2 a b c=>SB.ma Y (jT Y Z hz a).ev (jT Y Z hz b).ev (jT Y Z hz c).ev
 | .i t a b=>SB.ite (jT Y Z hz t) (jT Y Z hz a) (jT Y Z hz b)
 | .l f kp as=>SB.call Y Z (mM Y Z hz as).1
 | .w c mu as=>SB.new Y Z (mM Y Z hz as).1
 | .h n o as=>SB.fB Y Z (jT Y Z hz o).ev (mM Y Z hz as).1
 | .u b as=>(jX (b= .z)).elim (λh=>h▸hz as (mM Y Z hz as).2) λh=>SB.bi Y (V3 Y) h (mM Y Z hz as).1
 | .k m o as=>SB.bm Y (jT Y Z hz o).ev (mM Y Z hz as).1
 | .s o c=>SB.isin Y (jT Y Z hz o).ev
 | .t o n=>SB.attr Y (jT Y Z hz o).ev
 | .x o i=>SB.idx Y (jT Y Z hz o).ev (jT Y Z hz i).ev
 | .y o a b=>SB.sl (jT Y Z hz o).ev (jT Y Z hz a).ev (jT Y Z hz b).ev
 | .z l=>SB.tup (mM Y Z hz l).1
 | .d mu l=>SB.lst (mM Y Z hz l).1
 | .e mu ks vs=>SB.dD Y λe he=>((mM Y Z hz vs).2 e he).ev
 | .f elt t it cond=>SB.comp Y (jT Y Z hz elt).ev (λe he=>((mM Y Z hz cond).2 e he).te) (jT Y Z hz it).ev
 | .j elt t a b s cond=>SB.jv Y (jT Y Z hz elt).ev (λe he=>((mM Y Z hz cond).2 e he).te) (jT Y Z hz a).ev (jT Y Z hz b).ev (jT Y Z hz s).ev
theorem mM{X:Cx}(Y:X.Good)(Z:jW X)(hz:FK X):∀l:List ME,xo X l/\ ∀e∈l,SB X e
 |[]=>⟨xo.nil,λq h=>nomatch h⟩
 |e::r=>⟨xo.cons (jT Y Z hz e).ev (mM Y Z hz r).1,List.forall_mem_cons.mpr ⟨jT Y Z hz e,(mM Y Z hz r).2⟩⟩
end
noncomputable def zE(ns:List Str)(sc:Kinds):List Str->List Nat->Bool
 |[],is=>is.isEmpty
 |x::r,is=>match is with
  |i::t=>y7 ns i x&&oN (bP sc x)&&zE ns sc r t
  |[]=>ac
noncomputable def TK(x:Expr):Bool:=G3 x λu u u=>ah
noncomputable def TL(x:Expr):Bool:=jb ac x (λu=>ah) (λu=>ah) (λu u u=>ah) (λu u=>ah) (λu u=>ah) (λu u u=>ah) (λu u u=>ah) (λu u u u=>ah) (λu u u=>ah) (λu u=>ah) (λu u u=>ah) (λu=>ah) (λu=>ah) (λu u=>ah) (λu u u=>ah) (λu=>ah) λu=>ah
noncomputable def Ei(tg q:Expr):Bool:= !((LV tg λu=>ah)&&LV q λvs=> !vs.all (foldedForSure 8))
noncomputable def JV(x:Expr):Bool:=jb ac x (λu=>ac) (λu=>ah) (λu u u=>ac) (λu u=>ac) (λu u=>ac) (λu u u=>ac) (λu u u=>ac) (λu u u u=>ac) (λu u u=>ah) (λu u=>ah) (λu u u=>ac) (λu=>ah) (λu=>ac) (λu u=>ac) (λu u u=>ac) (λu=>ac) λu=>ac
noncomputable def CZ(T:Tab)(k:Nat)(ns:List Str)(sc:Kinds)(t:MT)(x:Expr):Bool:=match t with
 | .v i=>nq x λy=>y7 ns i y&&oN (bP sc y)
 | .t o n=>Bo x λp y u=>fW T.ny n y&&ch T k ns sc o p
 | .x o i=>Oc x λp q=>ch T k ns sc o p&&ch T k ns sc i q
 | .z _=>ac
noncomputable def vL(T:Tab)(k:Nat)(ns:List Str)(sc:Kinds):List MT->List Expr->Bool
 |[],xs=>xs.isEmpty
 |t::ts,xs=>match xs with|x::xs=>CZ T k ns sc t x&&vL T k ns sc ts xs|[]=>ac
noncomputable def Sz(T:Tab)(k:Nat)(ns:List Str)(sc:Kinds)(t:MT)(x:Expr):Bool:=match t with
 | .z ts=>LV x λes=>vL T k ns sc ts es
 |t=>CZ T k ns sc t x
noncomputable def s6(x:Stmt)(k1:Option Expr->Bool)(k2:List Expr->Expr->Bool)(k3:Expr->Expr->List Stmt->List Stmt->Bool)(k4:Expr->List Stmt->List Stmt->Bool)(k5:Expr->List Stmt->List Stmt->Bool)(k6:List Stmt->List ExceptHandler->List Stmt->List Stmt->Bool)(k7:Expr->Bool)(k8 k9:Bool):Bool:=match x with
 | .Return v p=>k1 v
 | .Assign ts v p=>k2 ts v
 | .For tg q u v p=>k3 tg q u v
 | .While q u v p=>k4 q u v
 | .If q u v p=>k5 q u v
 | .Try u hs v w p=>k6 u hs v w
 | .Expr q p=>k7 q
 | .Pass p=>k8
 | .Break p=>k9
 |_=>ac
noncomputable def Vj(x:Stmt)(f:Option Expr->Bool):Bool:=s6 x f (λu u=>ac) (λu u u u=>ac) (λu u u=>ac) (λu u u=>ac) (λu u u u=>ac) (λu=>ac) ac ac
noncomputable def Vb(x:Stmt)(f:Expr->Expr->Bool):Bool:=s6 x (λu=>ac) (λts q=>Il ts λtg=>f tg q) (λu u u u=>ac) (λu u u=>ac) (λu u u=>ac) (λu u u u=>ac) (λu=>ac) ac ac
noncomputable def RI(x:Stmt)(f:Expr->Expr->List Stmt->Bool):Bool:=s6 x (λw=>ac) (λw w=>ac) (λtg q u v=>v.isEmpty&&f tg q u) (λw w w=>ac) (λw w w=>ac) (λw w w w=>ac) (λw=>ac) ac ac
noncomputable def Vm(x:Stmt)(f:Expr->List Stmt->Bool):Bool:=s6 x (λw=>ac) (λw w=>ac) (λw w w w=>ac) (λq u v=>v.isEmpty&&f q u) (λw w w=>ac) (λw w w w=>ac) (λw=>ac) ac ac
noncomputable def Ze(x:Stmt)(f:Expr->List Stmt->List Stmt->Bool):Bool:=s6 x (λu=>ac) (λu u=>ac) (λu u u u=>ac) (λu u u=>ac) f (λu u u u=>ac) (λu=>ac) ac ac
noncomputable def Vk(x:Stmt)(f:List Stmt->Bool):Bool:=s6 x (λz=>ac) (λz z=>ac) (λz z z z=>ac) (λz z z=>ac) (λz z z=>ac) (λu hs v w=> !hs.isEmpty&&v.isEmpty&&w.isEmpty&&f u) (λz=>ac) ac ac
noncomputable def Vg(x:Stmt)(f:Expr->Bool):Bool:=s6 x (λu=>ac) (λu u=>ac) (λu u u u=>ac) (λu u u=>ac) (λu u u=>ac) (λu u u u=>ac) f ac ac
noncomputable def PM(x:Stmt):Bool:=s6 x (λu=>ac) (λu u=>ac) (λu u u u=>ac) (λu u u=>ac) (λu u u=>ac) (λu u u u=>ac) (λu=>ac) ah ac
noncomputable def Ve(x:Stmt):Bool:=s6 x (λu=>ac) (λu u=>ac) (λu u u u=>ac) (λu u u=>ac) (λu u u=>ac) (λu u u u=>ac) (λu=>ac) ac ah
section
variable{P:Stmt->Prop}
@[elab_as_elim]theorem qf{x:Stmt}{k8 k9:Bool}(h:s6 x k1 k2 k3 k4 k5 k6 k7 k8 k9=ah)(g1:∀v p,k1 v=ah->P (.Return v p))(g2:∀ts v p,k2 ts v=ah->P (.Assign ts v p))(g3:∀tg q u v p,k3 tg q u v=ah->P (.For tg q u v p))(g4:∀q u v p,k4 q u v=ah->P (.While q u v p))(g5:∀q u v p,k5 q u v=ah->P (.If q u v p))(g6:∀u hs v w p,k6 u hs v w=ah->P (.Try u hs v w p))(g7:∀q p,k7 q=ah->P (.Expr q p))(g8:∀p,k8=ah->P (.Pass p))(g9:∀p,k9=ah->P (.Break p)):P x:=by
  induction x using PySem.Stmt.casesOn with
  |Return v p=>exact g1 v p h
  |Assign ts v p=>exact g2 ts v p h
  |For tg q u v p=>exact g3 tg q u v p h
  |While q u v p=>exact g4 q u v p h
  |If q u v p=>exact g5 q u v p h
  |Try u hs v w p=>exact g6 u hs v w p h
  |Expr q p=>exact g7 q p h
  |Pass p=>exact g8 p h
  |Break p=>exact g9 p h
  |_=>exact ft h
@[elab_as_elim]theorem PN(h:Vj x f=ah)(g:∀v p,f v=ah->P (.Return v p)):P x:=qf h g (λu u u=>ft) (λu u u u u=>ft) (λu u u u=>ft) (λu u u u=>ft) (λu u u u u=>ft) (λu u=>ft) (λu=>ft) λu=>ft
@[elab_as_elim]theorem Vc(h:Vb x f=ah)(g:∀tg q p,f tg q=ah->P (.Assign [tg] q p)):P x:=qf h (λu u=>ft) (λts v p h=>Eo (P:=λts=>P (.Assign ts v p)) h λtg h=>g tg v p h) (λu u u u u=>ft) (λu u u u=>ft) (λu u u u=>ft) (λu u u u u=>ft) (λu u=>ft) (λu=>ft) λu=>ft
@[elab_as_elim]theorem PJ(h:RI x f=ah)(g:∀tg q u p,f tg q u=ah->P (.For tg q u [] p)):P x:=qf h (λw w=>ft) (λw w w=>ft) (λtg q u v p h=>cI.mp (aB h).1▸g tg q u p (aB h).2) (λw w w w=>ft) (λw w w w=>ft) (λw w w w w=>ft) (λw w=>ft) (λw=>ft) λw=>ft
@[elab_as_elim]theorem Vn(h:Vm x f=ah)(g:∀q u p,f q u=ah->P (.While q u [] p)):P x:=qf h (λw w=>ft) (λw w w=>ft) (λw w w w w=>ft) (λq u v p h=>cI.mp (aB h).1▸g q u p (aB h).2) (λw w w w=>ft) (λw w w w w=>ft) (λw w=>ft) (λw=>ft) λw=>ft
@[elab_as_elim]theorem X3(h:Ze x f=ah)(g:∀q u v p,f q u v=ah->P (.If q u v p)):P x:=qf h (λw w=>ft) (λw w w=>ft) (λw w w w w=>ft) (λw w w w=>ft) g (λw w w w w=>ft) (λw w=>ft) (λw=>ft) λw=>ft
@[elab_as_elim]theorem Vl(h:Vk x f=ah)(g:∀u hd hs p,f u=ah->P (.Try u (hd::hs) [] [] p)):P x:=qf h (λz z=>ft) (λz z z=>ft) (λz z z z z=>ft) (λz z z z=>ft) (λz z z z=>ft) (λu hs v w p h=>by
  have h1:=aB h
  have h2:=aB h1.1
  have h3:=aB h2.1
  induction hs using am with
  |nil=>exact ft h3.1
  |cons hd hs=>exact cI.mp h3.2▸cI.mp h2.2▸g u hd hs p h1.2) (λz z=>ft) (λz=>ft) (λz=>ft)
@[elab_as_elim]theorem Vh(h:Vg x f=ah)(g:∀q p,f q=ah->P (.Expr q p)):P x:=qf h (λu u=>ft) (λu u u=>ft) (λu u u u u=>ft) (λu u u u=>ft) (λu u u u=>ft) (λu u u u u=>ft) g (λu=>ft) λu=>ft
@[elab_as_elim]theorem RJ(h:PM x=ah)(g:∀p,P (.Pass p)):P x:=qf h (λu u=>ft) (λu u u=>ft) (λu u u u u=>ft) (λu u u u=>ft) (λu u u u=>ft) (λu u u u u=>ft) (λu u=>ft) (λp u=>g p) λu=>ft
@[elab_as_elim]theorem Vf(h:Ve x=ah)(g:∀p,P (.Break p)):P x:=qf h (λu u=>ft) (λu u u=>ft) (λu u u u u=>ft) (λu u u u=>ft) (λu u u u=>ft) (λu u u u u=>ft) (λu u=>ft) (λu=>ft) λp u=>g p
end
mutual
noncomputable def Mm(T:Tab):Nat->List Str->Kinds->MS->Stmt->Bool
 |k,ns,sc,.r e,x=>Vj x λo=>Hq (λq=>ch T k ns sc e q) e o
 |k,ns,sc,.a t e,x=>Vb x λtg q=>ch T k ns sc e q&&Sz T k ns sc t tg&&Ei tg q&&TL q&&JV tg
 |k,ns,sc,.e e,x=>Vg x λq=>ch T k ns sc e q&&TL q&& !TK q
 |k,ns,sc,.i t a b,x=>Ze x λq u v=>ch T k ns sc t q&&nU T k ns sc a u&&nU T k ns sc b v
 |k,ns,sc,.w t b,x=>Vm x λq u=>ch T k ns sc t q&&nU T k ns sc b u
 |k,ns,sc,.f ts it b,x=>RI x λtg q u=>((np tg).any λxs=>zE ns sc xs ts)&&mY q&&ch T k ns sc it q&&nU T k ns sc b u
 |k,ns,sc,.g ts a b s body,x=>RI x λtg q u=>((np tg).any λxs=>zE ns sc xs ts)&&mY q&&(Ct sc q λp0 p1 p2=>yL (λq=>ch T k ns sc a q) 0 a p0&&ch T k ns sc b p1&&yL (λq=>ch T k ns sc s q) 1 s p2)&&nU T k ns sc body u
 |_,_,_,.b,x=>Ve x
 |k,ns,sc,.t b,x=>Vk x λu=>nU T k ns sc b u
 |_,_,_,.p,x=>PM x
 |_,_,_,.d,_=>ah
noncomputable def nU(T:Tab):Nat->List Str->Kinds->List MS->List Stmt->Bool
 |_,_,_,[],xs=>xs.isEmpty
 |k,ns,sc,e::r,xs=>match xs with|x::t=>Mm T k ns sc e x&&nU T k ns sc r t|[]=>ac
end
section
variable{X:Cx}{V:Cfg}{W W':Wd}{U:bN}{s s':Shared}{A:Around}{prog:Program}{w:World}{ns:List Str}{sc:Kinds}{env:Env}{l:Loc}{k:Nat}
noncomputable def Sa(V:Cfg)(W:Wd):Fl->Flow->Prop
 | .n,f=>f= .next
 | .b,f=>f= .brk
 | .r v,f=>∃u,f= .ret u/\Rv V W u v
noncomputable def r8(X:Cx)(W:Wd)(ns:List Str)(sc:Kinds)(env:Env)(s:Shared)(f:Fl)(l:Loc)(U:bN)(fl:Flow)(s':Shared):Prop:=
 ∃W',lQ X W ns sc env (oI env) s l U W' s'/\Sa X.V W' f fl
theorem r8.trans(t:kB X.V W (oI env) s W' U1 s')(a:r8 X W' ns sc env s' f l U fl s''):r8 X W ns sc env s f l U fl s'':=aV a λW'' b c=>⟨W'',b.trans t,c⟩
theorem lQ.at(b:lQ X W ns sc env O s l U W' s')(R:vA A X.d k):At X k ns sc A env W' s' l U:=⟨R,b.F,b.t.I⟩
theorem At.toF(z:At X k ns sc A env W s l U)(t:cQ X.V W s W' U' s'):lQ X W ns sc env O s l U' W' s':=t.Sg z.F
theorem At.here(z:At X k ns sc A env W s l U):lQ X W ns sc env O s l U W s:=z.toF (.refl z.I)
noncomputable def Bu(X:Cx)(A:Around)(env:Env)(W:Wd)(ns:List Str)(sc:Kinds)(s:Shared)(x:Stmt)(q:Fl×Loc×bN):Prop:=wpAny (model X.prog X.w) A (PySem.exec x env) (r8 X W ns sc env s q.1 q.2.1 q.2.2) ci s
noncomputable def qZ(X:Cx)(m:MS):Prop:=∀{k ns sc x},Mm X.T k ns sc m x=ah->∀{A env W s l U q},At X k ns sc A env W s l U->Jk X.C X.M X.G m l U=aa q->Bu X A env W ns sc s x q
noncomputable def IC(X:Cx)(A:Around)(env:Env)(W:Wd)(ns:List Str)(sc:Kinds)(s:Shared)(xs:List Stmt)(q:Fl×Loc×bN):Prop:=wpAny (model X.prog X.w) A (jN xs env) (r8 X W ns sc env s q.1 q.2.1 q.2.2) ci s
noncomputable def Ez(X:Cx)(ms:List MS):Prop:=∀{k ns sc xs},nU X.T k ns sc ms xs=ah->∀{A env W s l U q},At X k ns sc A env W s l U->cp X.C X.M X.G ms l U=aa q->IC X A env W ns sc s xs q
theorem Ba:∀{xs:List Str} {is:List Nat},zE ns sc xs is=ah->sQ ns sc env (oI env) xs is
 |[],_,h=>cI.mp h
 |x::r,is,h=>by
  induction is using am with
  |nil=>exact ft h
  |cons i t=>exact gu i t ⟨ae,vY (aB (aB h).1).1,⟨(aB (aB h).1).2,DT⟩,Ba (aB h).2⟩
theorem QD(a b:Int):(kI a).eqv (kI b)=aa (decide (a=b)):=ae
theorem Xw{l:List Nat}(h:Ir ks vs (.S l) v=aa p)(r:Cw V W es ks vs):yw V W es ks vs:=by
 induction vs using am with
 |nil=>exact r
 |cons v vs=>
  revert h
  refine j9.gq (R:=λes ks=>Ir ks _ _ _=aa p->yw V W es ks _) r λe r k s a u u h=>fI a λi t e1 u u=>?_
  subst e1
  exact nn h
theorem Xx{i:Int}(h:Ir ks vs (.I i) v=aa p)(r:yw V W es ks vs):Cw V W es ks vs:=by
 induction vs using am with
 |nil=>exact r
 |cons v vs=>
  revert h
  refine j9.gq (R:=λes ks=>Ir ks _ _ _=aa p->Cw V W es ks _) r λe r k s a u u h=>fI a λx t e1 u u=>?_
  subst e1
  exact nn h
theorem GQ{K:Type}[DecidableEq K]{knd:gi prog w K}{kf:K->MV}{ok:K->Prop}(D:Kd knd KP kf ok)(inj:∀{es ks vs},j9 V W KP es ks vs->yw V W es ks vs\/Cw V W es ks vs)(eqv:∀a b,(kf a).eqv (kf b)=aa (decide (a=b))){x:K}(ox:ok x)
  {a d:Addr} {es:Array DictEntry} {n:Nat} {ks vs:List MV} {uk uv:Value} {v:MV} {p:List MV×List MV} (hkey:knd.is x uk=ah) (I:cV V W U s.heap) (hi:W.F[i]?=aa (a,d)) (ho:s.heap.get? a=aa (dR es n)) (rr:j9 V W KP es.toList ks vs) (rv:Rv V W uv v)
  (hz:bX (ks.length+1)=ah) (hd:eJ ks=ah) (hp:Ir ks vs (kf x) v=aa p) (hg:(fJ 1 ks.length||fJ ks.length p.1.length)=ah):
  wpAny (model prog w) A (setItem (.ref a) uk uv) (λu s'=>cQ V W s W (U.set i (.D p.1 p.2)) s') ci s:=by
 have sz:=rr.len
 refine sB (D.Fx ho rr hd) λkvs hm ek rvs okv=>?_
 subst ek
 refine wpAny_setItem_pairs hkey hm (λh' hm' sb=>?_) (fL (m:=(kvs.map λp=>kf p.1).length) (au _).symm (km (nG (gb hz))))
 have g:=K5 eqv rv rvs hp
 rw[Bg (D.nodup (by refine ak bx ?_;exact hd))]at hm'
 have kb:=R6 sb
 have z1:bX p.1.length=ah:=g.1▸(au _).symm▸km (ao Ea (ao (dH (bV (au _).symm)) (gb hz)))
 refine gR (D.E7 hm' (GT ox okv) g.2) λes' n' ho' rr'=>cQ.setCell (tk:=s.toks+1) I hi (λb o hb u e=>kb b o hb e) ⟨_,ho'⟩ ((I.free _ (aT hi)).2.2.elim λo e=>(jX (d=a)).elim (λq=>⟨_,q▸ho'⟩) λq=>⟨o,kb _ _ q e⟩) (gu es' n' ⟨ho',inj (g.1▸rr'),z1⟩) λes0 n0 h0=>.inr (gu es' n' ⟨ho',?_⟩)
 have e0:=congrArg o8 (oi (ho.symm.trans h0))
 refine gQ (Aa e0) λe0_ e1_=>?_
 subst e0_
 subst e1_
 have s2:=rr'.len
 rw[bB]at sz s2
 refine ak sz (ak s2 (ak (aZ g.1) ?_))
 exact(Bool.or_eq_true_iff.mp hg).elim (λq=>.inr (bW (ar q) (by refine ak g.1 (ak (au ..) (ak (au ..) ?_));exact GS))) λq=>.inl (ar q)
theorem Rr{vs:List MV}{uk uv:Value}{k v:MV}{p:List MV×List MV}(hP:V.P=w.params)(I:cV V W U s.heap)(hi:W.F[i]?=aa (a,d))(e:U[i]?=aa (.D ks vs))(rk:Rv V W uk k)(rv:Rv V W uv v)
  (hk:i9 k=ah) (hz:bX (ks.length+1)=ah) (hd:eJ ks=ah) (hp:Ir ks vs k v=aa p) (hg:(fJ 1 ks.length||fJ ks.length p.1.length)=ah):
  wpAny (model prog w) A (setItem (.ref a) uk uv) (λu s'=>cQ V W s W (U.set i (.D p.1 p.2)) s') ci s:=
 fI (I.cellAt hi e) λes n ho rr u=>by
  induction k using MV.casesOn with
  |S l=>exact rk.Ao λx t eu ex u=>GQ (RZ (prog:=prog) hP) .inl QF (x:=x) trivial (eu▸kO prog w _ _) I hi ho (rr.elim id (Xw hp)) rv hz hd ((congrArg (λz=>Ir ks vs (.S z) v) ex).trans hp) hg
  |I j=>exact rk.Dw λt eu=>GQ (Y0 (prog:=prog)) .inr QD (x:=j) hk (eu▸beq_self_eq_true _) I hi ho (rr.elim (Xx hp) id) rv hz hd hp hg
  |_=>exact ft hk
end
section
variable{X:Cx}{W W':Wd}{U:bN}{s s':Shared}{A:Around}{ns:List Str}{sc:Kinds}{env:Env}{l:Loc}{u:Value}{tg:Expr}
noncomputable def G7(X:Cx)(W:Wd)(ns:List Str)(sc:Kinds)(env:Env)(s:Shared)(l:Loc)(U:bN)(s':Shared):Prop:=∃W',lQ X W ns sc env (oI env) s l U W' s'
noncomputable def Hc(X:Cx)(A:Around)(env:Env)(W:Wd)(ns:List Str)(sc:Kinds)(s:Shared)(tg:Expr)(u:Value)(l:Loc)(U:bN):Prop:=wpAny (model X.prog X.w) A (assign tg env u) (λv s'=>G7 X W ns sc env s l U s') ci s
theorem G7.trans(t:kB X.V W (oI env) s W' U1 s')(a:G7 X W' ns sc env s' l U s''):G7 X W ns sc env s l U s'':=a.imp λu b=>b.trans t
@[elab_as_elim]theorem Nr{x:MV}{P:MV->bN->Prop}(h:K4 U x k v=aa U')(g:∀i ks vs p,U[i]?=aa (.D ks vs)->i9 k=ah->bX (ks.length+1)=ah->eJ ks=ah->Ir ks vs k v=aa p->(fJ 1 ks.length||fJ ks.length p.1.length)=ah->P (.R i) (U.set i (.D p.1 p.2))):P x U':=by
  induction x using MV.casesOn with
  |R i=>
   refine gz h λc e h=>?_
   induction c using MV.casesOn with
   |D ks vs=>exact n6 h (λq h=>gz h λp hp h=>gI (P:=λU'=>P (.R i) U') h λhg=>g i ks vs p e (aB (aB q).1).1 (aB (aB q).1).2 (aB q).2 hp hg) λu=>nn
   |_=>exact nn h
  |_=>exact nn h
theorem VR(Y:X.Good)(HE:∀e,SB X e)(hc:CZ X.T k ns sc t tg=ah)(z:At X k ns sc A env W s l U)(r:Rv X.V W u v)(hd:Ed X.C X.M X.G t v l U=aa (l',U')):Hc X A env W ns sc s tg u l' U':=by
 induction t using MT.casesOn with
 |v i=>exact lO hc λy p c=>CA hd (aI (tK (vY (aB c).1) ⟨(aB c).2,DT⟩ z.F z.I r) λw s1 a1=>⟨W,a1⟩)
 |t o n=>
  refine zQ hc λo' y p c=>nr hd λx U1 e1 hd=>rY (P:=λq:Loc×bN=>Hc X A env W ns sc s _ u q.1 q.2) hd λU2 e2=>?_
  unfold Hc
  refine ak (arm_assign_Attribute ..) ?_
  exact ai (cb (q6 ((HE o).ev (aB c).2 z e1) λov s1 W1 r1 t1=>ai (ip (ai (cb (aI (Lk Y t1.I r1 (r.up t1) (aB c).1 e2) λw s2 t2=>wpAny_release ⟨W1,z.toF (t1.trans t2)⟩))))))
 |x o i=>
  refine Ep hc λo' i' p c=>nr hd λx U1 e1 hd=>nr hd λy U2 e2 hd=>rY (P:=λq:Loc×bN=>Hc X A env W ns sc s _ u q.1 q.2) hd λU3 e3=>?_
  unfold Hc
  refine ak (arm_assign_Subscript ..) ?_
  refine ai (cb (q6 ((HE o).ev (aB c).1 z e1) λov s1 W1 r1 t1=>ai (cb (q6 ((HE i).ev (aB c).2 (z.step t1) e2) λiv s2 W2 r2 t2=>ai (ip (ai (cb ?_)))))))
  exact Nr (P:=λx U'=>Rv X.V W2 ov x->wpAny _ _ (setItem ov iv u) (λw s3=>wpAny _ _ _ (λw s'=>G7 X W ns sc env s l U' s') ci s3) ci s2) e3 (λj ks vs p e q1 q2 q3 hp hg ro=>ro.NA λa d hi=>aI (Rr Y.P t2.I hi e r2 ((r.up t1).up t2) q1 q2 q3 hp hg) λw s3 t3=>wpAny_release ⟨W2,z.toF (t1.trans (t2.trans t3))⟩) (r1.up t2)
 |z ts=>exact ft hc
theorem OF(hc:CZ X.T k ns sc t tg=ah)(es:List Expr):dJ (tg::es) env=(ac,assign tg env)::dJ es env:=by
 induction t using MT.casesOn with
 |v i=>exact lO hc λu u u=>ae
 |t o n=>exact zQ hc λu u u u=>ae
 |x o i=>exact Ep hc λu u u u=>ae
 |z ts=>exact ft hc
theorem wS{ts:List MT}{P:List Expr->Prop}(h:vL X.T k ns sc (t::ts) es=ah)(g:∀x xs,CZ X.T k ns sc t x=ah->vL X.T k ns sc ts xs=ah->P (x::xs)):P es:=by
 induction es using am with
 |nil=>exact ft h
 |cons x xs=>exact g x xs (aB h).1 (aB h).2
theorem Ji:∀{ts:List MT} {es:List Expr},vL X.T k ns sc ts es=ah->(dJ es env).length=ts.length/\(dJ es env).findIdx? (·.1)=ag
 |[],_,h=>(cI.mp h).symm▸⟨ae,ae⟩
 |t::ts,_,h=>wS (P:=λes=>(dJ es env).length=(t::ts).length/\(dJ es env).findIdx? (·.1)=ag) h λx xs h1 h2=>by
  rewrite[OF h1];refine ak aq (ak (tj) (ak ((Ji h2).2) ?_))
  exact⟨congrArg (· +1) (Ji h2).1,ae⟩
theorem Bh:∀{ts:List MT} {vs:List MV} {l:Loc} {U:bN} {r:Loc×bN},Cm C M G ts vs l U=aa r->ts.length=vs.length
 |[],vs,_,_,_,h=>by
  induction vs using am with
  |nil=>rfl
  |cons=>exact nn h
 |t::ts,vs,_,_,_,h=>by
  induction vs using am with
  |nil=>exact nn h
  |cons v vs=>exact gz h λp u h=>congrArg (· +1) (Bh h)
theorem UE(Y:X.Good)(HE:∀e,SB X e):∀{ts:List MT} {es:List Expr} {us:List Value} {vs:List MV} {l:Loc} {U:bN} {W:Wd} {s:Shared},vL X.T k ns sc ts es=ah->At X k ns sc A env W s l U->cN X.V W us vs->Cm X.C X.M X.G ts vs l U=aa (l',U')->
  wpAny (model X.prog X.w) A (jr ((dJ es env).map (·.2)) us) (λy s'=>G7 X W ns sc env s l' U' s') ci s
 |[],_,_,vs,l,U,W,s,hc,z,r,hd=>by
  refine ak (cI.mp hc) ?_
  induction vs using am with
  |nil=>exact r.mX (R:=λus=>wpAny _ _ (jr _ us) _ _ _) (CA hd (aw ⟨W,z.here⟩))
  |cons=>exact nn hd
 |t::ts,es,us,vs,l,U,W,s,hc,z,r,hd=>wS (P:=λes=>wpAny _ _ (jr ((dJ es env).map (·.2)) us) _ _ _) hc λx xs h1 h2=>by
  rw[OF h1]
  induction vs using am with
  |nil=>exact nn hd
  |cons v vs=>exact nr hd λl1 U1 e1 hd=>r.gq (R:=λus=>wpAny _ _ (jr _ us) _ _ _) λu us r1 r2=>oj (aI (VR Y HE h1 z r1 e1) λy s1 a1=>a1.elim λW1 a1=>aI (UE Y HE h2 (a1.at z.R) (r2.mono a1.t.x) hd) λy s2 a2=>a2.trans a1.t)
theorem sT(Y:X.Good)(HE:∀e,SB X e)(hc:Sz X.T k ns sc t tg=ah)(z:At X k ns sc A env W s l U)(r:Rv X.V W u v)(hd:Ed X.C X.M X.G t v l U=aa (l',U')):Hc X A env W ns sc s tg u l' U':=by
 induction t using MT.casesOn with
 |z ts=>
  refine LW hc λes b p c=>?_
  induction v using MV.casesOn with
  |T vs=>
   refine r.Aq λa arr n ev ha rr w=>?_
   subst ev
   have g:=Ji (env:=env) c
   refine wpAny_assign_Tuple z.R.handled ⟨_,z.I.fz _ _ ha,ae,n,ae⟩ (g.1.trans ((Bh hd).trans (qq rr).symm)) g.2 λh' he=>?_
   have t:cQ X.V W s W U {s with heap:=h'}:=cQ.kept (tk:=s.toks) z.I λb o e=>he b o (cT e (bJ _)) e
   exact aI (UE Y HE c (z.step t) rr hd) λw s1 a1=>a1.trans t.toF
  |_=>exact nn hd
 |v i=>exact VR (t:=.v i) Y HE hc z r hd
 |t o n=>exact VR (t:=.t o n) Y HE hc z r hd
 |x o i=>exact VR (t:=.x o i) Y HE hc z r hd
@[elab_as_elim]theorem JW{P:Expr->Prop}(h:JV tg=ah)(g1:∀y p,P (.Name y p))(g2:∀o y p,P (.Attribute o y p))(g3:∀o i p,P (.Subscript o i p))(g4:∀l n p,P (.Tuple l n p)):P tg:=
  jc h (λu=>ft) (λu u u=>ft) (λy p u=>g1 y p) (λu u u u=>ft) (λu u u=>ft) (λu u u=>ft) (λu u u u=>ft) (λu u u u=>ft) (λu u u u=>ft) (λo y p u=>g2 o y p) (λo i p u=>g3 o i p) (λu u u u=>ft) (λl n p u=>g4 l n p) (λu u=>ft) (λu u u=>ft) (λu u u u=>ft) (λu u=>ft) λu u u=>ft
theorem Jh(h:JV tg=ah):dJ [tg] env=[(ac,assign tg env)]:=JW h (λu u=>ae) (λu u u=>ae) (λu u u=>ae) λu u u=>ae
theorem Cq(ht:JV tg=ah)(hq:TL q=ah)(h:Ei tg q=ah):swappedStores [tg] q env=pure ag:=by
 revert h
 refine JW ht (λu u u=>ae) (λu u u u=>ae) (λu u u u=>ae) λts a b=>?_
 refine jc hq (λu=>ft) (λu u u u u=>ae) (λu u u u=>ae) (λu u u u u u=>ae) (λu u u u u=>ae) (λu u u u u=>ae) (λu u u u u u=>ae) (λu u u u u u=>ae) (λu u u u u u=>ae) (λu u u u u=>ae) (λu u u u u=>ae) (λu u u u u u=>ae) (λvs c d u h=>?_) (λu u u u=>ae) (λu u u u u=>ae) (λu u u u u u=>ae) (λu u u u=>ae) λu u u u u=>ae
 have h:vs.all (foldedForSure 8)=ah:=Bool.not_eq_false' .. ▸bK _▸h
 unfold swappedStores
 dsimp only
 split
 ·rfl
 ·split
  ·rfl
  ·split
   ·rfl
   ·first|rfl|rw[if_pos h]
theorem Lz(ht:JV tg=ah)(hq:TL q=ah):∃b,rJ q (aa tg) n env=pure b/\(b=ah->(∃y p,tg= .Name y p)/\ ∃a b c d,q= .ListComp a b c d):=
 have no:∀{q:Expr},rJ q (aa tg) n env=pure ac->∃b,rJ q (aa tg) n env=pure b/\(b=ah->(∃y p,tg= .Name y p)/\ ∃a b c d,q= .ListComp a b c d):=λh=>⟨ac,h,ft⟩
 jc hq (λu=>ft) (λu u u u=>no ae) (λu u u=>no ae) (λu u u u u=>no ae) (λu u u u=>no ae) (λu u u u=>no ae) (λu u u u u=>no ae) (λu u u u u=>no ae) (λu u u u u=>no ae) (λu u u u=>no ae) (λu u u u=>no ae) (λu u u u u=>no ae) (λu u u u=>no ae) (λu u u=>no ae) (λu u u u=>no ae)
  (λe gs sc p u=>JW (P:=λtg=>∃b,rJ (.ListComp e gs sc p) (aa tg) n env=pure b/\(b=ah->(∃y p,tg= .Name y p)/\ ∃a b c d,.ListComp e gs sc p=Expr.ListComp a b c d)) ht (λy p=>⟨_,ae,λu=>⟨gu y p ae,Ex _ _ _ _ ae⟩⟩) (λu u u=>⟨ac,ae,ft⟩) (λu u u=>⟨ac,ae,ft⟩) λu u u=>⟨ac,ae,ft⟩) (λu u u=>no ae) λu u u u=>no ae
theorem Ft(hq:TL q=ah)(h:TK q=ac):rJ q ag n env=pure ac:=by
 revert h
 exact jc hq (λu=>ft) (λu u u u u=>ae) (λu u u u=>ae) (λu u u u u u=>ae) (λu u u u u=>ae) (λu u u u u=>ae) (λu u u u u u=>ae) (λu u u u u u=>ae) (λu u u u u u=>ae) (λu u u u u=>ae) (λu u u u u=>ae) (λu u u u u u=>ae) (λu u u u u=>ae) (λu u u u=>ae) (λu u u u u=>ae) (λu u u u u=>tf) (λu u u u=>ae) λu u u u u=>ae
theorem lcI{k:Nat}{scope:Scope}{pos:Pos}{P:ME->Prop}(hc:ch T k ns sc e (.ListComp p gs scope pos)=ah)(g1:∀elt ts it cond,P (.f elt ts it cond))(g2:∀elt ts a b c cond,P (.j elt ts a b c cond)):P e:=by
 induction e using ME.casesOn with
 |f elt ts it cond=>exact g1 elt ts it cond
 |j elt ts a b c cond=>exact g2 elt ts a b c cond
 |u b as=>
  induction b using Bi.casesOn with
  |z=>
   induction as using am with
   |nil=>exact ft hc
   |cons a r=>induction r using am with
    |nil=>exact ft hc
    |cons=>exact ft hc
  |_=>exact ft hc
 |_=>exact ft hc
theorem Mr(Y:X.Good)(HE:∀e,SB X e)(hc:ch X.T k ns sc e (.ListComp p gs scope pos)=ah)(z:At X k ns sc A env W s l U)
  (hd:cm X.C X.M X.G e l U=aa (m,U')) (hQ:∀acc C s',jw X.V W s m U' acc C s'->wpAny (model X.prog X.w) A (use acc) (λu s''=>∃n,s''.heap.Ns C n/\ ∀h',j5 C s''.heap h'->Q () {s'' with heap:=h'}) ci s'):
  wpAny (model X.prog X.w) A (evalThenUse (.ListComp p gs scope pos) env use) Q ci s:=by
 refine ak (arm_evalThenUse_ListComp ..) ?_
 have R:lS X A env W s p gs scope pos m U':=lcI (P:=λe=>ch X.T k ns sc e (.ListComp p gs scope pos)=ah->cm X.C X.M X.G e l U=aa (m,U')->lS X A env W s p gs scope pos m U') hc (λelt ts it cond hc hd=>FZ Y (HE elt).ev (λe u=>(HE e).te) (HE it).ev hc z hd) (λelt ts a b c cond hc hd=>C4 Y (HE elt).ev (λe u=>(HE e).te) (HE a).ev (HE b).ev (HE c).ev hc z hd) hc hd
 exact ai (R (aa use) (λu s'=>wpAny (model X.prog X.w) A (pure ()) Q ci s') λacc C s' ce=>aI (hQ acc C s' ce) λu s2 g=>g.imp λn g=>⟨g.1,λh' sb=>aw (g.2 h' sb)⟩)
end
section
variable{X:Cx}{W W':Wd}{U U':bN}{s' s₀:Shared}{n:Nat}{ns:List Str}{sc:Kinds}{env:Env}{l1:Loc}{a:List MS}
theorem qZ.ret(HE:∀e,SB X e):qZ X (.r e):=@λk ns sc x hc A env W s l U q z hd=>PN hc λo p c=>rY (P:=Bu X A env W ns sc s (.Return o p)) hd λr e1=>by
 induction o using bg with
 |some q=>exact wpAny_Return_some (q6 ((HE e).ev c z e1) λu s1 W1 r1 t1=>⟨W1,z.toF t1,u,ae,r1⟩)
 |none=>
  induction e using ME.casesOn with
  |c v=>
   induction v using MV.casesOn with
   |N=>exact gA (P:=λr:MV×bN=>Bu X A env W ns sc s (.Return ag p) (.r r.1,l,r.2)) e1 (wpAny_Return_none ⟨W,z.here,.none,ae,.none⟩)
   |_=>exact ft c
  |_=>exact ft c
theorem qZ.expr(HE:∀e,SB X e):qZ X (.e e):=@λk ns sc x hc A env W s l U q z hd=>Vh hc λq p c=>rY (P:=Bu X A env W ns sc s (.Expr q p)) hd λr e1=>
 wpAny_Expr_any (q6 ((HE e).ev (aB (aB c).1).1 z e1) λu s1 W1 r1 t1=>⟨W1,z.toF t1,ae⟩) (by
  unfold interactive
  refine ak z.F.fn ?_
  rfl) (Ft (aB (aB c).1).2 (bK _▸(aB c).2))
theorem qZ.asg(Y:X.Good)(HE:∀e,SB X e):qZ X (.a t e):=@λk ns sc x hc A env W s l U q z hd=>Vc hc λtg q0 pos c=>nr hd λv U1 e1 hd=>rY (P:=Bu X A env W ns sc s (.Assign [tg] q0 pos)) hd λr e2=>by
 have c5:=aB c
 have c4:=aB c5.1
 have c3:=aB c4.1
 have c2:=aB c3.1
 unfold Bu
 refine ak (arm_exec_Assign ..) ?_
 refine ai (ip (aV (Lz (env:=env) (n:=pos.line) c5.2 c4.2) λb hb hb2=>ai (bH (a:=b) hb ?_)))
 induction b using aY with
 |false=>
  refine ak (if_neg cY) ?_
  refine ai (q6 ((HE e).ev c2.1 z e1) λu s1 W1 r1 t1=>ai (bH (Cq c5.2 c4.2 c3.2) ?_))
  refine ak (Jh c5.2) ?_
  exact ai (aI (sT Y HE c2.2 (z.step t1) r1 e2) λg s2 a2=>a2.elim λW2 a2=>aw ⟨W2,a2.trans t1.toF,ae⟩)
 |true=>
  refine ak (if_pos ae) ?_
  refine L0 (hb2 ae).1 λy py etg=>X7 (hb2 ae).2 λp gs scope pos2 eq=>?_
  subst etg
  subst eq
  refine ai (Mr (Q:=λg s'=>wpAny (model X.prog X.w) A (pure rI) (r8 X W ns sc env s .n r.1 r.2) ci s') Y HE c2.1 z e1 λacc C s1 ce=>Vq ce λW1 r1 t1 uC nC hn=>aI (sT Y HE c2.2 (z.step t1) r1 e2) λg s2 a2=>a2.elim λW2 a2=>hn.elim λm hn=>?_)
  have ownC:∀a,oI env a->a≠C:=λa ha=>(z.F.own a ha).2.elim λg e=>cT e nC
  refine⟨m,Heap.Ns.keep (λo e=>a2.t.p.keep C o e uC.F λho=>ownC C ho ae) hn,λh' sb=>aw ?_⟩
  have k:=R6 sb
  have uC2:ga W2 C:=hn.elim λo q=>uC.ext a2.t.x (gR q λg g q g=>q)
  have b2:=(a2.trans t1.toF).t
  exact⟨W2,⟨⟨b2.x,⟨λb o e c1 c2=>k b o (cT e nC) (b2.p.keep b o e c1 c2),λb o e=>(b2.p.live b o e).imp λo' e'=>k b o' (cT e nC) e',λp hp=>(b2.p.ep p hp).trans (.kept λo=>k _ o λq=>uC2.F ⟨p,b2.x.RY hp,.inl q.symm⟩),b2.p.os,b2.p.gens⟩,b2.I.other uC2 k⟩,a2.F.grow (i3.refl _ _) λa ha o e=>k a o (ownC a ha) e⟩,ae⟩
theorem qZ.ite(HE:∀e,SB X e)(ha:Ez X a)(hb:Ez X b):qZ X (.i t a b):=@λk ns sc x hc A env W s l U q z hd=>X3 hc λx u v p c=>gz (o:=bh (cm X.C X.M X.G t l U)) hd λr e1 hd=>wpAny_If (Bv ((HE t).te (aB (aB c).1).1 z e1) λs1 W1 t1=>n6 hd (λq hd=>by
 refine ak q (ak (if_pos ae) ?_)
 exact aI (ha (aB (aB c).1).2 (z.step t1) hd) λfl s2 a2=>a2.trans t1.toF) λq hd=>by
 refine ak q (ak (if_neg cY) ?_)
 exact aI (hb (aB c).2 (z.step t1) hd) λfl s2 a2=>a2.trans t1.toF)
theorem qZ.brk:qZ X .b:=@λk ns sc x hc A env W s l U q z hd=>Vf hc λp=>gA (P:=Bu X A env W ns sc s (.Break p)) hd (wpAny_Break ⟨W,z.here,ae⟩)
theorem qZ.pass:qZ X .p:=@λk ns sc x hc A env W s l U q z hd=>RJ hc λp=>gA (P:=Bu X A env W ns sc s (.Pass p)) hd (wpAny_Pass ⟨W,z.here,ae⟩)
theorem qZ.bad:qZ X .d:=@λk ns sc x hc A env W s l U q z hd=>nn hd
theorem qZ.El(hb:Ez X b):qZ X (.t b):=@λk ns sc x hc A env W s l U q z hd=>Vl hc λu h hs p c=>wpAny_Try_except (fm (aI (hb c z hd) λfl s1 a1=>by
 cases fl with
 |next=>exact lJ a1
 |_=>exact a1))
theorem Ez.nil:Ez X []:=@λk ns sc xs hc A env W s l U q z hd=>cI.mp hc▸gA (P:=IC X A env W ns sc s []) hd (lJ ⟨W,z.here,ae⟩)
theorem tN{k:Nat}{r:List MS}{xs:List Stmt}{P:List Stmt->Prop}(h:nU T k ns sc (m::r) xs=ah)(g:∀x t,Mm T k ns sc m x=ah->nU T k ns sc r t=ah->P (x::t)):P xs:=by
 induction xs using am with
 |nil=>exact ft h
 |cons x t=>exact g x t (aB h).1 (aB h).2
theorem R4{γ δ:Type}{o:Option (α×β×γ)}{f:α×β×γ->Option δ}{m:δ}{P:Prop}(h:o.bind f=aa m)(k:∀x y z,o=aa (x,y,z)->f (x,y,z)=aa m->P):P:=gz h λq e h=>k q.1 q.2.1 q.2.2 e h
theorem Ez.cons(hm:qZ X m)(hr:Ez X r):Ez X (m::r):=@λk ns sc xs hc A env W s l U q z hd=>tN (P:=λxs=>IC X A env W ns sc s xs q) hc λx t c1 c2=>R4 hd λf l1 U1 e1 hd=>by
 refine pe (aI (hm c1 z e1) λfl s1 a1=>aV a1 λW1 b1 fo=>?_)
 induction f using Fl.casesOn with
 |n=>
  have fo:fl= .next:=fo
  subst fo
  exact aI (hr c2 (b1.at z.R) hd) λfl s2 a2=>a2.trans b1.t
 |b=>
  have fo:fl= .brk:=fo
  subst fo
  exact gA (P:=λq:Fl×Loc×bN=>r8 X W ns sc env s q.1 q.2.1 q.2.2 .brk s1) hd ⟨W1,b1,ae⟩
 |r v=>
  refine aV fo λu fo ru=>?_
  subst fo
  exact gA (P:=λq:Fl×Loc×bN=>r8 X W ns sc env s q.1 q.2.1 q.2.2 (.ret u) s1) hd ⟨W1,b1,u,ae,ru⟩
theorem G0{U1:bN}{s s1:Shared}{Q:Flow->Prop}{f:Fl}{fl:Flow}{nx:Option (Fl×Loc×bN)}{q:Fl×Loc×bN}(hR:∀fl,r8 X W ns sc env s q.1 q.2.1 q.2.2 fl s1->Q fl)(a1:r8 X W ns sc env s f l1 U1 fl s1)
  (hd:(match(generalizing:=false) f with| .n=>nx| .b=>aa (.n,l1,U1)| .r v=>aa (.r v,l1,U1))=aa q) (hn:∀W1,nx=aa q->lQ X W ns sc env (oI env) s l1 U1 W1 s1->N):
  (match(generalizing:=false) fl with| .next| .cont=>N| .brk=>Q .next| .ret v=>Q (.ret v)):=aV a1 λW1 b1 fo=>by
 induction f using Fl.casesOn with
 |n=>
  have fo:fl= .next:=fo
  subst fo
  exact hn W1 hd b1
 |b=>
  have fo:fl= .brk:=fo
  subst fo
  exact hR .next (gA (P:=λq:Fl×Loc×bN=>r8 X W ns sc env s q.1 q.2.1 q.2.2 .next s1) hd ⟨W1,b1,ae⟩)
 |r v=>
  refine aV fo λu fo ru=>?_
  subst fo
  exact hR (.ret u) (gA (P:=λq:Fl×Loc×bN=>r8 X W ns sc env s q.1 q.2.1 q.2.2 (.ret u) s1) hd ⟨W1,b1,u,ae,ru⟩)
theorem qZ.vh(HE:∀e,SB X e)(hb:Ez X b):qZ X (.w t b):=@λk ns sc x hc A env W s l U q z hd=>Vn hc λx u p c=>wpAny_While (codeAny_whileLoop (λn s'=>∃W1 l1 U1,lQ X W ns sc env (oI env) s l1 U1 W1 s'/\n4 (λl U=>bh (cm X.C X.M X.G t l U)) (λl U=>cp X.C X.M X.G b l U) n l1 U1=aa q) (λn s' I=>FE I λW1 l1 U1 a1 hd=>by
 induction n using cX with
 |zero=>exact nn hd
 |succ n=>
  refine gz (o:=bh (cm X.C X.M X.G t l1 U1)) hd λr e1 hd=>fm (Bv ((HE t).te (aB c).1 (a1.at z.R) e1) λs2 W2 t2=>n6 hd (λqt hd=>?_) λqt hd=>?_)
  ·refine ak qt (ak (if_pos ae) ?_)
   exact R4 hd λf l3 U3 e2 hd=>fm (aI (hb (aB c).2 ((a1.at z.R).step t2) e2) λfl s3 a3=>G0 (Q:=λfl=>r8 X W ns sc env s q.1 q.2.1 q.2.2 fl s3) (λv a=>a) ((a3.trans t2.toF).trans a1.t) hd λW3 hd b3=>⟨n,cn _,rg W3 l3 U3 ⟨b3,hd⟩⟩)
  ·refine ak qt (ak (if_neg cY) ?_)
   exact fm (gA (P:=λq:Fl×Loc×bN=>wpAny _ _ (execs [] env) (r8 X W ns sc env s q.1 q.2.1 q.2.2) ci s2) hd (lJ ⟨W2,((a1.at z.R).toF t2).trans a1.t,ae⟩))) kx (rg W l U ⟨z.here,hd⟩))
theorem lQ.other(a:lQ X W ns sc env (oI env) s l U W1 s1)(u:ga W1 J)(hJ:s.heap.get? J=ag)(hO:∀b,oI env b->b≠J)(k:mC J s1.heap h'):lQ X W ns sc env (oI env) s l U W1 {s1 with heap:=h',toks:=tk}:=
 ⟨⟨a.t.x,⟨λb o e c1 c2=>k b o (cT e hJ) (a.t.p.keep b o e c1 c2),λb o e=>(a.t.p.live b o e).imp λo' e'=>k b o' (cT e hJ) e',λp hp=>(a.t.p.ep p hp).trans (.kept λo=>k _ o λq=>u.F ⟨p,a.t.x.RY hp,.inl q.symm⟩),a.t.p.os,a.t.p.gens⟩,a.t.I.other u k⟩,a.F.grow (i3.refl _ _) λb hb o e=>k b o (hO b hb) e⟩
noncomputable def VW(X:Cx)(W:Wd)(ns:List Str)(sc:Kinds)(env:Env)(s₀:Shared)(J:Addr)(src:MV)(U:bN)(g:List MV->Loc->bN->Option (Fl×Loc×bN))(q:Fl×Loc×bN)(n:Nat)(s':Shared):Prop:=
 ∃W' U' l1 rest,n=rest.length/\lQ X W ns sc env (oI env) s₀ l1 U' W' s'/\ga W' J/\vm X.prog X.w X.V W' U' s'.heap J src rest/\cC U' src=cC U src/\g rest l1 U'=aa q
theorem Ga(hb:Ez X b)(hc:nU X.T k ns sc b body=ah)(ht:np tg=aa xs)(hs:zE ns sc xs ts=ah)(z:At X k ns sc A env W s l U)
  (st:nQ X.prog X.w X.V W U s src vs it s1) (hl:nZ ts src U (λl U=>cp X.C X.M X.G b l U) vs l U=aa q) (hR:∀fl s',r8 X W ns sc env s q.1 q.2.1 q.2.2 fl s'->R (.ok fl) s'):codeAny (model X.prog X.w) A (.forLoop tg it body [] env) R s1:=sB st λJ ej hs1 nJ it0=>gR hs1 λh tk es k0=>by
 subst ej
 subst es
 have ownJ:∀a,oI env a->a≠J:=λa ha=>(z.F.own a ha).2.elim λy e=>cT e nJ
 refine codeAny_forLoop_any (VW X W ns sc env s J src U (λvs l U'=>nZ ts src U (λl U=>cp X.C X.M X.G b l U) vs l U') q) (λn s' I=>RM I λW' Uc l1 rest en a1 uJ' it' eq hl'=>fm (aI (it'.next z.R.handled a1.t.I) λr s₁ h₁=>gR h₁.1 λh2 tk2 es k2=>?_)) vs.length
  (Ex W U l vs ⟨ae,z.toF (cQ.kept z.I k0),.fresh z.I nJ,it0,ae,hl⟩)
 have hr:=h₁.2
 subst es
 have a2:=lQ.other (tk:=tk2) a1 uJ' nJ ownJ k2
 induction rest using am with
 |nil=>
  have hr:r=ag:=hr
  subst hr
  exact gA (P:=λq:Fl×Loc×bN=>(∀fl s',r8 X W ns sc env s q.1 q.2.1 q.2.2 fl s'->R (.ok fl) s')->_) hl' (λhR=>lJ (hR _ _ ⟨W',a2,ae⟩)) hR
 |cons v rest=>
  refine sB hr λu er ru L5 go=>?_
  subst er
  refine fm (go (gz hl' λlb hbd hl'=>fm (aI (D5 z.R.handled ht (Ba hs) a2.F a2.t.I ru hbd) λy s2 a3=>R4 hl' λf l3 U3 e2 hl'=>fm (aI (hb hc (a3.at z.R) e2) λfl s3 a4=>?_))))
  refine G0 (Q:=λfl=>R (.ok fl) s3) (λfl a=>hR fl s3 ((a.trans a3.t).trans a2.t)) a4 hl' λW4 hn b4=>n6 hn (λhu hn=>?_) λy=>nn
  have u:=a3.t.trans b4.t
  have jk:∀o,h2.get? J=aa o->s3.heap.get? J=aa o:=λo e=>u.p.keep _ _ e uJ'.F λho=>ownJ J ho ae
  have lv:∃o,h2.get? J=aa o:=L5.live
  exact⟨rest.length,en▸cn _,Ex W4 U3 l3 rest ⟨ae,(b4.trans a3.t).trans a2.t,lv.elim λy e=>uJ'.ext u.x e,L5.step a2.t.I u ((jS hu).trans eq.symm) jk,jS hu,hn⟩⟩
theorem qZ.ke(Y:X.Good)(HE:∀e,SB X e)(hb:Ez X b):qZ X (.f ts t b):=@λk ns sc x hc A env W s l U q z hd=>PJ hc λtg x u p c=>
 have c3:=aB c
 have c2:=aB c3.1
 have c1:=aB c2.1
 By c1.1 λxs hx hs=>gz hd λp1 e1 hd=>gz e1 λp0 e0 e1=>rY (P:=λt:MV×List MV×bN=>nZ ts t.1 t.2.2 (λl U=>cp X.C X.M X.G b l U) t.2.1 l t.2.2=aa q->Bu X A env W ns sc s (.For tg x u [] p) q) e1 (λvs e3 hd=>wpAny_For (q6 ((HE t).ev c2.2 z e0) λxv s1 W1 r1 t1=>aI (BR Y.P t1.I r1 e3) λitv s2 st=>Ga hb c3.2 hx hs (z.step t1) st hd λfl s' a=>a.trans t1.toF) (oG c1.2)) hd
theorem qZ.forR(Y:X.Good)(HE:∀e,SB X e)(hb:Ez X b):qZ X (.g ts e1 e2 e3 b):=@λk ns sc x hc A env W s l U q z hd=>PJ hc λtg x u p c=>
 have c3:=aB c
 have c2:=aB c3.1
 have c1:=aB c2.1
 By c1.1 λxs hx hs=>nr hd λx1 U1 d1 hd=>nr hd λx2 U2 d2 hd=>nr hd λx3 U3 d3 hd=>gz hd λvs hv hd=>wpAny_For (aI (DY Y (HE e1).ev (HE e2).ev (HE e3).ev c2.2 z d1 d2 d3 hv) λxv s1 a1=>aV a1 λW1 t1 st=>aI st λitv s2 st=>Ga hb c3.2 hx hs (z.step t1) st hd λfl s' a=>a.trans t1.toF) (oG c1.2)
mutual
theorem Sh(Y:X.Good)(HE:∀e,SB X e):∀m:MS,qZ X m
 | .r e=>qZ.ret HE
 | .a t e=>qZ.asg Y HE
 | .e e=>qZ.expr HE
 | .i t a b=>qZ.ite HE (wM Y HE a) (wM Y HE b)
 | .w t b=>qZ.vh HE (wM Y HE b)
 | .f ts it b=>qZ.ke Y HE (wM Y HE b)
 | .g ts a b s body=>qZ.forR Y HE (wM Y HE body)
 | .b=>qZ.brk
 | .t b=>qZ.El (wM Y HE b)
 | .p=>qZ.pass
 | .d=>qZ.bad
theorem wM(Y:X.Good)(HE:∀e,SB X e):∀l:List MS,Ez X l
 |[]=>Ez.nil
 |m::r=>Ez.cons (Sh Y HE m) (wM Y HE r)
end
end
section
noncomputable def L7(h:Heap)(v:Value)(ds:List Value):Prop:=(v= .none/\ds=[])\/ ∃T o items n,v= .ref T/\h.get? T=aa o/\o.data= .seq items n/\items.toList=ds
theorem EY{y:Str}{v:α}{l:List (Str×α)}(e:x=y):((y,v)::l).lookup x=aa v:=by exact ak oP (ak e (ak (beq_self_eq_true ..) ae))
theorem B2{y:Str}{v:α}{l:List (Str×α)}(e:x≠y):((y,v)::l).lookup x=l.lookup x:=by exact ak oP (ak (beq_eq_false_iff_ne.mpr e) ae)
theorem B1:∀{ps:List Str} {vs:List Value} {i:Nat} {x:Str},ps.Nodup->ps[i]?=aa x->(ps.zip vs).lookup x=vs[i]?
 |[],_,_,_,_,h=>nn h
 |_::_,[],_,_,_,_=>ae
 |p::ps,v::vs,0,x,_,h=>EY (oi h).symm
 |p::ps,v::vs,i+1,x,nd,h=>(B2 λe:x=p=>(dO.mp nd).1 (e▸aT (i:=i) h)).trans (B1 (i:=i) (dO.mp nd).2 h)
theorem zi:∀{l m:List (Str×α)},(l++m).lookup x=(l.lookup x).or (m.lookup x)
 |[],_=>ae
 |(y,v)::l,m=>by
  by_cases e:x=y
  ·refine ak cH (ak (EY e) (ak (EY e) ?_))
   rfl
  ·exact ak cH (ak (B2 e) (ak (B2 e) (ak zi ae)))
theorem H1(a b c:Option α):(a.or b).or c=a.or (b.or c):=by induction a using bg<;>rfl
theorem wc:∀(L S:List (Str×Value)),∃S',(forIn L S λ(x:Str×Value) (r:List (Str×Value))=>if(r.lookup x.1).isNone=ah then pure (cR (r++[(x.1,x.2)]))else pure (cR r):Sem (List (Str×Value)))=pure S'/\ ∀y,S'.lookup y=(S.lookup y).or (L.lookup y)
 |[],S=>⟨S,ae,λy=>(Option.or_none).symm⟩
 |(x,v)::L,S=>by
  refine ak (eG ..) ?_
  cases e:S.lookup x with
  |none=>exact(wc L (S++[(x,v)])).imp λS' h=>⟨h.1,λy=>(h.2 y).trans (by
   refine ak zi (ak (H1 ..) (ak (aZ zi) ?_))
   rfl)⟩
  |some u=>
   refine(wc L S).imp λS' h=>⟨h.1,λy=>(h.2 y).trans ?_⟩
   by_cases q:y=x
   ·refine ak q (ak e ?_)
    rfl
   ·exact ak (B2 q) ae
theorem CN:∀{ps:List Str} {vs:List Value} {S:List (Str×Value)},vs.length=ps.length->(∀(i:Nat) x,ps[i]?=aa x->S.lookup x=vs[i]?)->ps.filterMap (λn=>(S.lookup n).map λx=>(n,x))=ps.zip vs
 |[],_,_,_,_=>ae
 |_::_,[],_,h,_=>nomatch h
 |p::ps,v::vs,S,h,k=>by
  refine ak List.filterMap_cons (ak (k 0 p ae) ?_)
  exact congrArg ((p,v):: ·) (CN (j4 h) λi x e=>k (i+1) x e)
theorem Yu{d:Nat}(a:v<=p)(b:p-v<=d):v+(d-(d-(p-v)))=p:=(congrArg (v+ ·) (Nat.sub_sub_self b)).trans (Nat.add_sub_of_le a)
theorem V1{d:Nat}(b:n-v<=d):n-d<=v:=Nat.sub_le_iff_le_add'.mpr (Nat.sub_le_iff_le_add.mp b)
theorem Zu{d i:Nat}(a:v<=n)(b:n-v<=d)(c:d<=n)(q:v<=i):i-(n-d)=d-(n-v)+(i-v):=ee (bE a) λm e=>by
 subst e
 revert b
 refine ak (bZ ..) λb=>ee (bE b) λk e=>?_
 subst e
 refine ee (bE (Nat.le_of_add_le_add_left (a:=m) (ao c (bV (dn ..))))) λj e=>?_
 subst e
 refine ee (bE q) λt e=>?_
 subst e
 refine ak (bZ ..) (ak (show k+j+m=(m+k)+j from(dn ..).trans (b9 ..).symm) (ak (bZ ..) (ak (bZ ..) ?_)))
 exact ak (show k+j+t=j+(k+t) from(congrArg (· +t) (dn ..)).trans (b9 ..)) (bZ ..)
theorem MP{ds:List Value}{n i:Nat}(l1:vals.length<=n)(l2:n-vals.length<=ds.length)(l3:ds.length<=n):vals[i]?.or (if n-ds.length<=i then ds[i-(n-ds.length)]? else ag)=(vals++ds.drop (ds.length-(n-vals.length)))[i]?:=by
 by_cases q:i<vals.length
 ·refine ak (i5 q) (ak (b8 q) ?_)
  rfl
 ·have q:=eA.mp q
  exact ak (eh q) (ak (iu q) (ak jB (ak (if_pos (ao (V1 l2) q)) (ak Option.none_or (ak (Zu l1 l2 l3 q) ae)))))
theorem CO(h1:fd.params.posonlyargs=[])(h2:fd.params.args.map (·.arg)=ps)(h3:fd.params.vararg=ag)(h4:fd.params.kwonlyargs=[])(h5:fd.params.kwarg=ag)
  (hd:L7 s.heap fd.defaults ds) (l1:vals.length<=ps.length) (l2:ps.length-vals.length<=ds.length) (l3:ds.length<=ps.length) (nd:ps.Nodup) (h:Q (ps.zip (vals++ds.drop (ds.length-(ps.length-vals.length)))) s):
  wpAny M A (bindArgs fd ⟨vals,[]⟩) Q E s:=by
 unfold bindArgs
 extract_lets+onlyGivenNames fname p posonly normal positional kwonly npos given slots extra
 have hpos:positional=ps:=(congrArg (λl=>l.map (·.arg)++normal) h1).trans h2
 have hkw:kwonly=[]:=congrArg (λl=>l.map (·.arg)) h4
 have hsl:slots=ps.zip vals:=congrArg (λl=>l.zip vals) hpos
 have hn:npos=ps.length:=congrArg dK hpos
 have hva:p.vararg=ag:=h3
 have hka:p.kwarg=ag:=h5
 clear_value slots kwonly npos positional p
 subst hsl
 subst hkw
 subst hn
 subst hpos
 refine ai (bH (a:=(positional.zip vals,extra)) ae ?_)
 dsimp-zeta only
 extract_lets+onlyGivenNames sl ex
 have hseq:∀{Q:Option (Array Value)->Shared->Prop},(∀r:Option (Array Value),(r.getD #[]).toList=ds->Q r s)->wpAny M A (seqItems? fd.defaults) Q E s:=λhQ=>hd.elim (λq=>q.1▸aw (hQ ag q.2.symm)) λq=>Cu q λT o items k e ho hdt he=>e▸db ho hdt (hQ (aa items) he)
 refine ai (hseq λr hr=>?_)
 extract_lets+onlyGivenNames d0
 have e0:d0=ds:=hr
 clear_value d0
 subst e0
 extract_lets+onlyGivenNames a1 a2 a3 a4 a5 a6 a7
 have f1:a1=d0:=congrArg (λn=>Ar n d0) (kz l3)
 have f2:a2=positional.length-d0.length:=congrArg (λl=>positional.length-dK l) f1
 have lk:∀(i:Nat) x,positional[i]?=aa x->sl.lookup x=vals[i]?:=λi x e=>B1 nd e
 have f3:a3=[]:=List.filter_eq_nil_iff.mpr λx hx=>(qz.mp hx).elim λi e=>by
  have hi:=(cF.mp e).1
  rw[eK,f2]at hi
  have hi:=bW hi (xk _ _)
  rw[tn,if_pos (f2▸hi)]at e
  refine ak (lk i x e) (ak (b8 (bW hi (V1 l2))) ?_)
  exact cY
 have h7:wpAny M A (a7 ()) Q E s:=aV (wc ((positional.drop a2).zip a1) sl) λS' eS qE=>by
  refine ai (bH eS (ai (bH (a:=(S',a4)) ae (qk ae ?_))))
  refine ak hva ?_
  show wpAny M A (match p.kwarg with|some a=>_|x=>a5 () _) Q E s
  refine ak hka ?_
  refine aw ?_
  rw[aG,CN (vs:=vals++d0.drop (d0.length-(positional.length-vals.length))) (aj.trans ((congrArg (vals.length+ ·) fA).trans (Yu l1 l2))) λi x e=>?_]
  ·exact h
  ·rw[qE x,lk i x e,<-MP l1 l2 l3,f1,f2]
   by_cases q:positional.length-d0.length<=i
   ·rw[if_pos q,B1 (nd.sublist (List.drop_sublist _ _)) (by rw[jB,jd q];exact e)]
   ·rw[if_neg q,b8 (bW (pJ.mp q) (V1 l2))]
    rfl
 clear_value a7
 refine qk (decide_eq_false λq=>eA.mpr l1 (of_decide_eq_true (aB q).1)) (qk ?_ h7)
 refine ak f3 ?_
 rfl
end
structure CC(X:Cx)(F:Fn)(a:Addr)(o:Obj)(fd:FuncData)(ns:List Str)(body:List Stmt)(ds:List Value):Prop where
 ho:X.V.S a=aa o
 hd:o.data= .func fd
 hb:fd.body= .stmts body
 Yw:fd.closure=[]
 gl:fd.globals=dy
 bu:fd.builtins=jE
 p1:fd.params.posonlyargs=[]
 p2:fd.params.args.map (·.arg)=ns.take F.kU
 p3:fd.params.vararg=ag
 p4:fd.params.kwonlyargs=[]
 p5:fd.params.kwarg=ag
 kind:fd.scope.kind= .function
 co:fd.scope.isCoroutine=ac
 gen:fd.scope.isGenerator=ac
 code:∃c oc vs t,fd.code= .ref c/\X.V.S c=aa oc/\oc.data= .fields vs/\vs[1]?=aa (.str fd.qualname t)
 dv:(fd.defaults= .none/\ds=[])\/ ∃T o items n,fd.defaults= .ref T/\X.V.S T=aa o/\o.data= .seq items n/\items.toList=ds
 XH:cN X.V ⟨X.V.S,[]⟩ ds F.dflt
 len:ns.length=F.wi
 kU:F.kU<=F.wi
 dl:F.dflt.length<=F.kU
 nd:ns.Nodup
 par:∀x∈ns.take F.kU,oN (bP fd.scope.names x)=ah
 Ky:∀x,bP fd.scope.names x≠aa .free
 V5:nU X.T 8 ns fd.scope.names F.body body=ah
section
variable{kindOf:Str->Option NameKind}
theorem BL:∀{n:Nat} {vs:List MV} {i:Nat} {v:MV},(sx n vs)[i]?=aa (aa v)->vs[i]?=aa v
 |0,_,_,_,h=>nn h
 |_+1,[],0,_,h=>nn (oi h)
 |n+1,[],i+1,_,h=>BL (n:=n) (vs:=[]) (i:=i) h
 |_+1,_::_,0,_,h=>oi h
 |n+1,_::r,i+1,_,h=>BL (n:=n) (vs:=r) (i:=i) h
theorem yW:∀(n:Nat) (vs:List MV),(sx n vs).length=n
 |0,_=>ae
 |n+1,[]=>congrArg (· +1) (yW n [])
 |n+1,_::r=>congrArg (· +1) (yW n r)
theorem JQ [Decidable c](h1:a=d)(h2:b=d):(if c then a else b)=d:=by
 by_cases q:c
 ·exact(if_pos q).trans h1
 ·exact(if_neg q).trans h2
theorem Ax:∀{binds:List (Str×Value)} {m:Str->Option Value},x∉binds.map (·.1)->bindL kindOf binds m x=m x
 |[],_,_=>ae
 |(n,v)::r,m,h=>(Ax λq=>h (.tail _ q)).trans ((apply_ite (λf:Str->Option Value=>f x) ..).trans (JQ (if_neg λe:x=n=>h (e▸.head _)) ae))
theorem CM(hk:kindOf x=aa .local):∀{binds:List (Str×Value)} {m:Str->Option Value},(binds.map (·.1)).Nodup->(x,u)∈binds->bindL kindOf binds m x=aa u
 |(n,v)::r,m,nd,h=>(bc.mp h).elim (λe=>by
  have e1:x=n:=congrArg dq e
  have e2:u=v:=congrArg dX e
  subst e1
  subst e2
  refine(Ax (dO.mp nd).1).trans ?_
  refine ak (if_pos hk) ?_
  exact if_pos ae) λh=>CM (binds:=r) hk (dO.mp nd).2 h
theorem Av:∀{binds:List (Str×Value)} {m:Str->Option Value},x∉binds.map (·.1)->bindC kindOf binds m x=m x
 |[],_,_=>ae
 |(n,v)::r,m,h=>(Av λq=>h (.tail _ q)).trans ((apply_ite (λf:Str->Option Value=>f x) ..).trans (JQ ae (if_neg λe:x=n=>h (e▸.head _))))
theorem CL(hk:kindOf x≠aa .local):∀{binds:List (Str×Value)} {m:Str->Option Value},(binds.map (·.1)).Nodup->(x,u)∈binds->bindC kindOf binds m x=aa u
 |(n,v)::r,m,nd,h=>(bc.mp h).elim (λe=>by
  have e1:x=n:=congrArg dq e
  have e2:u=v:=congrArg dX e
  subst e1
  subst e2
  refine(Av (dO.mp nd).1).trans ?_
  refine ak (if_neg hk) ?_
  exact if_pos ae) λh=>CL (binds:=r) hk (dO.mp nd).2 h
section
theorem Sw(q:(k== .cell)=ah):pb n ((y,k)::r) acc=pb (n+1) r ((y,n)::acc):=if_pos q
theorem Sv(q:¬(k== .cell)=ah):pb n ((y,k)::r) acc=pb n r acc:=if_neg q
end
theorem mO:∀{names:Kinds} {n:Nat} {acc:List (Str×Addr)},(x,c)∈acc->(x,c)∈pb n names acc
 |[],_,_,h=>h
 |(y,k)::r,n,acc,h=>by
  by_cases q:(k== .cell)=ah
  ·refine ak (Sw q) ?_
   exact mO (.tail _ h)
  ·refine ak (Sv q) ?_
   exact mO h
theorem lh:∀{names:Kinds} {n:Nat} {acc:List (Str×Addr)},(x,NameKind.cell)∈names->∃c,(x,c)∈pb n names acc
 |(y,k)::r,n,acc,h=>by
  by_cases q:(k== .cell)=ah
  ·refine ak (Sw q) ?_
   exact(bc.mp h).elim (λe=>⟨n,mO ((show x=y from congrArg dq e)▸.head _)⟩) lh
  ·refine ak (Sv q) ?_
   exact(bc.mp h).elim (λe=>(q ((show .cell=k from congrArg dX e)▸ae)).elim) lh
theorem zU:∀{ps:List Str} {vs:List Value},vs.length=ps.length->(ps.zip vs).map (·.1)=ps
 |[],_,_=>ae
 |p::ps,[],h=>nomatch h
 |p::ps,v::vs,h=>congrArg (p:: ·) (zU (j4 h))
theorem ta.enter(f:CC X F a o fd ns body ds)(I:cV X.V W U s.heap)(r:cN X.V W us vs)(hl:us.length=(ns.take F.kU).length)
  (x:InCallC s (callEnvC fd s.heap.objs.size a).locals (bindL (callEnvC fd s.heap.objs.size a).kindOf ((ns.take F.kU).zip us) λw=>ag) (callEnvC fd s.heap.objs.size a).cells (bindC (callEnvC fd s.heap.objs.size a).kindOf ((ns.take F.kU).zip us) λw=>ag) s1):
  ta X W ns fd.scope.names (callEnvC fd s.heap.objs.size a) (sx F.wi vs) s1.heap:=
 have hk:∀y,(callEnvC fd s.heap.objs.size a).kindOf y=bP fd.scope.names y:=λy=>my fd.scope.names y
 have ndk:(((ns.take F.kU).zip us).map (·.1)).Nodup:=(zU hl).symm▸f.nd.sublist (uj _ _)
 have at_:∀{y:Str} {i:Nat} {v:MV},cL ns 0 y=aa i->(sx F.wi vs)[i]?=aa (aa v)->∃u,(y,u)∈(ns.take F.kU).zip us/\Rv X.V W u v:=λ{y i v} hs hv=>aV (r.at (BL hv)) λu hu ru=>
  have hi:i<(ns.take F.kU).length:=hl▸(cF.mp hu).1
  ⟨u,aT (i:=i) (nv.mpr ⟨(jo (bW hi (ao (bV eK) (xk _ _)))).trans (pC hs).2,hu⟩),ru⟩
 have freshC:∀{y c},(callEnvC fd s.heap.objs.size a).cells.lookup y=aa c->s.heap.get? c=ag:=λ{y c} e=>iI (cZ (x.above y c (jL e)))
 have nsAt:=x.toInCall.ns
 {fn:=f.kind
  names:=hk
  gl:=f.gl
  bu:=f.bu
  vars:=⟨_,nsAt,λy i v hs hky hv=>aV (at_ hs hv) λu hm ru=>⟨u,CM ((hk y).trans hky) ndk hm,ru⟩⟩
  cells:=λy hy=>hy.elim (λhy=>ee (lh (n:=s.heap.objs.size+1) (acc:=[]) (jJ hy)) λc hc=>ee (nY hc) λc' hc'=>gu c' _ ⟨hc',x.cell y c' hc',λi v hs hv=>aV (at_ hs hv) λu hm ru=>⟨u,CL (λe=>nomatch(((hk y).trans hy).symm.trans e)) ndk hm,ru⟩⟩) λhy=>absurd hy (f.Ky y)
  own:=λb hb=>hb.elim (λe=>e.symm▸⟨.fresh I (bJ _),nsAt.imp λw q=>gR q λw w q w=>q⟩) λe=>ee e λy hy=>⟨.fresh I (freshC hy),(x.cell y b hy).imp λw q=>q.1⟩
  len:=(yW _ _).trans f.len.symm
  apart:=λy c e=>⟨eP (x.above y c (jL e)),λz c' e' ne q=>ne (name_of_addr x.apart (jL e) (q▸jL e'))⟩}
end
noncomputable def O4:MS->Bool
 | .a _ _=>ah
 | .e _=>ah
 |_=>ac
noncomputable def Qq:ME->Bool
 | .e mu _ _=> !mu
 |_=>ac
noncomputable def AK:MS->Bool
 | .r e=>Qq e
 |_=>ac
noncomputable def mr:List MS->Bool
 |[]=>ac
 |m::r=>match r with
  |[]=>AK m
  |r=>O4 m&&mr r
section
variable{X:Cx}{W W1:Wd}{s s':Shared}{n:Nat}{ns:List Str}{sc:Kinds}{env:Env}{q:Fl×Loc×bN}{a:Addr}
theorem Vt{α2 α3 α4 α5 α6:Sort _}{G:Prop}{P1 P2 P3 P4 P5 P6 P7 P8:α1->α2->α3->α4->α5->α6->Prop}(h:∃a1 a2 a3 a4 a5 a6,P1 a1 a2 a3 a4 a5 a6/\P2 a1 a2 a3 a4 a5 a6/\P3 a1 a2 a3 a4 a5 a6/\P4 a1 a2 a3 a4 a5 a6/\P5 a1 a2 a3 a4 a5 a6/\P6 a1 a2 a3 a4 a5 a6/\P7 a1 a2 a3 a4 a5 a6/\P8 a1 a2 a3 a4 a5 a6)
  (k:∀a1 a2 a3 a4 a5 a6,P1 a1 a2 a3 a4 a5 a6->P2 a1 a2 a3 a4 a5 a6->P3 a1 a2 a3 a4 a5 a6->P4 a1 a2 a3 a4 a5 a6->P5 a1 a2 a3 a4 a5 a6->P6 a1 a2 a3 a4 a5 a6->P7 a1 a2 a3 a4 a5 a6->P8 a1 a2 a3 a4 a5 a6->G):G:=
 Vr h λa1 a2 a3 a4 a5 h=>h.elim λa6 h=>k a1 a2 a3 a4 a5 a6 h.1 h.2.1 h.2.2.1 h.2.2.2.1 h.2.2.2.2.1 h.2.2.2.2.2.1 h.2.2.2.2.2.2.1 h.2.2.2.2.2.2.2
noncomputable def xX(X:Cx)(W:Wd)(ns:List Str)(sc:Kinds)(env:Env)(s:Shared)(q:Fl×Loc×bN)(fl:Flow)(s':Shared):Prop:=
 ∃W1 a as bs es n,lQ X W ns sc env (oI env) s q.2.1 q.2.2 W1 s'/\fl= .ret (.ref a)/\ga W1 a/\s.heap.get? a=ag/\q.1= .r (.D as bs)/\s'.heap.get? a=aa (dR es n)/\yw X.V W1 es.toList as bs/\bX as.length=ah
theorem xX.trans(t:kB X.V W (oI env) s W' U1 s')(a:xX X W' ns sc env s' q fl s''):xX X W ns sc env s q fl s'':=Vt a λW1 a as bs es n b c d e r ho rr z=>VJ W1 a as bs es n ⟨b.trans t,c,d,eE t.p.live e,r,ho,rr,z⟩
theorem Qr{P:MS->Prop}(h:AK m=ah)(g:∀ks vs,P (.r (.e ac ks vs))):P m:=by
 induction m using MS.casesOn with
 |r e=>
  induction e using ME.casesOn with
  |e mu ks vs=>
   induction mu using aY with
   |false=>exact g ks vs
   |true=>exact ft h
  |_=>exact ft h
 |_=>exact ft h
theorem E5(h:O4 m=ah)(e:Jk C M G m l U=aa (f,l1,U1)):f= .n:=by
 induction m using MS.casesOn with
 |a t e'=>exact gz e λp u e=>zj e λr u e=>(congrArg (·.1) e).symm
 |e e'=>exact zj e λr u e=>(congrArg (·.1) e).symm
 |_=>exact ft h
theorem Dh(Y:X.Good)(HE:∀e,SB X e):∀{ms:List MS},mr ms=ah->∀{xs W s l U},nU X.T k ns sc ms xs=ah->At X k ns sc A env W s l U->cp X.C X.M X.G ms l U=aa q->wpAny (model X.prog X.w) A (jN xs env) (xX X W ns sc env s q) ci s
 |[],hf,_,_,_,_,_,_,_,_=>ft hf
 |[m],hf,xs,W,s,l,U,hc,z,hd=>tN (P:=λxs=>wpAny _ _ (jN xs env) _ _ _) hc λx t c1 c2=>
  Qr (P:=λm=>Mm X.T k ns sc m x=ah->cp X.C X.M X.G [m] l U=aa q->wpAny _ _ (jN (x::t) env) (xX X W ns sc env s q) ci s) hf (λks vs c1 hd=>PN (P:=λx=>wpAny _ _ (jN (x::t) env) (xX X W ns sc env s q) ci s) c1 λo p c=>gz hd λq1 e1 hd=>rY (P:=λq1:Fl×Loc×bN=>(match q1.1 with| .n=>cp X.C X.M X.G [] q1.2.1 q1.2.2| .b=>aa q1| .r _=>aa q1)=aa q->_) e1 (λr er hd=>R5 hd λeq=>by
   subst eq
   induction o using bg with
   |none=>exact ft c
   |some y=>exact pe (wpAny_Return_some (FC (P:=λy=>wpAny _ _ (bC y env) _ ci s) c λps qs pos c=>nr er λas U1 e1 h=>nr h λbs U2 e2 h=>n6 h (λhq hz=>gA (P:=λr:MV×bN=>wpAny _ _ _ (λv=>xX X W ns sc env s (.r r.1,l,r.2) (.ret v)) ci s) hz (aI (F3 Y (λe g=>(HE e).ev) c z e1 e2 hq) λv s1 a=>RM a λW1 a es n ev t u na ho rr=>VJ W1 a as bs es n ⟨z.toF t,ev▸ae,u,na,ae,ho,rr,(aB hq).2⟩)) λg=>nn))) hd) c1 hd
 |m::m2::r,hf,xs,W,s,l,U,hc,z,hd=>tN (P:=λxs=>wpAny _ _ (jN xs env) _ _ _) hc λx t c1 c2=>R4 hd λf l1 U1 e1 hd=>by
  have ef:=E5 (aB hf).1 e1
  subst ef
  exact pe (aI (Sh Y HE m c1 z e1) λfl s1 a1=>aV a1 λW1 b1 fo=>(show fl= .next from fo)▸aI (Dh Y HE (aB hf).2 c2 (b1.at z.R) hd) λfl s2 a2=>a2.trans b1.t)
theorem Ip.pur:Ip W ⟨W.K,[]⟩ MV.pure bI:=⟨λu p=>p,λu p=>p,λu u p=>(aB p).2,λu u u p=>p,λu u p=>(aB p).1,λu u p=>(aB p).2,λu u e=>e,λu u p=>ft p⟩
theorem cV.bare(I:cV V W U h):cV V ⟨W.K,[]⟩ [] h:=⟨I.fz,ae,(λu hp=>nomatch hp),trivial,I.st,I.big⟩
theorem Nk:¬Wd.cell ⟨W.K,[]⟩ b:=λc=>aV c λu hq u=>nomatch hq
theorem cQ.lift(I:cV V W U s.heap)(t:cQ V ⟨W.K,[]⟩ s V' τ s'):cQ V W s ⟨V'.K,W.F⟩ U s':=
 have kp:iF s.heap s'.heap:=λb o e=>t.p.keep b o e Nk
 have x:i3 s.heap W ⟨V'.K,W.F⟩:=⟨t.x.K,t.x.new,[],(aG _).symm,λu hp=>nomatch hp⟩
 have lo:∀{a},ul W s.heap a->ul ⟨V'.K,W.F⟩ s'.heap a:=λ{a} l=>⟨qn λo' e=>(t.x.new a o' e).elim (zF l.1) λq=>l.2.elim λo e2=>zF q e2,l.2.imp λo=>kp a o⟩
 ⟨x,⟨λb o e u=>kp b o e,t.p.live,λu u=>.kept (kp _),t.p.os,t.p.gens⟩,t.I.fz,I.cells.mono x λq hq=>⟨λo=>kp _ o,λo=>kp _ o⟩,λq hq=>(I.free q hq).imp lo lo,I.apart,t.I.st,t.I.big⟩
theorem Gx(hF:V'.F=[]):i3 (⟨#[],s.heap.life⟩:Heap) V' ⟨V'.K,F⟩:=⟨λu u e=>e,λu u e=>.inl e,F,hF▸ae,λu u=>⟨by unfold mo;simp,by unfold mo;simp⟩⟩
theorem TW(I:cV V W U s.heap)(e:b7 V ⟨W.K,[]⟩ s m [] v s'):b7 V W s m U v s':=aV e λV' r t=>⟨⟨V'.K,W.F⟩,r.mono (Gx (s:=s) t.I.cells),t.lift I⟩
theorem TX(I:cV V W U s.heap)(e:G8 V ⟨W.K,[]⟩ s m [] v s'):G8 V W s m U v s':=RL e λV' a b e t u na lv r=>rg ⟨V'.K,W.F⟩ a b ⟨e,t.lift I,⟨⟨u.1.K,(ga.fresh I na.1).F⟩,⟨u.2.K,(ga.fresh I na.2).F⟩⟩,na,lv,r.mono (Gx (s:=s) t.I.cells) (λw e=>e) λw e=>e⟩
theorem ga.drop(u:ga W a):ga (W.drop n h) a:=⟨mQ a (λz v=>aV z λp hp e=>(u.F ⟨p,iG hp,e⟩).elim) λv q=>q.trans u.K,λc=>aV c λp hp e=>u.F ⟨p,lq hp,e⟩⟩
theorem MN(I:cV V W U h)(r:yw V W es as bs)(e:Gc U n (.D as bs)=aa m):∃bs',m= .D as bs'/\yw V (W.drop n h) es as bs':=
 n6 e (λp e=>⟨bs,(oi e).symm,r.gen (.VG I) (iQ n (aB p).2)⟩) λu e=>gz (o:=jU (i8 U n 39) as) e λas' e1 e=>zj e λbs' e2 em=>⟨bs',em.symm.trans (rd (.inl r) e1▸ae),Di (λr e=>BM I 39 r e) r e2⟩
end
noncomputable def Cx.lvl(X:Cx)(P:Nat->Option Fn)(d:Nat):Cx:={X with C:=CH P X.M X.G d,d:=d}
theorem Cx.Good.lvl{X:Cx}(Y:X.Good)(P:Nat->Option Fn)(d:Nat):(X.lvl P d).Good:=
 ⟨Y.P,Y.LJ,Y.bi,Y.fn,Y.cls,Y.W8,Y.ny,Y.Ma,Y.Sx,Y.V8,Y.VE,Y.CX,Y.cover,Y.Oz,Y.Gr,Y.J3,Y.VD,Y.qF,Y.Xl,Y.WX,Y.Xk,Y.QR,Y.W6,Y.P9,Y.Qt,Y.Rw,Y.Q0,Y.data⟩
theorem CC.lvl(f:CC X F a o fd ns body ds)(P:Nat->Option Fn)(d:Nat):CC (X.lvl P d) F a o fd ns body ds:=
 ⟨f.ho,f.hd,f.hb,f.Yw,f.gl,f.bu,f.p1,f.p2,f.p3,f.p4,f.p5,f.kind,f.co,f.gen,f.code,f.dv,f.XH,f.len,f.kU,f.dl,f.nd,f.par,f.Ky,f.V5⟩
structure RO(X:Cx)(P:Nat->Option Fn):Prop where
 at_:∀f F,P f=aa F->∃a o fd ns body ds,X.fv f= .ref a/\CC X F a o fd ns body ds
 fresh:∀f F,P f=aa F->cv f X.T.fresh=ah->mr F.body=ah
 lim:∀h:Heap,(∀a o,X.V.S a=aa o->h.get? a=aa o)->h.NoLimit
section
variable{X:Cx}{W:Wd}{U':bN}{s s':Shared}{m:MV}
theorem sE.inn(R:sE A (d+1))(env:Env):vA (A.deeper env) d 8:=⟨R.handled,by
 show A.depth+1+16*d+8<=940
 have:=R.depth
 lia,by
 show A.units+3+64*d+4*8<=9000
 have:=R.units
 lia⟩
theorem NR{P:Prop}(h:oN o=ah)(a:o=aa .local->P)(b:o=aa .cell->P):P:=by
 induction o using bg with
 |none=>exact ft h
 |some k=>
  induction k using dY with
  | «local» =>exact a ae
  |cell=>exact b ae
  |_=>exact ft h
theorem sE.deep(R:sE A d):A.depth<recursionLimit:=bG (ao (aU _ _) R.depth) (by unfold recursionLimit;decide)
theorem IS(N:RO X P)(f:CC X F a o fd ns body ds)(hr:sE A (d+1))(I:cV X.V W U s.heap)(r:cN X.V W us vs)(ha:tH F vs=aa vs')
  (h:∀s1,ta X W ns fd.scope.names (callEnvC fd s.heap.objs.size a) (sx F.wi vs') s1.heap->(∀b,oI (callEnvC fd s.heap.objs.size a) b->s.heap.get? b=ag)->cQ X.V W s W U s1->
    wpAny (model X.prog X.w) (A.deeper (callEnvC fd s.heap.objs.size a)) (jN body (callEnvC fd s.heap.objs.size a)) (λf s'=>R (.ok (.ret (match f with| .ret v=>v|_=>.none))) s') ci s1):
  codeAny (model X.prog X.w) A (.call (.ref a) ⟨us,[]⟩) R s:=by
 have ep:(ns.take F.kU).length=F.kU:=eK.trans (fX (f.len▸f.kU))
 have hds:=f.XH.length
 have hus:=r.length
 refine codeAny_call_function hr.deep (I.top _ _ f.ho) f.hd f.co f.gen f.hb (Cu f.code λc oc cvs t k1 k2 k3 k4=>Ex c oc cvs t ⟨k1,I.top _ _ k2,k3,k4⟩) (n6 ha (λhq e=>R5 e λe=>?_) λu=>nn)
 subst e
 have q1:us.length<=(ns.take F.kU).length:=by
  refine ak ep (ak hus ?_)
  exact ar (aB hq).1
 have q2:(ns.take F.kU).length-us.length<=ds.length:=by
  refine ak ep (ak hus (ak hds ?_))
  exact ar (aB hq).2
 have hl:(us++ds.drop (ds.length-((ns.take F.kU).length-us.length))).length=(ns.take F.kU).length:=aj.trans ((congrArg (us.length+ ·) fA).trans (Yu q1 q2))
 refine CO (ds:=ds) f.p1 f.p2 f.p3 f.p4 f.p5 (f.dv.imp id λq=>Cu q λT o items n e hT hd he=>Ex T o items n ⟨e,I.top _ _ hT,hd,he⟩) q1 q2 (by refine ak ep (ak hds ?_);exact f.dl) (f.nd.sublist (uj _ _)) ?_
 refine ak f.Yw ?_
 refine wpAny_newFunctionEnv_cells f.kind (λx hx=>NR (f.par _ (zU hl▸bM (f:=(·.1)) hx)) (λe=>.inl ((my _ _).trans e)) λe=>.inr ⟨(my _ _).trans e,ee (lh (n:=s.heap.objs.size+1) (acc:=[]) (jJ e)) λc hc=>ee (nY hc) λc' hc'=>hc'▸ae⟩) λenv he s1 x=>?_
 subst he
 have rv:cN X.V W (us++ds.drop (ds.length-((ns.take F.kU).length-us.length))) (vs++F.dflt.drop (F.dflt.length-(F.kU-vs.length))):=by
  refine ak hds (ak ep (ak hus ?_))
  exact r.append ((f.XH.based I).drop _)
 exact⟨(N.lim _ I.top).keeps x.toInCall.keep,codeAny_func (fm (h s1 (ta.enter f I rv hl x) (λb hb=>hb.elim (λe=>e▸bJ _) λe=>ee e λy hy=>iI (cZ (x.above y b (jL hy)))) (L0 x.toInCall.same λh' tk e=>by
  have k:=x.toInCall.keep
  subst e
  exact cQ.kept I k)))⟩
theorem Rd(h:Pg fl=aa m)(fk:Sa V W fl fo):Rv V W (match(generalizing:=false) fo with| .ret v=>v|_=>.none) m:=by
 induction fl using Fl.casesOn with
 |n=>exact gA h ((show fo= .next from fk)▸.none)
 |b=>exact nn h
 |r v=>exact gA h (aV fk λu e r=>e▸r)
noncomputable def IB(X:Cx)(W:Wd)(s:Shared)(m:MV)(U':bN)(fr:Bool):Result->Shared->Prop:=vz λv s'=>b7 X.V W s m U' v s'/\(fr=ah->G8 X.V W s m U' v s')
theorem Mj(Y:X.Good)(HE:∀e,SB X e)(N:RO X P)(f:CC X F a o fd ns body ds)(hfr:fr=ah->mr F.body=ah)(hr:sE A (X.d+1))(I:cV X.V W U s.heap)(r:cN X.V W us vs)
  (h:vb X.C X.M X.G F vs U=aa (m,U')):codeAny (model X.prog X.w) A (.call (.ref a) ⟨us,[]⟩) (IB X W s m U' fr) s:=
 gz h λvs' ha h=>R4 h λfl l1 U1 he h=>gz h λm1 hm h=>BI (P:=λm U'=>codeAny (model X.prog X.w) A (.call (.ref a) ⟨us,[]⟩) (IB X W s m U' fr) s) h λm hf hb=>IS N f hr I r ha λs1 F1 own t1=>by
  have z:At X 8 ns fd.scope.names (A.deeper (callEnvC fd s.heap.objs.size a)) (callEnvC fd s.heap.objs.size a) W s1 (sx F.wi vs') U:=⟨hr.inn _,F1,t1.I⟩
  have hn:=I.cells.length
  induction fr using aY with
  |false=>exact aI (wM Y HE F.body f.V5 z he) λfo s2 a2=>aV a2 λW2 b2 b3=>have t:=b2.t.into t1 own;⟨_,ae,⟨W2.drop U.length s2.heap,Qs t.I (Rd hm b3) hf,t.drop hn hb⟩,λq=>ft q⟩
  |true=>
    refine aI (Dh Y HE (hfr ae) f.V5 z he) λfo s2 a2=>Vt a2 λW2 b as bs es k b2 e u n2 e2 ho rr zz=>?_
    have t:=b2.t.into t1 own
    have e2:fl= .r (.D as bs):=e2
    subst e2
    subst e
    have em:=oi hm
    subst em
    have nb:s.heap.get? b=ag:=eE t1.p.live n2
    refine aV (MN t.I rr hf) λbs' em rr'=>?_
    subst em
    exact⟨_,ae,we (mu:=ac) (t.drop hn hb) u.drop nb ho (.inl rr') zz ae,λv=>rg _ b b ⟨ae,t.drop hn hb,⟨u.drop,u.drop⟩,⟨nb,nb⟩,⟨⟨_,ho⟩,_,ho⟩,gu es k ⟨ho,.inl rr',zz⟩⟩⟩
theorem jW.zero:jW (X.lvl P 0):=λh=>nn h
theorem D4(h:vb C M G F vs []=aa (m,U')):U'=[]:=gz h λu u h=>R4 h λu u u u h=>gz h λu u h=>BI (P:=λu U'=>U'=[]) h λu u u=>qL
theorem jW.succ(Y:X.Good)(N:RO X P)(hz:FK (X.lvl P d))(ih:jW (X.lvl P d)):jW (X.lvl P (d+1)):=@λf vs U m U' h A W s us hr I r=>by
 have Yd:(X.lvl P d).Good:=Y.lvl P d
 have HE:=jT Yd ih hz
 have Nd:RO (X.lvl P d) P:=⟨λf F e=>Vs (N.at_ f F e) λa o fd ns body ds h1 h2=>VJ a o fd ns body ds ⟨h1,h2.lvl P d⟩,N.fresh,N.lim⟩
 refine gz (o:=P f) h λF hF h=>Vs (Nd.at_ f F hF) λa o fd ns body ds hfv fa=>?_
 have done:∀{W0:Wd} {U0 τ:bN},cV X.V W0 U0 s.heap->cN X.V W0 us vs->vb (CH P X.M X.G d) X.M X.G F vs U0=aa (m,τ)->codeAny (model X.prog X.w) A (.call (.ref a) ⟨us,[]⟩) (IB X W0 s m τ (cv f X.T.fresh)) s:=λI0 r0 Ds=>Mj (X:=X.lvl P d) Yd HE Nd fa (N.fresh f F hF) hr I0 r0 Ds
 show codeAny (model X.prog X.w) A (.call (X.fv f) ⟨us,[]⟩) _ s
 refine ak (show X.fv f= .ref a from hfv) ?_
 refine n6 h (λhp h=>zj h λp Ds e=>Un (congrArg aa e) λem es=>?_) λu h=>done I r h
 subst em
 subst es
 have ht:p.2=[]:=D4 Ds
 exact hX (done (W0:=⟨W.K,[]⟩) (τ:=p.2) I.bare (r.gen .pur hp) Ds) λr s2 z=>aV z λv e z=>⟨v,e,TW I (ht▸z.1),λq=>TX I (ht▸z.2 q)⟩
end
section
variable{prog:Program}{w:World}{A:Around}{E:Value->Shared->Prop}{s:Shared}
theorem me{items:Array Value}{Q:Value->Shared->Prop}(hit:s.heap.IsTupleIter it t i)
  (ht:s.heap.IsTuple t items) (hx:items[i]?=aa x)
  (hQ:∀h',h'.IsTupleIter it t (i+1)->j5 it s.heap h'->Q x {s with heap:=h'}):
  wpAny (model prog w) A (b0 (.ref it)) Q E s:=by
 refine jl (id hit) λo ho hc hd=>?_
 obtain⟨ol,hol,_,nl,hdl⟩:=ht
 unfold b0
 refine ai (fg (name:=aJ "__next__") hit.typeIs fD
  (dZ fD hit.typeIs l0 ?_ (lG _)))
 show wpAny _ _ (field (.ref it) 0>>=_) _ _ s
 refine ai (cA ho hd (x:=.ref t) ae ?_)
 show wpAny _ _ (if(di t==iJ)=ah then _ else _) _ _ s
 refine ak (if_neg (show¬((di t==iJ)=ah) from cY)) ?_
 show wpAny _ _ (field (.ref it) 1>>=_) _ _ s
 refine ai (cA ho hd (x:=.int i 0) ae ?_)
 show wpAny _ _ (seqItems? (.ref t)>>=_) _ _ s
 refine ai (db hol hdl ?_)
 simp only[jY,hx]
 refine ai (wpAny_setField ho hd (by simp) (aw ⟨x,ae,aw (hQ _ ?_ (jf ..))⟩))
 exact⟨_,eI _ ho (Obj.isFreed_of_fields (tz hd _)),(Obj.cls_mapFields ..).trans hc,by
  rw[tz hd];simp[rawInt]⟩
theorem w4{items:Array Value}(hh:A.handled=ag)
  (hit:s.heap.IsTupleIter it t i) (ht:s.heap.IsTuple t items) (hx:items[i]?=ag)
  (hE:∀h' e,Heap.ExtBut it s.heap h'->(∃o,h'.get? e=aa o/\o.cls= .type "StopIteration")->E (.ref e) {s with heap:=h'}):
  wpAny (model prog w) A (b0 (.ref it)) Q E s:=by
 refine jl (id hit) λo ho hc hd=>?_
 obtain⟨ol,hol,_,nl,hdl⟩:=ht
 unfold b0
 refine ai (fg (name:=aJ "__next__") hit.typeIs fD
  (dZ fD hit.typeIs l0 ?_ (lG _)))
 show wpAny _ _ (field (.ref it) 0>>=_) _ _ s
 refine ai (cA ho hd (x:=.ref t) ae ?_)
 show wpAny _ _ (if(di t==iJ)=ah then _ else _) _ _ s
 refine ak (if_neg (show¬((di t==iJ)=ah) from cY)) ?_
 show wpAny _ _ (field (.ref it) 1>>=_) _ _ s
 refine ai (cA ho hd (x:=.int i 0) ae ?_)
 show wpAny _ _ (seqItems? (.ref t)>>=_) _ _ s
 refine ai (db hol hdl ?_)
 simp only[jY,hx]
 refine ai (dU (ai (wpAny_setField ho hd (by simp) ?_)))
 show wpAny _ _ (newExc (.type "StopIteration") []>>=_) _ _ _
 refine ai ?_
 simp only[newExc,newTuple]
 refine ai (ct ?_ (by size_fits))
 refine ai (m:=mJ _ _) (bH (a:=iJ) (by first|rfl|(simp only[mJ];rfl)) ?_)
 refine ct ?_ (by size_fits)
 simp only[raiseNew]
 refine ai (wpAny_handled ?_)
 first|refine ak (show A.in1.handled=ag from hh) ?_|rw[hh]
 exact ai (aw (wJ (hE _ _ (((jf ..).extBut.push _).push _) ⟨_,aL _ ae,ae⟩)))
noncomputable abbrev nS(h:Heap)(z TI TO:Addr)(f0 f1:Value):Prop:=
 h.get? z=aa {cls:=.type "zip",dict:=ag,data:=.fields #[f0,f1,.bool ac,.ref TI,.ref TO],slots:= #[]}
structure ID(t1 t2 i1 i2 TI TO z S:Addr):Prop where
 o1:t1<i1
 o2:t2<i1
 o3:i1<i2
 o4:i2<TI
 o5:TI<TO
 o6:TO<z
 o7:z<S
structure Oo(h:Heap)(t1 t2 i1 i2 TI TO z S:Addr)(xs ys:Array Value)(i:Nat):Prop where
 own:(nS h z TI TO .none (.bool ac))\/ ∃(T:Addr) (o:Obj) (f:Bool),nS h z TI TO (rawInt T) (.bool f)/\h.get? T=aa o/\S<T
 TI:IsPair h TI (.ref i1) (.ref i2)
 TO:∃a b,IsPair h TO a b
 TM:h.IsTupleIter i1 t1 i
 L5:h.IsTupleIter i2 t2 i
 t1:h.IsTuple t1 xs
 t2:h.IsTuple t2 ys
theorem IsTupleIter.at{h h':Heap}(x:h.IsTupleIter a t i)(hs:∀o,h.get? a=aa o->h'.get? a=aa o):h'.IsTupleIter a t i:=
 let⟨o,ho,r⟩:=x;⟨o,hs o ho,r⟩
theorem IsTuple.at{h h':Heap}(x:h.IsTuple a xs)(hs:∀o,h.get? a=aa o->h'.get? a=aa o):h'.IsTuple a xs:=
 let⟨o,ho,r⟩:=x;⟨o,hs o ho,r⟩
theorem Oo.keep{t1 t2 i1 i2 TI TO z S:Addr}{xs ys:Array Value}{i:Nat}(O:ID t1 t2 i1 i2 TI TO z S)(x:Oo h t1 t2 i1 i2 TI TO z S xs ys i)(k:∀b o,b≠S->h.get? b=aa o->h'.get? b=aa o):Oo h' t1 t2 i1 i2 TI TO z S xs ys i:=by
 obtain⟨o1,o2,o3,o4,o5,o6,o7⟩:=O
 have ne:∀{a:Nat},a<S->a≠S:=λh=>gZ h
 have l6:=aH o6 o7
 have l5:=aH o5 l6
 have l4:=aH o4 l5
 have l3:=aH o3 l4
 refine L0 x.TO λa b hTO=>?_
 refine⟨?_,k _ _ (ne l5) x.TI,gu a b (k _ _ (ne l6) hTO),IsTupleIter.at x.TM λo e=>k _ o (ne l3) e,IsTupleIter.at x.L5 λo e=>k _ o (ne l4) e,
  IsTuple.at x.t1 λo e=>k _ o (ne (aH o1 l3)) e,IsTuple.at x.t2 λo e=>k _ o (ne (aH o2 l3)) e⟩
 rcases x.own with e|⟨T,o,f,e,eT,hT⟩
 ·exact .inl (k _ _ (ne o7) e)
 ·exact .inr (rg T o f ⟨k _ _ (ne o7) e,k _ _ (eP hT) eT,hT⟩)
theorem Et{T:Addr}{f:Bool}{Q:Bool->Shared->Prop}(hz:nS s.heap z TI TO (rawInt T) (.bool f))(hoT:s.heap.get? T=aa oT)
  (hQ:∀h₁,nS h₁ z TI TO (rawInt T) (.bool ah)->j5 z s.heap h₁->Q ac {s with heap:=h₁}):wpAny (model prog w) A (ck (.ref z)) Q E s:=by
 unfold ck
 refine ai (cA hz ae (x:=rawInt T) ae ?_)
 show wpAny _ _ (loadIfAlive ((T:Int).toNat)>>=_) _ _ _
 refine ak (jY ..) ?_
 refine ai (kdx_alive hoT ?_)
 simp only[Option.isNone_some,gU,if_false]
 refine ai (cA hz ae (x:=.bool f) ae ?_)
 induction f using aY with
 |true=>
  refine ak (if_neg (show¬((tB ah !=tB ah)=ah) from cY)) ?_
  exact aw (hQ _ hz (Heap.SameBut.refl _ _))
 |false=>
  refine ak (if_pos (show(tB ac !=tB ah)=ah from ae)) ?_
  refine ai (fG hz (by simp) λh₁ hz₁ hs₁=>aw (hQ _ hz₁ hs₁))
theorem FF(O:ID t1 t2 i1 i2 TI TO z S)(st:Oo s.heap t1 t2 i1 i2 TI TO z S xs ys i)
  (hS:S<s.heap.objs.size) (hx:xs[i]?=aa x) (hy:ys[i]?=aa y)
  (hQ:∀h',Oo h' t1 t2 i1 i2 TI TO z S xs ys (i+1)->IsPair h' s.heap.objs.size x y->h'.objs.size=s.heap.objs.size+1->
    (∀c o,c≠z->c≠TO->c≠i1->c≠i2->s.heap.get? c=aa o->h'.get? c=aa o)->Q (aa (.ref s.heap.objs.size)) {s with heap:=h'}):
  wpAny (model prog w) A (pyNext (.ref z)) Q E s:=by
 obtain⟨o1,o2,o3,o4,o5,o6,o7⟩:=O
 have ne:∀{a b:Nat},a<b->a≠b:=λh=>gZ h
 have a16:=aH o3 (aH o4 (aH o5 o6))
 have a26:=aH o4 (aH o5 o6)
 have aI6:=aH o5 o6
 have a15:=aH o3 (aH o4 o5)
 have a25:=aH o4 o5
 have aI1:=aH o3 o4
 have t1z:=aH o1 a16
 have t2z:=aH o2 a16
 have t1O:=aH o1 a15
 have t2O:=aH o2 a15
 have t1i2:=aH o1 o3
 have t2i2:=aH o2 o3
 obtain⟨own,hTI,⟨a,b,hTO⟩,h1,h2,hl1,hl2⟩:=st
 have hT:s.TypeIs (.ref z) "zip":=by rcases own with e|⟨_,_,_,e,_⟩<;>exact⟨_,e,ae⟩
 unfold pyNext
 refine ai (sN (fg (name:=aJ "__next__") hT iS
  (dZ iS hT F.entry_zip_next ?_ (uq _))))
 rcases own with hz|⟨T,oT,f,hz,hoT,hST⟩
 ·show wpAny _ _ (field (.ref z) 2>>=_) _ _ _
  refine ai (cA hz ae (x:=.bool ac) ae ?_)
  refine ai (cA hz ae (x:=.ref TI) ae ?_)
  refine ai (db hTI ae ?_)
  show wpAny _ _ (ck (.ref z)>>=_) _ _ _
  refine ai ?_
  unfold ck
  refine ai (cA hz ae (x:=.none) ae (aw ?_))
  simp only[if_true]
  refine ai (dU ?_)
  refine ai (cA hz ae (x:=.ref TO) ae ?_)
  refine ai (fG hz (by simp) λh₁ hz₁ hs₁=>?_)
  replace hz₁:nS h₁ z TI TO .ellipsis (.bool ac):=hz₁
  refine ai ?_
  simp only[oQ,xj,eG,mD]
  refine ai (ai (sP ?_))
  show wpAny _ _ (b0 (.ref i1)>>=_) _ _ _
  refine ai (me (h1.extBut hs₁.extBut (ne a16)) (hl1.extBut hs₁.extBut (ne t1z)) hx λh₂ h1₂ hs₂=>aw ?_)
  have hTO₂:IsPair h₂ TO a b:=hs₂.extBut _ _ (ne a15).symm (hs₁.extBut _ _ (ne o6) hTO)
  refine ai (db hTO₂ ae ?_)
  refine ai (qY hTO₂ λh₃ hTO₃ hs₃=>?_)
  replace hTO₃:IsPair h₃ TO x b:=hTO₃
  refine ai (wH (aw ?_))
  refine ai (ai (sP ?_))
  show wpAny _ _ (b0 (.ref i2)>>=_) _ _ _
  refine ai (me (((h2.extBut hs₁.extBut (ne a26)).extBut hs₂.extBut (ne o3).symm).extBut hs₃.extBut (ne a25))
   (((hl2.extBut hs₁.extBut (ne t2z)).extBut hs₂.extBut (ne o2)).extBut hs₃.extBut (ne t2O)) hy λh₄ h2₄ hs₄=>aw ?_)
  have hTO₄:IsPair h₄ TO x b:=hs₄.extBut _ _ (ne a25).symm hTO₃
  refine ai (db hTO₄ ae ?_)
  refine ai (qY hTO₄ λh₅ hTO₅ hs₅=>?_)
  replace hTO₅:IsPair h₅ TO x y:=hTO₅
  refine ai (wH (aw (aw ?_)))
  refine ai (db hTO₅ ae ?_)
  refine ai (wpAny_newTuple ?_)
  have hsz:h₅.objs.size=s.heap.objs.size:=by exact ak hs₅.1 (ak hs₄.1 (ak hs₃.1 (ak hs₂.1 (ak hs₁.1 ae))))
  have hz₅:nS h₅ z TI TO .ellipsis (.bool ac):=hs₅.extBut _ _ (ne o6).symm (hs₄.extBut _ _ (ne a26).symm (hs₃.extBut _ _ (ne o6).symm (hs₂.extBut _ _ (ne a16).symm hz₁)))
  have hk₅:∀c o,c≠z->c≠TO->c≠i1->c≠i2->s.heap.get? c=aa o->h₅.get? c=aa o:=λc o c1 c2 c3 c4 e=>
   hs₅.extBut _ _ c2 (hs₄.extBut _ _ c4 (hs₃.extBut _ _ c2 (hs₂.extBut _ _ c3 (hs₁.extBut _ _ c1 e))))
  have h1₅:h₅.IsTupleIter i1 t1 (i+1):=((h1₂.extBut hs₃.extBut (ne a15)).extBut hs₄.extBut (ne o3)).extBut hs₅.extBut (ne a15)
  have h2₅:h₅.IsTupleIter i2 t2 (i+1):=h2₄.extBut hs₅.extBut (ne a25)
  have hzlt:z<h₅.objs.size:=eU hz₅
  show wpAny _ _ (je (.ref z) (.ref h₅.objs.size)>>=_) _ _ _
  refine ai ?_
  unfold je
  have hz₆:nS (h₅.push {cls:=.type "tuple",data:=.seq #[x,y]}) z TI TO .ellipsis (.bool ac):=aF _ hz₅
  refine ai (fG hz₆ (by simp) λh₇ hz₇ hs₇=>?_)
  replace hz₇:nS h₇ z TI TO (rawInt h₅.objs.size) (.bool ac):=hz₇
  refine fG hz₇ (by simp) λh₈ hz₈ hs₈=>?_
  replace hz₈:nS h₈ z TI TO (rawInt h₅.objs.size) (.bool ac):=hz₈
  have up:∀c o,c≠z->h₅.get? c=aa o->h₈.get? c=aa o:=λc o c1 e=>hs₈.extBut _ _ c1 (hs₇.extBut _ _ c1 (aF _ e))
  have hT₈:IsPair h₈ h₅.objs.size x y:=hs₈.extBut _ _ (eP hzlt) (hs₇.extBut _ _ (eP hzlt) (aL _ ae))
  have hz8:h₈.objs.size=h₅.objs.size+1:=by exact ak hs₈.1 (ak hs₇.1 (ak (eW ..) ae))
  rw[hsz]at hz₈ hT₈ hz8
  refine aw ⟨_,ae,?_⟩
  refine aw ?_
  show Q (aa (.ref h₅.objs.size)) _
  refine ak hsz ?_
  have up':∀c o,c≠z->c≠TO->c≠i1->c≠i2->s.heap.get? c=aa o->h₈.get? c=aa o:=λc o c1 c2 c3 c4 e=>up c o c1 (hk₅ c o c1 c2 c3 c4 e)
  exact hQ h₈ ⟨.inr (rg _ _ _ ⟨hz₈,hT₈,hS⟩),up' _ _ (ne aI6) (ne o5) (ne aI1).symm (ne o4).symm hTI,gu _ _ (up _ _ (ne o6) hTO₅),IsTupleIter.at h1₅ λo e=>up _ o (ne a16) e,IsTupleIter.at h2₅ λo e=>up _ o (ne a26) e,
   IsTuple.at hl1 λo e=>up' _ o (ne t1z) (ne t1O) (ne o1) (ne t1i2) e,IsTuple.at hl2 λo e=>up' _ o (ne t2z) (ne t2O) (ne o2) (ne t2i2) e⟩ hT₈ hz8 up'
 ·show wpAny _ _ (field (.ref z) 2>>=_) _ _ _
  refine ai (cA hz ae (x:=.bool ac) ae ?_)
  show wpAny _ _ (field (.ref z) 3>>=_) _ _ _
  refine ai (cA hz ae (x:=.ref TI) ae ?_)
  refine ai (db hTI ae ?_)
  refine ai (Et hz hoT λh₁ hz₁ hs₁=>?_)
  simp only[gU,if_false,tm,eG,mD]
  have up₁:∀c o,c≠z->s.heap.get? c=aa o->h₁.get? c=aa o:=λc o c1 e=>hs₁.extBut _ _ c1 e
  refine ai (ai (ai (cb ?_)))
  show wpAny _ _ (b0 (.ref i1)>>=_) _ _ _
  refine ai (me (IsTupleIter.at h1 λo e=>up₁ _ o (ne a16) e) (IsTuple.at hl1 λo e=>up₁ _ o (ne t1z) e) hx λh₂ h1₂ hs₂=>aw ?_)
  have up₂:∀c o,c≠z->c≠i1->s.heap.get? c=aa o->h₂.get? c=aa o:=λc o c1 c2 e=>hs₂.extBut _ _ c2 (up₁ c o c1 e)
  refine aw ?_
  refine ai (ai (cb ?_))
  show wpAny _ _ (b0 (.ref i2)>>=_) _ _ _
  refine ai (me (IsTupleIter.at h2 λo e=>up₂ _ o (ne a26) (ne o3).symm e) (IsTuple.at hl2 λo e=>up₂ _ o (ne t2z) (ne o2) e) hy λh₃ h2₃ hs₃=>aw ?_)
  have up₃:∀c o,c≠z->c≠i1->c≠i2->s.heap.get? c=aa o->h₃.get? c=aa o:=λc o c1 c2 c3 e=>hs₃.extBut _ _ c3 (up₂ c o c1 c2 e)
  refine aw (aw ?_)
  refine ai ?_
  show wpAny _ _ (newTuple [x,y]) _ _ _
  refine wpAny_newTuple ?_
  refine aw ⟨_,ae,aw ?_⟩
  have hsz:h₃.objs.size=s.heap.objs.size:=by exact ak hs₃.1 (ak hs₂.1 (ak hs₁.1 ae))
  have pk:∀c o,h₃.get? c=aa o->(h₃.push {cls:=.type "tuple",data:=.seq #[x,y]}).get? c=aa o:=λc o e=>aF _ e
  have hT₄:IsPair (h₃.push {cls:=.type "tuple",data:=.seq #[x,y]}) h₃.objs.size x y:=aL _ ae
  show Q (aa (.ref h₃.objs.size)) _
  rw[hsz]at hT₄⊢
  have up':∀c o,c≠z->c≠TO->c≠i1->c≠i2->s.heap.get? c=aa o->(h₃.push {cls:=.type "tuple",data:=.seq #[x,y]}).get? c=aa o:=λc o c1 c2 c3 c4 e=>pk _ _ (up₃ c o c1 c3 c4 e)
  refine hQ _ ⟨.inr (rg T oT ah ⟨pk _ _ (hs₃.extBut _ _ (ne a26).symm (hs₂.extBut _ _ (ne a16).symm hz₁)),up' _ _ (ne (aH o7 hST)).symm (ne (aH o6 (aH o7 hST))).symm (ne (aH a16 (aH o7 hST))).symm (ne (aH a26 (aH o7 hST))).symm hoT,hST⟩),
   up' _ _ (ne aI6) (ne o5) (ne aI1).symm (ne o4).symm hTI,gu a b (pk _ _ (up₃ _ _ (ne o6) (ne a15).symm (ne a25).symm hTO)),IsTupleIter.at h1₂ λo e=>pk _ _ (hs₃.extBut _ _ (ne o3) e),IsTupleIter.at h2₃ λo e=>pk _ _ e,
   IsTuple.at hl1 λo e=>up' _ o (ne t1z) (ne t1O) (ne o1) (ne t1i2) e,IsTuple.at hl2 λo e=>up' _ o (ne t2z) (ne t2O) (ne o2) (ne t2i2) e⟩ hT₄ ?_ up'
  exact ak (eW ..) (ak hsz ae)
theorem Io(hh:A.handled=ag)(O:ID t1 t2 i1 i2 TI TO z S)(st:Oo s.heap t1 t2 i1 i2 TI TO z S xs ys i)
  (hx:xs[i]?=ag) (hQ:∀h',(∀c o,c≠z->c≠TO->c≠i1->c≠i2->s.heap.get? c=aa o->h'.get? c=aa o)->Q ag {s with heap:=h'}):
  wpAny (model prog w) A (pyNext (.ref z)) Q E s:=by
 obtain⟨o1,o2,o3,o4,o5,o6,o7⟩:=O
 have ne:∀{a b:Nat},a<b->a≠b:=λh=>gZ h
 have a16:=aH o3 (aH o4 (aH o5 o6))
 have t1z:=aH o1 a16
 obtain⟨own,hTI,⟨a,b,hTO⟩,h1,h2,hl1,hl2⟩:=st
 have hT:s.TypeIs (.ref z) "zip":=by rcases own with e|⟨_,_,_,e,_⟩<;>exact⟨_,e,ae⟩
 have tl:∀(h':Heap) (e:Addr) (E':Value->Shared->Prop),(∀c o,c≠z->c≠TO->c≠i1->c≠i2->s.heap.get? c=aa o->h'.get? c=aa o)->(∃o,h'.get? e=aa o/\o.cls= .type "StopIteration")->
   wpAny (model prog w) A (do if<-isInstance (.ref e) (.type "StopIteration")then pure ag else throw (.ref e)) Q E' {s with heap:=h'}:=by
  intro h' e E' hk he
  refine aV he λo ho hc=>?_
  refine ai (wpAny_isInstance (T:="StopIteration") (b:=ah) ⟨o,ho,hc⟩ isSubtype_stop ?_)
  exact aw (hQ _ hk)
 unfold pyNext
 refine ai (sN (fg (name:=aJ "__next__") hT iS
  (dZ iS hT F.entry_zip_next ?_ (uq _))))
 rcases own with hz|⟨T,oT,f,hz,hoT,hST⟩
 ·show wpAny _ _ (field (.ref z) 2>>=_) _ _ _
  refine ai (cA hz ae (x:=.bool ac) ae ?_)
  show wpAny _ _ (field (.ref z) 3>>=_) _ _ _
  refine ai (cA hz ae (x:=.ref TI) ae ?_)
  refine ai (db hTI ae ?_)
  show wpAny _ _ (ck (.ref z)>>=_) _ _ _
  refine ai ?_
  unfold ck
  refine ai (cA hz ae (x:=.none) ae (aw ?_))
  simp only[if_true]
  refine ai (dU ?_)
  refine ai (cA hz ae (x:=.ref TO) ae ?_)
  refine ai (fG hz (by simp) λh₁ hz₁ hs₁=>?_)
  replace hz₁:nS h₁ z TI TO .ellipsis (.bool ac):=hz₁
  refine ai ?_
  simp only[oQ,xj,eG,mD]
  refine ai (ai (sP ?_))
  show wpAny _ _ (b0 (.ref i1)>>=_) _ _ _
  refine ai (w4 hh (h1.extBut hs₁.extBut (ne a16)) (hl1.extBut hs₁.extBut (ne t1z)) hx λh₂ e hs₂ he=>?_)
  refine aV he λoe hoe hce=>?_
  have hz₂:nS h₂ z TI TO .ellipsis (.bool ac):=hs₂ _ _ (ne a16).symm hz₁
  have hez:e≠z:=λx=>by subst x;rw[hz₂]at hoe;(refine R5 hoe ?_;clear hoe;intro p;subst p);simp at hce
  exact fG hz₂ (by simp) λh₃ u hs₃=>tl h₃ e _ (λc o c1 u c3 u x=>hs₃.extBut _ _ c1 (hs₂ _ _ c3 (hs₁.extBut _ _ c1 x))) ⟨oe,hs₃.extBut _ _ hez hoe,hce⟩
 ·show wpAny _ _ (field (.ref z) 2>>=_) _ _ _
  refine ai (cA hz ae (x:=.bool ac) ae ?_)
  show wpAny _ _ (field (.ref z) 3>>=_) _ _ _
  refine ai (cA hz ae (x:=.ref TI) ae ?_)
  refine ai (db hTI ae ?_)
  refine ai (Et hz hoT λh₁ hz₁ hs₁=>?_)
  simp only[gU,if_false,tm,eG,mD]
  refine ai (ai (ai (cb ?_)))
  show wpAny _ _ (b0 (.ref i1)>>=_) _ _ _
  refine ai (w4 hh (h1.extBut hs₁.extBut (ne a16)) (hl1.extBut hs₁.extBut (ne t1z)) hx λh₂ e hs₂ he=>?_)
  exact tl h₂ e _ (λc o c1 u c3 u x=>hs₂ _ _ c3 (hs₁.extBut _ _ c1 x)) he
end
structure He(xs ys:Array Value)(lo:Addr)(h:Heap)(as:List Addr):Prop where
 rise:as.Pairwise (· < ·)
 above:∀a∈as,lo<a
 pairs:∀(j:Nat) (a:Addr),as[j]?=aa a->∃x y,xs[j]?=aa x/\ys[j]?=aa y/\IsPair h a x y
theorem He.there{ys:Array Value}{lo:Addr}{h:Heap}{as:List Addr}(g:He xs ys lo h as){a:Addr}(ha:a∈as):a<h.objs.size:=by
 refine ee (qz.mp ha) λj hj=>?_
 refine fI (g.pairs j a hj) λu u u u e=>?_
 exact eU e
section
theorem Vu{prog:Program}{w:World}{A:Around}{s:Shared}{R:Result->Shared->Prop}{t2 i1 i2 TI TO z S:Addr}{xs ys:Array Value}(hh:A.handled=ag)(O:ID t1 t2 i1 i2 TI TO z S)(hxy:xs.size=ys.size)(hn:xs.size<=sizeLine)(res:Value){h₁:Heap}
  (hR:∀h' acc c as,(∀b o,b≠S->b≠z->b≠TO->b≠i1->b≠i2->h₁.get? b=aa o->h'.get? b=aa o)->h'.get? S=aa {cls:=.type "list",dict:=ag,data:=.seq acc c,slots:= #[]}->as.length=xs.size->He xs ys S h' as->
    acc.toList=as.map di->R (.ok (.ret res)) {s with heap:=h'}):
  ∀(k i:Nat) (h:Heap) (c:Nat) (acc:Array Value) (as:List Addr),xs.size-i=k->i<=xs.size->Oo h t1 t2 i1 i2 TI TO z S xs ys i->(∀b o,b≠S->b≠z->b≠TO->b≠i1->b≠i2->h₁.get? b=aa o->h.get? b=aa o)->
   h.get? S=aa {cls:=.type "list",dict:=ag,data:=.seq acc c,slots:= #[]}->acc.toList=as.map di->as.length=i->He xs ys S h as->
   codeAny (model prog w) A (.builtin "list.extend.loop" ⟨[.ref S,.ref z,res],[]⟩) R {s with heap:=h}:=by
 have ne:∀{a b:Nat},a<b->a≠b:=λh=>gZ h
 have zS:=O.o7
 have OS:=aH O.o6 zS
 have i2S:=aH O.o4 (aH O.o5 OS)
 have i1S:=aH O.o3 i2S
 intro k
 induction k with
 |zero=>
  intro i h c acc as hk hi hst hkeep hS hacc hal hG
  have hin:i=xs.size:=qi hi (Nat.le_of_sub_eq_zero hk)
  refine dP nw ?_
  refine ak (cJ fS _) ?_
  show wpAny _ A.in1 (pyNext (.ref z)>>=_) _ _ _
  refine ai (Io (s:={s with heap:=h}) (A:=A.in1) hh O hst (by refine ak hin ?_;exact Array.getElem?_eq_none (bj _)) λh' hk'=>?_)
  refine aw (hR h' acc c as (λb o h1 h2 h3 h4 h5 e=>hk' b o h2 h3 h4 h5 (hkeep b o h1 h2 h3 h4 h5 e)) (hk' S _ (ne zS).symm (ne OS).symm (ne i1S).symm (ne i2S).symm hS) (by exact ak hal (ak hin ae)) ⟨hG.rise,hG.above,λj a hj=>?_⟩ hacc)
  refine fI (hG.pairs j a hj) λx y e1 e2 e3=>?_
  have ha:=hG.above a (aT hj)
  exact gu x y ⟨e1,e2,hk' a _ (ne (aH zS ha)).symm (ne (aH OS ha)).symm (ne (aH i1S ha)).symm (ne (aH i2S ha)).symm e3⟩
 |succ k ih=>
  intro i h c acc as hk hi hst hkeep hS hacc hal hG
  have hlt:i<xs.size:=by lia
  have hlty:i<ys.size:=by lia
  have hsz:acc.size=i:=by exact ak (aZ bB) (ak hacc (ak (au ..) (ak hal ae)))
  have hSl:S<h.objs.size:=eU hS
  refine dP nw ?_
  refine ak (cJ fS _) ?_
  show wpAny _ A.in1 (pyNext (.ref z)>>=_) _ _ _
  refine ai (FF (s:={s with heap:=h}) O hst hSl (eH hlt) (eH hlty) λh' hst' ht hz hkp=>?_)
  dsimp only at ht hz hkp⊢
  have hS':=hkp S _ (ne zS).symm (ne OS).symm (ne i1S).symm (ne i2S).symm hS
  have up:∀b o,b≠S->h'.get? b=aa o->(h'.update S (mI (·.push (di h.objs.size)))).get? b=aa o:=λb o hb e=>(j6 _ _ (Bs hb)).trans e
  refine ai ?_
  refine ql hS' ae (aw ⟨jt fS _,ih (i+1) _ _ (acc.push (di h.objs.size)) (as++[h.objs.size]) (by lia) hlt (hst'.keep O up)
   (λb o h1 h2 h3 h4 h5 e=>up b o h1 (hkp b o h2 h3 h4 h5 (hkeep b o h1 h2 h3 h4 h5 e))) (eI _ hS' ae) (by refine ak jV (ak hacc (ak bS ?_));rfl) (by refine ak aj (ak hal ?_);rfl) ⟨?_,?_,?_⟩⟩) (by refine ak hsz ?_;exact ao ‹_› ‹_›) (by show(acc.push (di h.objs.size)).size<=sizeLine+1;refine ak (Array.size_push ..) (ak hsz ?_);lia)
  ·refine List.pairwise_append.mpr ⟨hG.rise,List.pairwise_singleton _ _,λa ha b hb=>?_⟩
   refine ak (bF.mp hb) ?_
   exact hG.there ha
  ·intro a ha
   rcases bT.mp ha with ha|ha
   ·exact hG.above a ha
   ·refine ak (bF.mp ha) ?_;exact hSl
  ·intro j b hj
   rcases um j as.length with h1|h1|h1
   ·rw[i5 h1]at hj
    refine fI (hG.pairs j b hj) λx y e1 e2 e3=>?_
    have hb:=hG.above b (aT hj)
    exact gu x y ⟨e1,e2,up b _ (eP hb) (hkp b _ (ne (aH zS hb)).symm (ne (aH OS hb)).symm (ne (aH i1S hb)).symm (ne (aH i2S hb)).symm e3)⟩
   ·subst h1
    have hb:h.objs.size=b:=by simpa using hj
    subst hb
    exact gu _ _ ⟨by refine ak hal ?_;exact eH hlt,by refine ak hal ?_;exact eH hlty,up _ _ (eP hSl) ht⟩
   ·have hnone:(as++[h.objs.size])[j]?=ag:=iu (by refine ak aj (ak aW ?_);assumption)
    rw[hnone]at hj;exact nn hj
end
theorem FG:fE (.type "zip") "__len__"=pure ag:=by refine ak (cc ..) (ak bw ?_);kernel_rfl
theorem Ev:fE (.type "zip") "__length_hint__"=pure ag:=by refine ak (cc ..) (ak bw ?_);kernel_rfl
section
theorem L2(hh:A.handled=ag)(hxy:xs.size=ys.size)(hn:xs.size<=sizeLine)
  (o1:t1<i1) (o2:t2<i1) (o3:i1<i2) (o4:i2<TI) (o5:TI<TO) (o6:TO<z) (hz:nS s.heap z TI TO .none (.bool ac)) (hTI:IsPair s.heap TI (.ref i1) (.ref i2)) (hTO:IsPair s.heap TO .none .none)
  (h1:s.heap.IsTupleIter i1 t1 0) (h2:s.heap.IsTupleIter i2 t2 0) (hl1:s.heap.IsTuple t1 xs) (hl2:s.heap.IsTuple t2 ys)
  (hQ:∀h' as,s.heap.objs.size<h'.objs.size->(∀b o,b≠z->b≠TO->b≠i1->b≠i2->s.heap.get? b=aa o->h'.get? b=aa o)->as.length=xs.size->He xs ys s.heap.objs.size h' as->Q (as.map di) {s with heap:=h'}):
  wpAny (model prog w) A (collect (.ref z)) Q E s:=by
 have hzl:z<s.heap.objs.size:=eU hz
 have O:ID t1 t2 i1 i2 TI TO z s.heap.objs.size:=⟨o1,o2,o3,o4,o5,o6,hzl⟩
 have pk:∀c o,s.heap.get? c=aa o->(s.heap.push {cls:=.type "list",data:=.seq ([]:List Value).toArray}).get? c=aa o:=λc o e=>aF _ e
 have hT:sJ {s with heap:=s.heap.push {cls:=.type "list",data:=.seq ([]:List Value).toArray}} (.ref z) "zip":=⟨_,pk _ _ hz,ae⟩
 refine ai (wpAny_runValue (dP lZ ?_))
 refine ak (cJ l8 _) ?_
 show wpAny _ A.in1 (newList []>>=λl=>again (.builtin "list.__iadd__" ⟨[l,.ref z],[]⟩)) _ _ s
 refine ai (ct ?_)
 refine aw ⟨jt gF _,dP oY ?_⟩
 refine ak (cJ gF _) ?_
 show wpAny _ A.in1 (lX (.ref s.heap.objs.size) (.ref z) (.ref s.heap.objs.size)) _ _ _
 unfold lX
 refine ai (eD hT ?_)
 have h1':oh (.ref s.heap.objs.size) (.ref z)=ac:=by simp[oh,eP hzl]
 have h2':(kN "zip"==kN "list")=ac:=by decide
 have h3':(kN "zip"==kN "tuple")=ac:=by decide
 simp only[h1',h2',h3',Bool.or_false,gU,if_false]
 refine ai (wpAny_pyIter_slot hT qC (dZ qC hT PySem.F.entry_zip_iter ?_ (PySem.F.args_zip_iter_1 _)))
 show wpAny _ _ (ret (.ref z)) _ _ _
 refine aw ⟨_,ae,gu ("zip") _ ⟨hT,iS.lookup,?_⟩⟩
 refine ai (cb ?_)
 unfold Builtin.List.listLengthHint
 refine ai (ig hT FG ?_)
 show wpAny _ A.in1 (specialOf (di z) (aJ "__length_hint__")>>=_) _ _ _
 refine ai (ig hT Ev ?_)
 refine aw ?_
 show wpAny _ A.in1 (rule "list.extend.makes-room">>=λu=>Builtin.List.listTouch (.ref s.heap.objs.size)>>=λu=>
  again (.builtin "list.extend.loop" ⟨[.ref s.heap.objs.size,.ref z,.ref s.heap.objs.size],[]⟩)) _ _ _
 refine ai (dU ?_)
 have hS₁:(s.heap.push {cls:=.type "list",data:=.seq ([]:List Value).toArray}).get? s.heap.objs.size=aa {cls:=.type "list",data:=.seq ([]:List Value).toArray}:=aL _ ae
 refine ai ?_
 show wpAny _ A.in1 (updateSeq s.heap.objs.size (·.push .none)>>=λu=>updateSeq s.heap.objs.size (·.pop)) _ _ _
 refine ai (ql hS₁ ae ?_)
 have hS₂:=eI (mI (·.push iJ)) hS₁ ae
 refine ql hS₂ ae ?_
 have hS₃:=eI (mI (·.pop)) hS₂ ae
 have oth:∀b o,b≠s.heap.objs.size->(s.heap.push {cls:=.type "list",data:=.seq ([]:List Value).toArray}).get? b=aa o->
   (((s.heap.push {cls:=.type "list",data:=.seq ([]:List Value).toArray}).update s.heap.objs.size (mI (·.push iJ))).update s.heap.objs.size (mI (·.pop))).get? b=aa o:=
  λb o hb e=>(j6 _ _ (Bs hb)).trans ((j6 _ _ (Bs hb)).trans e)
 have st0:Oo s.heap t1 t2 i1 i2 TI TO z s.heap.objs.size xs ys 0:=⟨.inl hz,hTI,gu _ _ hTO,h1,h2,hl1,hl2⟩
 refine aw ⟨jt fS _,Vu (A:=A) (s:=s) hh O hxy hn _ (h₁:=s.heap) (λh' acc c as hk hS' hal hG hacc=>?_) xs.size 0 _ _ _ [] (by lia) (bD _)
  (st0.keep O λb o hb e=>oth b o hb (pk b o e)) (λb o hb u u u u e=>oth b o hb (pk b o e)) hS₃ ae ae ⟨.nil,(λu h=>nomatch h),λj a h=>by simp at h⟩⟩
 show wpAny _ A (load s.heap.objs.size>>=_) _ _ _
 refine ai (tD hS' ?_)
 refine aw ?_
 show Q acc.toList _
 refine ak hacc ?_
 exact hQ h' as (eU hS') (λb o h1 h2 h3 h4 e=>hk b o (gZ (eU e)) h1 h2 h3 h4 e) hal hG
end
noncomputable abbrev N5(h:Heap)(l1:Addr):Heap:=h.push {cls:=.type "tuple_iterator",data:=.fields #[.ref l1,.int 0 0]}
noncomputable abbrev N6(h:Heap)(l1 l2:Addr):Heap:=(N5 h l1).push {cls:=.type "tuple_iterator",data:=.fields #[.ref l2,.int 0 0]}
noncomputable abbrev N7(h:Heap)(l1 l2:Addr):Heap:=(N6 h l1 l2).push {cls:=.type "tuple",data:=.seq #[.ref h.objs.size,.ref (N5 h l1).objs.size]}
noncomputable abbrev N8(h:Heap)(l1 l2:Addr):Heap:=(N7 h l1 l2).push {cls:=.type "tuple",data:=.seq #[.none,.none]}
noncomputable abbrev FA(h:Heap)(l1 l2:Addr):Heap:=(N8 h l1 l2).push {cls:=.type "zip",data:=.fields #[.none,.bool ac,.bool ac,.ref (N6 h l1 l2).objs.size,.ref (N7 h l1 l2).objs.size]}
theorem RB(l1 l2:Addr)(xs ys:Array Value):
  Meets (Builtin.«zip.__new__» ⟨[.type "zip",.ref l1,.ref l2],[]⟩) (λu R s=>s.heap.IsTuple l1 xs/\s.heap.IsTuple l2 ys/\
   R (.ok (.ret (.ref (N8 s.heap l1 l2).objs.size))) {s with heap:=FA s.heap l1 l2}):=
 .of_wp λprog w A R s h=>by
   obtain⟨hp,g,d,tk,os⟩:=s;refine vf h λhl1 hl2 h=>?_
   have hsub:=sub_zip
   have hL1:Heap.IsTuple (Shared.heap ⟨hp,g,d,tk,os⟩) l1 xs:=hl1
   have hL2:Heap.IsTuple (Shared.heap ⟨hp.push {cls:=.type "tuple_iterator",data:=.fields #[.ref l1,.int 0 0]},g,d,tk,os⟩) l2 ys:=Heap.IsTuple.push hl2 _
   wp_walk using mK hL1,mK hL2
   exact⟨_,ae,h⟩
section
theorem Hn(hl1:s.heap.IsTuple l1 xs)(hl2:s.heap.IsTuple l2 ys)
  (h:∀h',nS h' (s.heap.objs.size+4) (s.heap.objs.size+2) (s.heap.objs.size+3) .none (.bool ac)->IsPair h' (s.heap.objs.size+2) (.ref s.heap.objs.size) (.ref (s.heap.objs.size+1))->
    IsPair h' (s.heap.objs.size+3) .none .none->h'.IsTupleIter s.heap.objs.size l1 0->h'.IsTupleIter (s.heap.objs.size+1) l2 0->h'.objs.size=s.heap.objs.size+5->
    (∀c o,s.heap.get? c=aa o->h'.get? c=aa o)->Q (.ref (s.heap.objs.size+4)) {s with heap:=h'}):
  wpAny (model prog w) A (call (.type "zip") [.ref l1,.ref l2]) Q E s:=by
 refine callType_new PySem.F.called_zip (by decide) (PySem.F.typeCall_zip_2 _ _) (PySem.F.newCall_zip_2 _ _) (λobj=>PySem.F.args_object_init_3 obj _ _) PySem.F.entry_zip_new
  (RB l1 l2 xs ys) ⟨hl1,hl2,?_⟩
 have z1:(N5 s.heap l1).objs.size=s.heap.objs.size+1:=eW ..
 have z2:(N6 s.heap l1 l2).objs.size=s.heap.objs.size+2:=by rw[eW,z1]
 have z3:(N7 s.heap l1 l2).objs.size=s.heap.objs.size+3:=by rw[eW,z2]
 have z4:(N8 s.heap l1 l2).objs.size=s.heap.objs.size+4:=by rw[eW,z3]
 have z5:(FA s.heap l1 l2).objs.size=s.heap.objs.size+5:=by rw[eW,z4]
 have g5:(FA s.heap l1 l2).get? (N8 s.heap l1 l2).objs.size=aa _:=aL _ ae
 have g4:(FA s.heap l1 l2).get? (N7 s.heap l1 l2).objs.size=aa _:=aF _ (aL _ ae)
 have g3:(FA s.heap l1 l2).get? (N6 s.heap l1 l2).objs.size=aa _:=aF _ (aF _ (aL _ ae))
 have g2:(FA s.heap l1 l2).get? (N5 s.heap l1).objs.size=aa _:=aF _ (aF _ (aF _ (aL _ ae)))
 have g1:(FA s.heap l1 l2).get? s.heap.objs.size=aa _:=aF _ (aF _ (aF _ (aF _ (aL _ ae))))
 show _/\_
 rw[z2,z3,z4]at g5
 rw[z1,z2]at g3
 rw[z3]at g4
 rw[z1]at g2
 rw[z4]
 exact⟨⟨_,g5,ae⟩,h _ g5 g3 g4 ⟨_,g1,ae,ae⟩ ⟨_,g2,ae,ae⟩ z5 λc o x=>
  aF _ (aF _ (aF _ (aF _ (aF _ x))))⟩
theorem LM(hh:A.handled=ag)(hxy:xs.size=ys.size)(hn:xs.size<=sizeLine)
  (o1:t1<i1) (o2:t2<i1) (o3:i1<i2) (o4:i2<TI) (o5:TI<TO) (o6:TO<z) (hz:nS s.heap z TI TO .none (.bool ac)) (hTI:IsPair s.heap TI (.ref i1) (.ref i2)) (hTO:IsPair s.heap TO .none .none)
  (h1:s.heap.IsTupleIter i1 t1 0) (h2:s.heap.IsTupleIter i2 t2 0) (hl1:s.heap.IsTuple t1 xs) (hl2:s.heap.IsTuple t2 ys)
  (hQ:∀h' as,s.heap.objs.size<h'.objs.size->(∀b o,b≠z->b≠TO->b≠i1->b≠i2->s.heap.get? b=aa o->h'.get? b=aa o)->as.length=xs.size->He xs ys s.heap.objs.size h' as->
    Q (.ref h'.objs.size) {s with heap:=h'.push {cls:=.type "tuple",data:=.seq (as.map di).toArray}}):
  wpAny (model prog w) A (call (.type "tuple") [.ref z]) Q E s:=by
 refine qS (Q₁:=λobj s₁=>s₁.TypeIs obj "tuple"/\Q obj s₁) lu (PySem.F.typeCall_tuple_1 _) pN ?_ λobj s₁ h₁=>?_
 ·refine codeAny_of_tree ?_
  show wpAny _ A.in1.in1 (do checkBuiltinCall "tuple.__new__" ⟨[.type "tuple",.ref z],[]⟩;again (.builtin "tuple.__new__" ⟨[.type "tuple",.ref z],[]⟩)) _ _ s
  refine ai (bH (PySem.F.newCall_tuple_1 _) (aw ⟨jt oZ _,dP PySem.F.entry_tuple_new ?_⟩))
  refine ak (cJ oZ _) ?_
  have hsub:=sub_tuple_self
  have hinit:=init_tuple_lookup
  have hmh:=madeHere_tuple
  have hT:s.TypeIs (.ref z) "zip":=⟨_,hz,ae⟩
  have hh':A.in1.in1.handled=ag:=hh
  wp_walk using eD hT,L2 (A:=A.in1.in1) hh' hxy hn o1 o2 o3 o4 o5 o6 hz hTI hTO h1 h2 hl1 hl2
  intro h' as hsz hk hal hG
  show wpAny _ _ (eR (as.map di).toArray>>=λv=>ret v) _ _ _
  unfold eR
  refine ai (ct ?_ (by show(as.map di).toArray.size<=sizeLine;refine ak j2 (ak (au ..) (ak hal ?_));exact hn))
  exact aw ⟨⟨_,aL _ ae,ae⟩,hQ h' as hsz hk hal hG⟩
 ·exact⟨h₁.1,oX obj _,object_init_meets lu.init.lookup lu.made (by decide) prog w A.in1 _ s₁ ⟨h₁.1,ae,h₁.2⟩⟩
end
section
theorem ga.add(u:ga W b)(e:b≠a):ga (W.add a o) b:=⟨(Wd.tG e).trans u.K,u.F⟩
theorem zO:∀{as:List Addr} {xl yl:List Value} {us vs:List MV} {W1:Wd},cV V W1 U h'->as.Pairwise (· < ·)->(∀a∈as,h.get? a=ag/\ga W1 a)->
  (∀(i:Nat) a,as[i]?=aa a->∃x y,xl[i]?=aa x/\yl[i]?=aa y/\IsPair h' a x y)->cN V W1 xl us->cN V W1 yl vs->as.length=xl.length->∃W2,i3 h W1 W2/\cV V W2 U h'/\cN V W2 (as.map di) (Eu us vs)
 |[],xl,yl,us,vs,W1,I,hp,hu,hpr,rx,ry,lx=>by
  have e:=cW lx.symm
  subst e
  exact rx.Ku (R:=λus=>∃W2,i3 h W1 W2/\cV V W2 U h'/\cN V W2 [] (Eu us vs)) ⟨W1,i3.refl _ _,I,.nil⟩
 |a::as,xl,yl,us,vs,W1,I,hp,hu,hpr,rx,ry,lx=>fI (hpr 0 a ae) λx y ex ey ho=>by
  have na:=(hu a (.head _)).1
  have ua:=(hu a (.head _)).2
  have x0:i3 h W1 (W1.add a (mn #[x,y] 0)):=i3.add na ua.K
  have hp':=List.pairwise_cons.mp hp
  induction xl using am with
  |nil=>exact nn ex
  |cons x' xl=>
   induction yl using am with
   |nil=>exact nn ey
   |cons y' yl=>
    have ex:=oi ex
    have ey:=oi ey
    subst ex
    subst ey
    refine rx.AD (R:=λus=>∃W2,i3 h W1 W2/\cV V W2 U h'/\cN V W2 (.ref a::as.map .ref) (Eu us vs)) λu us rx1 rx2=>ry.AD (R:=λvs=>∃W2,i3 h W1 W2/\cV V W2 U h'/\cN V W2 (.ref a::as.map .ref) (Eu (u::us) vs)) λv vs ry1 ry2=>?_
    exact jl (zO (I.zN ua.K ua.F ho) hp'.2 (λb hb=>⟨(hu b (.tail _ hb)).1,(hu b (.tail _ hb)).2.add (eP (hp'.1 b hb))⟩) (λi b hb=>hpr (i+1) b hb) (rx2.mono x0) (ry2.mono x0) (j4 lx)) λW2 x2 I2 r2=>
     ⟨W2,x0.trans x2 λb o e=>⟨o,e⟩,I2,.cons (.tup (x2.K _ _ Wd.ph) (.cons ((rx1.mono x0).mono x2) (.cons ((ry1.mono x0).mono x2) .nil)) ae) r2⟩
theorem xg:∀{a b:List MV},a.length=b.length->(Eu a b).length=a.length
 |[],_,_=>ae
 |_::_,[],h=>nomatch h
 |_::_,_::_,h=>congrArg (· +1) (xg (j4 h))
@[elab_as_elim]theorem JY{k:Nat}{ns:List Str}{sc:Kinds}{e:ME}{x:Expr}{P:Expr->Prop}(h:ch T k ns sc (.u .z [e]) x=ah)(g:∀y q y2 q2 p q3 pos2 pos,iN sc "tuple" y=ah->iN sc "zip" y2=ah->ch T k ns sc e p=ah->P (.Call (.Name y q) [.Call (.Name y2 q2) [.Starred p q3] [] pos2] [] pos)):P x:=
  Bp (x:=x) h λn ps pos h=>lO (P:=λn=>P (.Call n ps [] pos)) (aB h).1 λy q z=>Eo (P:=λps=>P (.Call (.Name y q) ps [] pos)) (aB h).2 λx h=>Bp (x:=x) (P:=λx=>P (.Call (.Name y q) [x] [] pos)) h λn ps pos2 h=>lO (P:=λn=>P (.Call (.Name y q) [.Call n ps [] pos2] [] pos)) (aB h).1 λy2 q2 z2=>Eo (P:=λps=>P (.Call (.Name y q) [.Call (.Name y2 q2) ps [] pos2] [] pos)) (aB h).2 λx h=>RK (P:=λx=>P (.Call (.Name y q) [.Call (.Name y2 q2) [x] [] pos2] [] pos)) h λp q3 h=>g y q y2 q2 p q3 pos2 pos z z2 h
@[elab_as_elim]theorem Vw{m:MV}{P:MV->MV->Prop}(h:Vv c=aa m)(g:∀us vs,us.length=vs.length->P (.T [.T us,.T vs]) (.T (Eu us vs))):P c m:=by
  induction c using MV.casesOn with
  |T l=>
   induction l using am with
   |nil=>exact nn h
   |cons a l=>
    induction l using am with
    |nil=>exact nn h
    |cons b l=>
     induction l using am with
     |cons=>exact nn h
     |nil=>
      induction a using MV.casesOn with
      |T us=>
       induction b using MV.casesOn with
       |T vs=>exact gI (P:=λm=>P _ m) h λz=>g us vs (aN z)
       |_=>exact nn h
      |_=>exact nn h
  |_=>exact nn h
end
section
theorem Vx(Y:X.Good):FK X:=λas hs=>by
 induction as using am with
 |nil=>exact⟨@λk ns sc x hc=>ft hc,@λk ns sc x hc=>ft hc⟩
 |cons a t=>
  induction t using am with
  |cons=>exact⟨@λk ns sc x hc=>ft hc,@λk ns sc x hc=>ft hc⟩
  |nil=>
   refine ST.of (@λk ns sc x hc A env W s l U m U' z hd=>JY hc λy q y2 q2 p q3 pos2 pos c1 c2 c3=>nr hd λms U1 e1 hd=>Q3 (P:=λU'=>Ac X A env W s _ m U') hd λe2=>xH e1 λv U2 vs0 d1 d2 ems=>?_) @λk ns sc x hc env m=>JY hc λw w w w w w w w w w w=>ae
   have d2:=op d2
   rw[ems,<-d2.1]at e2
   rw[d2.2]at d1
   refine gz e2 λc ec hz=>Vw (P:=λc m=>cC U1 v=aa c->Ac X A env W s _ m U1) hz (λus vs hl ec=>?_) ec
   have b1:=fN (aB c1).1
   have b2:=fN (aB c2).1
   subst b1
   subst b2
   refine kP (kj (v:=.type "tuple") Y (aB c1).2 (aT (i:=2) ae) z.F z.I) (iH (first:=[]) (by rfl) (qR (uo ?_)))
   refine kP (kj (v:=.type "zip") Y (aB c2).2 (aT (i:=14) ae) z.F z.I) (ks_call (P:=λw=>True) (by rfl) (λw w=>⟨_,.inr (.inl ae),Looks.of_pure ae⟩) (ks_lone (q6 ((hs a (.head _)).ev c3 z d1) λu s1 W1 r1 T=>wy (xf T.I r1 ec) λt0' vs0 n0' eu h0' rr w ex=>?_)))
   refine Cu (GD T.I (ex▸r1)) λt0 n0 u1 u2 eu h0 r2 r3=>wy (xf T.I r2 ae) λt1 xa n1 e1 h1 rx z1 w=>wy (xf T.I r3 ae) λt2 ya n2 e2 h2 ry z2 w=>?_
   subst eu
   subst e1
   subst e2
   have lx:xa.size=us.length:=qq rx
   have ly:ya.size=vs.length:=qq ry
   unfold StarOf notIterableAtAll
   refine ai (ig (⟨_,h0,ae⟩:s1.TypeIs (.ref t0) "tuple") PySem.F.slot_tuple_iter.lookup (aw ⟨ae,wpAny_collect_seq t0 (.inr ae) h0 ae ae (λh' hk=>⟨trivial,?_⟩) (by show 2<=sizeLine;decide)⟩))
   refine Hn (s:={s1 with heap:=h'}) ⟨_,hk _ _ h1,ae,_,ae⟩ ⟨_,hk _ _ h2,ae,_,ae⟩ λhz' hz hTI hTO TM L5 sz k2=>spliced_nil ?_
   have nk:∀{b:Addr} {o:Obj} (j:Nat),s1.heap.get? b=aa o->b≠h'.objs.size+j:=λj e=>gZ (bW (eU (hk _ _ e)) (aU _ j))
   refine LM (s:={s1 with heap:=hz'}) (i1:=h'.objs.size) z.R.handled (lx.trans (hl.trans ly.symm)) (fL lx z1) (eU (hk _ _ h1)) (eU (hk _ _ h2)) (cn _) (cn _) (cn _) (cn _) hz hTI hTO TM L5
    ⟨_,k2 _ _ (hk _ _ h1),ae,_,ae⟩ ⟨_,k2 _ _ (hk _ _ h2),ae,_,ae⟩ λh3 as hsz3 hk3 hal hG=>?_
   have k3:iF s1.heap h3:=λb o e=>hk3 b o (nk 4 e) (nk 3 e) (nk 0 e) (nk 1 e) (k2 b o (hk b o e))
   have kall:iF s1.heap (h3.push (mn (as.map di).toArray 0)):=λb o e=>aF _ (k3 b o e)
   have none_of:∀a,hz'.objs.size<=a->s1.heap.get? a=ag:=λa ha=>qn λo e=>absurd (eU (k2 _ _ (hk _ _ e))) (eA.mpr ha)
   have nR:=none_of _ (cZ hsz3)
   have uR:=ga.fresh T.I nR
   have oR:=aL h3 (o:=mn (as.map di).toArray 0) ae
   have x0:i3 s1.heap W1 (W1.add h3.objs.size (mn (as.map di).toArray 0)):=i3.add nR uR.K
   refine jl (zO (h:=s1.heap) (as:=as) (xl:=xa.toList) (yl:=ya.toList) ((T.I.kept kall).zN uR.K uR.F oR) hG.rise (λa ha=>have na:=none_of a (cZ (hG.above a ha));⟨na,(ga.fresh T.I na).add (gZ (hG.there ha))⟩)
    (λi a hi=>fI (hG.pairs i a hi) λx y e1 e2 e3=>gu x y ⟨b5.trans e1,b5.trans e2,aF _ e3⟩) (rx.mono x0) (ry.mono x0) (hal.trans bB.symm)) λW2 x2 I3 rr=>b7.trans T ⟨W2,.tup (x2.K _ _ Wd.ph) rr ((xg hl).symm▸lx▸qq rx▸z1),x0.trans x2 λb o e=>⟨o,e⟩,z9.kept (tk:=s1.toks) kall,I3⟩
end
theorem IT(Y:X.Good)(N:RO X P):∀d,jW (X.lvl P d)
 |0=>jW.zero
 |d+1=>jW.succ Y N (Vx (Y.lvl P d)) (IT Y N d)
noncomputable def sL(l:List String):List Str:=l.map aJ
noncomputable def f1:Fn:=⟨1,1,[],[.r (.u .d [.j (.z [.x (.v 0) (.v 1),.v 1]) [1] (.c (.I 0)) (.u .l [.v 0]) (.c (.I 1)) []])]⟩
noncomputable def f2:Fn:=⟨5,2,[],[.a (.v 2) (.c (.I 0)),.f [3] (.v 0) [.a (.v 2) (.b .a (.b .m (.c (.I 256)) (.v 2)) (.v 3))],.a (.v 4) (.b .a (.u .l [.v 0]) (.c (.I 1))),.a (.v 2) (.b .l (.v 2) (.b .s (.b .m (.c (.I 6)) (.v 4)) (.b .m (.c (.I 8)) (.u .l [.v 0])))),.r (.j (.x (.v 1) (.b .b (.b .r (.v 2) (.b .m (.c (.I 6)) (.v 5))) (.c (.I 63)))) [5] (.b .s (.v 4) (.c (.I 1))) (.n (.c (.I 1))) (.n (.c (.I 1))) [])]⟩
noncomputable def f3:Fn:=⟨6,1,[],[.a (.v 1) (.c (.I 0)),.f [2] (.v 0) [.a (.v 1) (.b .a (.b .m (.c (.I 64)) (.v 1)) (.v 2))],.a (.v 3) (.b .s (.u .l [.v 0]) (.c (.I 1))),.a (.v 4) (.b .s (.b .m (.c (.I 6)) (.u .l [.v 0])) (.b .m (.c (.I 8)) (.v 3))),.a (.v 5) (.b .r (.v 1) (.v 4)),.r (.z [.u .y [.j (.b .b (.b .r (.v 5) (.b .m (.c (.I 8)) (.v 6))) (.c (.I 255))) [6] (.b .s (.v 3) (.c (.I 1))) (.n (.c (.I 1))) (.n (.c (.I 1))) []],.b .b (.v 1) (.b .s (.b .l (.c (.I 1)) (.v 4)) (.c (.I 1)))])]⟩
noncomputable def f4:Fn:=⟨4,2,[],[.a (.v 2) (.d ah []),.g [3] (.c (.I 0)) (.u .l [.v 0]) (.c (.I 3)) [.e (.k .e (.v 2) [.l 2 ac [.y (.v 0) (.v 3) (.b .a (.v 3) (.c (.I 3))),.v 1]])],.r (.u .y [.v 2])]⟩
noncomputable def f5:Fn:=⟨1,1,[],[.r (.b .a (.l 4 ac [.v 0,.g 0]) (.u .y [.b .m (.d ac [.g 1]) (.b .o (.n (.u .l [.v 0])) (.c (.I 3)))]))]⟩
noncomputable def f6:Fn:=⟨2,2,[],[.i (.m .l (.v 1) (.c (.I 1))) [.r (.v 0)] [],.r (.k .j (.g 2) [.j (.y (.v 0) (.v 2) (.b .a (.v 2) (.v 1))) [2] (.c (.I 0)) (.u .l [.v 0]) (.v 1) []])]⟩
noncomputable def f7:Fn:=⟨2,2,[.I 76],[.r (.l 6 ac [.l 5 ac [.v 0],.v 1])]⟩
noncomputable def f8:Fn:=⟨6,1,[],[.a (.v 1) (.l 1 ac [.g 0]),.a (.v 2) (.d ah []),.f [3] (.v 0) [.i (.m .e (.v 3) (.g 1)) [.b] [],.i (.m .a (.v 3) (.v 1)) [.e (.k .a (.v 2) [.x (.v 1) (.v 3)])] []],.a (.v 4) (.d ah []),.g [5] (.c (.I 0)) (.u .l [.v 2]) (.c (.I 4)) [.i (.m .g (.b .s (.u .l [.v 2]) (.v 5)) (.c (.I 1))) [.e (.k .a (.v 4) [.x (.l 3 ac [.y (.v 2) (.v 5) (.b .a (.v 5) (.c (.I 4)))]) (.c (.I 0))])] []],.r (.k .j (.c (.Y [])) [.v 4])]⟩
noncomputable def f9:Fn:=⟨1,1,[],[.r (.i (.p .k .k (.c (.I 65)) (.v 0) (.c (.I 90))) (.b .a (.v 0) (.c (.I 32))) (.v 0))]⟩
noncomputable def ZB:Fn:=⟨1,1,[],[.r (.u .y [.f (.l 9 ac [.v 1]) [1] (.v 0) []])]⟩
noncomputable def ZC:Fn:=⟨1,1,[],[.r (.k .j (.c (.S [])) [.f (.u .c [.l 9 ac [.u .o [.v 1]]]) [1] (.v 0) []])]⟩
noncomputable def Tf:Fn:=⟨8,3,[.I 0,.I (-1)],[.a (.v 3) (.i (.m .l (.v 2) (.c (.I 0))) (.u .l [.v 0]) (.u .m [.v 2,.u .l [.v 0]])),.a (.v 4) (.d ah []),.a (.v 5) (.v 1),.w (.m .l (.v 5) (.v 3)) [.a (.v 6) (.k .f (.v 0) [.c (.Y [10]),.v 5,.v 3]),.i (.m .l (.v 6) (.c (.I 0))) [.e (.k .a (.v 4) [.z [.v 5,.v 3,.v 3]]),.r (.v 4)] [],.a (.v 7) (.i (.a [.m .g (.v 6) (.v 5),.m .e (.x (.v 0) (.b .s (.v 6) (.c (.I 1)))) (.g 4)]) (.b .s (.v 6) (.c (.I 1))) (.v 6)),.e (.k .a (.v 4) [.z [.v 5,.v 7,.b .a (.v 6) (.c (.I 1))]]),.a (.v 5) (.b .a (.v 6) (.c (.I 1)))],.r (.v 4)]⟩
noncomputable def YA:Fn:=⟨4,3,[],[.a (.v 3) (.k .f (.v 0) [.c (.Y [10]),.v 1,.v 2]),.i (.m .l (.v 3) (.c (.I 0))) [.r (.z [.v 2,.v 2])] [],.i (.a [.m .g (.v 3) (.v 1),.m .e (.x (.v 0) (.b .s (.v 3) (.c (.I 1)))) (.c (.I 13))]) [.r (.z [.b .s (.v 3) (.c (.I 1)),.b .a (.v 3) (.c (.I 1))])] [],.r (.z [.v 3,.b .a (.v 3) (.c (.I 1))])]⟩
noncomputable def ZD:Fn:=⟨2,1,[],[.f [1] (.v 0) [.i (.r [.m .l (.v 1) (.c (.I 33)),.m .g (.v 1) (.c (.I 126)),.m .e (.v 1) (.c (.I 58))]) [.r (.c (.B ac))] []],.r (.m .g (.u .l [.v 0]) (.c (.I 0)))]⟩
noncomputable def YB:Fn:=⟨4,3,[],[.a (.v 3) (.k .f (.v 0) [.c (.Y [58]),.v 1,.v 2]),.r (.i (.a [.m .h (.v 3) (.c (.I 0)),.l 14 ac [.y (.v 0) (.v 1) (.v 3)]]) (.v 3) (.n (.c (.I 1))))]⟩
noncomputable def YC:Fn:=⟨9,3,[.I 0,.I (-1)],[.a (.v 3) (.i (.m .l (.v 2) (.c (.I 0))) (.u .l [.v 0]) (.v 2)),.a (.v 4) (.d ah []),.a (.v 5) (.v 1),.w (.m .l (.v 5) (.v 3)) [.a (.z [.v 6,.v 7]) (.l 13 ac [.v 0,.v 5,.v 3]),.i (.m .e (.v 6) (.v 5)) [.r (.z [.v 4,.v 7])] [],.a (.v 8) (.l 15 ac [.v 0,.v 5,.v 6]),.i (.m .l (.v 8) (.c (.I 0))) [.r (.z [.v 4,.v 5])] [],.w (.a [.m .l (.v 7) (.v 3),.m .a (.x (.v 0) (.v 7)) (.g 5)]) [.a (.z [.v 6,.v 7]) (.l 13 ac [.v 0,.v 7,.v 3])],.e (.k .a (.v 4) [.z [.w 1 ac [.y (.v 0) (.v 5) (.v 8),.y (.v 0) (.b .a (.v 8) (.c (.I 1))) (.v 6)],.v 5,.v 7]]),.a (.v 5) (.v 7)],.r (.z [.v 4,.v 3])]⟩
noncomputable def YD:Fn:=⟨5,3,[.I 0,.I (-1)],[.a (.z [.v 3,.v 4]) (.l 16 ac [.v 0,.v 1,.v 2]),.r (.z [.f (.x (.v 5) (.c (.I 0))) [5] (.v 3) [],.v 4])]⟩
noncomputable def ZE:Fn:=⟨5,1,[],[.a (.v 1) (.d ah []),.a (.v 2) (.c (.I 0)),.w (.c (.B ah)) [.a (.z [.v 3,.v 4]) (.l 13 ac [.v 0,.v 2,.u .l [.v 0]]),.e (.k .a (.v 1) [.y (.v 0) (.v 2) (.v 3)]),.i (.m .e (.v 3) (.u .l [.v 0])) [.r (.v 1)] [],.a (.v 2) (.v 4)]]⟩
noncomputable def ZF:Fn:=⟨1,1,[],[.r (.k .t (.k .j (.c (.Y [])) [.l 18 ac [.v 0]]) [.c (.Y [32,9])])]⟩
noncomputable def WB:Fn:=⟨4,2,[],[.a (.v 2) (.l 11 ac [.v 1]),.f [3] (.v 0) [.i (.m .e (.h 3 (.v 3) []) (.v 2)) [.r (.l 19 ac [.t (.v 3) 4])] []],.r (.c .N)]⟩
noncomputable def YE:Fn:=⟨3,2,[],[.a (.v 2) (.f (.l 11 ac [.v 3]) [3] (.v 1) []),.r (.f (.v 3) [3] (.v 0) [.m .b (.h 3 (.v 3) []) (.v 2)])]⟩
noncomputable def ZH:Fn:=⟨2,1,[],[.i (.o (.l 14 ac [.t (.v 0) 3])) [.r (.c (.B ac))] [],.f [1] (.y (.l 18 ac [.t (.v 0) 4]) (.c (.I 1)) (.c .N)) [.i (.r [.m .e (.u .l [.v 1]) (.c (.I 0)),.m .b (.x (.v 1) (.c (.I 0))) (.g 5)]) [.r (.c (.B ac))] []],.r (.c (.B ah))]⟩
noncomputable def YG:Fn:=⟨2,1,[],[.f [1] (.v 0) [.i (.o (.l 22 ac [.v 1])) [.d] []],.r (.k .j (.c (.Y [])) [.f (.b .a (.b .a (.b .a (.t (.v 2) 3) (.c (.Y [58]))) (.t (.v 2) 4)) (.g 3)) [2] (.v 0) []])]⟩
noncomputable def ZI:Fn:=⟨2,0,[],[.a (.v 0) (.e ah [] []),.f [1] (.z [.c (.S [117,115,45,97,115,99,105,105]),.c (.S [97,115,99,105,105]),.c (.S [97,110,115,105,95,120,51,46,52,45,49,57,54,56]),.c (.S [105,115,111,95,54,52,54,46,105,114,118,58,49,57,57,49]),.c (.S [105,115,111,45,105,114,45,54]),.c (.S [105,115,111,54,52,54,45,117,115]),.c (.S [117,115]),.c (.S [99,112,51,54,55]),.c (.S [105,98,109,51,54,55])]) [.a (.x (.v 0) (.v 1)) (.g 6)],.f [1] (.z [.c (.S [105,115,111,45,56,56,53,57,45,49]),.c (.S [105,115,111,95,56,56,53,57,45,49]),.c (.S [105,115,111,95,56,56,53,57,45,49,58,49,57,56,55]),.c (.S [105,115,111,45,105,114,45,49,48,48]),.c (.S [108,97,116,105,110,49]),.c (.S [108,49]),.c (.S [99,112,56,49,57]),.c (.S [105,98,109,56,49,57])]) [.a (.x (.v 0) (.v 1)) (.g 7)],.f [1] (.z [.c (.S [117,116,102,45,56]),.c (.S [117,116,102,56])]) [.a (.x (.v 0) (.v 1)) (.g 8)],.r (.v 0)]⟩
noncomputable def ZJ:Fn:=⟨1,1,[],[.r (.k .g (.l 24 ac []) [.l 11 ac [.v 0],.c (.S [])])]⟩
noncomputable def ZK:Fn:=⟨1,1,[],[.i (.m .b (.v 0) (.g 9)) [.d] []]⟩
noncomputable def ZL:Fn:=⟨1,1,[],[.i (.r [.p .k .k (.c (.I 55296)) (.v 0) (.c (.I 57343)),.o (.p .k .k (.c (.I 0)) (.v 0) (.c (.I 1114111)))]) [.r (.c (.I 0))] [],.r (.b .a (.c (.I 1)) (.u .l [.f (.v 1) [1] (.z [.c (.I 127),.c (.I 2047),.c (.I 65535)]) [.m .g (.v 0) (.v 1)]]))]⟩
noncomputable def ZM:Fn:=⟨1,1,[],[.i (.p .k .k (.c (.I 194)) (.v 0) (.c (.I 223))) [.r (.z [.c (.I 128),.c (.I 191),.c (.I 1)])] [],.i (.p .k .k (.c (.I 224)) (.v 0) (.c (.I 239))) [.r (.z [.k .g (.e ac [.c (.I 224)] [.c (.I 160)]) [.v 0,.c (.I 128)],.k .g (.e ac [.c (.I 237)] [.c (.I 159)]) [.v 0,.c (.I 191)],.c (.I 2)])] [],.i (.p .k .k (.c (.I 240)) (.v 0) (.c (.I 244))) [.r (.z [.k .g (.e ac [.c (.I 240)] [.c (.I 144)]) [.v 0,.c (.I 128)],.k .g (.e ac [.c (.I 244)] [.c (.I 143)]) [.v 0,.c (.I 191)],.c (.I 3)])] [],.r (.z [.c (.I 0),.c (.I 0),.c (.I 0)])]⟩
noncomputable def ZN:Fn:=⟨8,2,[],[.a (.v 2) (.x (.v 0) (.v 1)),.i (.m .l (.v 2) (.c (.I 128))) [.r (.z [.v 2,.c (.I 1)])] [],.a (.z [.v 3,.v 4,.v 5]) (.l 29 ac [.v 2]),.i (.m .e (.v 5) (.c (.I 0))) [.r (.z [.n (.c (.I 1)),.c (.I 1)])] [],.a (.v 6) (.b .o (.v 2) (.b .r (.c (.I 64)) (.v 5))),.g [7] (.c (.I 1)) (.b .a (.v 5) (.c (.I 1))) (.c (.I 1)) [.i (.r [.m .h (.b .a (.v 1) (.v 7)) (.u .l [.v 0]),.o (.p .k .k (.v 3) (.x (.v 0) (.b .a (.v 1) (.v 7))) (.v 4))]) [.r (.z [.n (.c (.I 1)),.v 7])] [],.a (.v 6) (.b .a (.b .m (.v 6) (.c (.I 64))) (.b .o (.x (.v 0) (.b .a (.v 1) (.v 7))) (.c (.I 64)))),.a (.z [.v 3,.v 4]) (.z [.c (.I 128),.c (.I 191)])],.r (.z [.v 6,.b .a (.v 5) (.c (.I 1))])]⟩
noncomputable def ZO:Fn:=⟨3,3,[],[.i (.m .e (.v 0) (.g 8)) [.r (.l 30 ac [.v 1,.v 2])] [],.i (.a [.m .e (.v 0) (.g 6),.m .g (.x (.v 1) (.v 2)) (.c (.I 127))]) [.r (.z [.n (.c (.I 1)),.c (.I 1)])] [],.r (.z [.x (.v 1) (.v 2),.c (.I 1)])]⟩
noncomputable def ZP:Fn:=⟨6,2,[],[.e (.l 26 ac [.v 0]),.a (.v 2) (.d ah []),.a (.v 3) (.c (.I 0)),.w (.m .l (.v 3) (.u .l [.v 1])) [.a (.z [.v 4,.v 5]) (.l 31 ac [.v 0,.v 1,.v 3]),.e (.k .a (.v 2) [.i (.m .h (.v 4) (.c (.I 0))) (.u .c [.v 4]) (.g 10)]),.a (.v 3) (.b .a (.v 3) (.v 5))],.r (.k .j (.c (.S [])) [.v 2])]⟩
noncomputable def ZQ:Fn:=⟨6,2,[],[.e (.l 26 ac [.v 0]),.a (.v 2) (.d ah []),.a (.v 3) (.c (.I 0)),.w (.m .l (.v 3) (.u .l [.v 1])) [.a (.z [.v 4,.v 5]) (.l 31 ac [.v 0,.v 1,.v 3]),.i (.m .l (.v 4) (.c (.I 0))) [.d] [],.e (.k .a (.v 2) [.u .c [.v 4]]),.a (.v 3) (.b .a (.v 3) (.v 5))],.r (.k .j (.c (.S [])) [.v 2])]⟩
noncomputable def ZR:Fn:=⟨1,1,[],[.t [.r (.l 33 ac [.g 8,.v 0])]]⟩
noncomputable def ZS:Fn:=⟨2,2,[],[.i (.m .e (.v 0) (.g 8)) [.r (.m .g (.l 27 ac [.v 1]) (.c (.I 0)))] [],.r (.m .l (.v 1) (.i (.m .e (.v 0) (.g 6)) (.c (.I 128)) (.c (.I 256))))]⟩
noncomputable def ZT:Fn:=⟨5,2,[],[.e (.l 26 ac [.v 0]),.a (.v 2) (.d ah []),.g [3] (.c (.I 0)) (.u .l [.v 1]) (.c (.I 1)) [.a (.v 4) (.u .o [.x (.v 1) (.v 3)]),.i (.o (.l 35 ac [.v 0,.v 4])) [.d] [],.i (.m .e (.v 0) (.g 8)) [.e (.k .e (.v 2) [.l 28 ac [.v 4]])] [.e (.k .a (.v 2) [.v 4])]],.r (.u .y [.v 2])]⟩
noncomputable def ZU:Fn:=⟨2,2,[],[.i (.m .e (.y (.v 0) (.v 1) (.b .a (.v 1) (.c (.I 1)))) (.c (.Y [10]))) [.r (.b .a (.v 1) (.c (.I 1)))] [],.r (.i (.m .e (.y (.v 0) (.v 1) (.b .a (.v 1) (.c (.I 2)))) (.c (.Y [13,10]))) (.b .a (.v 1) (.c (.I 2))) (.n (.c (.I 1))))]⟩
noncomputable def ZV:Fn:=⟨4,3,[],[.i (.r [.m .h (.v 1) (.u .l [.v 0]),.a [.m .e (.x (.v 0) (.v 1)) (.c (.I 92)),.m .e (.b .a (.v 1) (.c (.I 1))) (.u .l [.v 0])]]) [.d] [],.i (.m .e (.x (.v 0) (.v 1)) (.c (.I 92))) [.i (.m .a (.x (.v 0) (.b .a (.v 1) (.c (.I 1)))) (.g 12)) [.d] [],.r (.z [.y (.v 0) (.b .a (.v 1) (.c (.I 1))) (.b .a (.v 1) (.c (.I 2))),.b .a (.v 1) (.c (.I 2))])] [],.a (.v 3) (.l 37 ac [.v 0,.v 1]),.i (.m .h (.v 3) (.c (.I 0))) [.r (.z [.c (.Y []),.v 3])] [],.i (.m .a (.x (.v 0) (.v 1)) (.g 12)) [.d] [],.r (.z [.y (.v 0) (.v 1) (.b .a (.v 1) (.c (.I 1))),.b .a (.v 1) (.c (.I 1))])]⟩
noncomputable def ZW:Fn:=⟨7,4,[],[.a (.v 4) (.d ah []),.a (.v 5) (.b .a (.v 1) (.c (.I 1))),.w (.m .n (.y (.v 0) (.v 5) (.b .a (.v 5) (.c (.I 1)))) (.v 2)) [.i (.a [.m .l (.v 5) (.u .l [.v 0]),.m .a (.x (.v 0) (.v 5)) (.v 3)]) [.d] [],.a (.z [.v 6,.v 5]) (.l 38 ac [.v 0,.v 5,.v 1]),.e (.k .a (.v 4) [.v 6])],.r (.z [.k .j (.c (.Y [])) [.v 4],.b .a (.v 5) (.c (.I 1))])]⟩
noncomputable def ZX:Fn:=⟨7,2,[],[.a (.v 2) (.d ah []),.a (.v 3) (.c (.I 1)),.a (.v 4) (.b .a (.v 1) (.c (.I 1))),.w (.m .g (.v 3) (.c (.I 0))) [.a (.v 5) (.y (.v 0) (.v 4) (.b .a (.v 4) (.c (.I 1)))),.i (.m .e (.v 5) (.c (.Y [40]))) [.a (.v 3) (.b .a (.v 3) (.c (.I 1))),.i (.m .g (.v 3) (.g 11)) [.d] []] [.i (.m .e (.v 5) (.c (.Y [41]))) [.a (.v 3) (.b .s (.v 3) (.c (.I 1)))] []],.a (.z [.v 6,.v 4]) (.l 38 ac [.v 0,.v 4,.v 1]),.e (.k .a (.v 2) [.v 6])],.r (.z [.k .j (.c (.Y [])) [.y (.v 2) (.c .N) (.n (.c (.I 1)))],.v 4])]⟩
noncomputable def ZY:Fn:=⟨4,2,[],[.a (.v 2) (.d ah []),.g [3] (.c (.I 0)) (.u .l [.v 0]) (.c (.I 1)) [.i (.m .a (.x (.v 0) (.v 3)) (.g 12)) [.d] [],.i (.m .a (.x (.v 0) (.v 3)) (.v 1)) [.e (.k .a (.v 2) [.c (.Y [92])])] [],.e (.k .a (.v 2) [.y (.v 0) (.v 3) (.b .a (.v 3) (.c (.I 1)))])],.r (.k .j (.c (.Y [])) [.v 2])]⟩
noncomputable def ZZ:Fn:=⟨0,0,[],[.r (.w 2 ac [.c (.S [116,101,120,116]),.c (.S [112,108,97,105,110]),.e ac [.c (.S [99,104,97,114,115,101,116])] [.c (.S [117,115,45,97,115,99,105,105])]])]⟩
noncomputable def Z0:Fn:=⟨1,1,[],[.r (.a [.p .l .l (.c (.I 32)) (.v 0) (.c (.I 127)),.m .b (.v 0) (.g 19)])]⟩
noncomputable def Z1:Fn:=⟨1,1,[],[.w (.o (.h 6 (.v 0) [])) [.i (.m .a (.h 4 (.v 0) []) (.g 13)) [.e (.h 5 (.v 0) [])] [.i (.m .e (.h 4 (.v 0) []) (.g 17)) [.a (.t (.v 0) 0) (.x (.l 40 ac [.t (.v 0) 1,.t (.v 0) 0]) (.c (.I 1)))] [.r (.c .N)]]]]⟩
noncomputable def Z2:Fn:=⟨2,1,[],[.a (.v 1) (.t (.v 0) 0),.w (.l 43 ac [.h 4 (.v 0) []]) [.e (.h 5 (.v 0) [])],.i (.m .e (.t (.v 0) 0) (.v 1)) [.d] [],.r (.y (.t (.v 0) 1) (.v 1) (.t (.v 0) 0))]⟩
noncomputable def Z3:Fn:=⟨1,1,[],[.r (.r [.m .g (.v 0) (.c (.I 127)),.l 43 ac [.v 0]])]⟩
noncomputable def Z4:Fn:=⟨3,1,[],[.i (.m .e (.h 4 (.v 0) []) (.g 16)) [.a (.z [.v 1,.t (.v 0) 0]) (.l 39 ac [.t (.v 0) 1,.t (.v 0) 0,.c (.Y [34]),.c (.Y [])]),.r (.v 1)] [],.a (.v 2) (.t (.v 0) 0),.w (.l 46 ac [.h 4 (.v 0) []]) [.e (.h 5 (.v 0) [])],.i (.m .e (.t (.v 0) 0) (.v 2)) [.d] [],.r (.y (.t (.v 0) 1) (.v 2) (.t (.v 0) 0))]⟩
noncomputable def Z5:Fn:=⟨1,1,[],[.r (.k .j (.c (.S [])) [.f (.u .c [.v 1]) [1] (.l 10 ac [.v 0]) []])]⟩
noncomputable def Z6:Fn:=⟨3,1,[],[.a (.v 1) (.d ah []),.e (.l 44 ac [.v 0]),.w (.o (.h 6 (.v 0) [])) [.i (.m .n (.h 5 (.v 0) []) (.g 14)) [.d] [],.e (.l 44 ac [.v 0]),.i (.a [.o (.h 6 (.v 0) []),.m .n (.h 4 (.v 0) []) (.g 14)]) [.a (.v 2) (.l 48 ac [.l 45 ac [.v 0]]),.e (.l 44 ac [.v 0]),.i (.m .n (.h 5 (.v 0) []) (.g 15)) [.d] [],.e (.l 44 ac [.v 0]),.e (.k .a (.v 1) [.z [.v 2,.l 47 ac [.v 0]]]),.e (.l 44 ac [.v 0])] []],.r (.v 1)]⟩
noncomputable def Z7:Fn:=⟨3,1,[],[.i (.r [.m .e (.v 0) (.c (.S [])),.m .g (.u .l [.v 0]) (.c (.I 3)),.a [.m .e (.x (.v 0) (.c (.I 0))) (.c (.S [48])),.m .g (.u .l [.v 0]) (.c (.I 1))]]) [.r (.n (.c (.I 1)))] [],.a (.v 1) (.c (.I 0)),.f [2] (.v 0) [.i (.o (.p .k .k (.c (.S [48])) (.v 2) (.c (.S [57])))) [.r (.n (.c (.I 1)))] [],.a (.v 1) (.b .s (.b .a (.b .m (.c (.I 10)) (.v 1)) (.u .o [.v 2])) (.c (.I 48)))],.r (.v 1)]⟩
noncomputable def Z8:Fn:=⟨4,1,[],[.a (.v 1) (.k .f (.v 0) [.c (.S [42])]),.i (.m .l (.v 1) (.c (.I 1))) [.r (.c .N)] [],.a (.v 2) (.m .e (.x (.v 0) (.n (.c (.I 1)))) (.c (.S [42]))),.i (.a [.v 2,.m .e (.v 1) (.b .s (.u .l [.v 0]) (.c (.I 1)))]) [.r (.z [.y (.v 0) (.c .N) (.v 1),.c (.I 0),.c (.B ah)])] [],.a (.v 3) (.l 50 ac [.i (.v 2) (.y (.v 0) (.b .a (.v 1) (.c (.I 1))) (.b .s (.u .l [.v 0]) (.c (.I 1)))) (.y (.v 0) (.b .a (.v 1) (.c (.I 1))) (.c .N))]),.r (.i (.m .h (.v 3) (.c (.I 0))) (.z [.y (.v 0) (.c .N) (.v 1),.v 3,.v 2]) (.c .N))]⟩
noncomputable def Z9:Fn:=⟨4,1,[],[.a (.v 1) (.d ah []),.a (.v 2) (.c (.I 0)),.w (.m .l (.v 2) (.u .l [.v 0])) [.a (.v 3) (.i (.m .e (.x (.v 0) (.v 2)) (.g 18)) (.l 118 ac [.y (.v 0) (.b .a (.v 2) (.c (.I 1))) (.b .a (.v 2) (.c (.I 3)))]) (.n (.c (.I 1)))),.e (.k .a (.v 1) [.i (.m .l (.v 3) (.c (.I 0))) (.x (.v 0) (.v 2)) (.v 3)]),.a (.v 2) (.b .a (.v 2) (.i (.m .l (.v 3) (.c (.I 0))) (.c (.I 1)) (.c (.I 3))))],.r (.u .y [.v 1])]⟩
noncomputable def f54:Fn:=⟨2,1,[],[.a (.v 1) (.k .s (.v 0) [.c (.Y [39]),.c (.I 2)]),.i (.m .l (.u .l [.v 1]) (.c (.I 3))) [.r (.z [.c (.S []),.v 0])] [],.r (.z [.l 25 ac [.k .j (.c (.S [])) [.f (.u .c [.v 2]) [2] (.x (.v 1) (.c (.I 0))) []]],.x (.v 1) (.c (.I 2))])]⟩
noncomputable def f55:Fn:=⟨6,1,[],[.a (.v 1) (.c (.S [])),.a (.v 2) (.c (.Y [])),.a (.v 3) (.c (.I 0)),.w (.m .a (.v 3) (.v 0)) [.a (.z [.v 4,.v 5]) (.x (.v 0) (.v 3)),.i (.a [.m .e (.v 3) (.c (.I 0)),.v 4]) [.a (.z [.v 1,.v 5]) (.l 54 ac [.v 5])] [],.a (.v 2) (.b .a (.v 2) (.i (.v 4) (.l 53 ac [.v 5]) (.v 5))),.a (.v 3) (.b .a (.v 3) (.c (.I 1)))],.r (.i (.v 1) (.l 32 ac [.v 1,.v 2]) (.l 34 ac [.v 2]))]⟩
noncomputable def f56:Fn:=⟨9,1,[],[.a (.v 1) (.e ah [] []),.a (.v 2) (.e ah [] []),.f [3,4] (.v 0) [.a (.v 5) (.l 51 ac [.v 3]),.i (.m .i (.v 5) (.c .N)) [.i (.m .b (.v 3) (.v 1)) [.a (.x (.v 1) (.v 3)) (.l 34 ac [.v 4])] []] [.a (.z [.v 6,.v 7,.v 8]) (.v 5),.i (.m .b (.v 6) (.v 2)) [.a (.x (.v 2) (.v 6)) (.e ah [] [])] [],.i (.m .b (.v 7) (.x (.v 2) (.v 6))) [.a (.x (.x (.v 2) (.v 6)) (.v 7)) (.z [.v 8,.v 4])] []]],.f [6] (.v 2) [.i (.m .a (.c (.I 0)) (.x (.v 2) (.v 6))) [.a (.x (.v 1) (.v 6)) (.l 55 ac [.x (.v 2) (.v 6)])] []],.r (.v 1)]⟩
noncomputable def f57:Fn:=⟨4,1,[],[.a (.v 1) (.w 0 ah [.v 0]),.e (.l 44 ac [.v 1]),.a (.v 2) (.l 48 ac [.l 45 ac [.v 1]]),.e (.l 44 ac [.v 1]),.i (.o (.h 7 (.v 1) [.c (.Y [47])])) [.d] [],.e (.l 44 ac [.v 1]),.a (.v 3) (.l 48 ac [.l 45 ac [.v 1]]),.r (.w 2 ac [.v 2,.v 3,.l 56 ac [.l 49 ac [.v 1]]])]⟩
noncomputable def f58:Fn:=⟨1,1,[],[.i (.m .i (.v 0) (.c .N)) [.r (.l 42 ac [])] [],.t [.r (.l 57 ac [.v 0])]]⟩
noncomputable def f59:Fn:=⟨1,1,[],[.r (.a [.m .g (.u .l [.v 0]) (.c (.I 0)),.m .e (.f (.v 1) [1] (.v 0) [.o (.l 43 ac [.v 1])]) (.d ac [])])]⟩
noncomputable def f61:Fn:=⟨3,1,[],[.a (.v 1) (.d ah []),.f [2] (.v 0) [.i (.a [.l 43 ac [.v 2],.m .b (.v 2) (.g 20)]) [.e (.k .a (.v 1) [.u .y [.d ac [.v 2]]])] [.e (.k .a (.v 1) [.u .y [.d ac [.g 18,.x (.g 21) (.b .f (.v 2) (.c (.I 16))),.x (.g 21) (.b .o (.v 2) (.c (.I 16)))]]])]],.r (.v 1)]⟩
noncomputable def f62:Fn:=⟨4,2,[],[.a (.v 2) (.d ah [.c (.Y [])]),.f [3] (.v 0) [.i (.m .g (.b .a (.u .l [.x (.v 2) (.n (.c (.I 1)))]) (.u .l [.v 3])) (.v 1)) [.e (.k .a (.v 2) [.c (.Y [])])] [],.a (.x (.v 2) (.n (.c (.I 1)))) (.b .a (.x (.v 2) (.n (.c (.I 1)))) (.v 3))],.r (.v 2)]⟩
noncomputable def f63:Fn:=⟨6,2,[],[.a (.v 2) (.l 61 ac [.l 36 ac [.g 8,.v 1]]),.a (.v 3) (.c (.Y [117,116,102,45,56,39,39])),.a (.v 4) (.b .a (.b .a (.b .a (.v 0) (.c (.Y [42,61]))) (.v 3)) (.k .j (.c (.Y [])) [.v 2])),.i (.m .k (.b .a (.u .l [.v 4]) (.c (.I 2))) (.g 22)) [.r (.d ac [.v 4])] [],.a (.v 5) (.l 62 ac [.b .a (.d ac [.v 3]) (.v 2),.b .s (.g 25) (.u .l [.v 0])]),.r (.j (.b .a (.b .a (.b .a (.b .a (.v 0) (.c (.Y [42]))) (.l 65 ac [.v 6])) (.c (.Y [42,61]))) (.x (.v 5) (.v 6))) [6] (.c (.I 0)) (.u .l [.v 5]) (.c (.I 1)) [])]⟩
noncomputable def f64:Fn:=⟨5,2,[],[.a (.v 2) (.f (.l 41 ac [.u .y [.d ac [.u .o [.v 5]]],.c (.Y [34,92])]) [5] (.v 1) []),.a (.v 3) (.b .a (.b .a (.b .a (.v 0) (.c (.Y [61,34]))) (.k .j (.c (.Y [])) [.v 2])) (.c (.Y [34]))),.i (.m .k (.b .a (.u .l [.v 3]) (.c (.I 2))) (.g 22)) [.r (.d ac [.v 3])] [],.a (.v 4) (.l 62 ac [.v 2,.b .s (.g 25) (.u .l [.v 0])]),.r (.j (.b .a (.b .a (.b .a (.b .a (.b .a (.v 0) (.c (.Y [42]))) (.l 65 ac [.v 5])) (.c (.Y [61,34]))) (.x (.v 4) (.v 5))) (.c (.Y [34]))) [5] (.c (.I 0)) (.u .l [.v 4]) (.c (.I 1)) [])]⟩
noncomputable def f65:Fn:=⟨1,1,[],[.r (.u .y [.f (.u .o [.v 1]) [1] (.u .s [.v 0]) []])]⟩
noncomputable def f66:Fn:=⟨7,2,[],[.a (.v 2) (.u .y [.f (.u .o [.v 7]) [7] (.v 0) [.m .l (.u .o [.v 7]) (.c (.I 128))]]),.a (.v 3) (.f (.v 7) [7] (.v 2) [.m .a (.v 7) (.g 20)]),.i (.r [.m .l (.u .l [.v 2]) (.u .l [.v 0]),.o (.l 59 ac [.v 2]),.m .g (.u .l [.v 0]) (.g 23),.v 3,.m .n (.l 11 ac [.v 0]) (.v 0)]) [.d] [],.i (.o (.l 119 ac [.v 1])) [.a (.v 4) (.l 63 ac [.v 2,.v 1])] [.a (.v 5) (.u .y [.f (.u .o [.v 7]) [7] (.v 1) []]),.a (.v 6) (.b .a (.b .a (.v 2) (.c (.Y [61]))) (.v 5)),.a (.v 4) (.i (.a [.l 59 ac [.v 5],.m .k (.b .a (.u .l [.v 6]) (.c (.I 2))) (.g 22)]) (.d ac [.v 6]) (.l 64 ac [.v 2,.v 1]))],.i (.m .g (.u .l [.v 4]) (.g 24)) [.d] [],.r (.v 4)]⟩
noncomputable def f67:Fn:=⟨4,2,[],[.a (.v 2) (.d ah [.v 0]),.f [3] (.u .r [.v 1]) [.e (.k .e (.v 2) [.f (.b .a (.c (.Y [32])) (.v 4)) [4] (.l 66 ac [.v 3,.x (.v 1) (.v 3)]) []])],.r (.k .j (.b .a (.c (.Y [59])) (.g 3)) [.v 2])]⟩
noncomputable def f68:Fn:=⟨4,1,[],[.a (.v 1) (.d ah []),.f [2] (.z [.t (.v 0) 5,.t (.v 0) 6]) [.a (.v 3) (.u .y [.f (.u .o [.v 4]) [4] (.v 2) [.m .l (.u .o [.v 4]) (.c (.I 128))]]),.i (.r [.m .l (.u .l [.v 3]) (.u .l [.v 2]),.o (.l 59 ac [.v 3]),.m .n (.l 11 ac [.v 2]) (.v 2)]) [.d] [],.e (.k .a (.v 1) [.v 3])],.r (.l 67 ac [.k .j (.c (.Y [47])) [.v 1],.t (.v 0) 7])]⟩
noncomputable def f69:Fn:=⟨1,1,[],[.r (.u .y [.d ac [.g 26,.x (.g 31) (.b .f (.v 0) (.c (.I 16))),.x (.g 31) (.b .o (.v 0) (.c (.I 16)))]])]⟩
noncomputable def f70:Fn:=⟨4,2,[],[.i (.m .h (.b .a (.v 1) (.c (.I 2))) (.u .l [.v 0])) [.r (.n (.c (.I 1)))] [],.a (.v 2) (.l 120 ac [.x (.v 0) (.b .a (.v 1) (.c (.I 1)))]),.a (.v 3) (.l 120 ac [.x (.v 0) (.b .a (.v 1) (.c (.I 2)))]),.r (.i (.a [.m .h (.v 2) (.c (.I 0)),.m .h (.v 3) (.c (.I 0))]) (.b .a (.b .m (.c (.I 16)) (.v 2)) (.v 3)) (.n (.c (.I 1))))]⟩
noncomputable def f71:Fn:=⟨4,1,[],[.a (.v 1) (.d ah []),.g [2] (.c (.I 0)) (.u .l [.v 0]) (.c (.I 1)) [.a (.v 3) (.r [.m .e (.x (.v 0) (.v 2)) (.g 27),.m .e (.x (.v 0) (.v 2)) (.g 28)]),.i (.a [.l 121 ac [.x (.v 0) (.v 2)],.o (.a [.v 3,.m .e (.v 2) (.b .s (.u .l [.v 0]) (.c (.I 1)))])]) [.e (.k .a (.v 1) [.y (.v 0) (.v 2) (.b .a (.v 2) (.c (.I 1)))])] [.e (.k .a (.v 1) [.l 69 ac [.x (.v 0) (.v 2)]])]],.r (.v 1)]⟩
noncomputable def f72:Fn:=⟨6,2,[],[.a (.v 2) (.d ah []),.a (.v 3) (.c (.Y [])),.g [4] (.c (.I 0)) (.u .l [.v 0]) (.c (.I 1)) [.a (.v 5) (.i (.m .e (.v 4) (.b .s (.u .l [.v 0]) (.c (.I 1)))) (.v 1) (.b .s (.v 1) (.c (.I 1)))),.i (.m .g (.b .a (.u .l [.v 3]) (.u .l [.x (.v 0) (.v 4)])) (.v 5)) [.e (.k .a (.v 2) [.b .a (.v 3) (.u .y [.d ac [.g 26]])]),.a (.v 3) (.c (.Y []))] [],.a (.v 3) (.b .a (.v 3) (.x (.v 0) (.v 4)))],.r (.b .a (.v 2) (.d ac [.v 3]))]⟩
noncomputable def f73:Fn:=⟨2,2,[],[.r (.i (.v 1) (.k .s (.v 0) [.c (.Y [13,10])]) (.d ac [.v 0]))]⟩
noncomputable def f74:Fn:=⟨5,3,[.B ah,.I 76],[.i (.m .l (.v 2) (.g 30)) [.d] [],.a (.v 3) (.d ah []),.f [4] (.l 73 ac [.v 0,.v 1]) [.e (.k .e (.v 3) [.l 72 ac [.l 71 ac [.v 4],.v 2]]),.e (.k .a (.v 3) [.c (.Y [13,10])])],.r (.l 75 ac [.y (.v 3) (.c .N) (.b .s (.u .l [.v 3]) (.c (.I 1)))])]⟩
noncomputable def f75:Fn:=⟨3,1,[],[.a (.v 1) (.d ah []),.f [2] (.v 0) [.e (.k .a (.v 1) [.v 2]),.i (.m .e (.y (.v 2) (.n (.c (.I 1))) (.c .N)) (.u .y [.d ac [.g 26]])) [.e (.k .a (.v 1) [.c (.Y [13,10])])] []],.r (.k .j (.c (.Y [])) [.v 1])]⟩
noncomputable def f76:Fn:=⟨4,1,[],[.a (.v 1) (.d ah []),.a (.v 2) (.c (.I 0)),.w (.c (.B ah)) [.a (.v 3) (.k .f (.v 0) [.c (.Y [10]),.v 2]),.i (.m .l (.v 3) (.c (.I 0))) [.r (.b .a (.v 1) (.d ac [.z [.y (.v 0) (.v 2) (.c .N),.c (.Y [])]]))] [],.i (.a [.m .g (.v 3) (.v 2),.m .e (.x (.v 0) (.b .s (.v 3) (.c (.I 1)))) (.g 29)]) [.e (.k .a (.v 1) [.z [.y (.v 0) (.v 2) (.b .s (.v 3) (.c (.I 1))),.c (.Y [13,10])]])] [.e (.k .a (.v 1) [.z [.y (.v 0) (.v 2) (.v 3),.c (.Y [10])]])],.a (.v 2) (.b .a (.v 3) (.c (.I 1)))]]⟩
noncomputable def f77:Fn:=⟨4,1,[],[.a (.v 1) (.d ah []),.a (.v 2) (.c (.I 0)),.w (.m .l (.v 2) (.u .l [.v 0])) [.a (.v 3) (.i (.m .e (.x (.v 0) (.v 2)) (.g 26)) (.l 70 ac [.v 0,.v 2]) (.n (.c (.I 1)))),.i (.m .h (.v 3) (.c (.I 0))) [.e (.k .a (.v 1) [.v 3]),.a (.v 2) (.b .a (.v 2) (.c (.I 3)))] [.e (.k .a (.v 1) [.x (.v 0) (.v 2)]),.a (.v 2) (.b .a (.v 2) (.c (.I 1)))]],.r (.u .y [.v 1])]⟩
noncomputable def f78:Fn:=⟨5,1,[],[.a (.v 1) (.d ah []),.f [2,3] (.l 76 ac [.v 0]) [.a (.v 4) (.k .r (.v 2) [.c (.Y [32,9])]),.i (.m .e (.y (.v 4) (.n (.c (.I 1))) (.c .N)) (.u .y [.d ac [.g 26]])) [.e (.k .a (.v 1) [.l 77 ac [.y (.v 4) (.c .N) (.b .s (.u .l [.v 4]) (.c (.I 1)))]])] [.e (.k .a (.v 1) [.b .a (.l 77 ac [.v 4]) (.v 3)])]],.r (.k .j (.c (.Y [])) [.v 1])]⟩
noncomputable def WC:Fn:=⟨4,1,[],[.a (.v 1) (.l 20 ac [.v 0,.c (.S [99,111,110,116,101,110,116,45,116,114,97,110,115,102,101,114,45,101,110,99,111,100,105,110,103])]),.i (.m .i (.v 1) (.c .N)) [.r (.g 33)] [],.a (.v 2) (.c (.I 0)),.w (.a [.m .l (.v 2) (.u .l [.v 1]),.m .b (.x (.v 1) (.v 2)) (.g 35)]) [.a (.v 2) (.b .a (.v 2) (.c (.I 1)))],.a (.v 3) (.l 11 ac [.k .j (.c (.S [])) [.f (.u .c [.v 4]) [4] (.y (.v 1) (.c .N) (.v 2)) []]]),.r (.i (.m .e (.v 3) (.c (.S []))) (.g 33) (.v 3))]⟩
noncomputable def YH:Fn:=⟨4,2,[],[.a (.v 2) (.b .a (.c (.Y [45,45])) (.v 1)),.i (.m .n (.y (.v 0) (.c .N) (.u .l [.v 2])) (.v 2)) [.r (.c (.S []))] [],.a (.v 3) (.k .r (.y (.v 0) (.u .l [.v 2]) (.c .N)) [.g 36]),.i (.m .e (.v 3) (.c (.Y []))) [.r (.c (.S [110,101,120,116]))] [],.r (.i (.m .e (.v 3) (.c (.Y [45,45]))) (.c (.S [108,97,115,116])) (.c (.S [])))]⟩
noncomputable def VI:Fn:=⟨11,4,[],[.a (.v 4) (.d ah []),.a (.v 5) (.n (.c (.I 1))),.a (.v 6) (.v 1),.f [7,8,9] (.l 12 ac [.v 0,.v 1,.v 2]) [.a (.v 10) (.l 80 ac [.y (.v 0) (.v 7) (.v 8),.v 3]),.i (.m .n (.v 10) (.c (.S []))) [.i (.m .h (.v 5) (.c (.I 0))) [.e (.k .a (.v 4) [.z [.v 5,.u .x [.v 5,.v 6]]])] [],.i (.m .e (.v 10) (.c (.S [108,97,115,116]))) [.r (.v 4)] [],.a (.v 5) (.v 9)] [],.a (.v 6) (.v 8)],.i (.m .h (.v 5) (.c (.I 0))) [.e (.k .a (.v 4) [.z [.v 5,.v 2]])] [],.r (.v 4)]⟩
noncomputable def YI:Fn:=⟨5,2,[],[.a (.v 2) (.k .g (.t (.t (.v 1) 11) 7) [.c (.S [98,111,117,110,100,97,114,121]),.c (.S [])]),.a (.v 3) (.u .y [.f (.u .o [.v 5]) [5] (.v 2) [.m .l (.u .o [.v 5]) (.c (.I 256))]]),.a (.v 4) (.d ac []),.i (.a [.m .n (.v 2) (.c (.S [])),.m .e (.u .l [.v 3]) (.u .l [.v 2])]) [.a (.v 4) (.l 81 ac [.v 0,.t (.v 1) 9,.t (.v 1) 2,.v 3])] [],.r (.i (.m .n (.v 4) (.d ac [])) (.v 4) (.d ac [.z [.t (.v 1) 2,.t (.v 1) 2]]))]⟩
noncomputable def WE:Fn:=⟨1,1,[],[.r (.a [.h 10 (.t (.v 0) 11) [],.m .a (.t (.v 0) 12) (.g 34)])]⟩
noncomputable def Tv:Fn:=⟨11,5,[],[.a (.z [.v 5,.v 6]) (.l 17 ac [.v 0,.v 1,.v 2]),.a (.v 7) (.l 20 ac [.v 5,.c (.S [99,111,110,116,101,110,116,45,116,121,112,101])]),.a (.v 8) (.i (.a [.m .i (.v 7) (.c .N),.v 4]) (.w 2 ac [.c (.S [109,101,115,115,97,103,101]),.c (.S [114,102,99,56,50,50]),.e ac [] []]) (.l 58 ac [.v 7])),.a (.v 9) (.w 3 ah [.v 1,.v 6,.v 2,.v 5,.v 8]),.i (.a [.m .l (.v 3) (.g 32),.h 9 (.v 8) []]) [.a (.v 10) (.m .e (.t (.v 8) 6) (.c (.S [100,105,103,101,115,116]))),.a (.t (.v 9) 13) (.f (.l 84 ac [.v 0,.v 11,.v 12,.b .a (.v 3) (.c (.I 1)),.v 10]) [11,12] (.l 82 ac [.v 0,.v 9]) [])] [.i (.a [.m .l (.v 3) (.g 32),.l 83 ac [.v 9]]) [.a (.t (.v 9) 14) (.l 84 ac [.v 0,.v 6,.v 2,.b .a (.v 3) (.c (.I 1)),.c (.B ac)])] []],.r (.v 9)]⟩
noncomputable def YJ:Fn:=⟨1,1,[],[.r (.l 84 ac [.v 0,.c (.I 0),.u .l [.v 0],.c (.I 0),.c (.B ac)])]⟩
noncomputable def f86:Fn:=⟨2,2,[],[.i (.m .e (.v 0) (.c (.S [98,97,115,101,54,52]))) [.r (.l 8 ac [.v 1])] [],.i (.m .e (.v 0) (.c (.S [113,117,111,116,101,100,45,112,114,105,110,116,97,98,108,101]))) [.r (.l 78 ac [.v 1])] [],.r (.v 1)]⟩
noncomputable def YK:Fn:=⟨2,2,[],[.r (.l 86 ac [.t (.v 1) 12,.y (.v 0) (.t (.v 1) 9) (.t (.v 1) 2)])]⟩
noncomputable def YL:Fn:=⟨1,1,[],[.r (.u .t [.f (.z [.h 3 (.v 1) [],.l 19 ac [.t (.v 1) 4]]) [1] (.v 0) []])]⟩
noncomputable def WG:Fn:=⟨1,1,[],[.r (.i (.m .e (.x (.v 0) (.c (.I 0))) (.c (.S [108,101,116,116,101,114]))) (.v 0) (.b .a (.y (.v 0) (.c .N) (.n (.c (.I 1)))) (.z [.z []])))]⟩
noncomputable def f90:Fn:=⟨3,1,[],[.g [1] (.c (.I 0)) (.u .l [.v 0]) (.c (.I 1)) [.a (.v 2) (.x (.v 0) (.v 1)),.i (.r [.m .e (.v 2) (.c (.I 0)),.m .g (.v 2) (.c (.I 127))]) [.r (.c (.B ac))] [],.i (.r [.a [.m .e (.v 2) (.c (.I 13)),.m .n (.y (.v 0) (.b .a (.v 1) (.c (.I 1))) (.b .a (.v 1) (.c (.I 2)))) (.c (.Y [10]))],.a [.m .e (.v 2) (.c (.I 10)),.m .n (.y (.v 0) (.u .x [.b .s (.v 1) (.c (.I 1)),.c (.I 0)]) (.v 1)) (.c (.Y [13]))]]) [.r (.c (.B ac))] []],.r (.m .e (.f (.c (.I 1)) [3,4,5] (.l 12 ac [.v 0]) [.m .g (.b .s (.v 4) (.v 3)) (.g 37)]) (.d ac []))]⟩
noncomputable def f91:Fn:=⟨2,2,[],[.i (.l 90 ac [.v 0]) [.r (.g 33)] [],.r (.i (.m .l (.u .l [.l 7 ac [.v 0]]) (.u .l [.l 74 ac [.v 0,.v 1]])) (.c (.S [98,97,115,101,54,52])) (.c (.S [113,117,111,116,101,100,45,112,114,105,110,116,97,98,108,101])))]⟩
noncomputable def f92:Fn:=⟨3,3,[],[.i (.m .e (.v 0) (.c (.S [98,97,115,101,54,52]))) [.r (.l 7 ac [.v 1])] [],.r (.i (.m .e (.v 0) (.c (.S [113,117,111,116,101,100,45,112,114,105,110,116,97,98,108,101]))) (.l 74 ac [.v 1,.v 2]) (.v 1))]⟩
noncomputable def YM:Fn:=⟨2,2,[],[.r (.m .n (.f (.c (.I 1)) [2,3,4] (.l 12 ac [.v 0]) [.m .e (.y (.v 0) (.v 2) (.b .a (.v 2) (.u .l [.v 1]))) (.v 1)]) (.d ac []))]⟩
noncomputable def YN:Fn:=⟨4,1,[],[.a (.v 1) (.c (.I 0)),.w (.c (.B ah)) [.a (.v 2) (.b .a (.g 39) (.u .s [.v 1])),.a (.v 3) (.b .a (.c (.Y [45,45])) (.u .y [.f (.u .o [.v 4]) [4] (.v 2) []])),.i (.m .e (.f (.c (.I 1)) [4] (.v 0) [.l 93 ac [.v 4,.v 3]]) (.d ac [])) [.r (.v 2)] [],.a (.v 1) (.b .a (.v 1) (.c (.I 1)))]]⟩
noncomputable def YO:Fn:=⟨1,1,[],[.i (.m .n (.u .l [.l 21 ac [.u .i [.v 0],.g 38]]) (.u .l [.v 0])) [.d] []]⟩
noncomputable def WI:Fn:=⟨4,3,[],[.e (.l 95 ac [.v 0]),.a (.v 3) (.d ah [.w 1 ac [.c (.Y [67,111,110,116,101,110,116,45,84,121,112,101]),.b .a (.c (.Y [32])) (.l 68 ac [.v 1])]]),.i (.m .n (.v 2) (.g 33)) [.e (.k .a (.v 3) [.w 1 ac [.c (.Y [67,111,110,116,101,110,116,45,84,114,97,110,115,102,101,114,45,69,110,99,111,100,105,110,103]),.b .a (.c (.Y [32])) (.u .y [.f (.u .o [.v 4]) [4] (.v 2) []])]])] [],.r (.b .a (.l 23 ac [.b .a (.v 3) (.u .i [.v 0])]) (.g 3))]⟩
noncomputable def YQ:Fn:=⟨3,1,[],[.a (.v 1) (.t (.v 0) 11),.i (.r [.h 9 (.v 1) [],.h 10 (.v 1) []]) [.d] [],.a (.v 2) (.l 91 ac [.t (.v 0) 15,.h 11 (.v 1) []]),.r (.b .a (.l 96 ac [.t (.v 0) 10,.v 1,.v 2]) (.l 92 ac [.v 2,.t (.v 0) 15,.h 11 (.v 1) []]))]⟩
noncomputable def YR:Fn:=⟨3,2,[],[.a (.v 2) (.b .a (.c (.Y [45,45])) (.u .y [.f (.u .o [.v 3]) [3] (.v 1) []])),.r (.b .a (.b .a (.b .a (.k .j (.c (.Y [])) [.f (.b .a (.b .a (.b .a (.v 2) (.g 3)) (.v 3)) (.g 3)) [3] (.v 0) []]) (.v 2)) (.c (.Y [45,45]))) (.g 3))]⟩
noncomputable def YS:Fn:=⟨4,1,[],[.i (.m .e (.u .l [.t (.v 0) 16]) (.c (.I 0))) [.d] [],.a (.v 1) (.f (.l 101 ac [.v 4]) [4] (.t (.v 0) 16) []),.a (.v 2) (.l 94 ac [.v 1]),.a (.v 3) (.w 2 ac [.c (.S [109,117,108,116,105,112,97,114,116]),.t (.v 0) 6,.e ac [.c (.S [98,111,117,110,100,97,114,121])] [.v 2]]),.r (.b .a (.l 96 ac [.t (.v 0) 10,.v 3,.g 33]) (.l 98 ac [.v 1,.v 2]))]⟩
noncomputable def SS:Fn:=⟨1,1,[],[.r (.b .a (.l 96 ac [.z [],.w 2 ac [.c (.S [109,101,115,115,97,103,101]),.c (.S [114,102,99,56,50,50]),.e ac [] []],.g 33]) (.l 102 ac [.t (.v 0) 17,.t (.v 0) 10]))]⟩
noncomputable def MG:Fn:=⟨1,1,[],[.i (.s (.v 0) 5) [.r (.l 99 ac [.v 0])] [],.r (.i (.s (.v 0) 6) (.l 100 ac [.v 0]) (.l 97 ac [.v 0]))]⟩
noncomputable def SU:Fn:=⟨2,2,[],[.e (.l 95 ac [.v 1]),.r (.b .a (.l 23 ac [.b .a (.u .i [.v 1]) (.d ac [.w 1 ac [.c (.Y [77,73,77,69,45,86,101,114,115,105,111,110]),.c (.Y [32,49,46,48])]])]) (.l 101 ac [.v 0]))]⟩
noncomputable def SV:Fn:=⟨2,2,[],[.i (.m .g (.h 2 (.v 0) []) (.v 1)) [.d] []]⟩
noncomputable def SW:Fn:=⟨2,2,[],[.e (.l 103 ac [.v 0,.g 32]),.r (.l 102 ac [.v 0,.v 1])]⟩
noncomputable def SX:Fn:=⟨1,1,[],[.r (.l 88 ac [.l 21 ac [.t (.v 0) 10,.g 38]])]⟩
noncomputable def MH:Fn:=⟨2,2,[],[.i (.m .n (.t (.v 1) 13) (.d ac [])) [.r (.z [.c (.S [109,97,110,121]),.t (.t (.v 1) 11) 6,.u .t [.f (.l 106 ac [.v 0,.v 2]) [2] (.t (.v 1) 13) []],.l 105 ac [.v 1]])] [],.i (.m .j (.t (.v 1) 14) (.c .N)) [.r (.l 107 ac [.v 0,.t (.v 1) 14])] [],.r (.z [.c (.S [108,101,97,102]),.h 1 (.t (.v 1) 11) [],.u .y [.l 87 ac [.v 0,.v 1]],.l 105 ac [.v 1]])]⟩
noncomputable def SY:Fn:=⟨2,2,[],[.r (.z [.c (.S [108,101,116,116,101,114]),.l 89 ac [.l 106 ac [.v 0,.v 1]],.l 105 ac [.v 1]])]⟩
noncomputable def SZ:Fn:=⟨2,1,[],[.a (.v 1) (.f (.b .o (.u .a [.u .n [.v 2]]) (.b .p (.c (.I 10)) (.c (.I 60)))) [2] (.y (.v 0) (.c .N) (.c (.I 40))) []),.r (.e ac [.c (.S [99,101,108,108,115]),.c (.S [97,116]),.c (.S [114,101,115,116]),.c (.S [114,117,110]),.c (.S [114,111,111,109])] [.v 1,.c (.I 0),.n (.c (.I 1)),.b .a (.c (.I 3)) (.b .o (.u .u [.v 1]) (.c (.I 2147483587))),.c (.I 8)])]⟩
noncomputable def MI:Fn:=⟨3,2,[],[.i (.m .l (.x (.v 0) (.c (.S [114,101,115,116]))) (.c (.I 0))) [.i (.m .e (.x (.v 0) (.c (.S [97,116]))) (.u .l [.x (.v 0) (.c (.S [99,101,108,108,115]))])) [.a (.x (.v 0) (.c (.S [114,117,110]))) (.b .o (.b .a (.b .m (.x (.v 0) (.c (.S [114,117,110]))) (.c (.I 16807))) (.c (.I 5))) (.c (.I 2147483647))),.r (.b .o (.b .f (.x (.v 0) (.c (.S [114,117,110]))) (.c (.I 16))) (.v 1))] [],.a (.x (.v 0) (.c (.S [114,101,115,116]))) (.x (.x (.v 0) (.c (.S [99,101,108,108,115]))) (.x (.v 0) (.c (.S [97,116])))),.a (.x (.v 0) (.c (.S [97,116]))) (.b .a (.x (.v 0) (.c (.S [97,116]))) (.c (.I 1)))] [],.a (.v 2) (.b .o (.x (.v 0) (.c (.S [114,101,115,116]))) (.v 1)),.a (.x (.v 0) (.c (.S [114,101,115,116]))) (.i (.m .h (.x (.v 0) (.c (.S [114,101,115,116]))) (.v 1)) (.b .f (.x (.v 0) (.c (.S [114,101,115,116]))) (.v 1)) (.n (.c (.I 1)))),.r (.v 2)]⟩
noncomputable def Jl:Fn:=⟨5,3,[],[.a (.x (.v 0) (.c (.S [114,111,111,109]))) (.b .s (.x (.v 0) (.c (.S [114,111,111,109]))) (.c (.I 1))),.a (.v 3) (.x (.z [.c (.S [108,101,97,102]),.c (.S [109,97,110,121]),.c (.S [108,101,116,116,101,114]),.c (.S [109,97,110,121])]) (.l 109 ac [.v 0,.c (.I 4)])),.i (.r [.m .e (.v 1) (.c (.I 3)),.m .l (.x (.v 0) (.c (.S [114,111,111,109]))) (.c (.I 1))]) [.a (.v 3) (.c (.S [108,101,97,102]))] [],.a (.v 4) (.e ah [.c (.S [115,111,114,116]),.c (.S [102,105,101,108,100,115])] [.v 3,.i (.v 2) (.z []) (.x (.g 42) (.l 109 ac [.v 0,.c (.I 4)]))]),.i (.m .e (.v 3) (.c (.S [109,97,110,121]))) [.a (.x (.v 4) (.c (.S [115,117,98]))) (.x (.g 43) (.l 109 ac [.v 0,.c (.I 5)])),.a (.x (.v 4) (.c (.S [102,108,105,112]))) (.l 109 ac [.v 0,.c (.I 2)]),.a (.x (.v 4) (.c (.S [115,116,121,108,101]))) (.l 109 ac [.v 0,.c (.I 4)]),.a (.x (.v 4) (.c (.S [107,105,100,115]))) (.j (.l 110 ac [.v 0,.b .a (.v 1) (.c (.I 1)),.c (.B ac)]) [5] (.c (.I 0)) (.b .a (.c (.I 1)) (.l 109 ac [.v 0,.c (.I 2)])) (.c (.I 1)) [])] [.i (.m .e (.v 3) (.c (.S [108,101,116,116,101,114]))) [.a (.x (.v 4) (.c (.S [104,101,97,100]))) (.x (.g 42) (.l 109 ac [.v 0,.c (.I 4)])),.a (.x (.v 4) (.c (.S [102,108,105,112]))) (.l 109 ac [.v 0,.c (.I 2)]),.a (.x (.v 4) (.c (.S [105,110,110,101,114]))) (.l 110 ac [.v 0,.b .a (.v 1) (.c (.I 1)),.c (.B ah)])] [.a (.x (.v 4) (.c (.S [107,105,110,100]))) (.x (.g 40) (.l 109 ac [.v 0,.c (.I 5)])),.a (.x (.v 4) (.c (.S [98,111,100,121]))) (.x (.g 41) (.l 109 ac [.v 0,.c (.I 5)])),.a (.x (.v 4) (.c (.S [119,97,121]))) (.l 109 ac [.v 0,.c (.I 4)]),.a (.x (.v 4) (.c (.S [102,108,105,112]))) (.l 109 ac [.v 0,.c (.I 2)])]],.r (.v 4)]⟩
noncomputable def We:Fn:=⟨1,1,[],[.r (.z [.u .t [.f (.k .l (.k .j (.c (.S [])) [.f (.u .c [.v 4]) [4] (.v 1) []]) []) [1,2,3] (.v 0) []],.u .t [.f (.v 3) [1,2,3] (.v 0) []]])]⟩
noncomputable def Jn:Fn:=⟨2,1,[],[.a (.v 1) (.u .z [.l 111 ac [.x (.v 0) (.c (.S [102,105,101,108,100,115]))]]),.i (.m .e (.x (.v 0) (.c (.S [115,111,114,116]))) (.c (.S [108,101,97,102]))) [.r (.z [.c (.S [108,101,97,102]),.x (.x (.v 0) (.c (.S [107,105,110,100]))) (.c (.I 0)),.x (.x (.v 0) (.c (.S [98,111,100,121]))) (.c (.I 0)),.v 1])] [],.i (.m .e (.x (.v 0) (.c (.S [115,111,114,116]))) (.c (.S [109,97,110,121]))) [.r (.z [.c (.S [109,97,110,121]),.x (.v 0) (.c (.S [115,117,98])),.u .t [.f (.l 112 ac [.v 2]) [2] (.x (.v 0) (.c (.S [107,105,100,115]))) []],.v 1])] [],.r (.z [.c (.S [108,101,116,116,101,114]),.l 112 ac [.x (.v 0) (.c (.S [105,110,110,101,114]))],.u .z [.l 111 ac [.x (.v 0) (.c (.S [104,101,97,100]))]]])]⟩
noncomputable def MJ:Fn:=⟨5,1,[],[.i (.m .e (.x (.v 0) (.c (.S [115,111,114,116]))) (.c (.S [108,101,116,116,101,114]))) [.r (.w 6 ac [.l 113 ac [.x (.v 0) (.c (.S [105,110,110,101,114]))],.u .t [.f (.w 1 ac [.v 5,.v 6]) [5,6,7] (.x (.v 0) (.c (.S [104,101,97,100]))) []]])] [],.a (.v 1) (.u .t [.f (.w 1 ac [.v 5,.v 6]) [5,6,7] (.x (.v 0) (.c (.S [102,105,101,108,100,115]))) []]),.i (.m .e (.x (.v 0) (.c (.S [115,111,114,116]))) (.c (.S [109,97,110,121]))) [.r (.w 5 ac [.x (.v 0) (.c (.S [115,117,98])),.f (.l 113 ac [.v 5]) [5] (.x (.v 0) (.c (.S [107,105,100,115]))) [],.v 1])] [],.a (.z [.v 2,.v 3,.v 4]) (.x (.x (.v 0) (.c (.S [107,105,110,100]))) (.c (.I 0))),.r (.w 4 ac [.w 2 ac [.v 2,.v 3,.u .d [.v 4]],.x (.x (.v 0) (.c (.S [98,111,100,121]))) (.c (.I 0)),.v 1])]⟩
noncomputable def Tc:Fn:=⟨1,1,[],[.r (.k .j (.c (.Y [])) [.f (.b .a (.b .a (.b .a (.x (.v 1) (.c (.I 0))) (.c (.Y [58]))) (.x (.v 1) (.c (.I 1)))) (.c (.Y [13,10]))) [1] (.v 0) []])]⟩
noncomputable def MK:Fn:=⟨8,2,[],[.i (.m .e (.x (.v 0) (.c (.S [115,111,114,116]))) (.c (.S [108,101,116,116,101,114]))) [.r (.b .a (.b .a (.v 1) (.c (.Y [67,111,110,116,101,110,116,45,84,121,112,101,58,32,109,101,115,115,97,103,101,47,114,102,99,56,50,50,13,10,13,10]))) (.l 115 ac [.x (.v 0) (.c (.S [105,110,110,101,114])),.b .a (.l 114 ac [.x (.v 0) (.c (.S [104,101,97,100]))]) (.c (.Y [77,73,77,69,45,86,101,114,115,105,111,110,58,32,49,46,48,13,10]))]))] [],.a (.v 2) (.b .a (.l 114 ac [.x (.v 0) (.c (.S [102,105,101,108,100,115]))]) (.c (.Y [13,10]))),.i (.m .e (.x (.v 0) (.c (.S [115,111,114,116]))) (.c (.S [108,101,97,102]))) [.a (.v 3) (.i (.m .e (.x (.x (.v 0) (.c (.S [98,111,100,121]))) (.c (.I 1))) (.c (.Y []))) (.c (.Y [])) (.b .a (.b .a (.c (.Y [67,111,110,116,101,110,116,45,84,114,97,110,115,102,101,114,45,69,110,99,111,100,105,110,103,58,32])) (.x (.x (.v 0) (.c (.S [98,111,100,121]))) (.c (.I 1)))) (.c (.Y [13,10])))),.r (.b .a (.b .a (.b .a (.b .a (.b .a (.b .a (.v 1) (.c (.Y [67,111,110,116,101,110,116,45,84,121,112,101,58,32]))) (.x (.x (.v 0) (.c (.S [107,105,110,100]))) (.c (.I 1)))) (.c (.Y [13,10]))) (.v 3)) (.v 2)) (.x (.x (.v 0) (.c (.S [98,111,100,121]))) (.c (.I 2))))] [],.a (.v 4) (.f (.l 115 ac [.v 8,.c (.Y [])]) [8] (.x (.v 0) (.c (.S [107,105,100,115]))) []),.a (.v 5) (.c (.I 48)),.w (.m .n (.f (.c (.I 1)) [8] (.v 4) [.m .a (.b .a (.c (.Y [10,45,45,61,95,112,97,114,116])) (.u .y [.d ac [.v 5]])) (.b .a (.c (.Y [10])) (.v 8))]) (.d ac [])) [.a (.v 5) (.b .a (.v 5) (.c (.I 1)))],.a (.v 6) (.b .a (.c (.Y [45,45,61,95,112,97,114,116])) (.u .y [.d ac [.v 5]])),.a (.v 7) (.b .a (.b .a (.b .a (.b .a (.c (.Y [109,117,108,116,105,112,97,114,116,47])) (.u .y [.f (.u .o [.v 8]) [8] (.x (.v 0) (.c (.S [115,117,98]))) []])) (.c (.Y [59,13,10,32,98,111,117,110,100,97,114,121,61,34]))) (.y (.v 6) (.c (.I 2)) (.c .N))) (.c (.Y [34,13,10]))),.r (.b .a (.b .a (.b .a (.b .a (.b .a (.b .a (.v 1) (.c (.Y [67,111,110,116,101,110,116,45,84,121,112,101,58,32]))) (.v 7)) (.v 2)) (.k .j (.c (.Y [])) [.f (.b .a (.b .a (.b .a (.v 6) (.c (.Y [13,10]))) (.v 8)) (.c (.Y [13,10]))) [8] (.v 4) []])) (.v 6)) (.c (.Y [45,45,13,10])))]⟩
noncomputable def Jo:Fn:=⟨13,4,[],[.a (.v 4) (.d ac []),.i (.m .e (.x (.v 0) (.c (.S [115,111,114,116]))) (.c (.S [108,101,97,102]))) [.a (.v 5) (.x (.v 0) (.c (.S [119,97,121]))),.a (.v 4) (.y (.d ac [.z [.c (.Y [99,111,110,116,101,110,116,45,84,89,80,69]),.x (.x (.v 0) (.c (.S [107,105,110,100]))) (.c (.I 2))],.z [.c (.Y [67,111,110,116,101,110,116,45,116,114,97,110,115,102,101,114,45,101,110,99,111,100,105,110,103]),.x (.z [.c (.Y []),.c (.Y [32,66,65,83,69,54,52,32,40,99,41]),.c (.Y [81,117,111,116,101,100,45,80,114,105,110,116,97,98,108,101]),.c (.Y [32,66,105,110,97,114,121])]) (.v 5)]]) (.c .N) (.i (.m .g (.v 5) (.c (.I 0))) (.c (.I 2)) (.c (.I 1)))),.a (.v 6) (.x (.x (.v 0) (.c (.S [98,111,100,121]))) (.x (.z [.c (.I 0),.c (.I 3),.c (.I 4),.c (.I 0)]) (.v 5)))] [.i (.m .e (.x (.v 0) (.c (.S [115,111,114,116]))) (.c (.S [108,101,116,116,101,114]))) [.i (.r [.o (.v 3),.m .e (.x (.v 0) (.c (.S [102,108,105,112]))) (.c (.I 0))]) [.a (.v 4) (.d ac [.z [.c (.Y [67,79,78,84,69,78,84,45,84,89,80,69]),.c (.Y [40,120,41,32,77,101,115,115,97,103,101,32,47,32,82,70,67,56,50,50])]])] [],.a (.v 6) (.l 116 ac [.x (.v 0) (.c (.S [105,110,110,101,114])),.b .a (.u .i [.x (.v 0) (.c (.S [104,101,97,100]))]) (.d ac [.z [.c (.Y [77,105,109,101,45,118,101,114,115,105,111,110]),.c (.Y [32,49,46,48,32,40,120,41])]]),.b .a (.v 2) (.c (.I 1)),.c (.B ac)])] [.a (.v 7) (.x (.z [.c (.Y [98,48]),.c (.Y [99,32,99]),.c (.Y [61,95,113]),.c (.Y [100,39,100])]) (.v 2)),.a (.v 8) (.b .a (.c (.Y [45,45])) (.v 7)),.a (.v 9) (.u .y [.f (.u .o [.v 13]) [13] (.k .u (.x (.v 0) (.c (.S [115,117,98]))) []) []]),.a (.v 4) (.d ac [.z [.c (.Y [67,111,110,116,101,110,116,45,84,121,112,101]),.b .a (.b .a (.b .a (.b .a (.c (.Y [9,77,117,108,116,105,112,97,114,116,47])) (.v 9)) (.c (.Y [59,32,120,61,49,59,98,111,117,110,100,97,114,121,61,34]))) (.v 7)) (.c (.Y [34]))]]),.a (.v 10) (.x (.z [.c (.Y [13,10]),.c (.Y [32,9,13,10]),.c (.Y [13,10]),.c (.Y [13,10])]) (.x (.v 0) (.c (.S [115,116,121,108,101])))),.a (.v 11) (.f (.b .a (.b .a (.v 8) (.v 10)) (.l 116 ac [.v 13,.d ac [],.b .a (.v 2) (.c (.I 1)),.m .e (.x (.v 0) (.c (.S [115,117,98]))) (.c (.S [100,105,103,101,115,116]))])) [13] (.x (.v 0) (.c (.S [107,105,100,115]))) []),.a (.v 6) (.b .a (.x (.z [.c (.Y []),.c (.Y [112,114,101,13,10]),.c (.Y []),.c (.Y [])]) (.x (.v 0) (.c (.S [115,116,121,108,101])))) (.k .j (.c (.Y [13,10])) [.v 11])),.a (.v 6) (.b .a (.v 6) (.x (.z [.b .a (.b .a (.c (.Y [13,10])) (.v 8)) (.c (.Y [45,45,13,10])),.b .a (.b .a (.b .a (.c (.Y [13,10])) (.v 8)) (.c (.Y [45,45]))) (.v 10),.b .a (.b .a (.c (.Y [13,10])) (.v 8)) (.c (.Y [45,45,13,10,45,45,98,57,13,10,101,112,105])),.c (.Y [])]) (.x (.v 0) (.c (.S [115,116,121,108,101])))))]],.a (.v 12) (.u .i [.x (.v 0) (.c (.S [102,105,101,108,100,115]))]),.r (.b .a (.b .a (.l 114 ac [.b .a (.v 1) (.i (.m .e (.x (.v 0) (.c (.S [102,108,105,112]))) (.c (.I 1))) (.b .a (.v 12) (.v 4)) (.b .a (.v 4) (.v 12)))]) (.c (.Y [13,10]))) (.v 6))]⟩
noncomputable def Qj:Fn:=⟨11,1,[],[.a (.v 1) (.l 108 ah [.v 0]),.a (.v 2) (.x (.g 42) (.l 109 ac [.v 1,.c (.I 4)])),.a (.v 3) (.l 110 ac [.v 1,.c (.I 0),.c (.B ah)]),.a (.v 4) (.e ac [.c (.S [115,111,114,116]),.c (.S [102,105,101,108,100,115]),.c (.S [104,101,97,100]),.c (.S [105,110,110,101,114])] [.c (.S [108,101,116,116,101,114]),.z [],.v 2,.v 3]),.a (.v 5) (.l 112 ac [.v 4]),.a (.v 6) (.l 116 ac [.v 3,.b .a (.u .i [.v 2]) (.d ac [.z [.c (.Y [70,114,111,109]),.c (.Y [32,97,64,98])],.z [.c (.Y [109,105,109,101,45,86,69,82,83,73,79,78]),.c (.Y [49,46,48])]]),.c (.I 0),.c (.B ac)]),.a (.v 7) (.l 85 ac [.v 6]),.i (.m .n (.l 107 ac [.v 6,.v 7]) (.z [.c (.S [108,101,116,116,101,114]),.x (.v 5) (.c (.I 1)),.b .a (.x (.v 5) (.c (.I 2))) (.z [.z [.c (.S [102,114,111,109]),.c (.Y [97,64,98])]])])) [.r (.c (.B ac))] [],.i (.a [.m .n (.x (.v 3) (.c (.S [115,111,114,116]))) (.c (.S [108,101,116,116,101,114])),.m .n (.l 106 ac [.v 6,.v 7]) (.b .a (.y (.x (.v 5) (.c (.I 1))) (.c .N) (.n (.c (.I 1)))) (.z [.b .a (.x (.v 5) (.c (.I 2))) (.z [.z [.c (.S [102,114,111,109]),.c (.Y [97,64,98])]])]))]) [.r (.c (.B ac))] [],.a (.v 8) (.l 113 ac [.v 3]),.a (.v 9) (.u .t [.f (.w 1 ac [.v 11,.v 12]) [11,12,13] (.v 2) []]),.i (.r [.m .n (.h 1 (.w 6 ac [.v 8,.v 9]) []) (.v 5),.m .n (.h 1 (.v 8) []) (.x (.v 5) (.c (.I 1)))]) [.r (.c (.B ac))] [],.a (.v 10) (.l 104 ac [.v 8,.v 9]),.r (.a [.m .e (.v 10) (.l 115 ac [.v 3,.b .a (.l 114 ac [.v 2]) (.c (.Y [77,73,77,69,45,86,101,114,115,105,111,110,58,32,49,46,48,13,10]))]),.m .e (.l 107 ac [.v 10,.l 85 ac [.v 10]]) (.v 5)])]⟩
noncomputable def Wf:Fn:=⟨1,1,[],[.r (.m .e (.f (.v 1) [1] (.v 0) [.o (.p .k .l (.c (.I 32)) (.u .o [.v 1]) (.c (.I 127)))]) (.d ac []))]⟩
noncomputable def Wg:Fn:=⟨1,1,[],[.i (.p .k .k (.c (.I 48)) (.v 0) (.c (.I 57))) [.r (.b .s (.v 0) (.c (.I 48)))] [],.i (.p .k .k (.c (.I 65)) (.v 0) (.c (.I 70))) [.r (.b .s (.v 0) (.c (.I 55)))] [],.i (.p .k .k (.c (.I 97)) (.v 0) (.c (.I 102))) [.r (.b .s (.v 0) (.c (.I 87)))] [],.r (.n (.c (.I 1)))]⟩
noncomputable def Wh:Fn:=⟨1,1,[],[.r (.r [.m .e (.v 0) (.g 27),.m .e (.v 0) (.g 28),.a [.p .k .k (.c (.I 33)) (.v 0) (.c (.I 126)),.m .n (.v 0) (.g 26)]])]⟩
noncomputable def Wi:Fn:=⟨4,4,[.I 0,.I (-1)],[.a (.t (.v 0) 1) (.v 1),.a (.t (.v 0) 0) (.v 2),.a (.t (.v 0) 2) (.i (.m .l (.v 3) (.c (.I 0))) (.u .l [.v 1]) (.u .m [.v 3,.u .l [.v 1]]))]⟩
noncomputable def Wj:Fn:=⟨1,1,[],[.r (.m .h (.t (.v 0) 0) (.t (.v 0) 2))]⟩
noncomputable def Wl:Fn:=⟨3,2,[.I 0],[.a (.v 2) (.b .a (.t (.v 0) 0) (.v 1)),.r (.i (.p .k .l (.c (.I 0)) (.v 2) (.t (.v 0) 2)) (.x (.t (.v 0) 1) (.v 2)) (.n (.c (.I 1))))]⟩
noncomputable def Wm:Fn:=⟨2,1,[],[.a (.v 1) (.h 4 (.v 0) []),.i (.m .h (.v 1) (.c (.I 0))) [.a (.t (.v 0) 0) (.b .a (.t (.v 0) 0) (.c (.I 1)))] [],.r (.v 1)]⟩
noncomputable def Wn:Fn:=⟨2,2,[],[.r (.a [.m .k (.b .a (.t (.v 0) 0) (.u .l [.v 1])) (.t (.v 0) 2),.m .e (.y (.t (.v 0) 1) (.t (.v 0) 0) (.b .a (.t (.v 0) 0) (.u .l [.v 1]))) (.v 1)])]⟩
noncomputable def Wo:Fn:=⟨2,2,[],[.i (.o (.h 8 (.v 0) [.v 1])) [.r (.c (.B ac))] [],.a (.t (.v 0) 0) (.b .a (.t (.v 0) 0) (.u .l [.v 1])),.r (.c (.B ah))]⟩
noncomputable def Tg:Fn:=⟨3,3,[],[.a (.t (.v 0) 3) (.v 1),.a (.t (.v 0) 4) (.v 2)]⟩
noncomputable def Wp:Fn:=⟨1,1,[],[.r (.l 11 ac [.k .j (.c (.S [])) [.f (.u .c [.v 1]) [1] (.t (.v 0) 3) []]])]⟩
noncomputable def Wt:Fn:=⟨1,1,[],[.r (.z [.t (.v 0) 3,.t (.v 0) 4])]⟩
noncomputable def Th:Fn:=⟨4,4,[],[.a (.t (.v 0) 5) (.v 1),.a (.t (.v 0) 6) (.v 2),.a (.t (.v 0) 7) (.v 3)]⟩
noncomputable def Wu:Fn:=⟨1,1,[],[.r (.z [.t (.v 0) 5,.t (.v 0) 6,.u .t [.f (.z [.v 1,.x (.t (.v 0) 7) (.v 1)]) [1] (.u .r [.t (.v 0) 7]) []]])]⟩
noncomputable def Ti:Fn:=⟨1,1,[],[.r (.m .e (.t (.v 0) 5) (.c (.S [109,117,108,116,105,112,97,114,116])))]⟩
noncomputable def Tj:Fn:=⟨1,1,[],[.r (.a [.m .e (.t (.v 0) 5) (.c (.S [109,101,115,115,97,103,101])),.m .e (.t (.v 0) 6) (.c (.S [114,102,99,56,50,50]))])]⟩
noncomputable def Wv:Fn:=⟨1,1,[],[.r (.m .e (.t (.v 0) 5) (.c (.S [116,101,120,116])))]⟩
noncomputable def Tk:Fn:=⟨6,6,[],[.a (.t (.v 0) 8) (.v 1),.a (.t (.v 0) 9) (.v 2),.a (.t (.v 0) 2) (.v 3),.a (.t (.v 0) 10) (.v 4),.a (.t (.v 0) 11) (.v 5),.a (.t (.v 0) 12) (.l 79 ac [.v 4]),.a (.t (.v 0) 13) (.d ac []),.a (.t (.v 0) 14) (.c .N)]⟩
noncomputable def Ww:Fn:=⟨3,1,[],[.a (.v 1) (.i (.m .i (.t (.v 0) 14) (.c .N)) (.c .N) (.h 1 (.t (.v 0) 14) [])),.a (.v 2) (.u .t [.f (.h 1 (.v 3) []) [3] (.t (.v 0) 13) []]),.r (.z [.t (.v 0) 8,.t (.v 0) 9,.t (.v 0) 2,.h 1 (.t (.v 0) 11) [],.t (.v 0) 12,.v 2,.v 1])]⟩
noncomputable def Tl:Fn:=⟨4,4,[.T []],[.a (.t (.v 0) 11) (.v 1),.a (.t (.v 0) 15) (.v 2),.a (.t (.v 0) 10) (.v 3)]⟩
noncomputable def Tm:Fn:=⟨1,1,[],[.r (.z [.c (.S [108,101,97,102]),.h 1 (.t (.v 0) 11) [],.u .y [.t (.v 0) 15],.l 88 ac [.t (.v 0) 10]])]⟩
noncomputable def Tn:Fn:=⟨1,1,[],[.r (.c (.I 0))]⟩
noncomputable def To:Fn:=⟨4,4,[.T []],[.a (.t (.v 0) 6) (.v 1),.a (.t (.v 0) 16) (.v 2),.a (.t (.v 0) 10) (.v 3)]⟩
noncomputable def Tp:Fn:=⟨1,1,[],[.r (.z [.c (.S [109,97,110,121]),.t (.v 0) 6,.u .t [.f (.h 1 (.v 1) []) [1] (.t (.v 0) 16) []],.l 88 ac [.t (.v 0) 10]])]⟩
noncomputable def Tq:Fn:=⟨1,1,[],[.r (.b .a (.c (.I 1)) (.u .x [.b .a (.d ac [.c (.I 0)]) (.f (.h 2 (.v 1) []) [1] (.t (.v 0) 16) [])]))]⟩
noncomputable def Qk:Fn:=⟨3,3,[.T []],[.a (.t (.v 0) 17) (.v 1),.a (.t (.v 0) 10) (.v 2)]⟩
noncomputable def Tr:Fn:=⟨2,1,[],[.a (.v 1) (.i (.s (.t (.v 0) 17) 6) (.z []) (.u .t [.t (.t (.v 0) 17) 10])),.r (.z [.c (.S [108,101,116,116,101,114]),.l 89 ac [.h 1 (.t (.v 0) 17) []],.l 88 ac [.b .a (.u .t [.t (.v 0) 10]) (.v 1)]])]⟩
noncomputable def Ts:Fn:=⟨1,1,[],[.r (.b .a (.c (.I 1)) (.h 2 (.t (.v 0) 17) []))]⟩
noncomputable def fT:List (Option Fn):=[ag,aa f1,aa f2,aa f3,aa f4,aa f5,aa f6,aa f7,aa f8,aa f9,aa ZB,aa ZC,aa Tf,aa YA,aa ZD,aa YB,aa YC,aa YD,aa ZE,aa ZF,aa WB,aa YE,aa ZH,aa YG,aa ZI,aa ZJ,aa ZK,aa ZL,ag,aa ZM,aa ZN,aa ZO,aa ZP,aa ZQ,aa ZR,aa ZS,aa ZT,aa ZU,aa ZV,aa ZW,aa ZX,aa ZY,aa ZZ,aa Z0,aa Z1,aa Z2,aa Z3,aa Z4,aa Z5,aa Z6,aa Z7,aa Z8,ag,aa Z9,aa f54,aa f55,aa f56,aa f57,aa f58,aa f59,ag,aa f61,aa f62,aa f63,aa f64,aa f65,aa f66,aa f67,aa f68,aa f69,aa f70,aa f71,aa f72,aa f73,aa f74,aa f75,aa f76,aa f77,aa f78,aa WC,aa YH,aa VI,aa YI,aa WE,aa Tv,aa YJ,aa f86,aa YK,aa YL,aa WG,aa f90,aa f91,aa f92,aa YM,aa YN,aa YO,aa WI,aa YQ,aa YR,aa YS,aa SS,aa MG,aa SU,aa SV,aa SW,aa SX,aa MH,aa SY,aa SZ,aa MI,aa Jl,aa We,aa Jn,aa MJ,aa Tc,aa MK,aa Jo,aa Qj,ag,aa Wf,aa Wg,aa Wh,aa Wi,aa Wj,aa Wl,aa Wm,aa Wn,aa Wo,aa Tg,aa Wp,aa Wt,aa Th,aa Wu,aa Ti,aa Tj,aa Wv,aa Tk,aa Ww,aa Tl,aa Tm,aa Tn,aa To,aa Tp,aa Tq,aa Qk,aa Tr,aa Ts]
noncomputable def P0(f:Nat):Option Fn:=(fT[f]?).getD ag
noncomputable def mT:List (Nat×Nat×Nat):=[(0,0,122),(0,6,123),(0,4,124),(0,5,125),(0,8,126),(0,7,127),(1,0,128),(1,3,129),(1,1,130),(2,0,131),(2,1,132),(2,9,133),(2,10,134),(2,11,135),(3,0,136),(3,1,137),(4,0,138),(4,1,139),(4,2,140),(5,0,141),(5,1,142),(5,2,143),(6,0,144),(6,1,145),(6,2,146)]
noncomputable def gT:List MV:=[.Y [65,66,67,68,69,70,71,72,73,74,75,76,77,78,79,80,81,82,83,84,85,86,87,88,89,90,97,98,99,100,101,102,103,104,105,106,107,108,109,110,111,112,113,114,115,116,117,118,119,120,121,122,48,49,50,51,52,53,54,55,56,57,43,47],
 (.I 61),
 (.Y [13,10]),
 (.Y [13,10]),
 (.I 13),
 (.T [.I 32,.I 9]),
 (.S [117,115,45,97,115,99,105,105]),
 (.S [105,115,111,45,56,56,53,57,45,49]),
 (.S [117,116,102,45,56]),
 (.T [.S [117,115,45,97,115,99,105,105],.S [105,115,111,45,56,56,53,57,45,49],.S [117,116,102,45,56]]),
 (.S [65533]),
 (.I 20),
 (.T [.I 0,.I 10,.I 13]),
 (.T [.I 9,.I 10,.I 13,.I 32]),
 (.I 59),
 (.I 61),
 (.I 34),
 (.I 40),
 (.I 37),
 (.Y [40,41,60,62,64,44,59,58,92,34,47,91,93,63,61]),
 (.Y [42,39,37]),
 (.Y [48,49,50,51,52,53,54,55,56,57,65,66,67,68,69,70]),
 (.I 78),
 (.I 40),
 (.I 1000),
 (.I 66),
 (.I 61),
 (.I 32),
 (.I 9),
 (.I 13),
 (.I 4),
 (.Y [48,49,50,51,52,53,54,55,56,57,65,66,67,68,69,70]),
 (.I 20),
 (.S [55,98,105,116]),
 (.T [.S [55,98,105,116],.S [56,98,105,116],.S [98,105,110,97,114,121]]),
 (.Y [32,9,40,59]),
 (.Y [32,9]),
 (.I 998),
 (.T [.S [99,111,110,116,101,110,116,45,116,121,112,101],.S [99,111,110,116,101,110,116,45,116,114,97,110,115,102,101,114,45,101,110,99,111,100,105,110,103],.S [109,105,109,101,45,118,101,114,115,105,111,110]]),
 (.S [61,95,112,97,114,116]),
 (.T [.T [.T [.S [116,101,120,116],.S [112,108,97,105,110],.T [.T [.S [99,104,97,114,115,101,116],.S [117,116,102,45,56]]]],.Y [116,101,120,116,47,112,108,97,105,110,59,13,10,32,99,104,97,114,115,101,116,61,117,116,102,45,56],.Y [84,69,88,84,47,80,108,97,105,110,32,40,99,41,59,32,67,104,97,114,83,101,116,61,34,117,116,102,45,56,34]],.T [.T [.S [116,101,120,116],.S [104,116,109,108],.T []],.Y [116,101,120,116,47,104,116,109,108],.Y [84,101,120,116,47,72,84,77,76,59]],.T [.T [.S [97,112,112,108,105,99,97,116,105,111,110],.S [111,99,116,101,116,45,115,116,114,101,97,109],.T [.T [.S [110,97,109,101],.S [120,46,121]]]],.Y [97,112,112,108,105,99,97,116,105,111,110,47,111,99,116,101,116,45,115,116,114,101,97,109,59,13,10,32,110,97,109,101,61,120,46,121],.Y [65,112,112,108,105,99,97,116,105,111,110,47,79,99,116,101,116,45,83,116,114,101,97,109,59,13,10,9,110,97,109,101,42,49,61,46,121,59,78,65,77,69,42,48,61,120]],.T [.T [.S [105,109,97,103,101],.S [112,110,103],.T []],.Y [105,109,97,103,101,47,112,110,103],.Y [105,109,97,103,101,47,40,112,41,112,110,103]],.T [.T [.S [109,101,115,115,97,103,101],.S [100,101,108,105,118,101,114,121,45,115,116,97,116,117,115],.T []],.Y [109,101,115,115,97,103,101,47,100,101,108,105,118,101,114,121,45,115,116,97,116,117,115],.Y [77,101,115,115,97,103,101,47,68,101,108,105,118,101,114,121,45,83,116,97,116,117,115]]]),
 (.T [.T [.Y [],.Y [],.Y [],.Y [],.Y []],.T [.Y [97,13,10,98],.Y [],.Y [97,13,10,98],.Y [89,81,48,75,89,103,61,61],.Y [97,13,10,98]],.T [.Y [45,45,61,95,112,97,114,116,48,13,10,120],.Y [],.Y [45,45,61,95,112,97,114,116,48,13,10,120],.Y [76,83,48,57,88,51,66,104,99,110,32,81,119,68,81,112,52],.Y [45,45,61,51,68,95,112,97,114,116,48,13,10,120]],.T [.Y [255,254,253],.Y [98,97,115,101,54,52],.Y [47,47,55,57],.Y [47,47,55,57],.Y [61,70,70,61,102,101,61,13,10,61,70,68]],.T [.Y [99,97,102,233],.Y [113,117,111,116,101,100,45,112,114,105,110,116,97,98,108,101],.Y [99,97,102,61,69,57],.Y [89,50,70,109,54,81,61,61],.Y [99,97,102,61,69,57]]]),
 (.T [.T [],.T [.T [.Y [88,45,65],.Y [32,49,13,10,32,50,32],.Y [49,32,50]]],.T [.T [.Y [83,117,98,106,101,99,116],.Y [32,115,13,10,9,116],.Y [115,9,116]],.T [.Y [120,45,97],.Y [],.Y []]],.T [.T [.Y [67,111,110,116,101,110,116,45,73,68],.Y [32,60,99,62],.Y [60,99,62]],.T [.Y [67,111,110,116,101,110,116,45,68,101,115,99,114,105,112,116,105,111,110],.Y [32,100,32,101],.Y [100,32,101]]]]),
 (.T [(.S [109,105,120,101,100]),(.S [100,105,103,101,115,116]),(.S [97,108,116,101,114,110,97,116,105,118,101]),(.S [114,101,108,97,116,101,100]),(.S [120,45,97,110,121])])]
noncomputable def kZ:Tab:=⟨sL ["at","data","end","name","raw","top","sub","params","begin","body","fields","kind","encoding","kids","inner","octets","pieces","piece"],sL ["Cursor","Field","Kind","Part","Leaf","Many","Letter822"],sL ["_wall","worth_table","group_codes","group_octets","part_encoded","one_line","in_lines","encoded","decoded","lower_code","lower","lower_text","line_spans","line_at","is_name","colon_in","read_spans","read_fields","rows_of","unfolded","first_body","without_words","is_sound","write_fields","charset_names","charset_name","need_charset","utf8_length","utf8_octets","follower_span","utf8_sign","sign_at","text_in","strict_text","guessed_text","has_sign","octets_in","line_end","inside_at","closed_at","comment_at","escaped_octets","plain_kind","is_token_code","skip_between","take_token","is_worth_code","take_worth","small_word","take_pairs","part_number","part_of","hex_worth","percent_decoded","charset_cut","joined_worth","params_of","strict_kind","read_kind","is_token","is_plain","percent_encoded","in_rows","encoded_rows","quoted_rows","number_octets","param_rows","write_params","write_kind","quoted_code","quoted_at","line_pieces","soft_lines","text_lines","quoted_encoded","joined_lines","line_parts","unquoted","quoted_decoded","encoding_of","boundary_way","part_spans","kid_spans","has_inner","read_part","read_message","undone","body_octets","fields_told","bare_piece","is_seven_bit","choose_encoding","in_encoding","begins_line","boundary_for","check_fields","head_octets","leaf_octets","joined_bodies","many_octets","letter_octets","built","letter_whole","check_depth","message","own_fields","tree_of","letter_tree","_law_strip","_law_pick","_law_node","_law_told","_law_due","_law_piece","_law_rows","_law_ours","_law_theirs","law","hex_worth_params","is_plain_params","hex_worth_quoted","is_plain_quoted"],sL ["SIGNS","PAD","LINE_END","CRLF","RETURN_octets","WHITE_headers","ASCII","LATIN","UTF8","CHARSETS","UNKNOWN_SIGN","MOST_DEPTH_tokens","NEVER_ESCAPED","WHITE_params","SEMICOLON","EQUALS_params","QUOTE","BRACKET","PER_CENT","BARRED","BARRED_IN_NAMES","HEX_FIGURES","WIDTH","MOST_NAME","MOST_PARTS","ROOM","EQUALS_quoted","BLANK","TAB","RETURN_quoted","LEAST_WIDTH","HEX","MOST_DEPTH_parts","PLAIN_ENCODING","OPEN_ENCODINGS","WORD_ENDS","BLANKS","MOST_LINE","OWN_WORDS","BOUNDARY_LEAD","_law_kinds","_law_bodies","_law_fields","_law_subs"],sL ["__init__","told","depth","word","peek","take","is_done","skip","starts","is_multi","is_letter","is_text"],[108]⟩
noncomputable def lL:List Nat:=[204,263,510,789,896,929,966]
noncomputable def nsA:List Nat:=[203,262,509,788,895,928,965]
noncomputable def OM:List Nat:=[21,26,31,36,43,50,55,63,70,215,220,225,233,274,281,288,296,302,309,316,323,328,335,340,348,355,362,367,374,381,388,395,402,409,416,423,430,438,445,452,459,466,521,528,535,542,549,556,561,568,575,582,695,594,599,606,613,620,627,632,709,644,651,656,661,666,671,676,681,688,702,716,723,730,738,745,752,759,766,798,805,812,817,824,829,836,843,850,856,863,975,982,989,994,999,1006,1011,1018,1023,1028,1035,1042,1049,1056,1063,1070,1075,1082,1122,1129,1134,1139,1144,1149,1154,1159,1164,1169,587,637,695,709,137,144,152,159,166,173,248,253,260,481,486,493,500,507,781,786,879,886,893,916,921,926,949,956,963]
end
section
set_option maxHeartbeats 0
open PySem PySem.W PySem.Calls PyProof PyProof.Rows PySem.Builtin
noncomputable def wj:List α->Nat->Option α
 |[],_=>ag
 |x::_,0=>aa x
 |_::r,n+1=>wj r n
theorem rX:∀(l:List α) (n:Nat),wj l n=l[n]?
 |[],_=>ae
 |x::_,0=>ae
 |_::r,n+1=>rX r n
theorem DR(h:wj l n=aa x):x∈l:=aT ((rX l n).symm.trans h)
theorem A4(h:x∈l)(n:Nat):(wj l n).getD x∈l:=by
 cases e:wj l n with
 |none=>exact h
 |some y=>exact DR e
noncomputable def H0(P:Params)(a:Addr):Option Obj:=wj (Hd.Kc P) a
noncomputable def JB:Data->Bool
 | .freed=>ah
 |_=>ac
theorem Dn(h:H0 P a=aa o)(hf:JB o.data=ac):(Hd.dE P).get? a=aa o:=by
 show(match(Hd.Kc P).toArray[a]? with|some ⟨_,_,.freed,_⟩=>ag|o=>o)=_
 refine ak (qy) (ak ((rX _ _).symm.trans h) ?_)
 cases o with
 |mk c d da sl=>cases da<;>first|rfl|exact tf hf
noncomputable def kA:List Addr:=lL++nsA++OM
noncomputable def kF(P:Params):Frag:=kA.filterMap λa=>(H0 P a).map λo=>(a,o)
theorem Kf:∀{l:Frag} {a:Addr} {o:Obj},l.lookup a=aa o->(a,o)∈l
 |[],_,_,h=>nn h
 |(b,x)::r,a,o,h=>n6 (b:=a==b) (f:=aa x) (g:=r.lookup a) h (λe h=>oi h▸eq_of_beq e▸.head _) λu h=>.tail _ (Kf h)
theorem MX(P:Params):(kF P).all (λp=> !JB p.2.data)=ah:=by kernel_rfl
theorem TN(h:(kF P).lookup a=aa o):(Hd.dE P).get? a=aa o:=
 aV (List.mem_filterMap.mp (Kf h)) λb u e=>zj e λq e1 e2=>Dn ((show b=a from congrArg dq e2)▸(show q=o from congrArg dX e2)▸e1) (bK _▸aP.mp (MX P) _ (Kf h))
noncomputable def C1(c:Nat):Addr:=(wj lL c).getD 204
noncomputable def ES(f:Nat):Addr:=(wj OM f).getD 21
noncomputable def yy(n:Nat):Str:=(wj kZ.ny n).getD ⟨#[n+2000000]⟩
noncomputable def gg:List (Nat×Nat×Nat)->Nat->Nat->Option Nat
 |[],_,_=>ag
 |(a,b,f)::r,c,n=>match bo a c&&bo b n with|true=>aa f|false=>gg r c n
theorem BY:∀{l:List (Nat×Nat×Nat)} {c n f:Nat},gg l c n=aa f->(c,n,f)∈l
 |[],_,_,_,h=>nn h
 |(a,b,g)::r,c,n,f,h=>n6 (b:=bo a c&&bo b n) (f:=aa g) (g:=gg r c n) h (λe h=>oi h▸aN (aB e).1▸aN (aB e).2▸.head _) λu h=>.tail _ (BY h)
noncomputable def su(P:Params):Cfg:=⟨P,C1,yy,λa=>(Hd.dE P).get? a⟩
noncomputable def VF(prog:Program)(w:World):Cx:=
 {prog:=prog,w:=w,V:=su w.params,T:=kZ,C:=λu u u=>ag,M:=gg mT,G:=gT,d:=0,mg:=(Hd.dE w.params).nsMap dy,mb:=(Hd.dE w.params).nsMap jE,
  fv:=λf=>.ref (ES f),K:=kF w.params}
theorem li(c:Nat):C1 c∈lL:=A4 (l:=lL) (x:=204) (z6 _) c
theorem Qp(f:Nat):ES f∈OM:=A4 (l:=OM) (x:=21) (z6 _) f
theorem jj{β:Type}{f g:α->β}{l:List α}(e:l.map f=l.map g){a:α}(h:a∈l):f a=g a:=List.map_inj_left.mp e a h
theorem Xy(P:Params):(lL.map λa=>findIn (kF P) (.ref a) "__getattribute__")=lL.map λu=>aa (aa (.builtin "object.__getattribute__")):=by kernel_rfl
theorem Xz(P:Params):(lL.map λa=>findIn (kF P) (.ref a) "__setattr__")=lL.map λu=>aa (aa (.builtin "object.__setattr__")):=by kernel_rfl
theorem XA(P:Params):(lL.map λa=>kZ.ny.map λy=>findIn (kF P) (.ref a) y)=lL.map λu=>kZ.ny.map λu=>aa ag:=by kernel_rfl
theorem XB(P:Params):(lL.map λa=>(clsIn (kF P) a).any (·.hasDict))=lL.map λu=>ah:=by kernel_rfl
theorem XC(P:Params):(lL.map λa=>plainOver (kF P) a)=lL.map λu=>ah:=by kernel_rfl
theorem XD:(kZ.ny.map λy=>wF.contains y)=kZ.ny.map λu=>ac:=by kernel_rfl
theorem XE(P:Params):(OM.map λa=>keepIn (kF P) (.ref a))=OM.map λu=>ah:=by kernel_rfl
theorem XF(P:Params):(lL.map λa=>keepIn (kF P) (.ref a))=lL.map λu=>ah:=by kernel_rfl
theorem XG(P:Params):(lL.map λa=>findIn (kF P) (.ref a) "__getattr__")=lL.map λu=>aa ag:=by kernel_rfl
theorem Y7(P:Params):(mT.map λp=>(findIn (kF P) (.ref (C1 p.1)) ((wj kZ.Ni p.2.1).getD ⟨#[]⟩),typeIn (kF P) (.ref (ES p.2.2))))=mT.map λp=>(aa (aa (.ref (ES p.2.2))),aa (.type "function")):=by kernel_rfl
theorem q11:(kZ.Ni.all λy=>kZ.ny.all λz=> !fy z y)=ah:=by kernel_rfl
theorem q12:(kZ.Ni.all λy=> !bo y.cps.toList.length 1)=ah:=by kernel_rfl
theorem Y8:(kZ.ny.all λy=> !bo y.cps.toList.length 1)=ah:=by kernel_rfl
theorem q14(P:Params):(lL.map λa=>makesIn (kF P) a)=lL.map λu=>ah:=by kernel_rfl
theorem q15(P:Params):((gh 7).all λc=>(gh 7).all λd=>bo c d||kin_not (kF P) (C1 d) (C1 c))=ah:=by kernel_rfl
theorem q16(P:Params):(lL.map λa=>findIn (kF P) (.ref a) "__class__")=lL.map λu=>aa (aa (.builtin "object.__class__")):=by kernel_rfl
theorem q17(P:Params):specialIn (kF P) (.builtin "object.__class__") "__get__"=aa (aa (.builtin "getset_descriptor.__get__")):=by kernel_rfl
theorem q18(P:Params):takesIn (kF P) (.builtin "object.__class__")=aa ah:=by kernel_rfl
theorem q19(P:Params):(lL.map λa=>mroIn (kF P) a (.type "object"))=lL.map λu=>aa ah:=by kernel_rfl
theorem q20(P:Params):(rK.map λp=>((Hd.dE P).nsMap dy p.1,(Hd.dE P).nsMap jE p.1))=rK.map λp=>(ag,aa p.2):=by rw[dT];kernel_rfl
theorem q21(P:Params):(kZ.RU.map λy=>(Hd.dE P).nsMap dy y)=(OM.take kZ.RU.length).map λa=>aa (.ref a):=by rw[dT];kernel_rfl
theorem q22(P:Params):(kZ.OB.map λy=>(Hd.dE P).nsMap dy y)=lL.map λa=>aa (.ref a):=by rw[dT];kernel_rfl
noncomputable def Zd:Value->Value->Bool
 | .type a,.type b=>a==b
 |_,_=>ac
noncomputable def NO(f:List Value->Bool):Data->Bool
 | .seq vs _=>f vs.toList
 |_=>ac
noncomputable def U8(f:List Value->Bool)(o:Obj):Bool:=Zd o.cls (.type "tuple")&&o.dict.isNone&&o.slots.isEmpty&&NO f o.data
noncomputable def Nz(P:Params)(f:Obj->Bool):Value->Bool
 | .ref a=>(H0 P a).any f
 |_=>ac
mutual
noncomputable def XJ(P:Params):MV->Value->Bool
 | .N,v=>match v with| .none=>ah|_=>ac
 | .B b,v=>match v with| .bool c=>b==c|_=>ac
 | .I i,v=>match v with| .int j _=>decide (i=j)|_=>ac
 | .S l,v=>match v with| .str x _=>bn x.cps.toList l&&bX l.length|_=>ac
 | .Y l,v=>match v with| .bytes b _=>bn (b.toList.map bp) l&&bX l.length|_=>ac
 | .T l,v=>Nz P (U8 λvs=>NE P l vs) v&&bX l.length
 |_,_=>ac
noncomputable def NE(P:Params):List MV->List Value->Bool
 |[],vs=>vs.isEmpty
 |m::ms,vs=>match vs with|v::vs=>XJ P m v&&NE P ms vs|[]=>ac
end
theorem NA{v:Value}{Q:Value->Prop}(h:Nz P f v=ah)(g:∀a o,H0 P a=aa o->f o=ah->Q (.ref a)):Q v:=by
 induction v using cg with
 |ref a=>exact By h λo e h=>g a o e h
 |_=>exact ft h
theorem RH(h:Zd a b=ah):a=b:=by
 induction a using cg with
 |type x=>
  induction b using cg with
  |type y=>exact congrArg kN (eq_of_beq h)
  |_=>exact ft h
 |_=>exact ft h
theorem Pl{Q:Data->Prop}(h:NO f d=ah)(g:∀vs n,f vs.toList=ah->Q (.seq vs n)):Q d:=by
 induction d using mH with
 |seq vs n=>exact g vs n h
 |_=>exact ft h
theorem U9{o:Obj}{Q:Obj->Prop}(h:U8 f o=ah)(g:∀vs n,f vs.toList=ah->Q (mn vs n)):Q o:=by
 have h3:=aB h
 have h2:=aB h3.1
 have h1:=aB h2.1
 cases o with
 |mk c d da sl=>
  have e1:c= .type "tuple":=RH h1.1
  have e2:d=ag:=fQ.mp h1.2
  have e3:sl= #[]:=nE.mp h2.2
  subst e1
  subst e2
  subst e3
  exact Pl (Q:=λd=>Q ⟨_,_,d,_⟩) h3.2 g
mutual
theorem Lf{P:Params}:∀{m:MV} {v:Value},XJ P m v=ah->Rv (su P) ⟨(su P).S,[]⟩ v m
 | .N,v,h=>by
   induction v using cg with
   |none=>exact .none
   |_=>exact ft h
 | .B b,v,h=>by
   induction v using cg with
   |bool c=>exact eq_of_beq h▸.bool _
   |_=>exact ft h
 | .I i,v,h=>by
   induction v using cg with
   |int j t=>exact of_decide_eq_true h▸.int _ _
   |_=>exact ft h
 | .S l,v,h=>by
   induction v using cg with
   |str x t=>exact .str (iZ (aB h).1) (aB h).2
   |_=>exact ft h
 | .Y l,v,h=>by
   induction v using cg with
   |bytes x t=>exact .bytes (iZ (aB h).1) (aB h).2
   |_=>exact ft h
 | .T l,v,h=>NA (Q:=λv=>Rv (su P) ⟨(su P).S,[]⟩ v (.T l)) (aB h).1 λa o e h1=>U9 (Q:=λo=>H0 P a=aa o->Rv (su P) ⟨(su P).S,[]⟩ (.ref a) (.T l)) h1 (λvs n h2 e=>.tup (Dn e ae) (Ci h2) (aB h).2) e
 | .L l,v,h=>ft h
 | .D a b,v,h=>ft h
 | .O a b c,v,h=>ft h
 | .R i,v,h=>ft h
theorem Ci{P:Params}:∀{m:List MV} {v:List Value},NE P m v=ah->cN (su P) ⟨(su P).S,[]⟩ v m
 |[],_,h=>cI.mp h
 |m::ms,v,h=>by
  induction v using am with
  |nil=>exact ft h
  |cons v vs=>exact .cons (Lf (aB h).1) (Ci (aB h).2)
end
theorem q23(P:Params):((kZ.WU.zip gT).all λp=>((Hd.dE P).nsMap dy p.1).any λu=>XJ P p.2 u)=ah:=by rw[dT];kernel_rfl
theorem FM(h:fW kZ.ny n y=ah):y∈kZ.ny:=aT (iY h)
theorem KB(h:l[n]?=aa x):(wj l n).getD d=x:=((rX l n).trans h)▸ae
theorem IF(h:fW kZ.ny n y=ah):yy n=y:=KB (iY h)
theorem vG(h:(!b)=ah):b=ac:=(bK b).mp h
theorem wa{l:List Str}(h:(l.all λy=> !bo y.cps.toList.length 1)=ah)(hy:y∈l)(n:Nat):y≠⟨#[n]⟩:=λe=>tf (vG (aP.mp h ⟨#[n]⟩ (e▸hy)))
@[elab_as_elim]theorem Mb{Q:Str->Prop}(n:Nat)(a:∀y,kZ.ny[n]?=aa y->y∈kZ.ny->Q y)(b:Q ⟨#[n+2000000]⟩):Q (yy n):=by
  unfold yy
  cases e:wj kZ.ny n with
  |none=>exact b
  |some y=>exact a y ((rX _ _).symm.trans e) (DR e)
noncomputable def F5:List Str->Bool
 |[]=>ah
 |x::r=>(r.all λy=> !fy x y)&&F5 r
theorem q7:∀{l:List Str},F5 l=ah->l.Nodup
 |[],_=>.nil
 |x::r,h=>dO.mpr ⟨λhm=>tf ((pA x).symm.trans (vG (aP.mp (aB h).1 _ hm))),q7 (aB h).2⟩
theorem q25:F5 kZ.ny=ah:=by kernel_rfl
theorem Mc(n m:Nat):yy n=yy m->n=m:=
 Mb (Q:=λy=>y=yy m->n=m) n (λy a c=>Mb (Q:=λz=>y=z->n=m) m (λz b d e=>(List.getElem?_inj (cF.mp a).1 (q7 q25)).mp (a.trans (e▸b.symm))) λe=>absurd e (wa Y8 c _))
  (Mb (Q:=λz=>⟨#[n+2000000]⟩=z->n=m) m (λz b d e=>absurd e.symm (wa Y8 d _)) λe=>Nat.add_right_cancel (ij (congrArg (λs:Str=>s.cps.toList) e)).1)
theorem Ge{γ:Type}{f:α->β}{g:γ->β}{l:List α}{m:List γ}(e:l.map f=m.map g){n:Nat}{x:α}(h:l[n]?=aa x):∃y,m[n]?=aa y/\g y=f x:=
 cj.mp ((dm ..).symm.trans ((congrArg (·[n]?) e).symm.trans ((dm ..).trans (congrArg (hV f) h))))
theorem TE(prog:Program)(w:World):(VF prog w).Good where
 P:=ae
 LJ:=λh k=>⟨Heap.Ns.keep (k _) (lH (Hd.Qi w)),Heap.Ns.keep (k _) (lH (Hd.SO w))⟩
 bi:=λp hp=>have e:=jj (q20 w.params) hp;⟨congrArg dq e,congrArg dX e⟩
 fn:=λf y h=>aV (Ge (q21 w.params) (iY h)) λa ha e=>by
  rw[tn]at ha
  by_cases q:f<kZ.RU.length
  ·rw[if_pos q]at ha
   exact e.symm.trans (congrArg (λa=>aa (di a)) (KB ha).symm)
  ·rw[if_neg q]at ha
   exact nn ha
 cls:=λf y h=>aV (Ge (q22 w.params) (iY h)) λa ha e=>e.symm.trans (congrArg (λa=>aa (di a)) (KB ha).symm)
 W8:=λa o h=>TN h
 ny:=λn y h=>IF h
 Ma:=Mc
 Sx:=λc=>jj (Xy w.params) (li c)
 V8:=λc=>jj (Xz w.params) (li c)
 VE:=λc n y h=>jj (jj (XA w.params) (li c)) (FM h)
 CX:=λc=>jj (XB w.params) (li c)
 cover:=λc=>jj (XC w.params) (li c)
 Oz:=λn y h=>jj XD (FM h)
 Gr:=λf=>jj (XE w.params) (Qp f)
 J3:=λc=>jj (XF w.params) (li c)
 VD:=λc=>jj (XG w.params) (li c)
 qF:=λc n f y h hy=>have e:=jj (Y7 w.params) (BY h);⟨_,ae,KB (d:=⟨#[]⟩) (iY hy)▸congrArg dq e,congrArg dX e⟩
 Xl:=λn m y h=>have hy:y∈kZ.Ni:=aT (iY h);Mb (Q:=λz=>z≠y) n (λz a c e=>tf ((show fy z y=ah from e▸pA z).symm.trans (vG (aP.mp (aP.mp q11 _ hy) _ c)))) λe=>wa q12 hy _ e.symm
 WX:=λc f h=>have e:=jj (Y7 w.params) (BY h);⟨_,ae,congrArg dq e,congrArg dX e⟩
 Xk:=λc=>jj (q14 w.params) (li c)
 QR:=λc y h=>(cF.mp (iY h)).1
 W6:=λc c' h h' hne=>(ia _ _▸aP.mp (aP.mp (q15 w.params) c (qK.mpr h)) c' (qK.mpr h'):_\/_).resolve_left λq=>hne (aN q)
 P9:=λc=>jj (q16 w.params) (li c)
 Qt:=q17 w.params
 Rw:=q18 w.params
 Q0:=λc=>jj (q19 w.params) (li c)
 data:=λg y v h hv=>By (aP.mp (q23 w.params) (y,v) (aT (i:=g) (nv.mpr ⟨iY h,hv⟩))) λu hu r=>⟨u,hu,Lf r⟩
noncomputable def y6:List α->Bool
 |[]=>ah
 |_=>ac
noncomputable def Dx:ScopeKind->Bool
 | .function=>ah
 |_=>ac
noncomputable def YZ(x:Str):List Str->Bool
 |[]=>ac
 |y::r=>match fy x y with|true=>ah|false=>YZ x r
noncomputable def KH(ps:List Str):Kinds->List Str
 |[]=>[]
 |(n,k)::r=>match oN (aa k)&& !YZ n ps with|true=>n::KH ps r|false=>KH ps r
noncomputable def KA(fd:FuncData):List Str:=fd.params.args.map (·.arg)++KH (fd.params.args.map (·.arg)) fd.scope.names
noncomputable def B5:Kinds->Bool
 |[]=>ah
 |(_,.free)::_=>ac
 |_::r=>B5 r
noncomputable def Tw(f:List Value->Bool):Data->Bool
 | .fields vs=>f vs.toList
 |_=>ac
noncomputable def UO(q:Str):Value->Bool
 | .str x _=>fy x q
 |_=>ac
noncomputable def OC(P:Params)(q:Str):Value->Bool:=Nz P λo=>Tw (λvs=>(wj vs 1).any (UO q)) o.data
noncomputable def Yx(P:Params)(ms:List MV)(v:Value):Bool:=match v with
 | .none=>y6 ms
 |v=>Nz P (λo=>NO (NE P ms) o.data) v
noncomputable def Ql(P:Params)(F:Fn)(fd:FuncData)(body:List Stmt):Bool:=
 y6 fd.closure&&(bo fd.globals dy&&(bo fd.builtins jE&&(y6 fd.params.posonlyargs&&(bo (fd.params.args.map (·.arg)).length F.kU&&(fd.params.vararg.isNone&&(y6 fd.params.kwonlyargs&&(fd.params.kwarg.isNone&&
 (Dx fd.scope.kind&&(!fd.scope.isCoroutine&&(!fd.scope.isGenerator&&(OC P fd.qualname fd.code&&(Yx P F.dflt fd.defaults&&(bo (KA fd).length F.wi&&(cr F.dflt.length F.kU&&(F5 (KA fd)&&
 ((fd.params.args.map (·.arg)).all (λx=>oN (bP fd.scope.names x))&&(B5 fd.scope.names&&nU kZ 8 (KA fd) fd.scope.names F.body body)))))))))))))))))
noncomputable def YT(f:FuncData->Bool):Data->Bool
 | .func fd=>f fd
 |_=>ac
noncomputable def Ov(f:List Stmt->Bool):FuncBody->Bool
 | .stmts b=>f b
 |_=>ac
noncomputable def ET(P:Params)(F:Fn)(a:Addr):Bool:=(H0 P a).any λo=>YT (λfd=>Ov (Ql P F fd) fd.body) o.data
noncomputable def xI(P:Params):List (Option Fn)->List Addr->Bool
 |[],_=>ah
 |none::r,as=>xI P r as.tail
 |some F::r,as=>match as with|a::as=>ET P F a&&xI P r as|[]=>ac
theorem A1:∀{l:Kinds},B5 l=ah->∀x,bP l x≠aa .free
 |[],_,x=>λh=>nomatch h
 |(y,k)::r,h,x=>λe=>by
  have hk:k≠ .free/\B5 r=ah:=by
   cases k<;>first|exact ft h|exact⟨(λq=>nomatch q),h⟩
  exact n6 (b:=fy x y) (f:=aa k) (g:=bP r x) e (λu e=>hk.1 (oi e)) λu e=>A1 hk.2 x e
theorem rS(h:y6 l=ah):l=[]:=by
 induction l using am with
 |nil=>rfl
 |cons=>exact ft h
theorem tQ:∀{l:List (Option Fn)} {as:List Addr} {n:Nat} {F:Fn},xI P l as=ah->l[n]?=aa (aa F)->∃a,as[n]?=aa a/\ET P F a=ah
 |[],_,_,_,_,e=>nn e
 |none::r,as,0,F,h,e=>nn (oi e)
 |none::r,as,n+1,F,h,e=>(tQ (l:=r) (n:=n) h e).imp λa q=>⟨(List.getElem?_tail ..).symm.trans q.1,q.2⟩
 |some F'::r,as,n,F,h,e=>by
  induction as using am with
  |nil=>exact ft h
  |cons a as=>
   induction n using cX with
   |zero=>exact⟨a,ae,oi (oi e)▸(aB h).1⟩
   |succ n=>exact tQ (l:=r) (as:=as) (n:=n) (aB h).2 e
theorem Tx{d:Data}{Q:Prop}(h:Tw f d=ah)(g:∀vs,d= .fields vs->f vs.toList=ah->Q):Q:=by
 induction d using mH with
 |fields vs=>exact g vs ae h
 |_=>exact ft h
theorem WJ{d:Data}{Q:Prop}(h:YT f d=ah)(g:∀fd,d= .func fd->f fd=ah->Q):Q:=by
 induction d using mH with
 |func fd=>exact g fd ae h
 |_=>exact ft h
theorem Ss{b:FuncBody}{Q:Prop}(h:Ov f b=ah)(g:∀l,b= .stmts l->f l=ah->Q):Q:=by
 induction b using PySem.FuncBody.casesOn with
 |stmts l=>exact g l ae h
 |_=>exact ft h
theorem UP(h:UO q v=ah):∃t,v= .str q t:=by
 induction v using cg with
 |str x t=>exact⟨t,congrArg (Value.str · t) (fN h)⟩
 |_=>exact ft h
theorem Mp(h:OC P q v=ah):∃c oc vs t,v= .ref c/\(su P).S c=aa oc/\oc.data= .fields vs/\vs[1]?=aa (.str q t):=
 NA (Q:=λv=>∃c oc vs t,v= .ref c/\(su P).S c=aa oc/\oc.data= .fields vs/\vs[1]?=aa (.str q t)) h λa o e h=>Tx h λvs ed h=>By h λu hu h=>(UP h).elim λt et=>Ex a o vs t ⟨ae,Dn e (ed▸ae),ed,b5.symm.trans ((rX _ _).symm.trans (et▸hu))⟩
theorem UF{d:Data}{Q:Prop}(h:NO f d=ah)(g:∀vs n,d= .seq vs n->f vs.toList=ah->Q):Q:=Pl (Q:=λd'=>d=d'->Q) h (λvs n h e=>g vs n e h) ae
theorem SM(h:Yx P ms v=ah):∃ds,((v= .none/\ds=[])\/ ∃T o items n,v= .ref T/\(su P).S T=aa o/\o.data= .seq items n/\items.toList=ds)/\cN (su P) ⟨(su P).S,[]⟩ ds ms:=by
 induction v using cg with
 |none=>exact⟨[],.inl ⟨ae,ae⟩,rS h▸.nil⟩
 |ref a=>exact By h λo e h=>UF h λvs n ed h=>⟨vs.toList,.inr (Ex a o vs n ⟨ae,Dn e (ed▸ae),ed,ae⟩),Ci h⟩
 |_=>exact ft h
theorem Qo(h:Dx k=ah):k= .function:=by
 cases k<;>first|rfl|exact ft h
theorem HD(h:ET w.params F a=ah):∃o fd ns body ds,CC (VF prog w) F a o fd ns body ds:=By h λo e h=>WJ h λfd ed h=>Ss h λbody eb h=>by
 have a1:=aB h
 have a2:=aB a1.2
 have a3:=aB a2.2
 have a4:=aB a3.2
 have a5:=aB a4.2
 have a6:=aB a5.2
 have a7:=aB a6.2
 have a8:=aB a7.2
 have a9:=aB a8.2
 have a10:=aB a9.2
 have a11:=aB a10.2
 have a12:=aB a11.2
 have a13:=aB a12.2
 have a14:=aB a13.2
 have a15:=aB a14.2
 have a16:=aB a15.2
 have a17:=aB a16.2
 have a18:=aB a17.2
 have n5:=aN a5.1
 have n14:=aN a14.1
 have tk:(KA fd).take F.kU=fd.params.args.map (·.arg):=n5▸j3
 exact aV (SM a13.1) λds hd1 hd2=>⟨o,fd,KA fd,body,ds,Dn e (ed▸ae),ed,eb,rS a1.1,aN a2.1,aN a3.1,rS a4.1,tk.symm,fQ.mp a6.1,rS a7.1,fQ.mp a8.1,
  Qo a9.1,vG a10.1,vG a11.1,Mp a12.1,hd1,hd2,n14,n14▸n5▸ao (aU _ _) (bV aj.symm),ar a15.1,q7 a16.1,tk.symm▸aP.mp a17.1,A1 a18.1,a18.2⟩
theorem q26(P:Params):xI P fT OM=ah:=by kernel_rfl
noncomputable def xJ:List (Option Fn)->Nat->Bool
 |[],_=>ah
 |none::r,n=>xJ r (n+1)
 |some F::r,n=>(!cv n kZ.fresh||mr F.body)&&xJ r (n+1)
theorem q27:xJ fT 0=ah:=by kernel_rfl
theorem Y9(P:Params):((Hd.dE P).isNs cStatics&&((Hd.dE P).nsMap cStatics "sys.recursionlimit").isNone)=ah:=by kernel_rfl
theorem tR:∀{l:List (Option Fn)} {n i:Nat} {F:Fn},xJ l n=ah->l[i]?=aa (aa F)->cv (n+i) kZ.fresh=ah->mr F.body=ah
 |[],_,_,_,_,e,_=>nn e
 |none::r,n,0,F,h,e,m=>nn (oi e)
 |none::r,n,i+1,F,h,e,m=>tR (l:=r) (n:=n+1) (i:=i) h e (bt n 1 i▸m)
 |some F'::r,n,0,F,h,e,m=>oi (oi e)▸(ia _ _▸(aB h).1:_\/_).resolve_left λq=>tf (m.symm.trans (vG q))
 |some F'::r,n,i+1,F,h,e,m=>tR (l:=r) (n:=n+1) (i:=i) (aB h).2 e (bt n 1 i▸m)
theorem Ol(h:P0 f=aa F):fT[f]?=aa (aa F):=by
 unfold P0 at h
 cases e:fT[f]? with
 |none=>rw[e]at h;exact nn h
 |some q=>rw[e]at h;exact congrArg aa h
theorem WK(prog:Program)(w:World):RO (VF prog w) P0 where
 at_:=λf F h=>aV (tQ (q26 w.params) (Ol h)) λa ha g=>Vr (HD (prog:=prog) g) λo fd ns body ds k=>VJ a o fd ns body ds ⟨congrArg di (KB ha),k⟩
 fresh:=λf F h m=>tR (n:=0) q27 (Ol h) ((eQ f).symm▸m)
 lim:=λh k=>⟨_,Heap.Ns.keep (k _) (lH (aB (Y9 w.params)).1),fQ.mp (aB (Y9 w.params)).2⟩
theorem XI(prog:Program)(w:World)(d:Nat):jW ((VF prog w).lvl P0 d):=IT (TE prog w) (WK prog w) d
noncomputable def Om:Prop:=∀ks:List Int,ks.length<=63->∃d U,d<=40/\CH P0 (gg mT) gT d 117 [.L (ks.map .I)] []=aa (.B ah,U)
theorem y9:∀{xs:List WData} {vs:List Value} {as:List Addr},qj R xs .int=ah->ReadsAllW R cl h vs xs as->∃ks:List Int,xs.length=ks.length/\ ∀(V:Cfg) (W:Wd),cN V W vs (ks.map .I)
 |[],vs,as,h1,h2=>by
  cases h2
  exact⟨[],ae,λ_ _=>.nil⟩
 |x::xs,vs,as,h1,h2=>by
  cases h2 with
  |cons r1 r2=>
   unfold qj at h1
   refine gQ (aB h1) λa b=>?_
   refine aV (y9 b r2) λks e g=>?_
   cases r1<;>first|(exact ft a;done)|skip
   rename_i i t
   exact⟨i::ks,by exact ak aq (ak aq (ak e ae)),λV W=>.cons (.int _ _) (g V W)⟩
theorem zzc(P:Params):∃o,(Hd.dE P).get? eM=aa o:=by
 have:((Hd.dE P).get? eM).isSome=ah:=by kernel_rfl
 exact Option.isSome_iff_exists.mp this
theorem q30(P:Params):(Hd.dE P).nsMap dy "law"=aa (.ref (ES 117)):=by kernel_rfl
noncomputable def Uu:Stmt->Pos
 | .FunctionDef _ _ _ _ _ _ _ _ _ p=>p
 |_=>⟨0,0,0,0⟩
noncomputable def EK:DefRec:=⟨"law",Hd.pO (Hd.dQ 189),Hd.bO (Hd.dQ 189),Hd.sO (Hd.dQ 189),Uu (Hd.dQ 189)⟩
theorem Xc:defOf Hd.qV "law"=aa (EK,[]):=by kernel_rfl
theorem Xd:Hd.pw.theDef "law"=aa (EK.params,EK.body,EK.scope):=by kernel_rfl
theorem Xe:kwWritten? EK.params.kwonlyargs EK.params.kw_defaults=aa []:=by kernel_rfl
theorem Xf:(chainsOk Hd.qV&&opensWell Hd.pw&&(frees Hd.wt.row.toRowW&&Hd.wt.row.toRowW.within.isEmpty))=ah:=by kernel_rfl
theorem lwa:lI tA Hd.pw.main.scope ⟨Hd.pw.main.scope,[],[],[],ag⟩ Hd.pw.main.scope Hd.pw.main.body=[]:=by kernel_rfl
theorem lwb:sk Hd.pw.main.scope=ah:=by rw[PySem.W.Fast.te8331962902438777018];kernel_rfl
theorem lwc:lI fe Hd.pw.main.scope ⟨Hd.pw.main.scope,[],[],[],ag⟩ Hd.pw.main.scope Hd.pw.main.body=ah:=by kernel_rfl
theorem Xg:Hd.pw.bare:=⟨ae,ae,ae,ae,ae,by
 show TablesWhole.Alg.all fe [TablesWhole.Alg.all fe [ah,sk Hd.pw.main.scope,lI fe Hd.pw.main.scope ⟨Hd.pw.main.scope,[],lI tA Hd.pw.main.scope ⟨Hd.pw.main.scope,[],[],[],ag⟩ Hd.pw.main.scope Hd.pw.main.body,[],ag⟩ Hd.pw.main.scope Hd.pw.main.body],TablesWhole.Alg.all fe [],TablesWhole.Alg.all fe [],TablesWhole.Alg.all fe []]=ah
 rw[lwa,lwb,lwc];rfl⟩
theorem Xh:Hd.wt.row.toRowW.promised:=⟨[.list []],by kernel_rfl,by kernel_rfl⟩
theorem QL(h:Hd.wt.row.toRowW.pre.holds R {args:=[.list xs]}=ah):xs.length<=63:=Nat.le_of_not_lt λhlt=>
 have e:less? (.int 63) (.int xs.length)=aa ah:=congrArg aa (decide_eq_true (bQ.mpr hlt))
 ft ((congrArg (λo:Option Bool=>WTm.holds R (.and (.not .res) (.lit (.bool ah))) {args:=[],res:=o.map WData.bool}) e).symm.trans h)
noncomputable def YF(w:World)(h:Heap):Prop:=∀a o,(Hd.dE w.params).get? a=aa o->h.get? a=aa o
theorem Md(h1:WShape.hasAll R args [.list .int]=ah)(h2:ReadsAllW R cl h vals args as)(h3:WellAll P h vals args):
  ∃a vs xs ks,vals=[.ref a]/\args=[.list xs]/\h.get? a=aa (hZ vs 0)/\xs.length=dK (α:=Int) ks/\ ∀(V:Cfg) (W:Wd),cN V W vs.toList (ks.map .I):=by
 refine fI (hasAllW_cons h1) λd r e2_ e1 e2=>?_
 subst e2_
 obtain rfl:=hasAllW_nil e2
 cases h2 with
 |cons r1 r2=>
  cases r2
  cases h3 with
  |cons w1 w2=>
   cases d<;>first|(exact ft e1;done)|skip
   rename_i xs
   have hi:qj R xs .int=ah:=(Bool.or_false _).symm.trans e1
   cases r1 with
   |list ho hc hd hrs=>
    cases w1 with
    |list hw _=>
     rw[ho]at hw
     (refine R5 hw ?_;clear hw;intro p;subst p)
     cases hd
     refine aV (y9 hi hrs) λks e g=>?_
     exact Ex _ _ xs ks ⟨ae,ae,ho,e,g⟩
theorem H5:Hd.wt.row.toRowW.claim.post [.list xs] (.bool ah) [.list xs]=ah:=by
 exact postW_of (X:=ah) (by rfl) (congrArg (λb=>aa (WData.bool b)) (by decide+kernel:same (.bool true) (.bool true)=true)) ae
theorem JP(hp:Om):ic.Holds:=
 holds_law Hd.ws λsaid=>holds_open (q:=Hd.qV) (loose:=Hd.kh) (Xt:=recOk []) (XP:=λu u=>True) (Yf:=λs=>s.heap) (Ya:=λw=>Hd.dE w.params) (YP:=YF) (N:=15000) (d:=EK) (kwd:=[])
  Hd.left (λw s e a o h=>by refine ak e ?_;exact h) (λw h h' y k a o e=>k a o (y a o e)) (λu u=>trivial) (λu u u u u=>trivial) Xc Xd Xe (λs e=>recFacts_of e) (by rfl) said Xf Xg Xh
  λw s₀ s₁ mg mb G Y a o pm cd doc dV kV ho hd hcd hD hmg hg args vals as Qz hlay hrd hwl hlo=>by
 refine gQ (pre_splitW Qz) λh1 h2=>?_
 refine Oi (Md (R:=Hd.wt.row.toRowW.records) h1 hrd hwl) λx vs xs ks e4_ e5_ hx hl hr=>?_
 subst e4_
 subst e5_
 have h63:=QL h2
 rw[hl]at h63
 refine gR (hp ks h63) λd U' hd40 Ds=>?_
 have ha:a=ES 117:=by
  have e1:=vq (G.T.g)
  have e2:s₁.heap.Ns dy ((Hd.dE w.params).nsMap dy):=Heap.Ns.keep (Y _) (lH (Hd.Qi w))
  have e3:=vq e2
  have e4:mg "law"=aa (.ref a):=hmg
  rw[e1,<-e3,q30]at e4
  cases e4
  rfl
 subst ha
 have hpr:Hd.wt.row.prog=Hd.pw:=ae
 let W:Wd:=⟨λb=>if b=x then aa (hZ vs 0)else(Hd.dE w.params).get? b,[]⟩
 have I:cV (su w.params) W [] s₁.heap:=⟨λb q e=>by
  have e:(if b=x then aa (hZ vs 0)else(Hd.dE w.params).get? b)=aa q:=e
  by_cases c:b=x
  ·rw[if_pos c]at e
   exact c▸hx.trans e
  ·rw[if_neg c]at e
   exact Y b q e,ae,(λp hp=>nomatch hp),trivial,λb q e=>by
  show(if b=x then aa (hZ vs 0)else(Hd.dE w.params).get? b)=aa q
  by_cases c:b=x
  ·refine ak (if_pos c) ?_
   exact hx.symm.trans (c▸Y b q e)
  ·refine ak (if_neg c) ?_
   exact e,by
  show∃o,(if eM=x then aa (hZ vs 0)else(Hd.dE w.params).get? eM)=aa o
  by_cases c:eM=x
  ·exact⟨_,if_pos c⟩
  ·exact(zzc w.params).imp λo e=>(if_neg c).trans e⟩
 have hz:bX (ks.map MV.I).length=ah:=(au (as:=ks) MV.I).symm▸km (ao h63 (by decide))
 have rl:cN (su w.params) W [.ref x] [.L (ks.map .I)]:=.cons (.lst (n:=0) (if_pos ae) (hr _ _) hz) .nil
 have R:sE callerA d:=⟨ae,by show 1+claimMargin+16*d<=942;have:claimMargin=300:=ae;lia,by show 4+64*d<=9020;lia⟩
 have hc:=XI Hd.pw w d Ds (A:=callerA) (W:=W) (s:=s₁) (us:=[.ref x]) R I rl
 refine fm (aI (rL (f:=.ref (ES 117)) (us:=[.ref x]) hc) λv s' hv=>aV hv.1 λW' r' t'=>?_)
 have ev:v= .bool ah:=r'
 subst ev
 exact⟨.inl (rg _ (.bool ah) [] ⟨ae,λu=>ae,.bool ah,H5,λu=>⟨.nil,λu h=>nomatch h⟩⟩),.of_keep λb q e=>t'.p.keep b q e λ⟨p,hp,_⟩=>(nomatch hp),t'.p.os,.of_eq (t'.p.gens.trans hg)⟩
end
theorem c2{P:Nat->Prop}(a:P 0)(b:∀n,P (n+1))(i:Nat):P i:=cX i a b
theorem c3{P:Nat->Prop}(a:P 0)(b:P 1)(c:∀n,P (n+2)):∀i,P i:=c2 a (c2 b c)
theorem c4{P:Nat->Prop}(a:P 0)(b:P 1)(c:P 2)(d:∀n,P (n+3)):∀i,P i:=c2 a (c3 b c d)
theorem c5{P:Nat->Prop}(a:P 0)(b:P 1)(c:P 2)(d:P 3)(e:∀n,P (n+4)):∀i,P i:=c2 a (c4 b c d e)
@[elab_as_elim]theorem lt1{P:Nat->Prop}(h:i<1)(a:P 0):P i:=Nat.lt_one_iff.mp h▸a
@[elab_as_elim]theorem lt2{P:Nat->Prop}(h:i<2)(a:P 0)(b:P 1):P i:=c2 (P:=λi=>i<2->P i) (λu=>a) (λu h=>lt1 (P:=λi=>P (i+1)) (gY h) b) i h
@[elab_as_elim]theorem lt3{P:Nat->Prop}(h:i<3)(a:P 0)(b:P 1)(c:P 2):P i:=c2 (P:=λi=>i<3->P i) (λu=>a) (λu h=>lt2 (P:=λi=>P (i+1)) (gY h) b c) i h
@[elab_as_elim]theorem R1{P:Nat->Prop}(h:i<4)(a:P 0)(b:P 1)(c:P 2)(d:P 3):P i:=c2 (P:=λi=>i<4->P i) (λu=>a) (λu h=>lt3 (P:=λi=>P (i+1)) (gY h) b c d) i h
@[elab_as_elim]theorem t8{P:Nat->Prop}(h:i<5)(a:P 0)(b:P 1)(c:P 2)(d:P 3)(e:P 4):P i:=c2 (P:=λi=>i<5->P i) (λu=>a) (λu h=>R1 (P:=λi=>P (i+1)) (gY h) b c d e) i h
theorem kq{P:Prop}(h:P:=by intro d U;kernel_rfl):P:=h
theorem m0(n:Nat):(max 0 (n:Int)).toNat=n:=congrArg rH (iU (cw n))
theorem BF(n k:Nat):(max 0 (min (n:Int) (k:Int))).toNat=min n k:=
 (Nat.le_total n k).elim (λh=>ak (fX h) (ak (qg (dG.mpr h)) (m0 n))) λh=>ak (oV h) (ak (oO (dG.mpr h)) (m0 k))
theorem la{y:List Nat}(h:(x++y).length<=n):x.length<=n:=ao (aj▸aU ..) h
theorem lb{y:List Nat}(h:(x++y).length<=n):y.length<=n:=ao (aj▸aE ..) h
section
theorem bd(h:o=aa x)(k:f x=r):o.bind f=r:=(congrArg (λo=>lr o f) h).trans k
theorem mp(h:o=aa x)(k:f x=y):o.map f=aa y:=(congrArg (hV f) h).trans (congrArg aa k)
theorem mt(h:b=ah)(k:f=r):(match(generalizing:=false) b with|true=>f|false=>g)=r:=by
 refine ak h ?_
 exact k
theorem mf(h:b=ac)(k:g=r):(match(generalizing:=false) b with|true=>f|false=>g)=r:=by
 refine ak h ?_
 exact k
end
section
variable{a:ME}
noncomputable abbrev nI(n:Nat):MV:=.I (aD n)
theorem tt(h:b=ah):aa (b,U)=aa (ah,U):=by exact ak h ae
theorem ff(h:b=ac):aa (b,U)=aa (ac,U):=by exact ak h ae
theorem nW(h:l[i]?=aa (aa v)):cm C M G (.v i) l U=aa (v,U):=bd h ae
theorem sq(h:Jk C M G s l U=aa (.n,l1,U1))(k:cp C M G r l1 U1=R):cp C M G (s::r) l U=R:=bd h k
theorem sr(h:Jk C M G s l U=aa (.r v,l1,U1)):cp C M G (s::r) l U=aa (.r v,l1,U1):=bd h ae
theorem nh(h:cm C M G e l U=aa (v,U1))(h2:Ed C M G t v l U1=aa (l2,U2))(k:cp C M G r l2 U2=R):cp C M G (.a t e::r) l U=R:=sq (bd h (mp h2 ae)) k
theorem bb(h:cm C M G e l U=aa (v,U1))(k:cp C M G r (mj l i v) U1=R):cp C M G (.a (.v i) e::r) l U=R:=nh h ae k
theorem zA(h:cm C M G e l U=aa (.T [u,v],U1))(k:cp C M G r (mj (mj l i u) j v) U1=R):cp C M G (.a (.z [.v i,.v j]) e::r) l U=R:=nh h ae k
theorem oM(h:cm C M G e l U=aa (v,U1))(k:cp C M G r l U1=R):cp C M G (.e e::r) l U=R:=sq (mp h ae) k
theorem ca(h:cm C M G e l U=aa (v,U1)):cp C M G (.r e::r) l U=aa (.r v,l,U1):=sr (mp h ae)
theorem C9:∀{a:List MS} {l:Loc} {U:bN},cp C M G (a++r) l U=(cp C M G a l U).bind λq=>match q.1 with| .n=>cp C M G r q.2.1 q.2.2| .b=>aa q| .r _=>aa q
 |[],_,_=>ae
 |s::a,l,U=>by
  show(Jk C M G s l U).bind _=((Jk C M G s l U).bind _).bind _
  cases Jk C M G s l U with
  |none=>rfl
  |some q=>
   obtain⟨f,l',U'⟩:=q
   induction f using Fl.casesOn with
   |n=>exact C9 (a:=a)
   |b=>rfl
   |r v=>rfl
theorem sa{U1:bN}{R:Option (Fl×Loc×bN)}{r:List MS}{a:List MS}(h:Jk C M G s l U=cp C M G a l1 U1)(k:cp C M G (a++r) l1 U1=R):cp C M G (s::r) l U=R:=(congrArg (λo=>lr o _) h).trans (C9.symm.trans k)
theorem rC(h:bh (cm C M G t l U)=aa (ah,U1))(k:cp C M G (ra++r) l U1=R):cp C M G (.i t ra rb::r) l U=R:=sa (bd h ae) k
theorem mi(h:bh (cm C M G t l U)=aa (ac,U1))(k:cp C M G (rb++r) l U1=R):cp C M G (.i t ra rb::r) l U=R:=sa (bd h ae) k
theorem kc:cp C M G [] l U=aa (.n,l,U):=ae
theorem GO(h:n4 (λl U=>bh (cm C M G t l U)) (λl U=>cp C M G rb l U) kx l U=aa (.n,l1,U1))(k:cp C M G r l1 U1=R):cp C M G (.w t rb::r) l U=R:=sq h k
theorem Cj(h:n4 (λl U=>bh (cm C M G t l U)) (λl U=>cp C M G rb l U) kx l U=aa (.r v,l1,U1)):cp C M G (.w t rb::r) l U=aa (.r v,l1,U1):=sr h
theorem GN(h0:rU (cm C M G it l U)=aa (v,vs,U1))(h:nZ ts v U1 (λl U=>cp C M G rb l U) vs l U1=aa (.n,l2,U2))(k:cp C M G r l2 U2=R):cp C M G (.f ts it rb::r) l U=R:=sq (bd h0 h) k
theorem Lm(h0:rU (cm C M G it l U)=aa (v,vs,U1))(h:nZ ts v U1 (λl U=>cp C M G rb l U) vs l U1=aa (.r u,l2,U2)):cp C M G (.f ts it rb::r) l U=aa (.r u,l2,U2):=sr (bd h0 h)
section
theorem Kh(h:c l U=aa (ah,U1))(hb:b l U1=aa (.n,l2,U2))(k:n4 c b n l2 U2=R):n4 c b (n+1) l U=R:=bd h (bd hb k)
theorem QN(h:c l U=aa (ah,U1))(hb:b l U1=aa (.r v,l2,U2)):n4 c b (n+1) l U=aa (.r v,l2,U2):=bd h (bd hb ae)
theorem QM(h:c l U=aa (ac,U1)):n4 c b (n+1) l U=aa (.n,l,U1):=bd h ae
theorem Ka(h0:jh l ts v=aa l1)(h:b l1 U=aa (.n,l2,U2))(hu:gP it U₀ U2=ah)(k:nZ ts it U₀ b vs l2 U2=R):nZ ts it U₀ b (v::vs) l U=R:=bd h0 (bd h (mt hu k))
theorem TV(h0:jh l ts v=aa l1)(h:b l1 U=aa (.r u,l2,U2)):nZ ts it U₀ b (v::vs) l U=aa (.r u,l2,U2):=bd h0 (bd h ae)
end
theorem bq{U2:bN}{b:ME}{x y:MV}{op:Op}(h1:cm C M G a l U=aa (x,U1))(h2:cm C M G b l U1=aa (y,U2))(h3:jO U2 op x y=aa z):cm C M G (.b op a b) l U=aa (z,U2):=bd h1 (bd h2 (mp h3 ae))
theorem F2{U2:bN}{b:ME}{x y:MV}{op:Cp}(h1:cm C M G a l U=aa (x,U1))(h2:cm C M G b l U1=aa (y,U2))(h3:nV U2 op x y=aa z):cm C M G (.m op a b) l U=aa (.B z,U2):=bd h1 (bd h2 (mp h3 ae))
theorem eZ{U U1 U2:bN}{b:ME}{x y:MV}{op:Cp}(h1:cm C M G a l U=aa (x,U1))(h2:cm C M G b l U1=aa (y,U2))(h3:nV U2 op x y=aa z):bh (cm C M G (.m op a b) l U)=aa (z,U2):=bd (F2 h1 h2 h3) ae
theorem zzg(h:bh (cm C M G a l U)=aa (b,U1)):bh (cm C M G (.o a) l U)=aa (!b,U1):=bd (mp h ae) ae
theorem X0(h:bh o=aa (z,U1)):∃v,o=aa (v,U1)/\bh (aa (v,U1))=aa (z,U1):=gz (o:=o) h λp e h=>have e2:p.2=U1:=gz h λc u h=>zj h λq u h=>congrArg dX h;⟨p.1,e.trans (e2▸ae),e2▸h⟩
section
theorem Su(h:cm C M G a l U=aa (v,U1))(h2:bh (aa (v,U1))=aa (!stop,U1))(k:ii C M G stop (b::rs) l U1=S):ii C M G stop (a::b::rs) l U=S:=bd h (bd h2 (mf (by induction stop using aY<;>rfl) k))
theorem EF(h:cm C M G a l U=aa (v,U1))(h2:bh (aa (v,U1))=aa (stop,U1)):ii C M G stop (a::b::rs) l U=aa (v,U1):=bd h (bd h2 (mt (by induction stop using aY<;>rfl) ae))
theorem Oy(h:cm C M G a l U=aa (v,U1)):ii C M G stop [a] l U=aa (v,U1):=bd h ae
theorem Pz(h:bh (cm C M G a l U)=aa (!stop,U1))(k:bh (ii C M G stop (b::rs) l U1)=T):bh (ii C M G stop (a::b::rs) l U)=T:=(X0 h).elim λv q=>(congrArg bh (Su q.1 q.2 ae)).trans k
theorem NY(h:bh (cm C M G a l U)=aa (stop,U1)):bh (ii C M G stop (a::b::rs) l U)=aa (stop,U1):=(X0 h).elim λv q=>(congrArg bh (EF q.1 q.2)).trans q.2
theorem LD(h:bh (cm C M G a l U)=aa (z,U1)):bh (ii C M G stop [a] l U)=aa (z,U1):=(X0 h).elim λv q=>(congrArg bh (Oy q.1)).trans q.2
theorem pF(h:bh (cm C M G a l U)=aa (ah,U1))(k:bh (ii C M G ac (b::rs) l U1)=T):bh (ii C M G ac (a::b::rs) l U)=T:=Pz h k
theorem LC(h:bh (cm C M G a l U)=aa (ac,U1)):bh (ii C M G ac (a::b::rs) l U)=aa (ac,U1):=NY h
theorem kY(h:bh (cm C M G a l U)=aa (z,U1)):bh (ii C M G ac [a] l U)=aa (z,U1):=LD h
theorem Ig(h:bh (cm C M G a l U)=aa (ac,U1))(k:bh (ii C M G ah (b::rs) l U1)=T):bh (ii C M G ah (a::b::rs) l U)=T:=Pz h k
theorem Bj(h:bh (cm C M G a l U)=aa (z,U1)):bh (ii C M G ah [a] l U)=aa (z,U1):=LD h
theorem OD(h:cm C M G a l U=aa (v,U1))(h2:bh (aa (v,U1))=aa (ah,U1))(k:ii C M G ac (b::rs) l U1=S):ii C M G ac (a::b::rs) l U=S:=Su h h2 k
theorem Qf(h:cm C M G a l U=aa (v,U1))(h2:bh (aa (v,U1))=aa (ac,U1)):ii C M G ac (a::b::rs) l U=aa (v,U1):=EF h h2
theorem Jb(h:cm C M G a l U=aa (v,U1)):ii C M G ac [a] l U=aa (v,U1):=Oy h
theorem Ap(h:cm C M G e l U=aa (v,U1))(h2:bh (aa (v,U1))=aa (b,U1)):bh (cm C M G e l U)=aa (b,U1):=(congrArg bh h).trans h2
theorem hY(h:bh (cm C M G t l U)=aa (ah,U1))(k:cm C M G a l U1=S):cm C M G (.i t a b) l U=S:=bd h k
theorem jz(h:bh (cm C M G t l U)=aa (ac,U1))(k:cm C M G b l U1=S):cm C M G (.i t a b) l U=S:=bd h k
theorem aS(h:iC C M G args l U=aa (vs,U1))(k:C f vs U1=S):cm C M G (.l f ac args) l U=S:=bd h k
theorem gp(h1:cm C M G o l U=aa (x,U1))(h2:DO M n x U1=aa f)(h3:iC C M G args l U1=aa (vs,U2))(k:C f (x::vs) U2=S):cm C M G (.h n o args) l U=S:=bd h1 (bd h2 (bd h3 k))
theorem pj(h:iC C M G args l U=aa (vs,U1))(k:AH C M c mu vs U1=S):cm C M G (.w c mu args) l U=S:=bd h k
theorem iM(h:iC C M G args l U=aa (vs,U1))(k:vH U1 b vs=aa v):cm C M G (.u b args) l U=aa (v,U1):=bd h (mp k ae)
theorem vN(h1:cm C M G o l U=aa (x,U1))(h2:PW U1 m x=ah)(h3:iC C M G args l U1=aa (vs,U2))(k:Ae U2 m x vs=S):cm C M G (.k m o args) l U=S:=bd h1 (mt h2 (bd h3 k))
theorem Jc(h:cm C M G o l U=aa (x,U1))(k:xK U1 x n=aa v):cm C M G (.t o n) l U=aa (v,U1):=bd h (mp k ae)
theorem c9(h1:cm C M G o l U=aa (x,U1))(h2:cm C M G i l U1=aa (y,U2))(k:fi U2 x y=aa v):cm C M G (.x o i) l U=aa (v,U2):=bd h1 (bd h2 (mp k ae))
theorem vO{U U1 U2 U3:bN}{b o:ME}{v x:MV}{q:MV}(h1:cm C M G o l U=aa (x,U1))(h2:cm C M G a l U1=aa (p,U2))(h3:cm C M G b l U2=aa (q,U3))(k:uQ U3 x p q=aa v):cm C M G (.y o a b) l U=aa (v,U3):=bd h1 (bd h2 (bd h3 (mp k ae)))
theorem kE(h:iC C M G es l U=aa (vs,U1))(k:bX vs.length=ah):cm C M G (.z es) l U=aa (.T vs,U1):=bd h (mp (mt k ae) ae)
theorem lB(h:iC C M G es l U=aa (vs,U1))(k:bX vs.length=ah):cm C M G (.d mu es) l U=qd mu (.L vs) U1:=bd h (mt k ae)
theorem Jd(h:bh (cm C M G e l U)=aa (b,U1)):ji C M G [e] l U=aa (b,U1):=bd h (by induction b using aY<;>rfl)
theorem bk(h:cm C M G e l U=aa (v,U1))(k:iC C M G r l U1=aa (vs,U2)):iC C M G (e::r) l U=aa (v::vs,U2):=bd h (mp k ae)
theorem fU{U2:bN}{it:ME}{v:MV}{vs:List MV}{cond:List ME}(h0:rU (cm C M G it l U)=aa (v,vs,U1))(h:gN v U1 (grow l ts) ts (λl U=>ji C M G cond l U) (λl U=>cm C M G elt l U) vs U1=aa (xs,U2))(k:bX xs.length=ah):cm C M G (.f elt ts it cond) l U=aa (.L xs,U2):=bd h0 (bd h (mt k ae))
theorem gr(h:cm C M G e l U=aa (v,U1))(k:items U1 v=aa vs):rU (cm C M G e l U)=aa (v,vs,U1):=bd h (mp k ae)
end
section
theorem xG{cond:Loc->bN->Option (Bool×bN)}(f g:α->MV)(p:α->Bool)(hu:gP it U U=ah):∀{xs:List α},(∀x∈xs,∃l',jh l ts (f x)=aa l'/\cond l' U=aa (p x,U)/\(p x=ah->elt l' U=aa (g x,U)))->gN it U l ts cond elt (xs.map f) U=aa ((xs.filter p).map g,U)
 |[],_=>ae
 |v::r,h=>jl (h v (.head _)) λl' h1 h2 h3=>by
  have ih:=xG f g p hu (xs:=r) λv hv=>h v (.tail _ hv)
  refine ak gC ?_
  cases hp:p v with
  |true=>exact bd h1 (bd h2 (mt hp (bd (h3 hp) (mt hu (mp ih ae)))))
  |false=>exact bd h1 (bd h2 (mf hp (mt hu ih)))
theorem fu{cond:Loc->bN->Option (Bool×bN)}(f g:α->MV)(hu:gP it U U=ah):∀{xs:List α},(∀x∈xs,∃l',jh l ts (f x)=aa l'/\cond l' U=aa (ah,U)/\elt l' U=aa (g x,U))->gN it U l ts cond elt (xs.map f) U=aa (xs.map g,U)
 |[],_=>ae
 |v::r,h=>jl (h v (.head _)) λl' h1 h2 h3=>bd h1 (bd h2 (bd h3 (mt hu (mp (fu f g hu λv hv=>h v (.tail _ hv)) ae))))
theorem Qa{cond:Loc->bN->Option (Bool×bN)}(g:MV->MV)(hu:gP it U U=ah)(h:∀v∈vs,∃l',jh l ts v=aa l'/\cond l' U=aa (ah,U)/\elt l' U=aa (g v,U)):gN it U l ts cond elt vs U=aa (vs.map g,U):=
 (congrArg (λus=>gN it U l ts cond elt us U) (lm vs)).symm.trans (fu id g hu (xs:=vs) h)
end
end
section
theorem Yz(hv:Gc U' 0 v=aa v'):yS 0 v U'=aa (v',[]):=bd hv (by
 refine ak qL ?_
 rfl)
theorem aM(hf:P f=aa F)(hp:bI vs=ah)(ha:tH F vs=aa vs')(hb:cp (CH P M G d) M G F.body (sx F.wi vs') []=aa (.r v,l',U'))(hv:Gc U' 0 v=aa v'):CH P M G (d+1) f vs U=aa (v',U):=bd hf (mt hp (mp (bd ha (bd hb (bd ae (Yz hv)))) ae))
theorem yG(hf:P f=aa F)(hp:bI vs=ah)(ha:tH F vs=aa vs')(hb:cp (CH P M G d) M G F.body (sx F.wi vs') []=aa (.n,l',U')):CH P M G (d+1) f vs U=aa (.N,U):=bd hf (mt hp (mp (bd ha (bd hb (bd ae (Yz ae)))) ae))
end
section
variable{data w:List Nat}{a x:Nat}
noncomputable def jg(data:List Nat)(a:Nat)(w:List Nat):Prop:=∃p q,data=p++(w++q)/\p.length=a
theorem jg.le(h:jg data a w):a+w.length<=data.length:=by
 refine gR h λp q e2_ e3_=>?_
 subst e2_
 subst e3_
 refine ak aj (ak aj ?_)
 exact se (aU _ _) _
theorem jg.left(h:jg data a (u++v)):jg data a u:=by
 refine gR h λp q e f=>?_
 exact gu p (v++q) ⟨by exact ak e (ak (ay ..) ae),f⟩
theorem jg.right(h:jg data a (u++v)):jg data (a+u.length) v:=by
 refine gR h λp q e f=>?_
 exact gu (p++u) q ⟨by exact ak e (ak (ay ..) (ak (ay ..) ae)),by exact ak aj (ak f ae)⟩
theorem jg.all:jg data 0 data:=gu [] [] ⟨by rw[aG];rfl,ae⟩
theorem jg.cut(h:jg data a w):cut data a (a+w.length)=w:=by
 refine gR h λp q e2_ e3_=>?_
 subst e2_
 subst e3_
 unfold Mine.cut
 exact ak (aZ (ay ..)) (ak (List.take_append_of_le_length (by rw[aj];exact bj _)) (ak (aZ aj) (ak iV (ak qJ ae))))
theorem jg.Qe(h:jg data a w)(hb:a+w.length<=b):∃t,Mine.cut data a b=w++t:=by
 refine gR h λp q e2_ e3_=>?_
 subst e2_
 subst e3_
 refine ee (bE hb) λn e1_=>?_
 subst e1_
 refine⟨q.take n,?_⟩
 unfold Mine.cut
 exact ak (b9 ..) (ak (lV ..) (ak (lV ..) (ak qJ ae)))
theorem jg.at(h:jg data a (x::w)):data[a]?=aa x:=by
 refine gR h λp q e2_ e3_=>?_
 subst e2_
 subst e3_
 refine ak (eh (bj _)) (ak (iW ..) ?_)
 rfl
theorem D8(h:n<=16777216):gO (aD n)=ah:=by
 unfold gO
 exact decide_eq_true (bG h (by decide))
theorem IP(h:k<=n)(hn:n<=16777216):PX n dflt (nI k)=aa k:=mt (D8 (ao h hn)) (congrArg aa (show rH (max 0 (min (if aD k<0 then aD k+n else aD k) n))=k by
 refine ak (if_neg (by exact gW.mpr (cw k))) ?_
 show(max 0 (min (k:Int) (n:Int))).toNat=k
 refine ak (qg (dG.mpr h)) (ak (iU (cw k)) ?_)
 rfl))
theorem BC(h1:a<=n)(h2:b<=n)(hn:n<=16777216):EC n (nI a) (nI b) f=aa (f a b):=bd (IP h1 hn) (mp (IP h2 hn) ae)
theorem EQ(hu:cv c u=ac):dk [c] (u++c::v) a=aa (a+u.length):=by
 induction u generalizing a with
 |nil=>
  show(match bA [c] (c::v)with|true=>aa a|false=>dk [c] v (a+1))=_
  refine ak (show bA [c] (c::v)=ah from by unfold bA;rw[ez];rfl) ?_
  rfl
 |cons y r ih=>
  unfold cv at hu
  refine n6 hu (λw hu=>tf hu) λe hu=>?_
  ·show(match bA [c] (y::(r++c::v))with|true=>aa a|false=>dk [c] (r++c::v) (a+1))=_
   refine ak (show bA [c] (y::(r++c::v))=ac from by unfold bA;rw[e];rfl) ?_
   dsimp only
   refine ak (ih hu) (ak aq (ak (b9 ..) ?_));rw[dn 1]
theorem Db(hu:cv c u=ac):dk [c] u a=ag:=by
 induction u generalizing a with
 |nil=>rfl
 |cons y r ih=>
  unfold cv at hu
  refine n6 hu (λv hu=>tf hu) λe hu=>?_
  ·show(match bA [c] (y::r)with|true=>aa a|false=>dk [c] r (a+1))=_
   refine ak (show bA [c] (y::r)=ac from by unfold bA;rw[e];rfl) ?_
   exact ih hu
theorem yZ(W:jg data a (u++c::v))(hu:cv c u=ac)(h1:a+u.length+1<=b)(h2:b<=data.length)(hd:data.length<=16777216):
  Ae U .f (.Y data) [.Y [c],nI a,nI b]=aa (nI (a+u.length),U):=by
 have hf:dk [c] (Mine.cut data a b) a=aa (a+u.length):=by
  refine ee (jg.Qe (w:=u++[c]) (b:=b) (jg.left (v:=v) (by refine ak (ay ..) ?_;exact W)) (by refine ak aj ?_;exact h1)) λt ht=>?_
  refine ak ht (ak (ay ..) ?_)
  exact EQ hu
 exact mp (mp (BC (by lia) h2 hd) (congrArg (λo=>MV.I (Fa o)) hf)) ae
theorem Hz(W:jg data a u)(hu:cv c u=ac)(hd:data.length<=16777216):
  Ae U .f (.Y data) [.Y [c],nI a,nI (a+u.length)]=aa (.I (-1),U):=by
 have hl:=W.le
 exact mp (mp (BC (pI ‹_›) hl hd) (congrArg (λo=>MV.I (Fa o)) (W.cut.symm▸Db hu:dk [c] (Mine.cut data a (a+u.length)) a=ag))) ae
theorem u6(h:k<n):A6 n (aD k)=aa k:=mt (decide_eq_true (bQ.mpr h)) ae
theorem BO(W:jg data a (x::w)):fi U (.Y data) (nI a)=aa (nI x):=mp (bd (u6 (bW (Nat.lt_add_of_pos_right (pK _)) W.le)) W.at) ae
theorem A9(W:jg data a w)(hb:b=a+w.length)(hd:data.length<=16777216):uQ U (.Y data) (nI a) (nI b)=aa (.Y w):=by
 subst hb
 have hl:=W.le
 exact(BC (pI ‹_›) hl hd).trans (congrArg (λl=>aa (MV.Y l)) W.cut)
theorem NT(k:Nat):aD (k+1)-1=aD k:=by
 show((k+1:Nat):Int)-1=(k:Int)
 lia
noncomputable def bR:List (List Nat)->List Nat
 |[]=>[]
 |[x]=>x
 |x::r=>x++(13::10::bR r)
theorem cK{x:List Nat}(h:r≠[]):bR (x::r)=x++(13::10::bR r):=by
 induction r using am with
 |nil=>exact absurd ae h
 |cons=>rfl
theorem iR(hp:p≠[])(hr:r≠[]):bR (p++r)=bR p++(13::10::bR r):=by
 induction p with
 |nil=>exact absurd ae hp
 |cons x p ih=>
  induction p using am with
  |nil=>exact cK hr
  |cons y p=>
   refine ak cH (ak (cK (show y::p++r≠[] from λh=>nomatch h)) (ak (ih λh=>nomatch h) (ak (cK (x:=x) (show y::p≠[] from λh=>nomatch h)) (ak (ay ..) ?_))))
   rfl
theorem jg.line{x:List Nat}(hr:r≠[])(W:jg data a (bR (x::r))):jg data (a+x.length+2) (bR r):=by
 rw[cK hr]at W
 have:=(jg.right (u:=[13,10]) (v:=bR r) W.right)
 exact this
end
noncomputable abbrev Cd(d:Nat):Calls:=CH P0 (gg mT) gT d
section
variable{a d:Nat}{U:bN}
theorem pq(h1:cv c u=ac)(h2:cv c v=ac):cv c (u++v)=ac:=by
 induction u with
 |nil=>exact h2
 |cons y r ih=>
  unfold cv at h1
  refine n6 h1 (λw h1=>tf h1) λe h1=>?_
  ·show(match bo c y with|true=>ah|false=>cv c (r++v))=ac
   refine ak e ?_
   exact ih h1
theorem rq(hr:r≠[])(W:jg data a (bR (x::r)))(hx:cv 10 x=ac)(hb:a+(bR (x::r)).length<=b)(h2:b<=data.length)(hd:data.length<=16777216):
  Cd (d+1) 13 [.Y data,nI a,nI b] U=aa (.T [nI (a+x.length),nI (a+x.length+2)],U):=by
 rw[cK hr]at W hb
 have W':jg data a ((x++[13])++10::bR r):=by refine ak (ay ..) ?_;exact W
 have hl:(x++[13]).length=x.length+1:=by refine ak aj ?_;rfl
 rw[aj,aq,aq]at hb
 have hf:=yZ (U:=[]) W' (pq hx ae) (b:=b) (by lia) h2 hd
 rw[hl,<-b9]at hf
 have hi:fi [] (.Y data) (.I (aD (a+x.length+1)-1))=aa (nI 13):=by refine ak (NT ..) ?_;exact BO W.right
 refine aM (F:=YA) ae ae ae (bb hf (mi ae (rC (U1:=[]) (pF (U1:=[]) (tt (decide_eq_true ?_)) (kY (eZ (c9 ae ae hi) ae ae))) (ca (U1:=[]) (v:=.T [nI (a+x.length),nI (a+x.length+2)]) ?_)))) ae
 ·show(a:Int)<((a+x.length+1:Nat):Int)
  lia
 ·show aa (MV.T [.I (aD (a+x.length+1)-1),nI (a+x.length+2)],[])=_
  exact ak (NT ..) ae
noncomputable def wh(c:Nat):Bool:=decide ((32:Int)=aD c)||(decide ((9:Int)=aD c)||false)
structure Row where
 name:List Nat
 s0:List Nat
 kG:List (List Nat)
 word:List Nat
 jm:List Nat
noncomputable def Row.lines(r:Row):List (List Nat):=(r.name++58::r.s0)::r.kG
noncomputable def Row.raw(r:Row):List Nat:=bR (r.s0::r.kG)
noncomputable def Row.obj(r:Row):MV:=.O 1 [3,4] [.Y r.name,.Y r.raw]
structure Row.Ok(r:Row):Prop where
 nm:∀d U,Cd (d+1) 14 [.Y r.name] U=aa (.B ah,U)
 Xn:cv 10 r.name=ac
 n58:cv 58 r.name=ac
 hd:∃c t,r.name=c::t/\wh c=ac
 s10:cv 10 r.s0=ac
 fo:∀f∈r.kG,cv 10 f=ac/\ ∃c t,f=c::t/\wh c=ah
 fn:r.kG.length<=100
 wd:∀d U,Cd (d+3) 129 [r.obj] U=aa (.S r.word,U)
 uf:∀d U,Cd (d+3) 19 [.Y r.raw] U=aa (.Y r.jm,U)
 sd:∀d U,Cd (d+3) 22 [r.obj] U=aa (.B ah,U)
noncomputable def EP(p:Nat):List (List Nat)->Nat
 |[]=>p
 |f::r=>EP (p+2+f.length) r
theorem yV:∀{x:List Nat} {fs:List (List Nat)} {p:Nat},EP (p+x.length) fs=p+(bR (x::fs)).length
 |x,[],p=>ae
 |x,f::r,p=>by
  refine ak (cK (az _ _)) ?_
  show EP (p+x.length+2+f.length) r=_
  refine ak yV (ak aj (ak aq (ak aq ?_)))
  simp+arith only
theorem C3(W:jg data a (name++58::t))(n58:cv 58 name=ac)(nm:∀d U,Cd (d+1) 14 [.Y name] U=aa (.B ah,U))(hb:a+(name++58::t).length<=b)(h2:b<=data.length)(hd:data.length<=16777216):
  Cd (d+2) 15 [.Y data,nI a,nI b] U=aa (nI (a+name.length),U):=by
 rw[aj,aq]at hb
 exact aM (F:=YB) ae ae ae (bb (yZ W n58 (by lia) h2 hd) (ca (hY (pF ae (kY (by
  refine ak (aS (vs:=[.Y name]) (bk (vO ae ae ae (A9 W.left ae hd)) ae) (nm d [])) ?_
  rfl))) ae))) ae
end
noncomputable def Fz(k:Nat)(v:MV):Prop:=v.pure=ah/\ ∀U n j,k<=j->i8 U n j v=aa v
theorem Fz.up(h:Fz k v)(e:k<=j):Fz j v:=⟨h.1,λU n i hi=>h.2 U n i (ao e hi)⟩
theorem Gz:∀{l:List MV},(∀v∈l,f v=aa v)->jU f l=aa l
 |[],_=>ae
 |v::r,h=>bd (h v (.head _)) (mp (Gz λu hu=>h u (.tail _ hu)) ae)
theorem an(h:a=ah)(k:b=ah):(a&&b)=ah:=(dF _ _).mpr ⟨h,k⟩
theorem nc:∀{l:List MV},(∀v∈l,v.pure=ah)->bI l=ah
 |[],_=>ae
 |v::r,h=>an (h v (.head _)) (nc λu hu=>h u (.tail _ hu))
theorem bY(h:∀v∈l,Fz k v):bI l=ah:=nc λv hv=>(h v hv).1
theorem rZ:∀{l r:List MV},bI l=ah->bI r=ah->bI (l++r)=ah
 |[],_,_,h=>h
 |v::l,r,h1,h2=>an (aB h1).1 (rZ (aB h1).2 h2)
theorem vD(h:U[i]?=aa (.L l))(hz:l.length<16777216):Ae U .a (.R i) [v]=aa (.N,U.set i (.L (l++[v]))):=bd h (mt (km (show l.length+1<=16777216 from hz)) ae)
theorem Fz.mk(hp:v.pure=ah)(h:∀U n j,k<=j->i8 U n (j+1) v=aa v):Fz (k+1) v:=⟨hp,λU n j hj=>by
 induction j using cX with
 |zero=>exact absurd hj (qO _)
 |succ j=>exact h U n j (gX hj)⟩
section
variable{k c:Nat}{as:List Nat}{l ks:List MV}(h:∀v∈l,Fz k v)
include h
theorem Fz.map(U:bN)(n:Nat)(hj:k<=j):jU (i8 U n j) l=aa l:=Gz λv hv=>(h v hv).2 U n _ hj
theorem Fz.tup:Fz (k+1) (.T l):=.mk (bY h) λU n j hj=>mp (Fz.map h U n hj) ae
theorem Fz.lst:Fz (k+1) (.L l):=.mk (bY h) λU n j hj=>mp (Fz.map h U n hj) ae
theorem Fz.obj:Fz (k+1) (.O c as l):=.mk (bY h) λU n j hj=>mp (Fz.map h U n hj) ae
end
theorem Fz.dD(h0:∀v∈as,Fz k v)(h:∀v∈l,Fz k v):Fz (k+1) (.D as l):=.mk (an (bY h0) (bY h)) λU n j hj=>bd (Fz.map h0 U n hj) (mp (Fz.map h U n hj) ae)
theorem Fz.int(i:Int):Fz 1 (.I i):=.mk ae λu u u u=>ae
theorem Fz.bytes(l:List Nat):Fz 1 (.Y l):=.mk ae λu u u u=>ae
theorem Fz.str(l:List Nat):Fz 1 (.S l):=.mk ae λu u u u=>ae
theorem aO{p:MV->Prop}{r:List MV}(h:p a)(k:∀v∈r,p v):∀v∈a::r,p v:=λv hv=>by
 cases hv with
 |head=>exact h
 |tail _ hv=>exact k v hv
theorem cz{p:MV->Prop}:∀v∈([]:List MV),p v:=λv hv=>nomatch hv
theorem fw(h:Fz k v):Gc U n v=aa v:=mt h.1 ae
theorem iX(n:Nat)(l:List MV)(h:bI l=ah):jG n l=ah:=iQ n h
theorem CP:∀{U:bN},jG n U=ah->v.VC n=ah->jG n (U++[v])=ah
 |[],_,h2=>an h2 ae
 |u::r,h1,h2=>an (aB h1).1 (CP (aB h1).2 h2)
section
variable{C:Calls}{M:qB}{G:List MV}{l l1 l2:Loc}{U U1 U2 U3:bN}{R:Option (Fl×Loc×bN)}
theorem xE:(U++[v])[U.length]?=aa v:=by
 refine ak (eh (bj _)) (ak (iW ..) ?_)
 rfl
theorem D6:(U++[u]).set U.length v=U++[v]:=by
 refine ak (qA _ _ (bj _)) (ak (iW ..) ?_)
 rfl
theorem fj(h:cm C M G e l (U++[.O c as vs])=aa (v,U++[.O c as vs]))(h0:l[i]?=aa (aa (.R U.length)))(h1:cr as.length 900=ah)(h2:iz as vs n v=(as',vs'))(k:cp C M G r l (U++[.O c as' vs'])=R):
  cp C M G (.a (.t (.v i) n) e::r) l (U++[.O c as vs])=R:=nh h (l2:=l) (U2:=U++[.O c as' vs']) (bd (nW h0) (mp (bd xE (mt h1 (congrArg aa (h2▸D6)))) ae)) k
theorem OI(hz:Fz k v)(ht:U.take n=τ)(hb:jG n τ=ah):yS n v U=aa (v,τ):=bd (fw hz) (by
 refine ak ht ?_
 exact mt hb ae)
theorem wg(hm:M c 0=aa f)(hf:P f=aa F)(ha:tH F (.R U.length::args)=aa (.R U.length::vs'))(hb:cp (CH P M G d) M G F.body (sx F.wi (.R U.length::vs')) (U++[.O c [] []])=aa (.n,l1,U++[.O c as vs]))
  (hz:Fz k (.O c as vs)) (hs:jG U.length U=ah) (hs':jG (U.length+1) U=ah):AH (CH P M G (d+1)) M c ac args U=aa (.O c as vs,U):=
 have hl:(U++[MV.O c [] []]).length=U.length+1:=aj
 have e:CH P M G (d+1) f (.R U.length::args) (U++[.O c [] []])=aa (.N,U++[.O c as vs]):=bd hf (bd ha (bd hb (bd ae (OI (.mk (k:=0) ae λu u u u=>ae) (ew (bV (aj.trans hl.symm))) (hl.symm▸CP hs' (u7 _ hz.1))))))
 bd hm (bd e (bd xE (OI hz j3 hs)))
end
section
variable{data:List Nat}{a b d:Nat}
theorem pt{U:bN}{n r:List Nat}(hs:jG U.length U=ah)(hs':jG (U.length+1) U=ah):AH (Cd (d+1)) (gg mT) 1 ac [.Y n,.Y r] U=aa (.O 1 [3,4] [.Y n,.Y r],U):=
 wg (f:=128) (F:=Tg) ae ae ae (fj ae ae ae ae (fj ae ae ae ae kc)) (.obj (aO (.bytes _) (aO (.bytes _) cz))) hs hs'
noncomputable def Tt:ME:=.a [.m .l (.v 7) (.v 3),.m .a (.x (.v 0) (.v 7)) (.g 5)]
noncomputable def Tu:List MS:=[.a (.z [.v 6,.v 7]) (.l 13 ac [.v 0,.v 7,.v 3])]
noncomputable abbrev W9(data:List Nat)(x1 x2:MV)(b h p q:Nat)(c:Option MV):Loc:=[aa (.Y data),aa x1,aa x2,aa (nI b),aa (.R 0),aa (nI h),aa (nI p),aa (nI q),c]
theorem Em(e:x=c::t):∃u,bR (x::r)=c::u:=by
 subst e
 induction r using am with
 |nil=>exact⟨t,ae⟩
 |cons y r=>exact⟨_,ae⟩
theorem y0{x1 x2:MV}{h n:Nat}{c:Option MV}{rest:List (List Nat)}(hr:rest≠[])(hy:∃c t,bR rest=c::t/\wh c=ac)(h2:b<=data.length)(hd:data.length<=16777216):
  ∀{fs:List (List Nat)} {p:Nat},jg data (p+2) (bR (fs++rest))->p+2+(bR (fs++rest)).length<=b->(∀f∈fs,cv 10 f=ac/\ ∃c t,f=c::t/\wh c=ah)->
  n4 (λl U=>bh (cm (Cd (d+1)) (gg mT) gT Tt l U)) (λl U=>cp (Cd (d+1)) (gg mT) gT Tu l U) (n+fs.length+1) (W9 data x1 x2 b h p (p+2) c) U=aa (.n,W9 data x1 x2 b h (EP p fs) (EP p fs+2) c,U)
 |[],p,W,hb,hf=>by
  refine gR hy λy t e hw=>?_
  rw[cq,e]at W hb
  rw[aq]at hb
  exact QM (pF (tt (decide_eq_true (bQ.mpr (by lia)))) (kY (eZ (c9 ae ae (BO W)) ae (congrArg aa hw))))
 |f::fs,p,W,hb,hf=>by
  obtain⟨h1,y,t,e,hw⟩:=hf f (.head _)
  have hne:fs++rest≠[]:=λq=>hr (bl.mp q).2
  refine ee (Em (r:=fs++rest) e) λu hu=>?_
  have W0:=W
  rw[cH,hu]at W0
  have hb0:=hb
  rw[cH,hu,aq]at hb0
  have W1:=jg.line hne W
  refine Kh (pF (tt (decide_eq_true (bQ.mpr (by lia)))) (kY (eZ (c9 ae ae (BO W0)) ae (congrArg aa hw)))) (zA (aS ae (rq hne W h1 hb h2 hd)) kc) ?_
  refine y0 hr hy h2 hd (p:=p+2+f.length) W1 ?_ λg hg=>hf g (.tail _ hg)
  rw[cH,cK hne,aj,aq,aq]at hb
  lia
noncomputable def qe(h:Nat):List Row->List MV
 |[]=>[]
 |r::rs=>.T [r.obj,nI h,nI (h+(bR r.lines).length+2)]::qe (h+(bR r.lines).length+2) rs
noncomputable def aX(rs:List Row):List (List Nat):=rs.flatMap Row.lines
noncomputable def WA:ME:=.m .l (.v 5) (.v 3)
noncomputable def Wz:List MS:=[.a (.z [.v 6,.v 7]) (.l 13 ac [.v 0,.v 5,.v 3]),.i (.m .e (.v 6) (.v 5)) [.r (.z [.v 4,.v 7])] [],.a (.v 8) (.l 15 ac [.v 0,.v 5,.v 6]),.i (.m .l (.v 8) (.c (.I 0))) [.r (.z [.v 4,.v 5])] [],.w Tt Tu,.e (.k .a (.v 4) [.z [.w 1 ac [.y (.v 0) (.v 5) (.v 8),.y (.v 0) (.b .a (.v 8) (.c (.I 1))) (.v 6)],.v 5,.v 7]]),.a (.v 5) (.v 7)]
noncomputable def jH(h:Nat):List Row->Nat
 |[]=>h
 |r::rs=>jH (h+(bR r.lines).length+2) rs
theorem dN{rs:List Row}{body:List (List Nat)}:aX rs++[]::body≠[]:=λq=>nomatch(bl.mp q).2
theorem H9{rs:List Row}{body:List (List Nat)}(hb:body≠[])(ok:∀r∈rs,r.Ok):∃c t,bR (aX rs++[]::body)=c::t/\wh c=ac:=by
 induction rs using am with
 |nil=>
  refine gu 13 (10::bR body) ⟨?_,ae⟩
  show bR ([]::body)=_
  refine ak (cK hb) ?_
  rfl
 |cons r rs=>
  refine gR ((ok r (.head _)).hd) λc t e hw=>?_
  refine ee (Em (x:=r.name++58::r.s0) (r:=r.kG++(aX rs++[]::body)) (c:=c) (t:=t++58::r.s0) (by refine ak e ?_;rfl)) λu hu=>?_
  refine gu c u ⟨?_,hw⟩
  show bR (((r.name++58::r.s0)::r.kG++aX rs)++[]::body)=_
  refine ak (ay ..) ?_
  exact hu
theorem A8{x1 x2:MV}{n:Nat}{body:List (List Nat)}(hbd:body≠[])(h2:b<=data.length)(hd:data.length<=16777216):
  ∀{rs:List Row} {h p q:Nat} {p' q' c:Option MV} {acc:List MV},(∀r∈rs,r.Ok)->jg data h (bR (aX rs++[]::body))->h+(bR (aX rs++[]::body)).length<=b->bI acc=ah->acc.length+rs.length<=100->
  ∃l',n4 (λl U=>bh (cm (Cd (d+2)) (gg mT) gT WA l U)) (λl U=>cp (Cd (d+2)) (gg mT) gT Wz l U) (n+rs.length+1) [aa (.Y data),aa x1,aa x2,aa (nI b),aa (.R 0),aa (nI h),p',q',c] [.L acc]=
   aa (.r (.T [.R 0,nI (jH h rs+2)]),l',[.L (acc++qe h rs)])
 |[],h,p,q,p',q',c,acc,ok,W,hb,hp,hn=>by
  refine⟨W9 data x1 x2 b h h (h+2) c,?_⟩
  have W0:jg data h (bR ([]::body)):=W
  have hb0:h+(bR ([]::body)).length<=b:=hb
  rw[cK hbd,aj,aq,aq]at hb0
  rewrite[qe];refine ak (aG ..) ?_
  refine QN (tt (decide_eq_true (bQ.mpr (by lia)))) (zA (aS ae (rq hbd W0 ae hb h2 hd)) (rC (U1:=[.L acc]) (tt (decide_eq_true ae)) (ca ae)))
 |r::rs,h,p,q,p',q',c,acc,ok,W,hb,hp,hn=>by
  have o:=ok r (.head _)
  have hne:r.kG++(aX rs++[]::body)≠[]:=λq=>dN (bl.mp q).2
  have eL:aX (r::rs)++[]::body=(r.name++58::r.s0)::(r.kG++(aX rs++[]::body)):=by
   show(((r.name++58::r.s0)::r.kG)++aX rs)++[]::body=_
   refine ak (ay ..) ?_
   rfl
  have eL2:aX (r::rs)++[]::body=r.lines++(aX rs++[]::body):=eL
  have W1:=W
  have hb1:=hb
  rw[eL]at W1 hb1
  have W2:=W1
  have hb2:=hb1
  rw[cK hne]at W2 hb2
  rw[aj,aq,aq]at hb2
  have W3:=W
  have hb3:=hb
  rw[eL2,iR (show r.lines≠[] from λh=>nomatch h) dN]at W3 hb3
  rw[aj,aq,aq]at hb3
  have W4:jg data (h+(bR r.lines).length+2) (bR (aX rs++[]::body)):=jg.right (u:=[13,10]) (v:=bR (aX rs++[]::body)) W3.right
  have nN:cv 10 (r.name++58::r.s0)=ac:=pq o.Xn (by unfold cv;exact o.s10)
  have lN:(r.name++58::r.s0).length=r.name.length+1+r.s0.length:=by refine ak aj (ak aq ?_);simp+arith only
  --the raw text
  have Wr:jg data (h+r.name.length+1) r.raw:=by
   have e:bR r.lines=r.name++([58]++r.raw):=by
    unfold Row.lines Row.raw
    induction r.kG using am with
    |nil=>rfl
    |cons f fs=>refine ak (cK (az _ _)) (ak (cK (az _ _)) (ak (ay ..) ?_));rfl
   have:=W3.left
   rw[e]at this
   exact this.right.right
  have lR:EP (h+(r.name++58::r.s0).length) r.kG=h+r.name.length+1+r.raw.length:=by
   refine ak lN (ak (show h+(r.name.length+1+r.s0.length)=h+r.name.length+1+r.s0.length from((b9 ..).symm)) ?_)
   exact yV
  have lU:h+(bR r.lines).length=h+r.name.length+1+r.raw.length:=by
   refine ak (aZ lR) ?_
   exact yV.symm
  have hcol:=C3 (d:=d) (U:=[.L acc]) (b:=h+(r.name++58::r.s0).length) W2.left o.n58 o.nm (bj _) (by rw[aj]at*;lia) hd
  have hloop:=y0 (d:=d+1) (U:=[.L acc]) (x1:=x1) (x2:=x2) (h:=h) (n:=kx-(r.kG.length+1)) (c:=aa (nI (h+r.name.length))) dN (H9 hbd λx hx=>ok x (.tail _ hx)) h2 hd (fs:=r.kG) (p:=h+(r.name++58::r.s0).length) (jg.line hne W1) (by lia) o.fo
  have hw:kx-(r.kG.length+1)+r.kG.length+1=kx:=by
   have:=o.fn
   unfold kx
   lia
  have lF:EP (h+(r.name++58::r.s0).length) r.kG=h+(bR r.lines).length:=lR.trans lU.symm
  rw[hw,lF]at hloop
  refine ee (A8 (x1:=x1) (x2:=x2) (n:=n) hbd h2 hd (rs:=rs) (h:=h+(bR r.lines).length+2) (p:=0) (q:=0) (p':=aa (nI (h+(bR r.lines).length))) (q':=aa (nI (h+(bR r.lines).length+2))) (c:=aa (nI (h+r.name.length))) (acc:=acc++[.T [r.obj,nI h,nI (h+(bR r.lines).length+2)]]) (λx hx=>ok x (.tail _ hx)) W4 (by lia) (rZ hp ae) (by refine ak aj ?_;rw[aq]at hn;simp only[aW];lia)) λl' ih=>?_
  refine⟨l',?_⟩
  rw[ay]at ih
  refine Kh (tt (decide_eq_true (bQ.mpr (by lia)))) (zA (aS ae (rq hne W1 nN hb1 h2 hd)) (mi (U1:=[.L acc]) (ff (decide_eq_false ?_)) (bb (aS ae hcol) (mi (U1:=[.L acc]) ae (GO hloop (oM (v:=.N) (U1:=[.L (acc++[.T [r.obj,nI h,nI (h+(bR r.lines).length+2)]])]) ?_ (bb ae kc))))))) ?_
  ·intro q
   have:=sG q
   lia
  ·have hb':jG 1 [.L acc]=ah:=by show(jG 1 acc&&ah)=ah;refine ak (iX 1 acc hp) ?_;rfl
   have hb'':jG 2 [.L acc]=ah:=by show(jG 2 acc&&ah)=ah;refine ak (iX 2 acc hp) ?_;rfl
   refine vN (x:=.R 0) (U1:=[.L acc]) ae ae (bk (kE (bk (pj (bk (vO ae ae ae (A9 W2.left.left ae hd)) (bk (vO ae ae ae (A9 Wr lU hd)) ae)) (pt hb' hb'')) ae) ae) ae) ?_
   exact vD (l:=acc) ae (by lia)
  ·exact ih
end
section
variable{d:Nat}{rs:List Row}
theorem D9:∀{rs:List Row} {h:Nat},∀v∈qe h rs,Fz 3 v
 |[],_=>cz
 |r::rs,h=>aO (.tup (aO (.obj (aO (.bytes _) (aO (.bytes _) cz))) (aO ((Fz.int _).up (by decide)) (aO ((Fz.int _).up (by decide)) cz)))) D9
theorem Of(h:k<=1000):kx-(k+1)+k+1=kx:=by
 unfold kx
 lia
theorem Dl(h:∀v∈l,Fz k v)(hk:k<=37)(hv:Fz 1 v):Gc [.L l] 0 (.T [.R 0,v])=aa (.T [.L l,v]):=by
 exact mp (bd (show i8 [.L l] 0 39 (.R 0)=aa (.L l) from(Fz.lst h).2 _ _ 38 (Nat.lt_succ_of_le ‹_›)) (mp (bd (hv.2 _ _ 39 (by decide)) ae) ae)) ae
theorem Ak(hbd:body≠[])(ok:∀r∈rs,r.Ok)(hn:rs.length<=100)(W:jg data a (bR (aX rs++[]::body)))(hb:b=a+(bR (aX rs++[]::body)).length)(hd:data.length<=16777216):
  Cd (d+3) 16 [.Y data,nI a,nI b] U=aa (.T [.L (qe a rs),nI (jH a rs+2)],U):=by
 have h2:b<=data.length:=by refine ak hb ?_;exact W.le
 refine ee (A8 (b:=b) (d:=d) (x1:=nI a) (x2:=nI b) (n:=kx-(rs.length+1)) (p':=ag) (q':=ag) (c:=ag) (acc:=[]) (p:=0) (q:=0) hbd h2 hd ok W (by lia) ae (by refine ak aC ?_;lia)) λl' h=>?_
 rw[Of (ao ‹_› (by decide))]at h
 refine aM (F:=YC) ae ae ae (bb (jz ae ae) (bb (lB ae ae) (bb ae (Cj h)))) (Dl D9 (by decide) (.int _))
noncomputable def Tz:MV->MV
 | .T (x::_)=>x
 |v=>v
theorem Bd:∀{rs:List Row} {h:Nat},(qe h rs).map Tz=rs.map Row.obj
 |[],_=>ae
 |r::rs,h=>congrArg (r.obj:: ·) Bd
theorem Be:∀{rs:List Row} {h:Nat},∀v∈qe h rs,∃x p q,v= .T [x,p,q]
 |r::rs,h,v,hv=>by
  cases hv with
  |head=>exact rg _ _ _ ae
  |tail _ hv=>exact Be v hv
theorem ja(h:n<=1000):bX n=ah:=km (ao h (by decide))
theorem jA:∀v∈rs.map Row.obj,Fz 2 v:=λv hv=>by
 refine aV (aQ.mp hv) λr u e2_=>?_
 subst e2_
 exact .obj (aO (.bytes _) (aO (.bytes _) cz))
theorem zv(hbd:body≠[])(ok:∀r∈rs,r.Ok)(hn:rs.length<=100)(W:jg data a (bR (aX rs++[]::body)))(hb:b=a+(bR (aX rs++[]::body)).length)(hd:data.length<=16777216):
  Cd (d+4) 17 [.Y data,nI a,nI b] U=aa (.T [.L (rs.map Row.obj),nI (jH a rs+2)],U):=by
 refine aM (F:=YD) (v:=.T [.L (rs.map Row.obj),nI (jH a rs+2)]) ae ae ae (zA (aS ae (Ak hbd ok hn W hb hd)) (ca (kE (bk (fU (gr ae ae) (?_:_=aa (rs.map Row.obj,[])) (ja (by refine ak (au ..) ?_;exact ao ‹_› (by decide)))) ae) ae))) (fw (k:=4) (.tup (aO (.lst jA) (aO ((Fz.int _).up (by decide)) cz))))
 refine(Qa Tz ae λv hv=>?_).trans (by exact ak Bd ae)
 refine X6 (Be v hv) λx p q e3_=>?_
 subst e3_
 exact⟨_,ae,ae,ae⟩
noncomputable def bU(w:List Nat):List Row->MV
 |[]=>.N
 |r::rs=>match bn r.word w with
  |true=>.Y r.jm
  |false=>bU w rs
theorem F7{w:List Nat}{L:List MV}:∀{rs:List Row} {x:Option MV},(∀r∈rs,r.Ok)->∃l' f,nZ [3] (.L L) [] (λl U=>cp (Cd (d+3)) (gg mT) gT [.i (.m .e (.h 3 (.v 3) []) (.v 2)) [.r (.l 19 ac [.t (.v 3) 4])] []] l U) (rs.map Row.obj) [aa (.L L),aa (.S w),aa (.S w),x] []=aa (f,l',[])/\(f= .r (bU w rs)\/f= .n/\bU w rs= .N)
 |[],x,_=>gu _ _ ⟨ae,.inr ⟨ae,ae⟩⟩
 |r::rs,x,ok=>by
  have o:=ok r (.head _)
  have hc:∀b,bn r.word w=b->bh (cm (Cd (d+3)) (gg mT) gT (.m .e (.h 3 (.v 3) []) (.v 2)) [aa (.L L),aa (.S w),aa (.S w),aa r.obj] [])=aa (b,[]):=λb hb=>eZ (gp ae ae ae (o.wd d [])) ae (congrArg aa hb)
  unfold bU
  cases hq:bn r.word w with
  |true=>exact gu _ _ ⟨TV ae (rC (hc _ hq) (ca (aS ae (o.uf d [])))),.inl ae⟩
  |false=>
   refine gR (F7 (w:=w) (L:=L) (rs:=rs) (x:=aa r.obj) λq hq=>ok q (.tail _ hq)) λl' f h1 h2=>?_
   exact gu l' f ⟨Ka ae (mi (hc _ hq) kc) ae h1,h2⟩
theorem AI:∀{rs:List Row},Fz 1 (bU w rs)
 |[]=>.mk (k:=0) ae λu u u u=>ae
 |r::rs=>by
  unfold bU
  split
  ·exact .mk (k:=0) ae λu u u u=>ae
  ·exact AI
theorem sV(hw:∀d U,Cd (d+2) 11 [.S w] U=aa (.S w,U))(ok:∀r∈rs,r.Ok):Cd (d+4) 20 [.L (rs.map Row.obj),.S w] U=aa (bU w rs,U):=by
 refine gR (F7 (d:=d) (w:=w) (L:=rs.map Row.obj) (x:=ag) ok) λl' f h1 h2=>?_
 have hp:bI [.L (rs.map Row.obj),.S w]=ah:=bY (aO (.lst jA) (aO ((Fz.str _).up (by decide)) cz))
 rcases h2 with rfl|⟨rfl,h3⟩
 ·exact aM (F:=WB) ae hp ae (bb (v:=.S w) (U1:=[]) (aS ae (hw (d+1) [])) (Lm (gr (v:=.L (rs.map Row.obj)) ae ae) h1)) (fw AI)
 ·refine ak h3 ?_
  refine aM (F:=WB) (v:=.N) (U':=[]) (l':=l') ae hp ae ?_ ae
  exact bb (v:=.S w) (U1:=[]) (aS ae (hw (d+1) [])) (GN (v:=.L (rs.map Row.obj)) (gr ae ae) h1 (ca ae))
noncomputable def H3(x:List Nat):Bool:=bn [99,111,110,116,101,110,116,45,116,121,112,101] x||(bn [99,111,110,116,101,110,116,45,116,114,97,110,115,102,101,114,45,101,110,99,111,100,105,110,103] x||(bn [109,105,109,101,45,118,101,114,115,105,111,110] x||false))
noncomputable def Us:MV:=.T [.S [99,111,110,116,101,110,116,45,116,121,112,101],.S [99,111,110,116,101,110,116,45,116,114,97,110,115,102,101,114,45,101,110,99,111,100,105,110,103],.S [109,105,109,101,45,118,101,114,115,105,111,110]]
noncomputable def dA(rs:List Row):List Row:=rs.filter λr=> !H3 r.word
theorem zT(ok:∀r∈rs,r.Ok)(hn:rs.length<=1000):Cd (d+4) 21 [.L (rs.map Row.obj),Us] U=aa (.L ((dA rs).map Row.obj),U):=by
 have hp:bI [.L (rs.map Row.obj),Us]=ah:=bY (k:=3) (aO (.lst jA) (aO (.up (k:=2) (.tup (aO (.str _) (aO (.str _) (aO (.str _) cz)))) (by decide)) cz))
 refine aM (F:=YE) ae hp ae (bb (v:=.L [.S [99,111,110,116,101,110,116,45,116,121,112,101],.S [99,111,110,116,101,110,116,45,116,114,97,110,115,102,101,114,45,101,110,99,111,100,105,110,103],.S [109,105,109,101,45,118,101,114,115,105,111,110]]) (U1:=[]) ?_ (ca (fU (gr ae ae) (xG Row.obj Row.obj (λr=> !H3 r.word) ae λr hr=>⟨_,ae,?_,λu=>ae⟩) (ja ?_)))) (fw (Fz.lst jA))
 ·kernel_rfl
 ·exact Jd (eZ (gp ae ae ae ((ok r hr).wd (d) [])) ae ae)
 ·refine ak (au ..) ?_
  exact ao (iw _ _) hn
noncomputable def fb(rs:List Row):MV:=.T (rs.map λr=>.T [.S r.word,.Y r.jm])
theorem xW(ok:∀r∈rs,r.Ok)(hn:rs.length<=1000)(hv:v= .L (rs.map Row.obj)\/v= .T (rs.map Row.obj)):Cd (d+4) 88 [v] U=aa (fb rs,U):=by
 have hz:∀v∈rs.map λr=>MV.T [.S r.word,.Y r.jm],Fz 2 v:=λv hv=>by
  refine aV (aQ.mp hv) λr u e2_=>?_
  subst e2_
  exact .tup (aO (.str _) (aO (.bytes _) cz))
 have hp:bI [v]=ah:=by
  rcases hv with rfl|rfl
  ·exact bY (aO (.lst jA) cz)
  ·exact bY (aO (.tup jA) cz)
 have hi:items [] v=aa (rs.map Row.obj):=by rcases hv with rfl|rfl<;>rfl
 have hu:gP v [] []=ah:=by rcases hv with rfl|rfl<;>rfl
 refine aM (F:=YL) ae hp ae (ca (iM (bk (fU (gr ae hi) (fu Row.obj (λr=>.T [.S r.word,.Y r.jm]) hu λr hr=>⟨_,ae,ae,?_⟩) (ja (by refine ak (au ..) ?_;exact hn))) ae) ae)) (fw (Fz.tup hz))
 exact kE (bk (gp ae ae ae ((ok r hr).wd d [])) (bk (aS ae ((ok r hr).uf d [])) ae)) ae
noncomputable def cU(rs:List Row):List Nat:=rs.flatMap λr=>r.name++58::(r.raw++[13,10])
theorem zl{g:α->MV}{h:α->β}(k:∀x,f (g x)=aa (h x)):∀l:List α,jU f (l.map g)=aa (l.map h)
 |[]=>ae
 |x::r=>bd (k x) (mp (zl k r) ae)
theorem JK:∀l:List (List Nat),y1 [] l=l.flatten
 |[]=>ae
 |x::r=>congrArg (λl=>x++List.flatten l) (lm r)
theorem J0(l:List (List Nat)):AS s (l.map MV.Y)=aa (y1 s l):=mp (zl (f:=VT) (g:=MV.Y) (h:=id) (λu=>ae) l) (congrArg (y1 s) (lm l))
theorem HK{l:List (List Nat)}:AS [] (l.map MV.Y)=aa l.flatten:=(J0 l).trans (congrArg aa (JK l))
theorem B4(h:l.length<=16777216):R2 l=aa (.Y l):=mt (km h) ae
theorem zd{l:List (List Nat)}(h:l.flatten.length<=16777216):Ae U .j (.Y []) [.L (l.map MV.Y)]=aa (.Y l.flatten,U):=mp (bd HK (B4 h)) ae
theorem cB(h:(x++y).length<=16777216):jO U .a (.Y x) (.Y y)=aa (.Y (x++y)):=B4 h
theorem G5{L:List MV}:∀{rs:List Row} {x:Option MV},(∀r∈rs,r.Ok)->∃l',nZ [1] (.L L) [] (λl U=>cp (Cd (d+3)) (gg mT) gT [.i (.o (.l 22 ac [.v 1])) [.d] []] l U) (rs.map Row.obj) [aa (.L L),x] []=aa (.n,[aa (.L L),l'],[])
 |[],x,_=>⟨_,ae⟩
 |r::rs,x,ok=>by
  refine ee (G5 (L:=L) (rs:=rs) (x:=aa r.obj) λq hq=>ok q (.tail _ hq)) λl' h=>?_
  exact⟨l',Ka ae (mi (zzg (b:=ah) (by refine ak (aS ae ((ok r (.head _)).sd d [])) ?_;rfl)) kc) ae h⟩
theorem D2(h:r∈rs):r.name.length+r.raw.length+3<=(cU rs).length:=by
 induction rs with
 |nil=>cases h
 |cons q rs ih=>
  unfold cU
  refine ak List.flatMap_cons (ak aj (ak aj (ak aq (ak aj ?_))))
  cases h with
  |head=>simp only[aq,aC];exact aU ..
  |tail _ h=>
   have:=ih h
   unfold cU at this
   lia
theorem Es(ok:∀r∈rs,r.Ok)(hn:rs.length<=1000)(hl:(cU rs).length<=16777216):Cd (d+4) 23 [.L (rs.map Row.obj)] U=aa (.Y (cU rs),U):=by
 refine ee (G5 (d:=d) (L:=rs.map Row.obj) (x:=ag) ok) λl' h=>?_
 refine aM (F:=YG) (v:=.Y (cU rs)) (U':=[]) ae (bY (aO (.lst jA) cz)) ae (GN (gr ae ae) h (ca (vN ae ae (bk (fU (gr ae ae) (fu Row.obj (λr=>.Y (r.name++58::(r.raw++[13,10]))) ae λr hr=>⟨_,ae,ae,?_⟩) (ja (by refine ak (au ..) ?_;exact hn))) ae) ?_))) ae
 ·have hr':=D2 hr
  refine(bq (bq (bq ae ae (cB ?_)) ae (cB ?_)) ae (cB ?_)).trans ?_
  ·refine ak aj (ak aW ?_);lia
  ·refine ak aj (ak aj (ak aW ?_));lia
  ·refine ak aj (ak aj (ak aj (ak aW ?_)));simp only[aq,aC];lia
  ·refine ak (ay ..) (ak (ay ..) ?_);rfl
 ·have:rs.map (λr:Row=>MV.Y (r.name++58::(r.raw++[13,10])))=(rs.map λr:Row=>r.name++58::(r.raw++[13,10])).map MV.Y:=by refine ak bx ?_;rfl
  refine ak this ?_
  exact zd hl
end
section
variable{data:List Nat}{a b d:Nat}{U:bN}{rs:List Row}
noncomputable def fK(a:Nat):List (List Nat)->List MV
 |[]=>[]
 |x::r=>match r with
  |[]=>match x with
   |[]=>[]
   |_=>[.T [nI a,nI (a+x.length),nI (a+x.length)]]
  |_=>.T [nI a,nI (a+x.length),nI (a+x.length+2)]::fK (a+x.length+2) r
noncomputable def Ws:ME:=.m .l (.v 5) (.v 3)
noncomputable def Wq:List MS:=[.a (.v 6) (.k .f (.v 0) [.c (.Y [10]),.v 5,.v 3]),.i (.m .l (.v 6) (.c (.I 0))) [.e (.k .a (.v 4) [.z [.v 5,.v 3,.v 3]]),.r (.v 4)] [],.a (.v 7) (.i (.a [.m .g (.v 6) (.v 5),.m .e (.x (.v 0) (.b .s (.v 6) (.c (.I 1)))) (.g 4)]) (.b .s (.v 6) (.c (.I 1))) (.v 6)),.e (.k .a (.v 4) [.z [.v 5,.v 7,.b .a (.v 6) (.c (.I 1))]]),.a (.v 5) (.b .a (.v 6) (.c (.I 1)))]
theorem uU{x:List Nat}{r:List (List Nat)}(hr:r≠[]):fK a (x::r)= .T [nI a,nI (a+x.length),nI (a+x.length+2)]::fK (a+x.length+2) r:=by
 induction r using am with
 |nil=>exact absurd ae hr
 |cons=>rfl
theorem tV{x1 x2:MV}{n:Nat}(hd:data.length<=16777216)(h2:b<=data.length):
  ∀{ls:List (List Nat)} {h:Nat} {p q:Option MV} {acc:List MV},ls≠[]->(∀x∈ls,cv 10 x=ac)->jg data h (bR ls)->h+(bR ls).length=b->acc.length+ls.length<16777216->
  ∃l' f,n4 (λl U=>bh (cm (Cd d) (gg mT) gT Ws l U)) (λl U=>cp (Cd d) (gg mT) gT Wq l U) (n+ls.length+1) [aa (.Y data),aa x1,aa x2,aa (nI b),aa (.R 0),aa (nI h),p,q] [.L acc]=
   aa (f,l',[.L (acc++fK h ls)])/\(f= .r (.R 0)\/f= .n/\l'[4]?=aa (aa (.R 0)))
 |[],h,p,q,acc,hne,_,_,_,_=>absurd ae hne
 |[x],h,p,q,acc,_,h10,W,hb,hn=>by
  have Wx:jg data h x:=W
  have hx:=h10 x (.head _)
  have hb':b=h+x.length:=hb.symm
  cases hx':x with
  |nil=>
   subst hx'
   have:b=h:=hb'
   subst this
   refine ak (show fK b [[]]=[] from ae) (ak (aG ..) ?_)
   exact gu _ _ ⟨QM (ff (decide_eq_false λq=>Int.lt_irrefl _ q)),.inr ⟨ae,ae⟩⟩
  |cons c t=>
   have e:fK h [x]=[.T [nI h,nI b,nI b]]:=by refine ak hb' (ak hx' ?_);rfl
   refine ak (aZ hx') (ak e ?_)
   have hf:=Hz (U:=[.L acc]) Wx hx hd
   rw[<-hb']at hf
   have hlt:h<b:=by refine ak hb' (ak hx' (ak aq ?_));simp+arith only
   exact gu _ _ ⟨QN (tt (decide_eq_true (bQ.mpr hlt))) (bb hf (rC (U1:=[.L acc]) ae (oM (v:=.N) (vN ae ae ae (vD (l:=acc) ae (cZ ‹_›))) (ca ae)))),.inl ae⟩
 |x::y::r,h,p,q,acc,_,h10,W,hb,hn=>by
  have hr:y::r≠[]:=λe=>nomatch e
  have hx:=h10 x (.head _)
  have W1:=jg.line hr W
  have W2:=W
  rw[cK hr]at W2 hb
  rw[aj,aq,aq]at hb
  have W':jg data h ((x++[13])++10::bR (y::r)):=by refine ak (ay ..) ?_;exact W2
  have hl:(x++[13]).length=x.length+1:=by refine ak aj ?_;rfl
  have hf:=yZ (U:=[.L acc]) W' (pq hx ae) (b:=b) (by lia) h2 hd
  rw[hl,<-b9]at hf
  have hi:fi [.L acc] (.Y data) (.I (aD (h+x.length+1)-1))=aa (nI 13):=by refine ak (NT ..) ?_;exact BO W2.right
  rw[aq]at hn
  refine gR (tV (x1:=x1) (x2:=x2) (n:=n) hd h2 (ls:=y::r) (h:=h+x.length+2) (p:=aa (nI (h+x.length+1))) (q:=aa (nI (h+x.length))) (acc:=acc++[.T [nI h,nI (h+x.length),nI (h+x.length+2)]]) hr (λz hz=>h10 z (.tail _ hz)) W1 (by lia) (by refine ak aj (ak aW ?_);lia)) λl' f ih hf'=>?_
  rw[ay]at ih
  refine ak (uU hr) ?_
  refine gu l' f ⟨Kh (tt (decide_eq_true (bQ.mpr (by lia)))) (bb hf (mi (U1:=[.L acc]) ae (bb (v:=nI (h+x.length)) (U1:=[.L acc]) (hY (pF (U1:=[.L acc]) (tt (decide_eq_true (bQ.mpr ?_))) (kY (eZ (c9 ae ae hi) ae ae))) ?_) (oM (v:=.N) (vN ae ae ae (vD (l:=acc) ae (by lia))) (bb ae kc))))) ih,hf'⟩
  ·simp+arith only
  ·show aa (MV.I (aD (h+x.length+1)-1),_)=_
   exact ak (NT ..) ae
theorem vd:∀{ls:List (List Nat)},ls.length<=(bR ls).length+1
 |[]=>bD _
 |[x]=>by show 1<=_;exact aE ..
 |x::y::r=>by
  have:=vd (ls:=y::r)
  refine ak (cK (x:=x) (r:=y::r) λe=>nomatch e) (ak aj ?_)
  simp only[aq]at this⊢
  lia
theorem tU:∀{ls:List (List Nat)} {a:Nat},∀v∈fK a ls,Fz 2 v
 |[],_=>cz
 |[x],a=>by
  induction x using am with
  |nil=>exact cz
  |cons c t=>exact aO (.tup (aO (.int _) (aO (.int _) (aO (.int _) cz)))) cz
 |x::y::r,a=>aO (.tup (aO (.int _) (aO (.int _) (aO (.int _) cz)))) tU
theorem Ai{ls:List (List Nat)}(hls:ls≠[])(h10:∀x∈ls,cv 10 x=ac)(W:jg data a (bR ls))(hb:b=a+(bR ls).length)(hd:data.length<=1000000):
  Cd (d+1) 12 [.Y data,nI a,nI b] U=aa (.L (fK a ls),U):=by
 have h2:b<=data.length:=by refine ak hb ?_;exact W.le
 have hlen:=vd (ls:=ls)
 have hle:=W.le
 refine gR (tV (d:=d) (b:=b) (x1:=nI a) (x2:=nI b) (n:=kx-(ls.length+1)) (p:=ag) (q:=ag) (acc:=[]) (ao ‹_› (by decide)) h2 hls h10 W hb.symm (by refine ak aC ?_;lia)) λl' f h hf=>?_
 rw[show kx-(ls.length+1)+ls.length+1=kx from by unfold kx;lia]at h
 have hm:vH [] .m [nI b,.I (data.length:Nat)]=aa (nI b):=by
  show aa (MV.I (match decide ((data.length:Int)<aD b)with|true=>_|false=>_))=_
  exact ak (decide_eq_false (show¬((data.length:Int)<aD b) from λq=>absurd (bQ.mp q) (eA.mpr h2))) ae
 have hz:Gc [.L ([]++fK a ls)] 0 (.R 0)=aa (.L (fK a ls)):=(Fz.lst tU).2 _ _ 39 (by decide)
 rcases hf with rfl|⟨rfl,h4⟩
 ·exact aM (F:=Tf) ae ae ae (bb (jz ae (iM ae hm)) (bb (lB ae ae) (bb ae (Cj h)))) hz
 ·exact aM (F:=Tf) ae ae ae (bb (jz ae (iM ae hm)) (bb (lB ae ae) (bb ae (GO h (ca (nW h4)))))) hz
end
inductive Wy where
 |no|next|last
noncomputable def Wy.str:Wy->List Nat
 | .no=>[]
 | .next=>[110,101,120,116]
 | .last=>[108,97,115,116]
noncomputable def lz(bd x:List Nat)(w:Wy):Prop:=∀d U,Cd (d+1) 80 [.Y x,.Y bd] U=aa (.S w.str,U)
noncomputable def VQ(g:Option Nat)(e:Nat):List (Nat×Nat):=match g with
 |some g=>[(g,e)]
 |ag=>[]
noncomputable def L6(g:Option Nat)(e:Nat):List (Nat×Nat):=match g with
 |some g=>[(g,max g e)]
 |ag=>[]
noncomputable def pw(e:Nat):Option Nat->Nat->Nat->List (List Nat×Wy)->List (Nat×Nat)
 |g,bf,a,[]=>VQ g e
 |g,bf,a,(x,w)::r=>match w with
  | .no=>pw e g (a+x.length) (a+x.length+2) r
  | .next=>L6 g bf++pw e (aa (a+x.length+2)) (a+x.length) (a+x.length+2) r
  | .last=>L6 g bf
noncomputable def bv(g:Option Nat):MV:=match g with
 |some g=>nI g
 |ag=>.I (-1)
noncomputable def pr(p:Nat×Nat):MV:=.T [nI p.1,nI p.2]
noncomputable def jK:List (List Nat×Wy)->Prop
 |[]=>True
 |(x,w)::r=>match r with
  |[]=>w= .no
  |_=>jK r
section
variable{data bd:List Nat}{b d:Nat}
theorem QP:vH U .x [nI p,nI q]=aa (nI (max p q)):=by
 show aa (MV.I (match decide (aD p<aD q)with|true=>_|false=>_))=_
 by_cases h:p<q
 ·exact ak (decide_eq_true (show aD p<aD q from bQ.mpr h)) (ak (oU (cZ h)) ae)
 ·exact ak (decide_eq_false (show¬aD p<aD q from λe=>h (bQ.mp e))) (ak (Nat.max_eq_left (eA.mp h)) ae)
noncomputable def WD:List MS:=[.a (.v 10) (.l 80 ac [.y (.v 0) (.v 7) (.v 8),.v 3]),.i (.m .n (.v 10) (.c (.S []))) [.i (.m .h (.v 5) (.c (.I 0))) [.e (.k .a (.v 4) [.z [.v 5,.u .x [.v 5,.v 6]]])] [],.i (.m .e (.v 10) (.c (.S [108,97,115,116]))) [.r (.v 4)] [],.a (.v 5) (.v 9)] [],.a (.v 6) (.v 8)]
noncomputable abbrev R0(data bd:List Nat)(x1:MV)(b:Nat)(g:Option Nat)(bf:Nat)(v7 v8 v9 v10:Option MV):Loc:=[aa (.Y data),aa x1,aa (nI b),aa (.Y bd),aa (.R 0),aa (bv g),aa (nI bf),v7,v8,v9,v10]
theorem DW{x1:MV}{g:Option Nat}{bf:Nat}{v7 v8 v9 v10:Option MV}{acc:List MV}{r:List MS}{R:Option (Fl×Loc×bN)}(hn:acc.length<16777216)
  (k:cp (Cd (d+1)) (gg mT) gT r (R0 data bd x1 b g bf v7 v8 v9 v10) [.L (acc++(L6 g bf).map pr)]=R):
  cp (Cd (d+1)) (gg mT) gT (.i (.m .h (.v 5) (.c (.I 0))) [.e (.k .a (.v 4) [.z [.v 5,.u .x [.v 5,.v 6]]])] []::r) (R0 data bd x1 b g bf v7 v8 v9 v10) [.L acc]=R:=by
 induction g using bg with
 |none=>
  rw[show acc++(L6 ag bf).map pr=acc from aG _]at k
  exact mi (U1:=[.L acc]) ae k
 |some g=>exact rC (U1:=[.L acc]) ae (oM (v:=.N) (vN ae ae (bk (kE (bk ae (bk (iM ae QP) ae)) ae) ae) (vD (l:=acc) ae hn)) k)
theorem B9{x1:MV}{LL:List MV}{U₀:bN}(hd:data.length<=1000000):
  ∀{L:List (List Nat×Wy)} {g:Option Nat} {bf h:Nat} {acc:List MV} {v7 v8 v9 v10:Option MV},(∀p∈L,lz bd p.1 p.2)->jg data h (bR (L.map (·.1)))->jK L->acc.length+L.length<16777216->
  ∃l' f A g' bf',nZ [7,8,9] (.L LL) U₀ (λl U=>cp (Cd (d+1)) (gg mT) gT WD l U) (fK h (L.map (·.1))) (R0 data bd x1 b g bf v7 v8 v9 v10) [.L acc]=aa (f,l',[.L (acc++A.map pr)])/\
   (f= .r (.R 0)/\pw b g bf h L=A\/f= .n/\(∃v7 v8 v9 v10,l'=R0 data bd x1 b g' bf' v7 v8 v9 v10)/\pw b g bf h L=A++VQ g' b/\A.length<=L.length)
 |[],g,bf,h,acc,v7,v8,v9,v10,_,_,_,_=>HF _ .n [] g bf ⟨congrArg (λz=>aa (Fl.n,R0 data bd x1 b g bf v7 v8 v9 v10,[MV.L z])) (aG acc).symm,.inr ⟨ae,⟨_,_,_,_,ae⟩,ae,bj _⟩⟩
 |[(x,w)],g,bf,h,acc,v7,v8,v9,v10,hw,W,hl,hn=>by
  have hl:w= .no:=hl
  subst hl
  have Wx:jg data h x:=W
  have hx:=hw (x,.no) (.head _)
  have sl:=A9 (U:=[.L acc]) Wx ae (ao hd (by decide))
  cases hx':x with
  |nil=>exact HF _ .n [] g bf ⟨congrArg (λz=>aa (Fl.n,R0 data bd x1 b g bf v7 v8 v9 v10,[MV.L z])) (aG acc).symm,.inr ⟨ae,⟨_,_,_,_,ae⟩,ae,bD _⟩⟩
  |cons c t=>
   refine ak (aZ hx') (ak (show fK h ([(x,Wy.no)].map (·.1))=[.T [nI h,nI (h+x.length),nI (h+x.length)]] from by rw[hx'];rfl) ?_)
   refine HF _ .n [] g (h+x.length) ⟨?_,.inr ⟨ae,⟨aa (nI h),aa (nI (h+x.length)),aa (nI (h+x.length)),aa (.S []),ae⟩,ae,bD _⟩⟩
   refine ak (show acc++([]:List (Nat×Nat)).map pr=acc from aG _) ?_
   exact Ka ae (bb (aS (bk (vO ae ae ae sl) ae) (hx d _)) (mi (U1:=[.L acc]) ae (bb ae kc))) ae ae
 |(x,w)::y::r,g,bf,h,acc,v7,v8,v9,v10,hw,W,hl,hn=>by
  have hr:(y::r).map (·.1)≠[]:=λe=>nomatch e
  have hx:=hw (x,w) (.head _)
  have W1:=jg.line hr W
  have W2:=W
  rw[bz,cK hr]at W2
  have sl:=A9 (U:=[.L acc]) W2.left ae (ao hd (by decide))
  refine ak bz (ak (uU hr) ?_)
  have hw':∀p∈y::r,lz bd p.1 p.2:=λp hp=>hw p (.tail _ hp)
  rw[aq]at hn
  cases w with
  |no=>
   refine RN (B9 (x1:=x1) (LL:=LL) (U₀:=U₀) hd (L:=y::r) (g:=g) (bf:=h+x.length) (h:=h+x.length+2) (acc:=acc) (v7:=aa (nI h)) (v8:=aa (nI (h+x.length))) (v9:=aa (nI (h+x.length+2))) (v10:=aa (.S [])) hw' W1 hl (cZ ‹_›)) λl' f A g' bf' ih ih2=>?_
   refine HF l' f A g' bf' ⟨Ka ae (bb (aS (bk (vO ae ae ae sl) ae) (hx d _)) (mi (U1:=[.L acc]) ae (bb ae kc))) ae ih,?_⟩
   rcases ih2 with⟨e1,e2⟩|⟨e1,e2,e3,e4⟩
   ·exact .inl ⟨e1,e2⟩
   ·exact .inr ⟨e1,e2,e3,dL e4⟩
  |next=>
   have hA:((L6 g bf).map pr).length<=1:=by induction g using bg with|none=>exact bD _|some g=>exact bj _
   refine RN (B9 (x1:=x1) (LL:=LL) (U₀:=U₀) hd (L:=y::r) (g:=aa (h+x.length+2)) (bf:=h+x.length) (h:=h+x.length+2) (acc:=acc++(L6 g bf).map pr) (v7:=aa (nI h)) (v8:=aa (nI (h+x.length))) (v9:=aa (nI (h+x.length+2))) (v10:=aa (.S [110,101,120,116])) hw' W1 hl (by refine ak aj ?_;lia)) λl' f A g' bf' ih ih2=>?_
   rw[ay,<-bS]at ih
   refine HF l' f (L6 g bf++A) g' bf' ⟨Ka ae (bb (aS (bk (vO ae ae ae sl) ae) (hx d _)) (rC (U1:=[.L acc]) ae (DW (by lia) (mi (U1:=[.L (acc++(L6 g bf).map pr)]) ae (bb ae (bb ae kc)))))) ae ih,?_⟩
   rcases ih2 with⟨e1,e2⟩|⟨e1,e2,e3,e4⟩
   ·exact .inl ⟨e1,by refine ak (aZ e2) ?_;rfl⟩
   ·refine .inr ⟨e1,e2,?_,?_⟩
    ·refine ak (ay ..) (ak (aZ e3) ?_);rfl
    ·rw[au]at hA
     refine ak aj (ak aq ?_)
     lia
  |last=>
   exact HF _ _ (L6 g bf) g bf ⟨TV ae (bb (aS (bk (vO ae ae ae sl) ae) (hx d _)) (rC (U1:=[.L acc]) ae (DW (by lia) (rC (U1:=[.L (acc++(L6 g bf).map pr)]) ae (ca ae))))),.inl ⟨ae,ae⟩⟩
theorem GE{A:List (Nat×Nat)}:∀v∈A.map pr,Fz 2 v:=λv hv=>by
 refine aV (aQ.mp hv) λp u e2_=>?_
 subst e2_
 exact .tup (aO (.int _) (aO (.int _) cz))
theorem Aj(hL:L≠[])(h10:∀p∈L,cv 10 p.1=ac)(hw:∀p∈L,lz bd p.1 p.2)(W:jg data a (bR (L.map (·.1))))(hl:jK L)(hb:b=a+(bR (L.map (·.1))).length)(hd:data.length<=1000000):
  Cd (d+2) 81 [.Y data,nI a,nI b,.Y bd] U=aa (.L ((pw b ag a a L).map pr),U):=by
 have hlen:=vd (ls:=L.map (·.1))
 rw[au]at hlen
 have hle:=W.le
 refine RN (B9 (d:=d) (b:=b) (x1:=nI a) (LL:=fK a (L.map (·.1))) (U₀:=[.L []]) (g:=ag) (bf:=a) (v7:=ag) (v8:=ag) (v9:=ag) (v10:=ag) (acc:=[]) hd hw W hl (by refine ak aC ?_;lia)) λl' f A g' bf' h hf=>?_
 have hsp:=Ai (d:=d) (U:=[.L []]) (show L.map (·.1)≠[] from λe=>hL (eF.mp e)) (λx hx=>by refine aV (aQ.mp hx) λp hp e2_=>?_;subst e2_;exact h10 p hp) W hb hd
 rcases hf with⟨rfl,e⟩|⟨rfl,⟨v7,v8,v9,v10,rfl⟩,e,hA⟩
 ·refine ak e ?_
  exact aM (F:=VI) ae ae ae (bb (lB ae ae) (bb ae (bb ae (Lm (gr (aS ae hsp) ae) h)))) ((Fz.lst GE).2 _ _ 39 (by decide))
 ·refine ak e ?_
  induction g' using bg with
  |none=>
   refine ak (show VQ ag b=[] from ae) (ak (aG ..) ?_)
   exact aM (F:=VI) ae ae ae (bb (lB ae ae) (bb ae (bb ae (GN (gr (aS ae hsp) ae) h (mi (U1:=[.L ([]++A.map pr)]) ae (ca ae)))))) ((Fz.lst GE).2 _ _ 39 (by decide))
  |some g=>
   refine ak (show(A++VQ (aa g) b).map pr=A.map pr++[pr (g,b)] from by rw[bS];rfl) ?_
   refine aM (F:=VI) (U':=[.L (A.map pr++[pr (g,b)])]) ae ae ae (bb (lB ae ae) (bb ae (bb ae (GN (gr (aS ae hsp) ae) h (rC (U1:=[.L ([]++A.map pr)]) ae (oM (v:=.N) (vN ae ae ae (vD (l:=A.map pr) ae ?_)) (ca ae))))))) ?_
   ·refine ak (au ..) ?_
    lia
   ·have:A.map pr++[pr (g,b)]=(A++[(g,b)]).map pr:=by refine ak bS ?_;rfl
    refine ak this ?_
    exact(Fz.lst GE).2 _ _ 39 (by decide)
end
section
variable{C:Calls}{M:qB}{G:List MV}
theorem yH(hf:P f=aa F)(hp:bI vs=ac)(ha:tH F vs=aa vs')(hb:cp (CH P M G d) M G F.body (sx F.wi vs') U=aa (.r v,l',U++τ))(hv:Gc (U++τ) U.length v=aa v')(hs:jG U.length U=ah):CH P M G (d+1) f vs U=aa (v',U):=bd hf (mf hp (bd ha (bd hb (bd ae (bd hv (by
 refine ak j3 ?_
 exact mt hs ae))))))
theorem yF:∀{s:List Nat},(∀c∈s,c<256)->uA (s.map nI)=aa s
 |[],_=>ae
 |c::r,h=>mt (an (decide_eq_true (cw c)) (decide_eq_true (bQ.mpr (h c (.head _))))) (mp (yF λx hx=>h x (.tail _ hx)) ae)
theorem Uq{cond:List ME}{s:List Nat}(hu:gP it U U=ah)(hj:l.length=j)(hc:∀c∈s,ji C M G cond (l++[aa (.S [c])]) U=aa (ah,U)):
  gN it U (grow l [j]) [j] (λl U=>ji C M G cond l U) (λl U=>cm C M G (.u .o [.v j]) l U) (s.map λc=>MV.S [c]) U=aa (s.map nI,U):=by
 subst hj
 refine fu (λc=>MV.S [c]) nI hu λc hx=>⟨l++[aa (.S [c])],?_,hc c hx,?_⟩
 ·show aa ((l++[ag]).set l.length (aa (.S [c])))=_
  refine ak (qA _ _ (bj _)) (ak (iW ..) ?_)
  rfl
 ·refine iM (bk (v:=.S [c]) (U1:=U) ?_ ae) ae
  exact nW (by
   refine ak (eh (bj _)) (ak (iW ..) ?_)
   rfl)
theorem H2{l:Loc}{U:bN}{cond:List ME}{s:List Nat}{j:Nat}(h:cm C M G e l U=aa (.S s,U))(hj:l.length=j)(hs:∀c∈s,c<256)(hz:s.length<=1000)(hc:∀c∈s,ji C M G cond (l++[aa (.S [c])]) U=aa (ah,U)):
  cm C M G (.u .y [.f (.u .o [.v j]) [j] e cond]) l U=aa (.Y s,U):=by
 refine iM (bk (fU (gr h ae) (Uq ae hj hc) (ja (by refine ak (au ..) ?_;exact hz))) ae) ?_
 exact bd (yF hs) (B4 (ao hz (by decide)))
end
section
variable{a:Nat}
noncomputable abbrev gd(x1 x2 x3 x4 x5 x6 x7 x8:MV):MV:=.O 3 [8,9,2,10,11,12,13,14] [x1,x2,x3,x4,x5,x6,x7,x8]
noncomputable abbrev cD(top sub:List Nat)(ks vs:List MV):MV:=.O 2 [5,6,7] [.S top,.S sub,.D ks vs]
theorem Kr(he:∀U,Cd d 79 [x4] U=aa (x6,U))(hp:bI [x1,x2,x3,x4,x5,x6]=ah):
  AH (Cd (d+1)) (gg mT) 3 ah [x1,x2,x3,x4,x5] []=aa (.R 0,[gd x1 x2 x3 x4 x5 x6 (.L []) .N]):=by
 have hbl:jG 1 [gd x1 x2 x3 x4 x5 x6 (.L []) .N]=ah:=by
  refine iX 1 _ ?_
  show(bI ([x1,x2,x3,x4,x5,x6]++[.L [],.N])&&ah)=ah
  refine ak (rZ hp ae) ?_
  rfl
 have e:Cd (d+1) 136 [.R 0,x1,x2,x3,x4,x5] [.O 3 [] []]=aa (.N,[gd x1 x2 x3 x4 x5 x6 (.L []) .N]):=by
  have hb:∃l',cp (Cd d) (gg mT) gT Tk.body (sx 6 [.R 0,x1,x2,x3,x4,x5]) [.O 3 [] []]=aa (.n,l',[gd x1 x2 x3 x4 x5 x6 (.L []) .N]):=
   ⟨_,fj (U:=[]) ae ae ae ae (fj (U:=[]) ae ae ae ae (fj (U:=[]) ae ae ae ae (fj (U:=[]) ae ae ae ae (fj (U:=[]) ae ae ae ae (fj (U:=[]) (aS ae (he _)) ae ae ae (fj (U:=[]) ae ae ae ae (fj (U:=[]) ae ae ae ae kc)))))))⟩
  refine ee hb λl' hb=>?_
  exact Mine.bd hb (Mine.bd (x:=.N) ae (Mine.bd (x:=.N) ae (mt hbl ae)))
 exact Mine.bd (x:=136) ae (Mine.bd e ae)
theorem BU{data bd:List Nat}{b d:Nat}{x8:MV}{top sub:List Nat}{ks vs:List MV}{c:Nat}{t:List Nat}{L:List (List Nat×Wy)}(hbd:bd=c::t)(h256:∀c∈bd,c<256)(hz:bd.length<=1000)(hlk:qE ks vs (.S [98,111,117,110,100,97,114,121])=aa (aa (.S bd)))
  (hp:bI [x1,nI a,nI b,x4,cD top sub ks vs,x6,x7,x8]=ah)
  (hL:L≠[]) (h10:∀p∈L,cv 10 p.1=ac) (hw:∀p∈L,lz bd p.1 p.2) (W:jg data a (bR (L.map (·.1)))) (hl:jK L) (hb:b=a+(bR (L.map (·.1))).length) (hd:data.length<=1000000) {q:Nat×Nat} {A:List (Nat×Nat)} (hA:pw b ag a a L=q::A):
  Cd (d+3) 82 [.Y data,.R 0] [gd x1 (nI a) (nI b) x4 (cD top sub ks vs) x6 x7 x8]=aa (.L ((q::A).map pr),[gd x1 (nI a) (nI b) x4 (cD top sub ks vs) x6 x7 x8]):=by
 have hsp:=λU=>Aj (d:=d) (U:=U) hL h10 hw W hl hb hd
 rw[hA]at hsp
 refine yH (F:=YI) (τ:=[]) (v:=.L ((q::A).map pr)) ae ae ae (bb (v:=.S bd) (vN ae ae ae ?_) (bb (H2 (U:=[gd x1 (nI a) (nI b) x4 (cD top sub ks vs) x6 x7 x8]) ae ae h256 hz ?_) (bb (lB ae ae) (rC (U1:=[gd x1 (nI a) (nI b) x4 (cD top sub ks vs) x6 x7 x8]) (pF (U1:=[gd x1 (nI a) (nI b) x4 (cD top sub ks vs) x6 x7 x8]) ?_ (kY (tt (decide_eq_true ae)))) (bb (aS ae (hsp _)) (ca (hY (U1:=[gd x1 (nI a) (nI b) x4 (cD top sub ks vs) x6 x7 x8]) ae ae))))))) (fw (Fz.lst GE)) (iX 1 _ ?_)
 ·exact mp (mp hlk ae) ae
 ·intro x hx
  refine Jd (tt (decide_eq_true (bQ.mpr (h256 x hx))))
 ·subst hbd;rfl
 ·show(bI _&&ah)=ah
  refine ak hp ?_
  rfl
end
section
variable{data:List Nat}{a d h dp:Nat}{U:bN}{rs:List Row}{top sub:List Nat}{ks vs:List MV}{dig:Bool}{enc:List Nat}
noncomputable def uH:List Nat:=[99,111,110,116,101,110,116,45,116,121,112,101]
noncomputable def DN:List Nat:=[109,101,115,115,97,103,101]
noncomputable def D1:List Nat:=[114,102,99,56,50,50]
noncomputable def Br(rs:List Row)(dig:Bool)(top sub:List Nat)(ks vs:List MV):Prop:=
 (bU uH rs= .N/\dig=ah/\cD DN D1 [] []=cD top sub ks vs)\/ ∃o,bU uH rs= .Y o/\ ∀d U,Cd (d+10) 58 [.Y o] U=aa (cD top sub ks vs,U)
noncomputable def qH(rs:List Row)(enc:List Nat):Prop:=∀d U,Cd (d+5) 79 [.L (rs.map Row.obj)] U=aa (.S enc,U)
noncomputable def Bq(top sub:List Nat)(ks vs:List MV)(multi kg:Bool):Prop:=
 (∀d U,Cd (d+1) 133 [cD top sub ks vs] U=aa (.B multi,U))/\(∀d U,Cd (d+1) 134 [cD top sub ks vs] U=aa (.B kg,U))/\Fz 3 (cD top sub ks vs)
noncomputable def mL(h:Nat)(L:List (List Nat))(dig:Bool)(tr own:MV):Prop:=
 ∀ ⦃data:List Nat⦄ ⦃a:Nat⦄,jg data a (bR L)->data.length<=1000000->∀dp,dp+h<20->∃c as vs,(∀d U,Cd (d+12+2*h) 84 [.Y data,nI a,nI (a+(bR L).length),nI dp,.B dig] U=aa (.O c as vs,U))/\
   (∀d U,Cd (d+12+2*h) 106 [.Y data,.O c as vs] U=aa (tr,U))/\(∀d U,Cd (d+5) 105 [.O c as vs] U=aa (own,U))/\Fz (4+2*h) (.O c as vs)
theorem Ms:∀d U,Cd (d+2) 11 [.S uH] U=aa (.S uH,U):=λd U=>by kernel_rfl
noncomputable def WF:List MS:=[.i (.a [.m .l (.v 3) (.g 32),.h 9 (.v 8) []]) [.a (.v 10) (.m .e (.t (.v 8) 6) (.c (.S [100,105,103,101,115,116]))),.a (.t (.v 9) 13) (.f (.l 84 ac [.v 0,.v 11,.v 12,.b .a (.v 3) (.c (.I 1)),.v 10]) [11,12] (.l 82 ac [.v 0,.v 9]) [])] [.i (.a [.m .l (.v 3) (.g 32),.l 83 ac [.v 9]]) [.a (.t (.v 9) 14) (.l 84 ac [.v 0,.v 6,.v 2,.b .a (.v 3) (.c (.I 1)),.c (.B ac)])] []],.r (.v 9)]
theorem wr(hbd:body≠[])(ok:∀r∈rs,r.Ok)(hn:rs.length<=100)(W:jg data a (bR (aX rs++[]::body)))(hb:b=a+(bR (aX rs++[]::body)).length)(hd:data.length<=1000000)
  (hk:Br rs dig top sub ks vs) (he:qH rs enc) (hz:Fz 3 (cD top sub ks vs))
  (k:cp (Cd (d+11)) (gg mT) gT WF [aa (.Y data),aa (nI a),aa (nI b),aa (nI dp),aa (.B dig),aa (.L (rs.map Row.obj)),aa (nI (jH a rs+2)),aa (bU uH rs),aa (cD top sub ks vs),aa (.R 0),ag] [gd (nI a) (nI (jH a rs+2)) (nI b) (.L (rs.map Row.obj)) (cD top sub ks vs) (.S enc) (.L []) .N]=R):
  cp (Cd (d+11)) (gg mT) gT Tv.body (sx 11 [.Y data,nI a,nI b,nI dp,.B dig]) []=R:=by
 have hp:bI [nI a,nI (jH a rs+2),nI b,.L (rs.map Row.obj),cD top sub ks vs,.S enc]=ah:=bY (k:=3) (aO ((Fz.int _).up (by decide)) (aO ((Fz.int _).up (by decide)) (aO ((Fz.int _).up (by decide)) (aO (.lst jA) (aO hz (aO ((Fz.str _).up (by decide)) cz))))))
 refine zA (aS ae (zv (d:=d+7) hbd ok hn W hb (ao hd (by decide)))) (bb (aS ae (sV (d:=d+7) Ms ok)) (bb (v:=cD top sub ks vs) (U1:=[]) ?_ (bb (pj ae (Kr (d:=d+10) (λU=>he (d+5) U) hp)) k)))
 rcases hk with⟨h1,rfl,h3⟩|⟨o,h1,h2⟩
 ·unfold uH at h1
  refine ak h1 (ak (aZ h3) ?_)
  exact hY (U1:=[]) (pF (U1:=[]) ae (kY ae)) ae
 ·unfold uH at h1
  refine ak h1 ?_
  exact jz (U1:=[]) (LC ae) (aS ae (h2 (d+1) []))
theorem zq(ok:∀r∈rs,r.Ok)(hn:rs.length<=100)(hp:bI [gd x1 x2 x3 (.L (rs.map Row.obj)) x5 x6 x7 x8]=ah):Cd (d+5) 105 [gd x1 x2 x3 (.L (rs.map Row.obj)) x5 x6 x7 x8] U=aa (fb (dA rs),U):=by
 have hf:∀r∈dA rs,r.Ok:=λr hr=>ok r (List.mem_filter.mp hr).1
 have hl:(dA rs).length<=1000:=ao (iw _ _) (ao hn (by decide))
 refine aM (F:=SX) ae hp ae (ca (aS (bk (aS ae (zT (d:=d) ok (ao hn (by decide)))) ae) (xW hf hl (.inl ae)))) (fw (k:=3) (Fz.tup λv hv=>?_))
 refine aV (aQ.mp hv) λr u e2_=>?_
 subst e2_
 exact .tup (aO (.str _) (aO (.bytes _) cz))
theorem xT(hz:Fz 3 (cD top sub ks vs))(h7:Fz (k+3) x7)(h8:Fz (k+3) x8):Fz (k+4) (gd (nI a) (nI (jH a rs+2)) (nI b) (.L (rs.map Row.obj)) (cD top sub ks vs) (.S enc) x7 x8):=
 .obj (aO ((Fz.int _).up (aE ..)) (aO ((Fz.int _).up (aE ..)) (aO ((Fz.int _).up (aE ..)) (aO ((Fz.lst jA).up (aE ..)) (aO (hz.up (aE ..)) (aO ((Fz.str _).up (aE ..)) (aO h7 (aO h8 cz))))))))
theorem uS(hl:∀d U,Cd (d+1) 134 [cD top sub ks vs] U=aa (.B kg,U))(hp:bI [gd x1 x2 x3 x4 (cD top sub ks vs) (.S enc) x7 x8]=ah)(he:kg=ah->enc=[55,98,105,116]):
  Cd (d+2) 83 [.R 0] [gd x1 x2 x3 x4 (cD top sub ks vs) (.S enc) x7 x8]=aa (.B kg,[gd x1 x2 x3 x4 (cD top sub ks vs) (.S enc) x7 x8]):=by
 induction kg using aY with
 |false=>exact yH (F:=WE) (τ:=[]) (v:=.B ac) ae ae ae (ca (Qf (gp ae ae ae (hl d _)) ae)) ae (iX 1 _ hp)
 |true=>
  cases he ae
  exact yH (F:=WE) (τ:=[]) (v:=.B ah) ae ae ae (ca (OD (gp ae ae ae (hl d _)) ae (Jb ae))) ae (iX 1 _ hp)
theorem xN:∀{rs:List Row} {a:Nat} {body:List (List Nat)},body≠[]->jg data a (bR (aX rs++[]::body))->jg data (jH a rs+2) (bR body)/\jH a rs+2+(bR body).length=a+(bR (aX rs++[]::body)).length
 |[],a,body,hb,W=>by
  have e:bR (aX []++[]::body)=[]++([13,10]++bR body):=cK hb
  rw[e]at W⊢
  refine⟨W.right.right,?_⟩
  show a+2+_=_
  refine ak aj (ak aj ?_)
  simp only[aC,aq]
  simp+arith only
 |r::rs,a,body,hb,W=>by
  have eL:aX (r::rs)++[]::body=r.lines++(aX rs++[]::body):=ay _ _ _
  have e:=iR (p:=r.lines) (r:=aX rs++[]::body) (λh=>nomatch h) dN
  rw[eL,e]at W⊢
  have W4:jg data (a+(bR r.lines).length+2) (bR (aX rs++[]::body)):=jg.right (u:=[13,10]) (v:=bR (aX rs++[]::body)) W.right
  refine gQ (xN hb W4) λh1 h2=>?_
  refine⟨h1,?_⟩
  show jH (a+(bR r.lines).length+2) rs+2+_=_
  refine ak h2 (ak aj (ak aq (ak aq ?_)))
  simp+arith only
theorem H6(hbd:body≠[])(ok:∀r∈rs,r.Ok)(hn:rs.length<=100)(hk:Br rs dig top sub ks vs)(he:qH rs enc)(hki:Bq top sub ks vs ac ac)
  (hkt:∀d U,Cd (d+1) 132 [cD top sub ks vs] U=aa (kt,U)) (hkz:Fz 5 kt) (hun:∀d U,Cd (d+9) 86 [.S enc,.Y (bR body)] U=aa (.Y pay,U)):
  mL 0 (aX rs++[]::body) dig (.T [.S [108,101,97,102],kt,.Y pay,fb (dA rs)]) (fb (dA rs)):=by
 intro data a W hd dp hdp
 refine gQ (xN hbd W) λW2 hbe=>?_
 refine vf hki λhm hl hz=>?_
 have hpz:=xT (a:=a) (b:=a+(bR (aX rs++[]::body)).length) (rs:=rs) (enc:=enc) (k:=0) (x7:=.L []) (x8:=.N) hz (.lst cz) ((Fz.mk (k:=0) ae λu u u u=>ae).up (by decide))
 have hp1:bI [gd (nI a) (nI (jH a rs+2)) (nI (a+(bR (aX rs++[]::body)).length)) (.L (rs.map Row.obj)) (cD top sub ks vs) (.S enc) (.L []) .N]=ah:=bY (aO hpz cz)
 refine rg _ _ _ ⟨λd U=>?_,λd U=>?_,λd U=>zq ok hn hp1,hpz⟩
 ·refine aM (F:=Tv) (v:=.R 0) ae ae ae (wr (d:=d) hbd ok hn W ae hd hk he hz<|mi (pF (tt (decide_eq_true (bQ.mpr (by assumption)))) (kY (Ap (gp ae ae ae (hm (d+10) _)) ae))) (mi (pF (tt (decide_eq_true (bQ.mpr (by assumption)))) (kY (Ap (aS ae (uS (d:=d+9) (kg:=ac) hl hp1 λe=>nomatch e)) ae))) (ca ae))) (hpz.2 _ _ 39 (by decide))
 ·have hp2:bI [.Y data,gd (nI a) (nI (jH a rs+2)) (nI (a+(bR (aX rs++[]::body)).length)) (.L (rs.map Row.obj)) (cD top sub ks vs) (.S enc) (.L []) .N]=ah:=by
   show(ah&&bI [_])=ah
   refine ak hp1 ?_
   rfl
  have hbo:Cd (d+11) 87 [.Y data,gd (nI a) (nI (jH a rs+2)) (nI (a+(bR (aX rs++[]::body)).length)) (.L (rs.map Row.obj)) (cD top sub ks vs) (.S enc) (.L []) .N] []=aa (.Y pay,[]):=
   aM (F:=YK) (U':=[]) ae hp2 ae (ca (aS (bk ae (bk (vO ae ae ae (A9 W2 hbe.symm (ao hd (by decide)))) ae)) (hun (d+1) []))) ae
  refine aM (F:=MH) (v:=.T [.S [108,101,97,102],kt,.Y pay,fb (dA rs)]) (U':=[]) ae hp2 ae (mi (U1:=[]) ae (mi (U1:=[]) ae (ca (kE (bk ae (bk (gp ae ae ae (hkt (d+10) [])) (bk (iM (bk (aS ae hbo) ae) ae) (bk (aS ae (zq (d:=d+6) ok hn hp1)) ae)))) ae)))) (fw (k:=6) (.tup (aO ((Fz.str _).up (by decide)) (aO hkz (aO ((Fz.bytes _).up (by decide)) (aO (.up (k:=3) (Fz.tup λv hv=>?_) (by decide)) cz))))))
  refine aV (aQ.mp hv) λr u e2_=>?_
  subst e2_
  exact .tup (aO (.str _) (aO (.bytes _) cz))
end
section
noncomputable def sy:List Nat:=[108,101,116,116,101,114]
theorem iB:Fz 3 (fb rs):=Fz.tup λv hv=>by
 refine aV (aQ.mp hv) λr u e2_=>?_
 subst e2_
 exact .tup (aO (.str _) (aO (.bytes _) cz))
theorem rp(ht:Cd (d+5) 106 [.Y data,p] []=aa (tr,[]))(ho:Cd (d+5) 105 [p] []=aa (own,[]))(hb:∀d U,Cd (d+1) 89 [tr] U=aa (br,U))(hp:p.pure=ah)(hz:Fz k br)(hz2:Fz k own)(hk:1<=k):
  Cd (d+6) 107 [.Y data,p] U=aa (.T [.S sy,br,own],U):=by
 have hp2:bI [.Y data,p]=ah:=by
  show(ah&&(p.pure&&ah))=ah
  refine ak hp ?_
  rfl
 exact aM (F:=SY) (U':=[]) ae hp2 ae (ca (kE (bk ae (bk (aS (bk (aS ae ht) ae) (hb (d+4) [])) (bk (aS ae ho) ae))) ae)) (fw (k:=k+1) (.tup (aO ((Fz.str _).up hk) (aO hz (aO hz2 cz)))))
theorem D0(hbd:body≠[])(ok:∀r∈rs,r.Ok)(hn:rs.length<=100)(hk:Br rs dig top sub ks vs)(he:qH rs [55,98,105,116])(hki:Bq top sub ks vs ac ah)
  (hr:mL h body ac tr own) (hb:∀d U,Cd (d+1) 89 [tr] U=aa (br,U)) (hzb:Fz k br) (hzo:Fz k own) (hk1:1<=k) (hh:h<=10):
  mL (h+1) (aX rs++[]::body) dig (.T [.S sy,br,own]) (fb (dA rs)):=by
 intro data a W hd dp hdp
 refine gQ (xN hbd W) λW2 hbe=>?_
 refine vf hki λhm hl hz=>?_
 refine wx (hr W2 hd (dp+1) (by lia)) λc as ws r1 r2 r3 r4=>?_
 rw[hbe]at r1
 have hpz:=xT (a:=a) (b:=a+(bR (aX rs++[]::body)).length) (rs:=rs) (enc:=[55,98,105,116]) (k:=2+2*h) (x7:=.L []) (x8:=.O c as ws) hz ((Fz.lst (k:=0) cz).up (aE ..)) (r4.up (by simp+arith only))
 have hp0:bI [gd (nI a) (nI (jH a rs+2)) (nI (a+(bR (aX rs++[]::body)).length)) (.L (rs.map Row.obj)) (cD top sub ks vs) (.S [55,98,105,116]) (.L []) .N]=ah:=
  bY (aO (xT (enc:=[55,98,105,116]) (k:=0) (x7:=.L []) (x8:=.N) hz (.lst cz) ((Fz.mk (k:=0) ae λu u u u=>ae).up (by decide))) cz)
 have hp1:bI [gd (nI a) (nI (jH a rs+2)) (nI (a+(bR (aX rs++[]::body)).length)) (.L (rs.map Row.obj)) (cD top sub ks vs) (.S [55,98,105,116]) (.L []) (.O c as ws)]=ah:=bY (aO hpz cz)
 have e2:4+2*(h+1)=2+2*h+4:=by simp+arith only
 have e3:∀d,d+12+2*(h+1)=(d+12+2*h+1)+1:=λd=>by exact(b9 ..).symm
 refine rg _ _ _ ⟨λd U=>?_,λd U=>?_,λd U=>zq ok hn hp1,e2▸hpz⟩
 ·refine ak (e3 ..) ?_
  have:=wr (d:=d+2+2*h) (dp:=dp) (R:=aa (.r (.R 0),[aa (.Y data),aa (nI a),aa (nI (a+(bR (aX rs++[]::body)).length)),aa (nI dp),aa (.B dig),aa (.L (rs.map Row.obj)),aa (nI (jH a rs+2)),aa (bU uH rs),aa (cD top sub ks vs),aa (.R 0),ag],[gd (nI a) (nI (jH a rs+2)) (nI (a+(bR (aX rs++[]::body)).length)) (.L (rs.map Row.obj)) (cD top sub ks vs) (.S [55,98,105,116]) (.L []) (.O c as ws)])) hbd ok hn W ae hd hk he hz
   (mi (pF (tt (decide_eq_true (bQ.mpr (show dp<20 from by lia)))) (kY (Ap (gp ae ae ae (hm (d+2+2*h+10) _)) ae))) (rC (pF (tt (decide_eq_true (bQ.mpr (show dp<20 from by lia)))) (kY (Ap (aS ae (uS (d:=d+2+2*h+9) (kg:=ah) hl hp0 λe=>ae)) ae))) (fj (U:=[]) (aS ae (by
     have:=r1 (d+1) [gd (nI a) (nI (jH a rs+2)) (nI (a+(bR (aX rs++[]::body)).length)) (.L (rs.map Row.obj)) (cD top sub ks vs) (.S [55,98,105,116]) (.L []) .N]
     rw[show d+1+12+2*h=d+2+2*h+11 from by simp+arith only]at this
     exact this)) ae ae ae (ca ae))))
  rw[show d+2+2*h+11=d+12+2*h+1 from by simp+arith only]at this
  exact aM (F:=Tv) ae ae ae this (hpz.2 _ _ 39 (by lia))
 ·refine ak (e3 ..) ?_
  have hp2:bI [.Y data,gd (nI a) (nI (jH a rs+2)) (nI (a+(bR (aX rs++[]::body)).length)) (.L (rs.map Row.obj)) (cD top sub ks vs) (.S [55,98,105,116]) (.L []) (.O c as ws)]=ah:=by
   show(ah&&bI [_])=ah
   refine ak hp1 ?_
   rfl
  have ht:=r2 d []
  have ho:=r3 (d+7+2*h) []
  rw[show d+7+2*h+5=d+12+2*h from by exact bt ..]at ho
  have:=rp (d:=d+7+2*h) (U:=[]) (by refine ak (show d+7+2*h+5=d+12+2*h from(bt ..)) ?_;exact ht) (by refine ak (show d+7+2*h+5=d+12+2*h from(bt ..)) ?_;exact ho) hb r4.1 hzb hzo hk1
  rw[show d+7+2*h+6=d+12+2*h+1 from by simp+arith only]at this
  exact aM (F:=MH) (v:=.T [.S sy,br,own]) (U':=[]) ae hp2 ae (mi (U1:=[]) ae (rC (U1:=[]) ae (ca (aS ae this)))) (fw (k:=k+1) (.tup (aO ((Fz.str _).up hk1) (aO hzb (aO hzo cz)))))
end
noncomputable def w7(K:List (List Nat)):List (List Nat×Wy):=K.map λx=>(x,Wy.no)
noncomputable def iD(m:List Nat):List (List (List Nat))->List (List Nat×Wy)->List (List Nat×Wy)
 |[],tl=>tl
 |K::r,tl=>(m,.next)::(w7 K++iD m r tl)
noncomputable def dW(L:List (List Nat×Wy)):List (List Nat):=L.map (·.1)
theorem md:dW (w7 K++r)=K++dW r:=by
 unfold dW w7
 refine ak bS (ak bx ?_)
 congr 1
 exact lm K
noncomputable def DE(m:List Nat)(a:Nat):List (List (List Nat))->List (Nat×Nat)
 |[]=>[]
 |K::r=>(a+m.length+2,a+m.length+2+(bR K).length)::DE m (a+m.length+2+(bR K).length+2) r
section
variable{a h:Nat}{dig:Bool}
theorem GI:∀{K:List (List Nat)} {bf a:Nat} {r:List (List Nat×Wy)},K≠[]->pw e g bf a (w7 K++r)=pw e g (a+(bR K).length) (a+(bR K).length+2) r
 |[],_,_,_,h=>absurd ae h
 |[x],bf,a,r,_=>ae
 |x::y::K,bf,a,r,_=>by
  show pw e g (a+x.length) (a+x.length+2) (w7 (y::K)++r)=_
  refine ak (GI (az _ _)) (ak (cK (x:=x) (r:=y::K) (az _ _)) (ak aj (ak aq (ak aq ?_))))
  exact ak (show a+x.length+2+(bR (y::K)).length=a+(x.length+((bR (y::K)).length+1+1)) from by simp+arith only) ae
noncomputable def dB:List (List Nat)->Nat
 |[]=>0
 |x::r=>x.length+2+dB r
theorem d6:∀{K:List (List Nat)},K≠[]->dB K=(bR K).length+2
 |[],h=>absurd ae h
 |[x],_=>ae
 |x::y::K,_=>by
  show x.length+2+dB (y::K)=_
  refine ak (d6 (az _ _)) (ak (cK (x:=x) (r:=y::K) (az _ _)) (ak aj (ak aq (ak aq ?_))))
  exact bt ..
theorem cO:∀{K r:List (List Nat)},dB (K++r)=dB K+dB r
 |[],r=>by show dB r=0+dB r;simp+arith only
 |x::K,r=>by
  show x.length+2+dB (K++r)=x.length+2+dB K+dB r
  refine ak cO ?_
  exact(b9 ..).symm
noncomputable def yx(tl:List (List Nat×Wy)):Prop:=tl=[]\/ ∃x r,tl=(x,Wy.last)::r
theorem GH(ht:yx tl):∀{r:List (List (List Nat))} {s n:Nat},(∀K∈r,K≠[])->e+2=s+n+2+dB (dW (iD m r tl))->pw e (aa s) (s+n) (s+n+2) (iD m r tl)=(s,s+n)::DE m (s+n+2) r
 |[],s,n,_,he=>by
  rcases ht with rfl|⟨x,r,rfl⟩
  ·have:e=s+n:=by
    have h0:dB (dW (iD m [] []))=0:=ae
    lia
   refine ak this ?_
   rfl
  ·show[(s,max s (s+n))]=_
   refine ak (oU (aU _ _)) ?_
   rfl
 |K::r,s,n,hK,he=>by
  have hK0:=hK K (.head _)
  have e1:dW (iD m (K::r) tl)=m::(K++dW (iD m r tl)):=congrArg (m:: ·) md
  rw[e1]at he
  have e2:dB (m::(K++dW (iD m r tl)))=m.length+2+dB (K++dW (iD m r tl)):=ae
  rw[e2,cO,d6 hK0]at he
  show(s,max s (s+n))::pw e (aa (s+n+2+m.length+2)) _ _ (w7 K++iD m r tl)=_
  refine ak (oU (aU _ _)) (ak (GI hK0) (ak (GH ht (λK hK'=>hK K (.tail _ hK')) (by lia)) ?_))
  rfl
theorem Nt(ht:yx tl)(hK:∀K'∈K::r,K'≠[])(he:e+2=a+dB (pre++dW (iD m (K::r) tl))):
  pw e ag a a (w7 pre++iD m (K::r) tl)=DE m (a+dB pre) (K::r):=by
 have h1:∃bf,pw e ag a a (w7 pre++iD m (K::r) tl)=pw e ag bf (a+dB pre) (iD m (K::r) tl):=by
  induction pre using am with
  |nil=>exact⟨a,ae⟩
  |cons x p=>
   refine ak (GI (az _ _)) (ak (d6 (az _ _)) ?_)
   exact⟨_,ae⟩
 refine ee h1 λbf h1=>?_
 have hK0:=hK K (.head _)
 have e1:dW (iD m (K::r) tl)=m::(K++dW (iD m r tl)):=congrArg (m:: ·) md
 rw[cO,e1]at he
 have e2:dB (m::(K++dW (iD m r tl)))=m.length+2+dB (K++dW (iD m r tl)):=ae
 rw[e2,cO,d6 hK0]at he
 refine ak h1 ?_
 show pw e (aa (a+dB pre+m.length+2)) _ _ (w7 K++iD m r tl)=_
 refine ak (GI hK0) (ak (GH ht (λK hK'=>hK K (.tail _ hK')) (by lia)) ?_)
 rfl
theorem jg.lines(hr:r≠[])(W:jg data a (bR (p++r))):jg data (a+dB p) (bR r):=by
 induction p using am with
 |nil=>exact W
 |cons x p=>
  rw[iR (az _ _) hr]at W
  refine ak (d6 (az _ _)) (ak (aZ (b9 ..)) ?_)
  exact jg.right (u:=[13,10]) (v:=bR r) W.right
theorem jg.first(hp:p≠[])(W:jg data a (bR (p++r))):jg data a (bR p):=by
 induction r using am with
 |nil=>rw[aG]at W;exact W
 |cons x r=>
  rw[iR hp (az _ _)]at W
  exact W.left
structure qw where
 L:List (List Nat)
 tr:MV
 own:MV
noncomputable def qw.Ok(h:Nat)(dig:Bool)(k:qw):Prop:=k.L≠[]/\mL h k.L dig k.tr k.own
structure Iv where
 sp:Nat×Nat
 part:MV
 QJ:qw
theorem DF(hd:data.length<=1000000)(hdp:dp+h<20):∀{r:List qw} {a:Nat},(∀k∈r,k.Ok h dig)->jg data a (bR (dW (iD m (r.map (·.L)) tl)))->
  ∃xs:List Iv,xs.map (·.sp)=DE m a (r.map (·.L))/\xs.map (·.QJ)=r/\ ∀x∈xs,(∃c as vs,x.part= .O c as vs)/\(∀d U,Cd (d+12+2*h) 84 [.Y data,nI x.sp.1,nI x.sp.2,nI dp,.B dig] U=aa (x.part,U))/\
   (∀d U,Cd (d+12+2*h) 106 [.Y data,x.part] U=aa (x.QJ.tr,U))/\Fz (4+2*h) x.part
 |[],a,_,_=>⟨[],ae,ae,λx hx=>nomatch hx⟩
 |k::r,a,hk,W=>by
  refine gQ (hk k (.head _)) λhne hr=>?_
  have e1:dW (iD m ((k::r).map (·.L)) tl)=[m]++(k.L++dW (iD m (r.map (·.L)) tl)):=congrArg (m:: ·) md
  rw[e1]at W
  have W1:jg data (a+m.length+2) (bR (k.L++dW (iD m (r.map (·.L)) tl))):=jg.line (λh=>hne (bl.mp h).1) W
  refine wx (hr (W1.first hne) hd dp hdp) λc as vs r1 r2 r3 r4=>?_
  have rest:∃xs:List Iv,xs.map (·.sp)=DE m (a+m.length+2+(bR k.L).length+2) (r.map (·.L))/\xs.map (·.QJ)=r/\ ∀x∈xs,(∃c as vs,x.part= .O c as vs)/\(∀d U,Cd (d+12+2*h) 84 [.Y data,nI x.sp.1,nI x.sp.2,nI dp,.B dig] U=aa (x.part,U))/\
   (∀d U,Cd (d+12+2*h) 106 [.Y data,x.part] U=aa (x.QJ.tr,U))/\Fz (4+2*h) x.part:=by
   induction r using am with
   |nil=>exact⟨[],ae,ae,λx hx=>nomatch hx⟩
   |cons k' r=>
    have W2:=W1.lines (az _ _)
    rw[d6 hne,<-b9]at W2
    exact DF hd hdp (λx hx=>hk x (.tail _ hx)) W2
  refine jl rest λxs x1 x2 x3=>?_
  refine⟨⟨(a+m.length+2,a+m.length+2+(bR k.L).length),.O c as vs,k⟩::xs,?_,?_,?_⟩
  ·refine ak bz (ak x1 ?_)
   rfl
  ·exact ak bz (ak x2 ae)
  ·intro x hx
   cases hx with
   |head=>exact⟨rg c as vs ae,r1,r2,r4⟩
   |tail _ hx=>exact x3 x hx
end
section
noncomputable def EN:List Nat:=[100,105,103,101,115,116]
noncomputable def tW:List Nat:=[109,97,110,121]
set_option maxHeartbeats 2000000 in
theorem H7{bd m:List Nat}{h:Nat}{rs:List Row}{top sub:List Nat}{ks vs:List MV}{dig:Bool}{enc:List Nat}{c:Nat}{t:List Nat}{pre:List (List Nat)}{tl:List (List Nat×Wy)}{k0:qw}{kr:List qw}{kk:Nat}(ok:∀r∈rs,r.Ok)(hn:rs.length<=100)(hk:Br rs dig top sub ks vs)(he:qH rs enc)(hki:Bq top sub ks vs ah kg)
  (hbd:bd=c::t) (h256:∀c∈bd,c<256) (hzb:bd.length<=1000) (hlk:qE ks vs (.S [98,111,117,110,100,97,114,121])=aa (aa (.S bd)))
  (hK:∀k∈k0::kr,k.Ok h (bn sub EN)) (hkn:(k0::kr).length<=100) (hkz:∀k∈k0::kr,Fz kk k.tr) (hkk:3<=kk) (hh:h<=10) (ht:yx tl)
  (h10:∀p∈w7 pre++iD m ((k0::kr).map λx:qw=>x.L) tl,cv 10 p.1=ac) (hw:∀p∈w7 pre++iD m ((k0::kr).map λx:qw=>x.L) tl,lz bd p.1 p.2) (hl:jK (w7 pre++iD m ((k0::kr).map λx:qw=>x.L) tl)):
  mL (h+1) (aX rs++[]::(pre++dW (iD m ((k0::kr).map λx:qw=>x.L) tl))) dig (.T [.S tW,.S sub,.T ((k0::kr).map λx:qw=>x.tr),fb (dA rs)]) (fb (dA rs)):=by
 intro data a W hd dp hdp
 have hne:pre++dW (iD m ((k0::kr).map λx:qw=>x.L) tl)≠[]:=λh=>nomatch(bl.mp h).2
 have hLw:w7 pre++iD m ((k0::kr).map λx:qw=>x.L) tl≠[]:=λh=>nomatch(bl.mp h).2
 refine gQ (xN hne W) λW2 hbe=>?_
 generalize hb:a+(bR (aX rs++[]::(pre++dW (iD m ((k0::kr).map λx:qw=>x.L) tl)))).length=b at hbe⊢
 refine vf hki λhm hlt hz=>?_
 have hKne:∀K'∈(k0::kr).map λx:qw=>x.L,K'≠[]:=λK' hK'=>by
  refine aV (aQ.mp hK') λk hk1 e2_=>?_
  subst e2_
  exact(hK k hk1).1
 have hkl:iD m ((k0::kr).map λx:qw=>x.L) tl≠[]:=λh=>nomatch h
 refine jl (DF (m:=m) (tl:=tl) (h:=h) (dig:=bn sub EN) (dp:=dp+1) hd (by lia) hK (W2.lines (r:=dW (iD m ((k0::kr).map λx:qw=>x.L) tl)) λh=>nomatch h)) λxs x1 x2 x3=>?_
 induction xs using am with
 |nil=>cases x2
 |cons g gs=>
 have hpw:=Nt (e:=b) (a:=jH a rs+2) (m:=m) (pre:=pre) (K:=k0.L) (r:=kr.map λx:qw=>x.L) (tl:=tl) ht hKne (by
  have:=d6 hne
  refine ak (aZ hbe) ?_
  show _=jH a rs+2+dB (pre++dW (iD m ((k0::kr).map λx:qw=>x.L) tl))
  refine ak this ?_
  rfl)
 have hpw2:pw b ag (jH a rs+2) (jH a rs+2) (w7 pre++iD m ((k0::kr).map λx:qw=>x.L) tl)=g.sp::gs.map (λx:Iv=>x.sp):=hpw.trans x1.symm
 have hfst:(w7 pre++iD m ((k0::kr).map λx:qw=>x.L) tl).map (·.1)=pre++dW (iD m ((k0::kr).map λx:qw=>x.L) tl):=md
 have hgn:(g::gs).length<=100:=by
  have:=congrArg dK x2
  rw[au]at this
  refine ak this ?_
  exact hkn
 have hgz:∀v∈(g::gs).map λx:Iv=>x.part,Fz (4+2*h) v:=λv hv=>by
  refine aV (aQ.mp hv) λx hx e2_=>?_
  subst e2_
  exact(x3 x hx).2.2.2
 have hpz:=xT (a:=a) (b:=b) (rs:=rs) (enc:=enc) (k:=2+2*h) (x7:=.L ((g::gs).map λx:Iv=>x.part)) (x8:=.N) hz ((Fz.lst hgz).up (by simp+arith only)) ((Fz.mk (k:=0) ae λ_ _ _ _=>ae).up (aE ..))
 have hp1:bI [gd (nI a) (nI (jH a rs+2)) (nI b) (.L (rs.map Row.obj)) (cD top sub ks vs) (.S enc) (.L ((g::gs).map λx:Iv=>x.part)) .N]=ah:=bY (aO hpz cz)
 have hp0:bI [nI a,nI (jH a rs+2),nI b,.L (rs.map Row.obj),cD top sub ks vs,.S enc,.L [],.N]=ah:=
  bY (k:=3) (aO ((Fz.int _).up (by decide)) (aO ((Fz.int _).up (by decide)) (aO ((Fz.int _).up (by decide)) (aO (.lst jA) (aO hz (aO ((Fz.str _).up (by decide)) (aO ((Fz.lst (k:=0) cz).up (by decide)) (aO ((Fz.mk (k:=0) ae λ_ _ _ _=>ae).up (by decide)) cz))))))))
 have e2:4+2*(h+1)=2+2*h+4:=by simp+arith only
 have e3:∀d,d+12+2*(h+1)=(d+12+2*h+1)+1:=λd=>by exact(b9 ..).symm
 have e4:∀d,d+12+2*h+1=d+2+2*h+11:=λd=>by simp+arith only
 refine rg _ _ _ ⟨λd U=>?_,λd U=>?_,λd U=>zq ok hn hp1,e2▸hpz⟩
 ·refine ak (e3 ..) ?_
  refine aM (F:=Tv) (v:=.R 0) (l':=[aa (.Y data),aa (nI a),aa (nI b),aa (nI dp),aa (.B dig),aa (.L (rs.map Row.obj)),aa (nI (jH a rs+2)),aa (bU uH rs),aa (cD top sub ks vs),aa (.R 0),aa (.B (bn sub EN))]) (U':=[gd (nI a) (nI (jH a rs+2)) (nI b) (.L (rs.map Row.obj)) (cD top sub ks vs) (.S enc) (.L ((g::gs).map λx:Iv=>x.part)) .N]) ae ae ae ?_ (hpz.2 _ _ 39 (by lia))
  refine ak (e4 ..) ?_
  refine wr (d:=d+2+2*h) (dp:=dp) hne ok hn W hb.symm hd hk he hz
   (rC (pF (tt (decide_eq_true (bQ.mpr (show dp<20 from by lia)))) (kY (Ap (gp ae ae ae (hm (d+2+2*h+10) _)) ae))) (bb (v:=.B (bn sub EN)) ae (fj (U:=[]) (fU (gr (aS ae (BU (d:=d+2+2*h+8) hbd h256 hzb hlk hp0 hLw h10 hw (hfst.symm▸W2) hl (by refine ak hfst ?_;exact hbe.symm) hd hpw2)) ae) ?_ (ja ?_)) ae ae ae (ca ae))))
  ·refine ak (show(g.sp::gs.map λx:Iv=>x.sp).map pr=(g::gs).map λx=>pr x.sp from by rw[bz,bz,bx];rfl) ?_
   refine fu (λx:Iv=>pr x.sp) (λx=>x.part) ae λx hx=>⟨_,ae,ae,aS ae ?_⟩
   have:=(x3 x hx).2.1 (d+1) [gd (nI a) (nI (jH a rs+2)) (nI b) (.L (rs.map Row.obj)) (cD top sub ks vs) (.S enc) (.L []) .N]
   rw[show d+1+12+2*h=d+2+2*h+11 from by simp+arith only]at this
   exact this
  ·refine ak (au ..) ?_
   exact ao hgn (by decide)
 ·refine ak (e3 ..) ?_
  have hp2:bI [.Y data,gd (nI a) (nI (jH a rs+2)) (nI b) (.L (rs.map Row.obj)) (cD top sub ks vs) (.S enc) (.L ((g::gs).map λx:Iv=>x.part)) .N]=ah:=by
   show(ah&&bI [_])=ah
   refine ak hp1 ?_
   rfl
  have htr:(g::gs).map (λx=>x.QJ.tr)=(k0::kr).map (λx:qw=>x.tr):=by
   refine ak (aZ x2) (ak bx ?_)
   rfl
  have ho:=zq (d:=d+8+2*h) (U:=[]) ok hn hp1
  rw[show d+8+2*h+5=d+12+2*h+1 from by simp+arith only]at ho
  refine ak (aZ htr) ?_
  refine aM (F:=MH) (v:=.T [.S tW,.S sub,.T ((g::gs).map λx=>x.QJ.tr),fb (dA rs)]) (U':=[]) ae hp2 ae (rC (U1:=[]) ae (ca (kE (bk ae (bk ae (bk (iM (bk (fU (gr ae ae) (fu (λx:Iv=>x.part) (λx=>x.QJ.tr) ae λx hx=>⟨_,ae,ae,aS ae ?_⟩) (ja ?_)) ae) ae) (bk (aS ae ho) ae)))) ae))) (fw (k:=kk+2) (.tup (aO ((Fz.str _).up (aE ..)) (aO ((Fz.str _).up (aE ..)) (aO (Fz.tup λv hv=>?_) (aO (iB.up (dL ‹_›)) cz))))))
  ·have:=(x3 x hx).2.2.1 (d+1) []
   rw[show d+1+12+2*h=d+12+2*h+1 from by exact cy ..]at this
   exact this
  ·refine ak (au ..) ?_
   exact ao hgn (by decide)
  ·rw[htr]at hv
   refine aV (aQ.mp hv) λk hk1 e2_=>?_
   subst e2_
   exact hkz k hk1
end
section
set_option maxHeartbeats 0
theorem pT{p:Row->Prop}(h:p a)(k:∀v∈r,p v):∀v∈a::r,p v:=λv hv=>by
 cases hv with
 |head=>exact h
 |tail _ hv=>exact k v hv
theorem FL{p:MV->Prop}{l:List (List Nat)}(h:∀x,p (.S x)):∀v∈l.map MV.S,p v:=λv hv=>by
 refine aV (aQ.mp hv) λx u e2_=>?_
 subst e2_
 exact h x
theorem Iq{sub:List Nat}{ks vs:List (List Nat)}:Fz 3 (cD top sub (ks.map MV.S) (vs.map MV.S)):=.obj (aO ((Fz.str _).up (by decide)) (aO ((Fz.str _).up (by decide)) (aO (.dD (k:=1) (FL λx=>.str x) (FL λx=>.str x)) cz)))
noncomputable abbrev O0(n s:List Nat)(f:List (List Nat))(d:List Nat):Row:=⟨n,s,f,n.map EZ,d⟩
noncomputable abbrev OZ(n s:List Nat):Row:=O0 n s [] s
noncomputable abbrev HW(n d:List Nat):Row:=O0 n (32::d) [] d
noncomputable abbrev TY(n a s f:List Nat):Row:=O0 n (a++s) [f] (s++f)
noncomputable def Ag:List Nat:=[67,111,110,116,101,110,116,45,84,121,112,101]
noncomputable def Mt:List Nat:=[99,111,110,116,101,110,116,45,84,89,80,69]
noncomputable def Mu:List Nat:=[67,111,110,116,101,110,116,45,116,114,97,110,115,102,101,114,45,101,110,99,111,100,105,110,103]
noncomputable def EH:List Nat:=[67,111,110,116,101,110,116,45,84,114,97,110,115,102,101,114,45,69,110,99,111,100,105,110,103]
noncomputable def R3:List Nat:=[109,117,108,116,105,112,97,114,116]
noncomputable def BA:List Nat:=[98,111,117,110,100,97,114,121]
noncomputable def rF:Nat->List Row
 |0=>[]
 |1=>[O0 [88,45,65] [32,49] [[32,50,32]] [49,32,50]]
 |2=>[TY [83,117,98,106,101,99,116] [32] [115] [9,116],OZ [120,45,97] []]
 |_=>[HW [67,111,110,116,101,110,116,45,73,68] [60,99,62],HW [67,111,110,116,101,110,116,45,68,101,115,99,114,105,112,116,105,111,110] [100,32,101]]
noncomputable def nf:Row:=HW [70,114,111,109] [97,64,98]
noncomputable def Cc:Row:=OZ [109,105,109,101,45,86,69,82,83,73,79,78] [49,46,48]
noncomputable def Ce:Row:=HW [77,105,109,101,45,118,101,114,115,105,111,110] [49,46,48,32,40,120,41]
noncomputable def nA:Row:=HW [77,73,77,69,45,86,101,114,115,105,111,110] [49,46,48]
noncomputable def La:Row:=OZ [67,79,78,84,69,78,84,45,84,89,80,69] [40,120,41,32,77,101,115,115,97,103,101,32,47,32,82,70,67,56,50,50]
noncomputable def DX:Row:=HW Ag [109,101,115,115,97,103,101,47,114,102,99,56,50,50]
noncomputable def zW:Nat->Row
 |0=>OZ Mt [84,69,88,84,47,80,108,97,105,110,32,40,99,41,59,32,67,104,97,114,83,101,116,61,34,117,116,102,45,56,34]
 |1=>OZ Mt [84,101,120,116,47,72,84,77,76,59]
 |2=>TY Mt [] [65,112,112,108,105,99,97,116,105,111,110,47,79,99,116,101,116,45,83,116,114,101,97,109,59] [9,110,97,109,101,42,49,61,46,121,59,78,65,77,69,42,48,61,120]
 |3=>OZ Mt [105,109,97,103,101,47,40,112,41,112,110,103]
 |_=>OZ Mt [77,101,115,115,97,103,101,47,68,101,108,105,118,101,114,121,45,83,116,97,116,117,115]
noncomputable def qG:Nat->Row
 |0=>TY Ag [32] [116,101,120,116,47,112,108,97,105,110,59] [32,99,104,97,114,115,101,116,61,117,116,102,45,56]
 |1=>HW Ag [116,101,120,116,47,104,116,109,108]
 |2=>TY Ag [32] [97,112,112,108,105,99,97,116,105,111,110,47,111,99,116,101,116,45,115,116,114,101,97,109,59] [32,110,97,109,101,61,120,46,121]
 |3=>HW Ag [105,109,97,103,101,47,112,110,103]
 |_=>HW Ag [109,101,115,115,97,103,101,47,100,101,108,105,118,101,114,121,45,115,116,97,116,117,115]
noncomputable def Fe:Nat->Row
 |1=>HW Mu [66,65,83,69,54,52,32,40,99,41]
 |2=>OZ Mu [81,117,111,116,101,100,45,80,114,105,110,116,97,98,108,101]
 |_=>HW Mu [66,105,110,97,114,121]
noncomputable def Q7:Nat->Row
 |3=>HW EH [98,97,115,101,54,52]
 |_=>HW EH [113,117,111,116,101,100,45,112,114,105,110,116,97,98,108,101]
noncomputable def eO:Nat->List Nat
 |0=>[109,105,120,101,100]
 |1=>[100,105,103,101,115,116]
 |2=>[97,108,116,101,114,110,97,116,105,118,101]
 |3=>[114,101,108,97,116,101,100]
 |_=>[120,45,97,110,121]
noncomputable def gS:Nat->List Nat
 |0=>[98,48]
 |1=>[99,32,99]
 |_=>[61,95,113]
noncomputable def gn(n:Nat):List Nat:=[61,95,112,97,114,116,48+n]
noncomputable def Y2(s b:List Nat):List Nat:=[77,117,108,116,105,112,97,114,116,47]++s++[59,32,120,61,49,59,98,111,117,110,100,97,114,121,61,34]++b++[34]
noncomputable def u8(i j:Nat):Row:=O0 Ag (9::Y2 ((eO i).map It) (gS j)) [] (Y2 ((eO i).map It) (gS j))
noncomputable def wo(i j:Nat):Row:=TY Ag [32] ([109,117,108,116,105,112,97,114,116,47]++eO i++[59]) ([32,98,111,117,110,100,97,114,121,61,34]++gn j++[34])
noncomputable def v0:Nat->List Nat
 |0=>[116,101,120,116]
 |1=>[116,101,120,116]
 |2=>[97,112,112,108,105,99,97,116,105,111,110]
 |3=>[105,109,97,103,101]
 |_=>[109,101,115,115,97,103,101]
noncomputable def vZ:Nat->List Nat
 |0=>[112,108,97,105,110]
 |1=>[104,116,109,108]
 |2=>[111,99,116,101,116,45,115,116,114,101,97,109]
 |3=>[112,110,103]
 |_=>[100,101,108,105,118,101,114,121,45,115,116,97,116,117,115]
noncomputable def J5:Nat->List MV
 |0=>[.S [99,104,97,114,115,101,116]]
 |2=>[.S [110,97,109,101]]
 |_=>[]
noncomputable def J6:Nat->List MV
 |0=>[.S [117,116,102,45,56]]
 |2=>[.S [120,46,121]]
 |_=>[]
noncomputable def po(i:Nat):MV:=.T [.S (v0 i),.S (vZ i),.T (List.zipWith (λa b=>.T [a,b]) (J5 i) (J6 i))]
noncomputable def l9:Nat->List Nat
 |0=>[]
 |1=>[97,13,10,98]
 |2=>[45,45,61,95,112,97,114,116,48,13,10,120]
 |3=>[255,254,253]
 |_=>[99,97,102,233]
noncomputable def Hi:Nat->List (List Nat)
 |0=>[[]]
 |1=>[[97],[98]]
 |2=>[[45,45,61,95,112,97,114,116,48],[120]]
 |3=>[[255,254,253]]
 |_=>[[99,97,102,233]]
noncomputable def Ew:Nat->List (List Nat)
 |0=>Hi 0
 |1=>Hi 1
 |2=>Hi 2
 |3=>[[47,47,55,57]]
 |_=>[[99,97,102,61,69,57]]
noncomputable def Os:Nat->List (List Nat)
 |0=>[[]]
 |1=>[[89,81,48,75,89,103,61,61]]
 |2=>[[76,83,48,57,88,51,66,104,99,110,32,81,119,68,81,112,52]]
 |3=>[[47,47,55,57]]
 |_=>[[89,50,70,109,54,81,61,61]]
noncomputable def Ot:Nat->List (List Nat)
 |0=>[[]]
 |1=>[[97],[98]]
 |2=>[[45,45,61,51,68,95,112,97,114,116,48],[120]]
 |3=>[[61,70,70,61,102,101,61],[61,70,68]]
 |_=>[[99,97,102,61,69,57]]
noncomputable def WL(f:List Nat):Bool:=am f ac λc u=>wh c&& !cv 10 f
theorem foB(h:WL f=ah):cv 10 f=ac/\ ∃c t,f=c::t/\wh c=ah:=by
 cases f with
 |nil=>exact ft h
 |cons c t=>exact⟨by simpa using(aB h).2,c,t,ae,(aB h).1⟩
theorem wX:∀f∈([]:List (List Nat)),cv 10 f=ac/\ ∃c t,f=c::t/\wh c=ah:=λu h=>nomatch h
theorem RW(h:WL f=ah:=by rfl):∀x∈[f],cv 10 x=ac/\ ∃c t,x=c::t/\wh c=ah:=λu k=>(bF.mp k).symm▸foB h
structure Ha(n:List Nat):Prop where
 nm:∀d U,Cd (d+1) 14 [.Y n] U=aa (.B ah,U)
 Xn:cv 10 n=ac
 n58:cv 58 n=ac
 hd:∃c t,n=c::t/\wh c=ac
 wd:∀s d U,Cd (d+3) 129 [.O 1 [3,4] [.Y n,.Y s]] U=aa (.S (n.map EZ),U)
theorem GB(a:∀d U,Cd (d+1) 14 [.Y n] U=aa (.B ah,U):=by exact kq)(b:cv 10 n=ac:=by rfl)(c:cv 58 n=ac:=by rfl)(h:∃c t,n=c::t/\wh c=ac:=by exact⟨_,_,rfl,rfl⟩)(w:∀s d U,Cd (d+3) 129 [.O 1 [3,4] [.Y n,.Y s]] U=aa (.S (n.map EZ),U):=by intro s;exact kq):Ha n:=⟨a,b,c,h,w⟩
theorem sZ(N:Ha n)(F:∀x∈f,cv 10 x=ac/\ ∃c t,x=c::t/\wh c=ah)(a:cv 10 s=ac:=by rfl)(b:cr f.length 100=ah:=by rfl)(u:∀d U,Cd (d+3) 19 [.Y (bR (s::f))] U=aa (.Y d_,U):=by exact kq)(v:∀d U,Cd (d+3) 22 [.O 1 [3,4] [.Y n,.Y (bR (s::f))]] U=aa (.B ah,U):=by exact kq):(O0 n s f d_).Ok:=⟨N.nm,N.Xn,N.n58,N.hd,a,F,ar b,N.wd _,u,v⟩
theorem O1:Ha Ag:=GB
theorem Ug:Ha Mt:=GB
theorem VM:Ha Mu:=GB
theorem Uh:Ha EH:=GB
theorem GK:∀i,∀r∈rF i,r.Ok:=c4 (λr h=>nomatch h) (pT (sZ GB RW) λr h=>nomatch h) (pT (sZ GB RW) (pT (sZ GB wX) λr h=>nomatch h)) λu=>pT (sZ GB wX) (pT (sZ GB wX) λr h=>nomatch h)
theorem K7:nf.Ok:=sZ GB wX
theorem Nv:Cc.Ok:=sZ GB wX
theorem Nw:Ce.Ok:=sZ GB wX
theorem Nx:nA.Ok:=sZ GB wX
theorem Ra:La.Ok:=sZ GB wX
theorem Q9:DX.Ok:=sZ O1 wX
theorem Cb:∀i,(zW i).Ok:=c5 (sZ Ug wX) (sZ Ug wX) (sZ Ug RW) (sZ Ug wX) λu=>sZ Ug wX
theorem Q8:∀i,(qG i).Ok:=c5 (sZ O1 RW) (sZ O1 wX) (sZ O1 RW) (sZ O1 wX) λu=>sZ O1 wX
theorem Ff:∀i,(Fe i).Ok:=c4 (sZ VM wX) (sZ VM wX) (sZ VM wX) λu=>sZ VM wX
theorem K6:∀i,(Q7 i).Ok:=c5 (sZ Uh wX) (sZ Uh wX) (sZ Uh wX) (sZ Uh wX) λu=>sZ Uh wX
theorem E9(a:cv 10 s=ac:=by rfl)(u:∀d U,Cd (d+3) 19 [.Y s] U=aa (.Y d_,U):=by exact kq)(v:∀d U,Cd (d+3) 22 [.O 1 [3,4] [.Y Ag,.Y s]] U=aa (.B ah,U):=by exact kq):(O0 Ag s [] d_).Ok:=sZ O1 wX a ae u v
theorem xw(a:cv 10 s=ac:=by rfl)(b:WL f=ah:=by rfl)(u:∀d U,Cd (d+3) 19 [.Y (bR [s,f])] U=aa (.Y d_,U):=by exact kq)(v:∀d U,Cd (d+3) 22 [.O 1 [3,4] [.Y Ag,.Y (bR [s,f])]] U=aa (.B ah,U):=by exact kq):(O0 Ag s [f] d_).Ok:=sZ O1 (RW b) a ae u v
theorem Rc:∀i j,(u8 i j).Ok:=c5 (c3 E9 E9 λu=>E9) (c3 E9 E9 λu=>E9) (c3 E9 E9 λu=>E9) (c3 E9 E9 λu=>E9) λu=>c3 E9 E9 λu=>E9
theorem Rb:∀i j,j<5->(wo i j).Ok:=c5 (λj h=>t8 h xw xw xw xw xw) (λj h=>t8 h xw xw xw xw xw) (λj h=>t8 h xw xw xw xw xw) (λj h=>t8 h xw xw xw xw xw) λu=>λj h=>t8 h xw xw xw xw xw
theorem MZ:∀i d U,Cd (d+10) 58 [.Y (zW i).jm] U=aa (cD (v0 i) (vZ i) (J5 i) (J6 i),U):=c5 kq kq kq kq λu=>kq
theorem MY:∀i d U,Cd (d+10) 58 [.Y (qG i).jm] U=aa (cD (v0 i) (vZ i) (J5 i) (J6 i),U):=c5 kq kq kq kq λu=>kq
theorem Gw:∀d U,Cd (d+10) 58 [.Y La.jm] U=aa (cD DN D1 [] [],U):=kq
theorem M0:∀d U,Cd (d+10) 58 [.Y DX.jm] U=aa (cD DN D1 [] [],U):=kq
noncomputable abbrev RS(i:Nat):Prop:=∀j d U,Cd (d+10) 58 [.Y (u8 i j).jm] U=aa (cD R3 (eO i) [.S [120],.S BA] [.S [49],.S (gS j)],U)
theorem mT0:RS 0:=c3 kq kq λu=>kq
theorem mT1:RS 1:=c3 kq kq λu=>kq
theorem mT2:RS 2:=c3 kq kq λu=>kq
theorem mT3:RS 3:=c3 kq kq λu=>kq
theorem mT4(i:Nat):RS (i+4):=c3 kq kq λu=>kq
theorem Na:∀i,RS i:=c5 mT0 mT1 mT2 mT3 mT4
noncomputable abbrev RQ(i:Nat):Prop:=∀j,j<5->∀d U,Cd (d+10) 58 [.Y (wo i j).jm] U=aa (cD R3 (eO i) [.S BA] [.S (gn j)],U)
theorem mO0:RQ 0:=λj h=>t8 h kq kq kq kq kq
theorem mO1:RQ 1:=λj h=>t8 h kq kq kq kq kq
theorem mO2:RQ 2:=λj h=>t8 h kq kq kq kq kq
theorem mO3:RQ 3:=λj h=>t8 h kq kq kq kq kq
theorem mO4(i:Nat):RQ (i+4):=λj h=>t8 h kq kq kq kq kq
theorem M9:∀i,RQ i:=c5 mO0 mO1 mO2 mO3 mO4
theorem DC:∀i,Bq (v0 i) (vZ i) (J5 i) (J6 i) ac ac:=c5 (⟨λd U=>ae,λd U=>ae,Iq (ks:=[[99,104,97,114,115,101,116]]) (vs:=[[117,116,102,45,56]])⟩) (⟨λd U=>ae,λd U=>ae,Iq (ks:=[]) (vs:=[])⟩) (⟨λd U=>ae,λd U=>ae,Iq (ks:=[[110,97,109,101]]) (vs:=[[120,46,121]])⟩) (⟨λd U=>ae,λd U=>ae,Iq (ks:=[]) (vs:=[])⟩) λu=>⟨λd U=>ae,λd U=>ae,Iq (ks:=[]) (vs:=[])⟩
end
section
variable{a h:Nat}{rs lead R M F:List Row}{dig:Bool}
noncomputable def mP:List Nat:=[99,111,110,116,101,110,116,45,116,114,97,110,115,102,101,114,45,101,110,99,111,100,105,110,103]
theorem I6:∀d U,Cd (d+2) 11 [.S mP] U=aa (.S mP,U):=kq
noncomputable def Hy:List MS:=WC.body.tail
theorem vQ(ok:∀r∈rs,r.Ok)(hv:bU mP rs=v)(hr:∀L d,∃l',cp (Cd (d+4)) (gg mT) gT Hy [aa L,aa v,ag,ag] []=aa (.r (.S en),l',[])):qH rs en:=λd U=>by
 refine ee (hr (.L (rs.map Row.obj)) d) λl' h=>?_
 have hfb:=sV (d:=d) (U:=[]) I6 ok
 rw[hv]at hfb
 exact aM (F:=WC) (v:=.S en) (l':=l') (U':=[]) ae (bY (aO (.lst jA) cz)) ae (bb (aS ae hfb) h) ae
noncomputable def mR:Nat->List Nat
 |0=>[55,98,105,116]
 |1=>[98,97,115,101,54,52]
 |2=>[113,117,111,116,101,100,45,112,114,105,110,116,97,98,108,101]
 |_=>[98,105,110,97,114,121]
theorem pn(ok:∀r∈rs,r.Ok)(hv:bU mP rs= .N):qH rs [55,98,105,116]:=vQ ok hv λL d=>⟨[aa L,aa .N,ag,ag],by kernel_rfl⟩
theorem MA:∀L d,∃l',cp (Cd (d+4)) (gg mT) gT Hy [aa L,aa (.Y (Fe 1).jm),ag,ag] []=aa (.r (.S (mR 1)),l',[]):=λL d=>⟨[aa L,aa (.Y (Fe 1).jm),aa (nI 6),aa (.S (mR 1))],by kernel_rfl⟩
theorem MB:∀L d,∃l',cp (Cd (d+4)) (gg mT) gT Hy [aa L,aa (.Y (Fe 2).jm),ag,ag] []=aa (.r (.S (mR 2)),l',[]):=λL d=>⟨[aa L,aa (.Y (Fe 2).jm),aa (nI 16),aa (.S (mR 2))],by kernel_rfl⟩
theorem MC:∀L d,∃l',cp (Cd (d+4)) (gg mT) gT Hy [aa L,aa (.Y (Fe 3).jm),ag,ag] []=aa (.r (.S (mR 3)),l',[]):=λL d=>⟨[aa L,aa (.Y (Fe 3).jm),aa (nI 6),aa (.S (mR 3))],by kernel_rfl⟩
theorem My:∀L d,∃l',cp (Cd (d+4)) (gg mT) gT Hy [aa L,aa (.Y (Q7 3).jm),ag,ag] []=aa (.r (.S (mR 1)),l',[]):=λL d=>⟨[aa L,aa (.Y (Q7 3).jm),aa (nI 6),aa (.S (mR 1))],by kernel_rfl⟩
theorem Mz:∀L d,∃l',cp (Cd (d+4)) (gg mT) gT Hy [aa L,aa (.Y (Q7 4).jm),ag,ag] []=aa (.r (.S (mR 2)),l',[]):=λL d=>⟨[aa L,aa (.Y (Q7 4).jm),aa (nI 16),aa (.S (mR 2))],by kernel_rfl⟩
noncomputable def sW(rs:List Row):Bool:=rs.all λr=> !bn r.word uH&& !bn r.word mP
noncomputable def jZ(rs:List Row):Prop:=(∀r∈rs,r.Ok)/\rs.length<=10/\sW rs=ah
theorem kR:∀{A:List Row},(∀r∈A,bn r.word w=ac)->bU w (A++R)=bU w R
 |[],_=>ae
 |r::A,h=>by
  show(match bn r.word w with|true=>_|false=>bU w (A++R))=_
  refine ak (h r (.head _)) ?_
  exact kR λq hq=>h q (.tail _ hq)
theorem q8:∀{A:List Row},(∀r∈R,bn r.word w=ac)->bU w (A++R)=bU w A
 |[],h=>by
  have:=kR (w:=w) (A:=R) (R:=[]) h
  rw[aG]at this
  exact this
 |r::A,h=>by
  show(match bn r.word w with|true=>_|false=>bU w (A++R))=(match bn r.word w with|true=>_|false=>bU w A)
  exact ak (q8 h) ae
theorem Gb(h:sW rs=ah):(∀r∈rs,bn r.word uH=ac)/\ ∀r∈rs,bn r.word mP=ac:=by
 unfold sW at h
 refine⟨λr hr=>?_,λr hr=>?_⟩
 ·have:=(aB (aP.mp h r hr)).1
  simpa using this
 ·have:=(aB (aP.mp h r hr)).2
  simpa using this
theorem jQ:dA (A++B)=dA A++dA B:=List.filter_append ..
structure z7(R F M:List Row):Prop where
 ord:R=F++M\/R=M++F
 Y6:∀r∈F,r.Ok
 VP:∀r∈M,r.Ok
 fr:sW F=ah
 fF:dA F=F
 fM:dA M=[]
 n:F.length+M.length<=20
theorem z7.ok(m:z7 R F M):∀r∈R,r.Ok:=λr hr=>by
 rcases m.ord with rfl|rfl
 ·exact(bT.mp hr).elim (m.Y6 r) (m.VP r)
 ·exact(bT.mp hr).elim (m.VP r) (m.Y6 r)
theorem z7.free(m:z7 R F M):dA R=F:=by
 rcases m.ord with rfl|rfl
 ·exact ak jQ (ak m.fF (ak m.fM (ak (aG ..) ae)))
 ·refine ak jQ (ak m.fF (ak m.fM ?_));rfl
theorem z7.first(m:z7 R F M)(l:jZ lead):bU uH (lead++R)=bU uH M/\bU mP (lead++R)=bU mP M:=by
 refine gQ (Gb l.2.2) λl1 l2=>?_
 refine gQ (Gb m.fr) λf1 f2=>?_
 refine ak (kR l1) (ak (kR l2) ?_)
 rcases m.ord with rfl|rfl
 ·exact⟨kR f1,kR f2⟩
 ·exact⟨q8 f1,q8 f2⟩
theorem z7.len(m:z7 R F M)(l:jZ lead):(lead++R).length<=100:=by
 have:=m.n
 have:=l.2.1
 rcases m.ord with rfl|rfl<;>(simp only[aj];lia)
theorem z7.Q1(m:z7 R F M)(l:jZ lead):∀r∈lead++R,r.Ok:=λr hr=>(bT.mp hr).elim (l.1 r) (m.ok r)
theorem z7.JA(m:z7 R F M):dA (lead++R)=dA lead++F:=by exact ak jQ (ak m.free ae)
structure Nd where
 vX:Bool
 Ut:List MV
 F:List Row
noncomputable def Nd.tree(k:Nd)(ow:List Row):MV:=match k.vX with
 |true=>.T k.Ut
 |false=>.T (k.Ut++[fb ow])
noncomputable def Nd.jm(k:Nd):MV:=k.tree k.F
noncomputable def tF(h:Nat)(k:Nd)(R:List Row)(B:List (List Nat))(dig:Bool):Prop:=
 B≠[]/\ ∀lead,jZ lead->mL h (aX (lead++R)++[]::B) dig (k.tree (dA lead++k.F)) (fb (dA lead++dA R))
theorem mL.up(r:mL h L dig tr own)(e:h<=j):mL j L dig tr own:=by
 intro data a W hd dp hdp
 refine ee (bE e) λn e1_=>?_
 subst e1_
 refine wx (r W hd dp (by lia)) λc as vs h1 h2 h3 h4=>?_
 refine rg c as vs ⟨λd U=>?_,λd U=>?_,h3,h4.up (by simp+arith only)⟩
 ·refine ak (show d+12+2*(h+n)=d+2*n+12+2*h from by simp+arith only) ?_;exact h1 _ U
 ·refine ak (show d+12+2*(h+n)=d+2*n+12+2*h from by simp+arith only) ?_;exact h2 _ U
noncomputable def zV:List Nat:=[108,101,97,102]
theorem Bk(m:z7 R F M)(hB:B≠[])(h1:bU uH M= .Y o)(h2:∀d U,Cd (d+10) 58 [.Y o] U=aa (cD (v0 k) (vZ k) (J5 k) (J6 k),U))
  (he:∀lead,jZ lead->qH (lead++R) en) (hkt:∀d U,Cd (d+1) 132 [cD (v0 k) (vZ k) (J5 k) (J6 k)] U=aa (po k,U)) (hkz:Fz 5 (po k)) (hun:∀d U,Cd (d+9) 86 [.S en,.Y (bR B)] U=aa (.Y pay,U)):
  tF 0 ⟨ac,[.S zV,po k,.Y pay],F⟩ R B dig:=by
 refine⟨hB,λlead l=>?_⟩
 have:=H6 (dig:=dig) hB (m.Q1 l) (m.len l) (.inr ⟨o,by exact ak ((m.first l).1) (ak h1 ae),h2⟩) (he lead l) (DC k) hkt hkz hun
 rw[m.JA]at this
 refine ak m.free ?_
 exact this
theorem Bl{bd:List Nat}{o sub:List Nat}{ks vs:List MV}{m:List Nat}{c:Nat}{t:List Nat}{pre:List (List Nat)}{tl:List (List Nat×Wy)}{k0:qw}{kr:List qw}{kk:Nat}(mx:z7 R F M)(h1:bU uH M= .Y o)(h3:bU mP M= .N)(h2:∀d U,Cd (d+10) 58 [.Y o] U=aa (cD R3 sub ks vs,U))
  (hz:Fz 3 (cD R3 sub ks vs)) (hbd:bd=c::t) (h256:∀c∈bd,c<256) (hzb:bd.length<=1000) (hlk:qE ks vs (.S [98,111,117,110,100,97,114,121])=aa (aa (.S bd)))
  (hK:∀k∈k0::kr,k.Ok h (bn sub EN)) (hkn:(k0::kr).length<=100) (hkz:∀k∈k0::kr,Fz kk k.tr) (hkk:3<=kk) (hh:h<=10) (ht:yx tl) (hB:B=pre++dW (iD m ((k0::kr).map λx:qw=>x.L) tl))
  (h10:∀p∈w7 pre++iD m ((k0::kr).map λx:qw=>x.L) tl,cv 10 p.1=ac) (hw:∀p∈w7 pre++iD m ((k0::kr).map λx:qw=>x.L) tl,lz bd p.1 p.2) (hl:jK (w7 pre++iD m ((k0::kr).map λx:qw=>x.L) tl)):
  tF (h+1) ⟨ac,[.S tW,.S sub,.T ((k0::kr).map λx:qw=>x.tr)],F⟩ R B dig:=by
 subst hB
 refine⟨(λh=>nomatch(bl.mp h).2),λlead l=>?_⟩
 have:=H7 (dig:=dig) (kg:=ac) (mx.Q1 l) (mx.len l) (.inr ⟨o,by exact ak ((mx.first l).1) (ak h1 ae),h2⟩) (pn (mx.Q1 l) (by exact ak ((mx.first l).2) (ak h3 ae))) ⟨λd U=>aM (F:=Ti) ae (bY (aO hz cz)) ae (ca ae) ae,λd U=>aM (F:=Tj) ae (bY (aO hz cz)) ae (ca ae) ae,hz⟩ hbd h256 hzb hlk hK hkn hkz hkk hh ht h10 hw hl
 rw[mx.JA]at this
 refine ak mx.free ?_
 exact this
theorem xe(mx:z7 R F M)(hB:B≠[])(hk:(bU uH M= .N/\dig=ah)\/(∃o,bU uH M= .Y o/\ ∀d U,Cd (d+10) 58 [.Y o] U=aa (cD DN D1 [] [],U)))(h3:bU mP M= .N)
  (hr:mL h B ac tr own) (hb:∀d U,Cd (d+1) 89 [tr] U=aa (br,U)) (hzb:Fz kk br) (hzo:Fz kk own) (hk1:1<=kk) (hh:h<=10):
  tF (h+1) ⟨ah,[.S sy,br,own],F⟩ R B dig:=by
 refine⟨hB,λlead l=>?_⟩
 have:=D0 (dig:=dig) (top:=DN) (sub:=D1) (ks:=[]) (vs:=[]) hB (mx.Q1 l) (mx.len l) (by
  rcases hk with⟨e1,e2⟩|⟨o,e1,e2⟩
  ·exact .inl ⟨by exact ak ((mx.first l).1) (ak e1 ae),e2,ae⟩
  ·exact .inr ⟨o,by exact ak ((mx.first l).1) (ak e1 ae),e2⟩) (pn (mx.Q1 l) (by exact ak ((mx.first l).2) (ak h3 ae))) ⟨λd U=>ae,λd U=>ae,Iq (ks:=[]) (vs:=[])⟩ hr hb hzb hzo hk1 hh
 rw[mx.JA]at this
 refine ak mx.free ?_
 exact this
theorem Mg{k:Nd}{w:List Nat}{x y:MV}(hp:k.Ut=[.S w,x,y])(hw:bn w sy=k.vX)(hx:∃j,Fz j x/\Fz j y):∀d U,Cd (d+1) 89 [k.tree ow] U=aa (k.tree [],U):=λd U=>by
 obtain⟨il,pf,F⟩:=k
 refine aV hx λj hx hy=>?_
 dsimp only at hp hw
 subst hp
 induction il using aY with
 |true=>
  have z:Fz (j+2) (MV.T [.S w,x,y]):=.tup (aO ((Fz.str _).up (aE ..)) (aO (hx.up (aU ..)) (aO (hy.up (aU ..)) cz)))
  exact aM (F:=WG) (v:=.T [.S w,x,y]) ae (bY (aO z cz)) ae (ca (hY (U1:=[]) (tt hw) ae)) (fw z)
 |false=>
  have z:∀ow:List Row,Fz (j+5) (MV.T [.S w,x,y,fb ow]):=λow=>.tup (aO ((Fz.str _).up (aE ..)) (aO (hx.up (aU ..)) (aO (hy.up (aU ..)) (aO (iB.up (aE ..)) cz))))
  exact aM (F:=WG) (v:=.T [.S w,x,y,fb []]) ae (bY (aO (z ow) cz)) ae (ca (jz (U1:=[]) (ff hw) ae)) (fw (z []))
end
section
variable{rs:List Row}
theorem FP:bo y x=bo x y:=by
 cases h:bo x y with
 |true=>
  refine ak (aN h) ?_
  exact ez _
 |false=>
  cases h2:bo y x with
  |false=>rfl
  |true=>
   rw[aN h2,ez]at h
   exact tf h
theorem U7:fi U (.T (x::r)) (.I 0)=aa x:=by
 show(A6 (r.length+1) (aD 0)).bind _=_
 refine ak (u6 (pK _)) ?_
 rfl
theorem Rz:fi U (.T (x::y::r)) (.I 1)=aa y:=by
 show(A6 (r.length+1+1) (aD 1)).bind _=_
 refine ak (u6 (Nat.succ_lt_succ (pK _))) ?_
 rfl
theorem tX:∀{m x:List Nat},bn (x.take m.length) m=bA m x
 |[],x=>by induction x using am<;>rfl
 |c::m,[]=>ae
 |c::m,y::x=>by
  show(bo y c&&bn (x.take m.length) m)=(bo c y&&bA m x)
  exact ak tX (ak FP ae)
theorem UJ(hn:n<=16777216):uQ U (.Y x) .N (nI n)=aa (.Y (x.take n)):=by
 refine mp (mt (D8 hn) ae) (congrArg MV.Y ?_)
 show(x.take (max 0 (min (n:Int) x.length)).toNat).drop 0=_
 refine ak j1 (ak (BF n x.length) ?_)
 by_cases q:n<=x.length
 ·exact ak (fX q) ae
 ·exact ak (oV (oS q)) (ak iV (ak (ew (oS q)) ae))
theorem zR{bd:List Nat}(hb:bd.length<=1000)(h:bA (45::45::bd) x=ac):lz bd x .no:=λd U=>by
 refine aM (F:=YH) (v:=.S []) (U':=[]) ae ae ae (bb (bq ae ae (cB (x:=[45,45]) (y:=bd) (by refine ak aj ?_;simp only[aq,aC];lia))) (rC (U1:=[]) (eZ (vO (q:=nI (45::45::bd).length) ae ae ae (UJ (by simp only[aq];lia))) ae (z:=ah) ?_) (ca ae))) ae
 show(aa (bn (x.take (45::45::bd).length) (45::45::bd))).map (!·)=aa ah
 refine ak tX (ak h ?_)
 rfl
theorem zt(h:bA [45,45] x=ac):bA (45::45::m) x=ac:=by
 induction x using am with
 |nil=>rfl
 |cons a x=>
  induction x using am with
  |nil=>
   unfold bA
   refine ak (show bA (45::m) []=ac from ae) ?_
   exact xZ _
  |cons b x=>
   unfold bA at h⊢
   unfold bA at h⊢
   unfold bA at h
   rw[sD]at h
   refine ak (aZ (xY ..)) (ak h ?_)
   rfl
noncomputable def lnB(x:List Nat):Bool:= !cv 10 x&& !bA [45,45] x
noncomputable def Uz(r:Row):Bool:=r.lines.all lnB&&cr (dB r.lines) 120
noncomputable def df(rs:List Row):Bool:=rs.all Uz
theorem va(h:df rs=ah):∀x∈aX rs,cv 10 x=ac/\bA [45,45] x=ac:=λx hx=>by
 unfold aX at hx
 refine aV (List.mem_flatMap.mp hx) λr hr hx=>?_
 have h1:=(aB (aP.mp h r hr)).1
 have h2:=aB (aP.mp h1 x hx)
 exact⟨by simpa using h2.1,by simpa using h2.2⟩
theorem cx:∀{rs:List Row},df rs=ah->dB (aX rs)<=120*rs.length
 |[],_=>bj _
 |r::rs,h=>by
  refine gQ (aB (show(Uz r&&df rs)=ah from h)) λh1 h2=>?_
  have h3:=ar (aB h1).2
  have h4:=cx h2
  show dB (r.lines++aX rs)<=_
  refine ak cO (ak aq ?_)
  lia
theorem fH(h1:df A=ah)(h2:df B=ah):df (A++B)=ah:=by
 unfold df at*
 refine ak xi (ak h1 (ak h2 ?_))
 rfl
noncomputable def rB(r:Row)(ex:List MV):MV:=.T (.Y r.name:: .Y r.raw::ex)
noncomputable def RV(vs:List MV)(rs:List Row):Prop:=∃ps:List (Row×List MV),vs=ps.map (λp=>rB p.1 p.2)/\rs=ps.map (·.1)/\ ∀p∈ps,bI p.2=ah
theorem RV.app(h1:RV A X)(h2:RV B Y):RV (A++B) (X++Y):=by
 refine jl h1 λp e1_ e2_ hp=>?_
 subst e1_
 subst e2_
 refine jl h2 λq e1_ e2_ hq=>?_
 subst e1_
 subst e2_
 exact⟨p++q,by exact ak bS ae,by exact ak bS ae,λx hx=>(bT.mp hx).elim (hp x) (hq x)⟩
theorem RV.nil:RV [] []:=⟨[],ae,ae,λx hx=>nomatch hx⟩
theorem RV.one(h:bI ex=ah):RV [rB r ex] [r]:=⟨[(r,ex)],ae,ae,λx hx=>by refine ak (bF.mp hx) ?_;exact h⟩
theorem RV.len(h:RV A X):A.length=X.length:=by
 refine jl h λp e1_ e2_ u=>?_
 subst e1_
 subst e2_
 exact ak (au ..) (ak (au ..) ae)
theorem RV.bI(h:RV A X):bI A=ah:=by
 refine jl h λp e1_ e2_ hp=>?_
 subst e1_
 subst e2_
 refine nc λv hv=>?_
 refine aV (aQ.mp hv) λx hx e2_=>?_
 subst e2_
 exact hp x hx
theorem gf:∀{rs:List Row},(cU rs).length=dB (aX rs)
 |[]=>ae
 |r::rs=>by
  show((r.name++58::(r.raw++[13,10]))++cU rs).length=dB (r.lines++aX rs)
  refine ak cO (ak (aZ gf) (ak aj ?_))
  congr 1
  refine ak (d6 (show r.lines≠[] from λh=>nomatch h)) ?_
  have e:bR r.lines=r.name++(58::r.raw):=by
   unfold Row.lines Row.raw
   induction r.kG using am with
   |nil=>rfl
   |cons f fs=>refine ak (cK (az _ _)) (ak (cK (az _ _)) (ak (ay ..) ?_));rfl
  refine ak e ?_
  simp only[aj,aq,aC]
  exact(b9 ..).symm
theorem px(hL:L≠[]):∀{rs:List Row},cU rs++bR L=bR (aX rs++L)
 |[]=>ae
 |r::rs=>by
  have e:bR r.lines=r.name++(58::r.raw):=by
   unfold Row.lines Row.raw
   induction r.kG using am with
   |nil=>rfl
   |cons f fs=>refine ak (cK (az _ _)) (ak (cK (az _ _)) (ak (ay ..) ?_));rfl
  show((r.name++58::(r.raw++[13,10]))++cU rs)++bR L=bR ((r.lines++aX rs)++L)
  rewrite[ay r.lines];refine ak (iR (show r.lines≠[] from λh=>nomatch h) (show aX rs++L≠[] from λh=>hL (bl.mp h).2)) (ak (aZ (px hL)) (ak e ?_))
  simp only[ay,cH,cq]
theorem vI(hB:B≠[]):[13,10]++bR B=bR ([]::B):=(cK (x:=[]) hB).symm
theorem lD(h:RV vs rs)(hv:v= .L vs\/v= .T vs)(hn:rs.length<=100)(hl:(cU rs).length<=100000):Cd (d+1) 114 [v] U=aa (.Y (cU rs),U):=by
 have hpu:=h.bI
 refine jl h λps e1_ e2_ hps=>?_
 subst e1_
 subst e2_
 have hi:items [] v=aa (ps.map λp=>rB p.1 p.2):=by rcases hv with rfl|rfl<;>rfl
 have hu:gP v [] []=ah:=by rcases hv with rfl|rfl<;>rfl
 have hp:bI [v]=ah:=by
  rcases hv with rfl|rfl
  ·show(bI _&&ah)=ah;refine ak hpu ?_;rfl
  ·show(bI _&&ah)=ah;refine ak hpu ?_;rfl
 refine aM (F:=Tc) (v:=.Y (cU (ps.map (·.1)))) (U':=[]) ae hp ae (ca (vN ae ae (bk (fU (gr ae hi) (fu (λp:Row×List MV=>rB p.1 p.2) (λp=>.Y (p.1.name++58::(p.1.raw++[13,10]))) hu λr hr=>⟨_,ae,ae,?_⟩) (ja (by refine ak (au ..) ?_;rw[au]at hn;exact ao ‹_› (by decide)))) ae) ?_)) ae
 ·have hr':=D2 (bM (f:=λp:Row×List MV=>p.1) hr)
  refine(bq (bq (bq (c9 ae ae U7) ae (cB ?_)) (c9 ae ae Rz) (cB ?_)) ae (cB ?_)).trans ?_
  ·refine ak aj (ak aW ?_);lia
  ·refine ak aj (ak aj (ak aW ?_));lia
  ·refine ak aj (ak aj (ak aj (ak aW ?_)));simp only[aq,aC];lia
  ·refine ak (ay ..) (ak (ay ..) ?_);rfl
 ·have:ps.map (λp:Row×List MV=>MV.Y (p.1.name++58::(p.1.raw++[13,10])))=((ps.map (·.1)).map λr:Row=>r.name++58::(r.raw++[13,10])).map MV.Y:=by refine ak bx (ak bx ?_);rfl
  refine ak this ?_
  exact zd (ao hl (by decide))
end
section
variable{b:Nat}{M F:List Row}{w:List Nat}
noncomputable def fO:List Nat:=[115,111,114,116]
noncomputable def ku:List Nat:=[102,105,101,108,100,115]
noncomputable def Gs:List Nat:=[107,105,110,100]
noncomputable def FU:List Nat:=[98,111,100,121]
noncomputable def Vo:List Nat:=[119,97,121]
noncomputable def q9:List Nat:=[102,108,105,112]
noncomputable def xc:List Nat:=[115,117,98]
noncomputable def wu:List Nat:=[115,116,121,108,101]
noncomputable def TS:List Nat:=[107,105,100,115]
noncomputable def Gf:List Nat:=[104,101,97,100]
noncomputable def JS:List Nat:=[105,110,110,101,114]
noncomputable def HC(F:List Row):List MV:=F.map λr=>rB r [.Y r.jm]
noncomputable def fV(F:List Row):MV:=.T (HC F)
theorem pX:RV (HC F) F:=⟨F.map λr=>(r,[.Y r.jm]),by refine ak bx ?_;rfl,by refine ak bx ?_;exact(lm F).symm,λp hp=>by
 refine aV (aQ.mp hp) λr u e2_=>?_
 subst e2_
 rfl⟩
noncomputable def QE(k:Nat):List Nat:=(qG k).raw.tail
noncomputable def xt(k:Nat):MV:=.T [po k,.Y (QE k),.Y (zW k).raw]
noncomputable def SP:Nat->List Nat
 |3=>mR 1
 |0=>[]
 |1=>[]
 |2=>[]
 |_=>mR 2
noncomputable def xq(b:Nat):MV:=.T [.Y (l9 b),.Y (SP b),.Y (bR (Ew b)),.Y (bR (Os b)),.Y (bR (Ot b))]
noncomputable def jM(F:List Row)(k b w fl:Nat):MV:=.D [.S fO,.S ku,.S Gs,.S FU,.S Vo,.S q9] [.S zV,fV F,xt k,xq b,nI w,nI fl]
noncomputable def kl(F:List Row)(s fl st:Nat)(kids:List MV):MV:=.D [.S fO,.S ku,.S xc,.S q9,.S wu,.S TS] [.S tW,fV F,.S (eO s),nI fl,nI st,.L kids]
noncomputable def eY(F H:List Row)(fl:Nat)(inner:MV):MV:=.D [.S fO,.S ku,.S Gf,.S q9,.S JS] [.S sy,fV F,fV H,nI fl,inner]
noncomputable def gc(fl:Nat)(F M:List Row):List Row:=match fl with
 |1=>F++M
 |_=>M++F
noncomputable def Td:List MS:=Jo.body.drop 2
theorem J9(hL:L≠[]):(cU rs++([13,10]++bR L)).length+2=dB (aX rs++[]::L):=by
 exact ak (vI hL) (ak (px (az _ _)) (ak (d6 dN) ae))
theorem wL(h:x.length+y.length<=1000):jO U .a (.L x) (.L y)=aa (.L (x++y)):=by
 show TZ (x++y)=_
 unfold TZ
 exact ak (ja (by rw[aj];exact h)) ae
theorem Cr(hL:L≠[])(hf:fi [] nd (.S ku)=aa (.T fvs))(hfl:fi [] nd (.S q9)=aa (nI fl))(h2:fl<2)
  (r1:RV vs lead) (r2:RV fvs F) (r3:RV mvs M) (n1:lead.length<=10) (n2:F.length<=10) (n3:M.length<=10) (hn:dB (aX (lead++gc fl F M)++[]::L)<=100000):
  ∃l',cp (Cd (d+1)) (gg mT) gT Td [aa nd,aa (.L vs),aa dpv,aa dg,aa (.L mvs),x5,aa (.Y (bR L)),x7,x8,x9,x10,x11,ag] []=aa (.r (.Y (bR (aX (lead++gc fl F M)++[]::L))),l',[]):=by
 have hlen:=J9 (rs:=lead++gc fl F M) hL
 rw[aj,aj]at hlen
 have e:cU (lead++gc fl F M)++([13,10]++bR L)=bR (aX (lead++gc fl F M)++[]::L):=by exact ak (vI hL) (ak (px (az _ _)) ae)
 have l1:=r1.len
 have l2:=r2.len
 have l3:=r3.len
 have fin:∀(l:Loc) (e1:ME),(∀C G,cm C (gg mT) G (.c (.Y [13,10])) l []=aa (.Y [13,10],[]))->l[6]?=aa (aa (.Y (bR L)))->∀rv,RV rv (lead++gc fl F M)->cm (Cd (d+1)) (gg mT) gT e1 l []=aa (.L rv,[])->
   cm (Cd (d+1)) (gg mT) gT (.b .a (.b .a (.l 114 ac [e1]) (.c (.Y [13,10]))) (.v 6)) l []=aa (.Y (bR (aX (lead++gc fl F M)++[]::L)),[]):=by
  intro l e1 u h6 rv rr he
  refine ak (aZ e) (ak (aZ (ay ..)) ?_)
  have hll:(lead++gc fl F M).length<=100:=by
   refine ak aj ?_
   have:(gc fl F M).length<=20:=by
    unfold gc
    split<;>(refine ak aj ?_;lia)
   lia
  refine bq (bq (aS (bk he ae) (lD rr (.inl ae) hll (by lia))) ae (cB (by refine ak aj ?_;simp only[aq,aC]at hlen⊢;lia))) (nW h6) (cB (by simp only[aj,aq,aC]at hlen⊢;lia))
 have hlist:vH [] .i [.T fvs]=aa (.L fvs):=ae
 have hc:fl=0\/fl=1:=by lia
 rcases hc with rfl|rfl
 ·exact⟨_,bb (v:=.L fvs) (iM (bk (c9 ae ae hf) ae) ae) (ca (fin _ _ (λu u=>ae) ae (vs++(mvs++fvs)) (r1.app (r3.app r2)) (bq ae (jz (U1:=[]) (eZ (c9 ae ae hfl) ae ae) (bq ae ae (wL (by lia)))) (wL (by refine ak aj ?_;lia)))))⟩
 ·exact⟨_,bb (v:=.L fvs) (iM (bk (c9 ae ae hf) ae) ae) (ca (fin _ _ (λu u=>ae) ae (vs++(fvs++mvs)) (r1.app (r2.app r3)) (bq ae (hY (U1:=[]) (eZ (c9 ae ae hfl) ae ae) (bq ae ae (wL (by lia)))) (wL (by refine ak aj ?_;lia)))))⟩
noncomputable def As(w b:Nat):List (List Nat):=match w with
 |1=>Os b
 |2=>Ot b
 |_=>Hi b
noncomputable def mV(k w:Nat):List Row:=match w with
 |0=>[zW k]
 |_=>[zW k,Fe w]
theorem K9:∀k,(zW k).name=Mt:=c5 ae ae ae ae λu=>ae
theorem Me:∀b,bR (Hi b)=l9 b:=c5 ae ae ae ae λu=>ae
theorem IJ:∀w b,As w b≠[]:=λw b=>by
 unfold As
 have h0:Hi b≠[]:=c5 (P:=λb=>Hi b≠[]) (az _ _) (az _ _) (az _ _) (az _ _) (λu=>az _ _) b
 have h3:Os b≠[]:=c5 (P:=λb=>Os b≠[]) (az _ _) (az _ _) (az _ _) (az _ _) (λu=>az _ _) b
 have h4:Ot b≠[]:=c5 (P:=λb=>Ot b≠[]) (az _ _) (az _ _) (az _ _) (az _ _) (λu=>az _ _) b
 split<;>assumption
theorem NZ{d dp:Nat}{U:bN}{lead:List Row}{dig:Bool}{k b w fl:Nat}(hw:w<4)(hfl:fl<2)(hF:F.length<=10)(r1:RV vs lead)(n1:lead.length<=10)(hp:bI [jM F k b w fl,.L vs,nI dp,.B dig]=ah)(hn:dB (aX (lead++gc fl F (mV k w))++[]::As w b)<=100000):
  Cd (d+2) 116 [jM F k b w fl,.L vs,nI dp,.B dig] U=aa (.Y (bR (aX (lead++gc fl F (mV k w))++[]::As w b)),U):=by
 have r3:RV [.T [.Y Mt,.Y (zW k).raw]] [zW k]:=by
  have:=RV.one (r:=zW k) (ex:=[]) ae
  unfold rB at this
  rw[K9]at this
  exact this
 have r4:∀w,RV [rB (Fe w) []] [Fe w]:=λw=>RV.one ae
 have hne:=IJ w b
 have e0:=Me b
 have main:∀(mvs:List MV),RV mvs (mV k w)->(mV k w).length<=10->(∀(l5:Loc),l5=[aa (jM F k b w fl),aa (.L vs),aa (nI dp),aa (.B dig),aa (.L []),aa (nI w),ag,ag,ag,ag,ag,ag,ag]->
   cm (Cd (d+1)) (gg mT) gT (.y (.d ac [.z [.c (.Y Mt),.x (.x (.v 0) (.c (.S [107,105,110,100]))) (.c (.I 2))],.z [.c (.Y [67,111,110,116,101,110,116,45,116,114,97,110,115,102,101,114,45,101,110,99,111,100,105,110,103]),.x (.z [.c (.Y []),.c (.Y [32,66,65,83,69,54,52,32,40,99,41]),.c (.Y [81,117,111,116,101,100,45,80,114,105,110,116,97,98,108,101]),.c (.Y [32,66,105,110,97,114,121])]) (.v 5)]]) (.c .N) (.i (.m .g (.v 5) (.c (.I 0))) (.c (.I 2)) (.c (.I 1)))) l5 []=aa (.L mvs,[])/\
   cm (Cd (d+1)) (gg mT) gT (.x (.x (.v 0) (.c (.S [98,111,100,121]))) (.x (.z [.c (.I 0),.c (.I 3),.c (.I 4),.c (.I 0)]) (.v 5))) (mj l5 4 (.L mvs)) []=aa (.Y (bR (As w b)),[]))->
   Cd (d+2) 116 [jM F k b w fl,.L vs,nI dp,.B dig] U=aa (.Y (bR (aX (lead++gc fl F (mV k w))++[]::As w b)),U):=by
  intro mvs rm nm hd
  refine gQ (hd _ ae) λh1 h2=>?_
  refine ee (Cr (d:=d) (dpv:=nI dp) (dg:=.B dig) (x5:=aa (nI w)) (x7:=ag) (x8:=ag) (x9:=ag) (x10:=ag) (x11:=ag) hne (nd:=jM F k b w fl) (fl:=fl) ae ae hfl r1 pX rm n1 hF nm hn) λl' ht=>?_
  exact aM (F:=Jo) (v:=.Y (bR (aX (lead++gc fl F (mV k w))++[]::As w b))) (l':=l') (U':=[]) ae hp ae (bb (v:=.L []) (lB ae ae) (rC (U1:=[]) ae (bb (v:=nI w) ae (bb h1 (bb h2 ht))))) ae
 match w,hw with
 |0,_=>exact main _ r3 (ar ae) λl5 hl=>by subst hl;exact⟨ae,by refine ak (show As 0 b=Hi b from ae) (ak e0 ?_);rfl⟩
 |1,_=>exact main _ (r3.app (r4 1)) (ar ae) λl5 hl=>by subst hl;exact⟨ae,ae⟩
 |2,_=>exact main _ (r3.app (r4 2)) (ar ae) λl5 hl=>by subst hl;exact⟨ae,ae⟩
 |3,_=>exact main _ (r3.app (r4 3)) (ar ae) λl5 hl=>by subst hl;exact⟨ae,by refine ak (show As 3 b=Hi b from ae) (ak e0 ?_);rfl⟩
end
section
variable{dig:Bool}
noncomputable def p8(dig:Bool)(fl:Nat):List Row:=match dig with
 |true=>match fl with
  |0=>[La]
  |_=>[]
 |false=>[La]
theorem Ii(hL:L≠[])(hfl:fl<2)(hF:F.length<=10)(hH:H.length<=10)(r1:RV vs lead)(n1:lead.length<=10)(hp:bI [eY F H fl inner,.L vs,nI dp,.B dig]=ah)(hn:dB (aX (lead++gc fl F (p8 dig fl))++[]::L)<=100000)
  (hi:∀U,Cd (d+1) 116 [inner,.L (HC H++[rB Ce []]),nI (dp+1),.B ac] U=aa (.Y (bR L),U)):
  Cd (d+2) 116 [eY F H fl inner,.L vs,nI dp,.B dig] U=aa (.Y (bR (aX (lead++gc fl F (p8 dig fl))++[]::L)),U):=by
 have hlH:(HC H).length<=10:=by unfold HC;refine ak (au ..) ?_;exact hH
 have main:∀(mvs:List MV),RV mvs (p8 dig fl)->(p8 dig fl).length<=10->(∀r (R:Option (Fl×Loc×bN)),cp (Cd (d+1)) (gg mT) gT r [aa (eY F H fl inner),aa (.L vs),aa (nI dp),aa (.B dig),aa (.L mvs),ag,ag,ag,ag,ag,ag,ag,ag] []=R->
   cp (Cd (d+1)) (gg mT) gT (.i (.r [.o (.v 3),.m .e (.x (.v 0) (.c (.S [102,108,105,112]))) (.c (.I 0))]) [.a (.v 4) (.d ac [.z [.c (.Y [67,79,78,84,69,78,84,45,84,89,80,69]),.c (.Y [40,120,41,32,77,101,115,115,97,103,101,32,47,32,82,70,67,56,50,50])]])] []::r) [aa (eY F H fl inner),aa (.L vs),aa (nI dp),aa (.B dig),aa (.L []),ag,ag,ag,ag,ag,ag,ag,ag] []=R)->
   Cd (d+2) 116 [eY F H fl inner,.L vs,nI dp,.B dig] U=aa (.Y (bR (aX (lead++gc fl F (p8 dig fl))++[]::L)),U):=by
  intro mvs rm nm hd
  refine ee (Cr (d:=d) (dpv:=nI dp) (dg:=.B dig) (x5:=ag) (x7:=ag) (x8:=ag) (x9:=ag) (x10:=ag) (x11:=ag) hL (nd:=eY F H fl inner) (fl:=fl) ae ae hfl r1 pX rm n1 hF nm hn) λl' ht=>?_
  exact aM (F:=Jo) (v:=.Y (bR (aX (lead++gc fl F (p8 dig fl))++[]::L))) (l':=l') (U':=[]) ae hp ae (bb (v:=.L []) (lB ae ae) (mi (U1:=[]) ae (rC (U1:=[]) ae (hd _ _ (bb (aS (bk ae (bk (bq ae ae (wL (by simp only[aq,aC];exact bG ‹_› (by decide)))) (bk ae (bk ae ae)))) (hi [])) ht))))) ae
 have hc:fl=0\/fl=1:=by lia
 have r5:RV [rB La []] [La]:=RV.one ae
 induction dig using aY with
 |false=>
  exact main [rB La []] r5 (ar ae) λr R k=>rC (U1:=[]) (Ap (b:=ah) (v:=.B ah) ae ae) (bb (v:=.L [rB La []]) (lB ae ae) k)
 |true=>
  rcases hc with rfl|rfl
  ·exact main [rB La []] r5 (ar ae) λr R k=>rC (U1:=[]) (Ig (U1:=[]) ae (Bj ae)) (bb (v:=.L [rB La []]) (lB ae ae) k)
  ·exact main [] .nil (ar ae) λr R k=>mi (U1:=[]) (Ig (U1:=[]) ae (Bj ae)) k
end
section
variable{a b e:Nat}
noncomputable def xU(i:Nat)(a b c e:α):α:=match i with
 |0=>a
 |1=>b
 |2=>c
 |_=>e
theorem N3{a b e:MV}(h:i<4):fi U (.T [a,b,c,e]) (nI i)=aa (xU i a b c e):=by
 match i,h with
 |0,_=>rfl
 |1,_=>rfl
 |2,_=>rfl
 |3,_=>rfl
noncomputable def cu(b:List Nat):List Nat:=45::45::b
noncomputable def w3(st:Nat)(b:List Nat):List Nat:=cu b++xU st [] [32,9] [] []
noncomputable def sA(st:Nat):List (List Nat):=xU st [] [[112,114,101]] [] []
noncomputable def Bn(st:Nat)(b:List Nat):List (List Nat×Wy):=xU st [(cu b++[45,45],.last),([],.no)] [(cu b++[45,45,32,9],.last),([],.no)] [(cu b++[45,45],.last),([45,45,98,57],.no),([101,112,105],.no)] []
theorem BV:∀{Ks:List (List (List Nat))},iD m Ks tl=iD m Ks []++tl
 |[]=>ae
 |K::r=>by
  show(m,Wy.next)::(w7 K++iD m r tl)=(m,Wy.next)::(w7 K++iD m r [])++tl
  exact ak BV (ak cH (ak (ay ..) ae))
theorem Dm:dW (A++B)=dW A++dW B:=bS ..
theorem TD{a b:List Nat}:y1 s (a::b::r)=a++(s++y1 s (b::r)):=congrArg (a++ ·) (ay s b _)
theorem AL:∀{Ks:List (List (List Nat))},Ks≠[]->y1 [13,10] (Ks.map λK=>bR (m::K))=bR (dW (iD m Ks []))
 |[],h=>absurd ae h
 |[K],_=>by
  show bR (m::K)++[]=bR (m::dW (w7 K++[]))
  refine ak md (ak (aG ..) ?_)
  exact congrArg (λl=>bR (m::l)) (aG K).symm
 |K::K'::r,_=>by
  have ih:=AL (m:=m) (Ks:=K'::r) (az _ _)
  refine TD.trans ((congrArg (λt=>bR (m::K)++([13,10]++t)) ih).trans ?_)
  show _=bR (m::dW (w7 K++iD m (K'::r) []))
  refine ak md ?_
  exact(iR (az _ _) (show dW (iD m (K'::r) [])≠[] from az _ _)).symm
theorem HM(h:Ks≠[]):AS [13,10] (Ks.map λK=>.Y (bR (m::K)))=aa (bR (dW (iD m Ks []))):=mp (zl (f:=VT) (g:=λK=>MV.Y (bR (m::K))) (h:=λK=>bR (m::K)) (λu=>ae) Ks) (AL h)
noncomputable abbrev KV:=MV×List (List Nat)
theorem Gu:∀{Ks:List (List (List Nat))},(∀K∈Ks,∀n,n<=(bR K).length->n<=dB (dW (iD m Ks [])))
 |K::r,K',hK,n,hn=>by
  have e1:dW (iD m (K::r) [])=m::(K++dW (iD m r [])):=congrArg (m:: ·) md
  refine ak e1 ?_
  show n<=m.length+2+dB (K++dW (iD m r []))
  refine ak cO ?_
  cases hK with
  |head=>
   by_cases q:K=[]
   ·rw[q]at hn
    have:n=0:=Nat.le_zero.mp hn
    lia
   ·refine ak (d6 q) ?_
    lia
  |tail _ hK=>
   have:=Gu (m:=m) K' hK n hn
   lia
theorem NU:∀s,Ae U .u (.S (eO s)) []=aa (.S ((eO s).map It),U):=c5 ae ae ae ae λv=>ae
theorem Fs:∀s,(∀c∈(eO s).map It,c<256)/\((eO s).map It).length<=1000:=c5 (⟨by decide,by decide⟩) (⟨by decide,by decide⟩) (⟨by decide,by decide⟩) (⟨by decide,by decide⟩) λu=>⟨by show∀c∈[88,45,65,78,89],c<256;decide,ar ae⟩
theorem Ln{a b e:List Nat}:xU i (MV.Y a) (.Y b) (.Y c) (.Y e)= .Y (xU i a b c e):=by
 unfold xU
 split<;>rfl
theorem Mh(h:dp<=2):xU dp (MV.Y [98,48]) (.Y [99,32,99]) (.Y [61,95,113]) (.Y [100,39,100])= .Y (gS dp):=by
 match dp,h with
 |0,_=>rfl
 |1,_=>rfl
 |2,_=>rfl
theorem uz:∀dp,(gS dp).length<=3:=c3 (by decide) (by decide) λu=>ar ae
theorem Nu:∀s dp,[9,77,117,108,116,105,112,97,114,116,47]++(eO s).map It++[59,32,120,61,49,59,98,111,117,110,100,97,114,121,61,34]++gS dp++[34]=(u8 s dp).raw:=λu u=>ae
theorem Lb:∀s dp,(u8 s dp).name=Ag:=λu u=>ae
theorem Ko{b:List Nat}:cu b++xU st [13,10] [32,9,13,10] [13,10] [13,10]=w3 st b++[13,10]:=by
 unfold w3 xU
 split<;>simp
theorem HL(h:AS [13,10] l=aa t)(hz:t.length<=16777216):Ae U .j (.Y [13,10]) [.L l]=aa (.Y t,U):=by
 exact mp (Mine.bd h (B4 hz)) ae
theorem HU{b:List Nat}(hA:A≠[]):xU st [] [112,114,101,13,10] [] []++bR A++xU st ([13,10]++cu b++[45,45,13,10]) ([13,10]++cu b++[45,45]++xU st [13,10] [32,9,13,10] [13,10] [13,10]) ([13,10]++cu b++[45,45,13,10,45,45,98,57,13,10,101,112,105]) []=bR (sA st++(A++dW (Bn st b))):=by
 have h1:∀t:List (List Nat),t≠[]->bR (A++t)=bR A++(13::10::bR t):=λt ht=>iR hA ht
 have hne:∀t:List (List Nat),A++t≠[]:=λt h=>hA (bl.mp h).1
 unfold xU sA Bn
 match st with
 |0=>
  show[]++bR A++_=bR ([]++(A++[cu b++[45,45],[]]))
  rw[cq,cq,h1 _ (az _ _)]
  show _=bR A++(13::10::((cu b++[45,45])++(13::10::[])))
  simp only[ay,cH,cq]
 |1=>
  show[112,114,101,13,10]++bR A++_=bR ([112,114,101]::(A++[cu b++[45,45,32,9],[]]))
  refine ak (cK (hne _)) (ak (h1 _ (az _ _)) ?_)
  show _=[112,114,101]++(13::10::(bR A++(13::10::((cu b++[45,45,32,9])++(13::10::[])))))
  simp only[ay,cH,cq]
 |2=>
  show[]++bR A++_=bR ([]++(A++[cu b++[45,45],[45,45,98,57],[101,112,105]]))
  rw[cq,cq,h1 _ (az _ _)]
  show _=bR A++(13::10::((cu b++[45,45])++(13::10::([45,45,98,57]++(13::10::[101,112,105])))))
  simp only[ay,cH,cq]
 |n+3=>
  show[]++bR A++[]=bR ([]++(A++[]))
  rw[aG,aG,cq,cq]
set_option maxHeartbeats 600000 in
theorem N0{d dp:Nat}{lead F:List Row}{dig:Bool}{kids:List KV}{s fl st:Nat}(hdp:dp<=2)(hst:st<4)(hfl:fl<2)(hF:F.length<=10)(r1:RV vs lead)(n1:lead.length<=10)(hp:bI [kl F s fl st (kids.map (·.1)),.L vs,nI dp,.B dig]=ah)
  (hkn:kids≠[]) (hkl:kids.length<=10) (hK:∀k∈kids,k.2≠[])
  (hk:∀k∈kids,∀U,Cd (d+1) 116 [k.1,.L [],nI (dp+1),.B (bn (eO s) EN)] U=aa (.Y (bR k.2),U))
  (hn:dB (aX (lead++gc fl F [u8 s dp])++[]::(sA st++dW (iD (w3 st (gS dp)) (kids.map (·.2)) (Bn st (gS dp)))))<=100000):
  Cd (d+2) 116 [kl F s fl st (kids.map (·.1)),.L vs,nI dp,.B dig] U=aa (.Y (bR (aX (lead++gc fl F [u8 s dp])++[]::(sA st++dW (iD (w3 st (gS dp)) (kids.map (·.2)) (Bn st (gS dp)))))),U):=by
 have r3:RV [.T [.Y Ag,.Y (u8 s dp).raw]] [u8 s dp]:=by
  have:=RV.one (r:=u8 s dp) (ex:=[]) ae
  unfold rB at this
  rw[Lb]at this
  exact this
 have hL:sA st++dW (iD (w3 st (gS dp)) (kids.map (·.2)) (Bn st (gS dp)))≠[]:=by
  induction kids using am with
  |nil=>exact absurd ae hkn
  |cons k r=>exact λh=>nomatch(bl.mp h).2
 refine ee (Cr (d:=d) (dpv:=nI dp) (dg:=.B dig) (x5:=ag) (x7:=aa (.Y (gS dp))) (x8:=aa (.Y (cu (gS dp)))) (x9:=aa (.Y ((eO s).map It))) (x10:=aa (.Y (xU st [13,10] [32,9,13,10] [13,10] [13,10]))) (x11:=aa (.L (kids.map λk=>.Y (bR (w3 st (gS dp)::k.2))))) hL (nd:=kl F s fl st (kids.map (·.1))) (fl:=fl) ae ae hfl r1 pX r3 n1 hF (ar ae) hn) λl' ht=>?_
 rw[BV,Dm]at hn hL ht⊢
 have hA:dW (iD (w3 st (gS dp)) (kids.map (·.2)) [])≠[]:=by
  induction kids using am with
  |nil=>exact absurd ae hkn
  |cons k r=>exact az _ _
 have hln:dB (dW (iD (w3 st (gS dp)) (kids.map (·.2)) []))<=100000:=by
  rw[cO]at hn
  have:∀(x:List Nat) (L:List (List Nat)),dB (x::L)=x.length+2+dB L:=λ_ _=>ae
  rw[this,cO,cO]at hn
  lia
 have hJ:=d6 hA
 have hlB:=uz dp
 have hlD:(cu (gS dp)).length<=5:=by unfold cu;simp only[aq];lia
 have hlT:(xU st [13,10] [32,9,13,10] [13,10] [13,10]).length<=4:=by unfold xU;split<;>decide
 have hlP:(xU st [] [112,114,101,13,10] [] []).length<=5:=by unfold xU;split<;>decide
 have hU:=Fs s
 have hj:=HM (m:=w3 st (gS dp)) (Ks:=kids.map (·.2)) λh=>hkn (eF.mp h)
 rw[bx]at hj
 have hmt:=HU (st:=st) (b:=gS dp) hA
 refine aM (F:=Jo) (v:=.Y (bR (aX (lead++gc fl F [u8 s dp])++[]::(sA st++(dW (iD (w3 st (gS dp)) (kids.map (·.2)) [])++dW (Bn st (gS dp))))))) (l':=l') (U':=[]) ae hp ae (bb (v:=.L []) (lB ae ae) (mi (U1:=[]) ae (mi (U1:=[]) ae
  (bb (v:=.Y (gS dp)) (c9 ae ae ((N3 (bG ‹_› (by decide))).trans (congrArg aa (Mh hdp)))) (bb (v:=.Y (cu (gS dp))) (bq ae ae (cB (x:=[45,45]) (by simp only[aj,aq,aC];lia))) (bb (v:=.Y ((eO s).map It)) (H2 (vN ae ae ae (NU s)) ae hU.1 hU.2 λc hc=>ae)
  (bb (v:=.L [.T [.Y Ag,.Y (u8 s dp).raw]]) ((lB (bk (kE (bk ae (bk (bq (bq (bq (bq ae ae (cB ?_)) ae (cB ?_)) ae (cB ?_)) ae (cB ?_)) ae)) ae) ae) ae).trans (by refine ak (Nu ..) ?_;rfl))
  (bb (v:=.Y (xU st [13,10] [32,9,13,10] [13,10] [13,10])) (c9 ae ae ((N3 hst).trans (congrArg aa Ln))) (bb (v:=.L (kids.map λk=>.Y (bR (w3 st (gS dp)::k.2)))) (fU (gr ae ae) (fu (λk:KV=>k.1) (λk=>.Y (bR (w3 st (gS dp)::k.2))) ae λk hk'=>⟨_,ae,ae,?_⟩) (ja ?_))
  (bb (v:=.Y (xU st [] [112,114,101,13,10] [] []++bR (dW (iD (w3 st (gS dp)) (kids.map (·.2)) [])))) (bq (c9 ae ae ((N3 hst).trans (congrArg aa Ln))) (vN ae ae ae (HL hj (by lia))) (cB ?_))
  (bb (v:=.Y (bR (sA st++(dW (iD (w3 st (gS dp)) (kids.map (·.2)) [])++dW (Bn st (gS dp)))))) ((bq ae (c9 (kE (bk (bq (bq ae ae (cB ?_)) ae (cB ?_)) (bk (bq (bq (bq ae ae (cB ?_)) ae (cB ?_)) ae (cB ?_)) (bk (bq (bq ae ae (cB ?_)) ae (cB ?_)) (bk ae ae)))) ae) ae ((N3 hst).trans (congrArg aa Ln))) (cB ?_)).trans (by exact ak hmt ae)) ht))))))))))) ae
 all_goals first
  |(have hU2:=hU.2;simp only[aj,aq,aC];lia)
  |skip
 ·have hK1:=hK k hk'
  have hle:(bR k.2).length<=100000:=ao (Gu (m:=w3 st (gS dp)) k.2 (bM (f:=λk:KV=>k.2) hk') _ (bj _)) hln
  refine(bq (bq ae ae (cB ?_)) (aS ae (hk k hk' [])) (cB ?_)).trans ?_
  ·simp only[aj];lia
  ·simp only[aj];lia
  ·refine ak Ko (ak (cK hK1) (ak (ay ..) ?_))
   rfl
 ·refine ak (au ..) ?_
  lia
 ·refine ak hmt ?_
  have:=d6 hL
  rw[cO]at hn
  have e:∀(x:List Nat) (L:List (List Nat)),dB (x::L)=x.length+2+dB L:=λ_ _=>ae
  rw[e]at hn
  lia
end
noncomputable def RX:Nat->MV->Bool
 |0,_=>ac
 |k+1,v=>match v with
  | .T l=>l.all (RX k)
  | .L l=>l.all (RX k)
  | .D a b=>a.all (RX k)&&b.all (RX k)
  | .O _ _ l=>l.all (RX k)
  | .R _=>ac
  |_=>ah
theorem sX:∀{k:Nat} {v:MV},RX k v=ah->Fz k v
 |0,_,h=>by exact ft h
 |k+1,v,h=>by
  induction v using MV.casesOn with
  |T l=>exact .tup λv hv=>sX (aP.mp h v hv)
  |L l=>exact .lst λv hv=>sX (aP.mp h v hv)
  |D a b=>exact .dD (λv hv=>sX (aP.mp (aB h).1 v hv)) λv hv=>sX (aP.mp (aB h).2 v hv)
  |O c as l=>exact .obj λv hv=>sX (aP.mp h v hv)
  |R i=>exact ft h
  |N=>exact(Fz.mk (k:=0) ae λu u u u=>ae).up (aE ..)
  |B b=>exact(Fz.mk (k:=0) ae λu u u u=>ae).up (aE ..)
  |I b=>exact(Fz.mk (k:=0) ae λu u u u=>ae).up (aE ..)
  |S b=>exact(Fz.mk (k:=0) ae λu u u u=>ae).up (aE ..)
  |Y b=>exact(Fz.mk (k:=0) ae λu u u u=>ae).up (aE ..)
section
variable{a d h dp:Nat}{U:bN}{lead R M F:List Row}{dig:Bool}
structure xC(F:List Row):Prop where
 ok:∀r∈F,r.Ok
 rw:df F=ah
 fr:sW F=ah
 fF:dA F=F
 n:F.length<=2
theorem xx:∀i,xC (rF i)
 |0=>⟨GK 0,ae,ae,ae,by decide⟩
 |1=>⟨GK 1,ae,ae,ae,by decide⟩
 |2=>⟨GK 2,ae,ae,ae,by decide⟩
 |n+3=>⟨GK (n+3),ae,ae,ae,ar ae⟩
theorem O2:xC []:=⟨(λr h=>nomatch h),ae,ae,ae,bD _⟩
theorem Fb{fl:Nat}:gc fl F M=F++M\/gc fl F M=M++F:=by
 unfold gc
 split
 ·exact .inl ae
 ·exact .inr ae
theorem p9(f:xC F)(VP:∀r∈M,r.Ok)(fM:dA M=[])(n:M.length<=2):z7 (gc fl F M) F M:=⟨Fb,f.ok,VP,f.fr,f.fF,fM,by have:=f.n;lia⟩
theorem Fc{fl:Nat}(h1:df F=ah)(h2:df M=ah):df (gc fl F M)=ah:=by
 rcases@Fb M F fl with e|e<;>refine ak e ?_
 ·exact fH h1 h2
 ·exact fH h2 h1
theorem xS{fl:Nat}:(gc fl F M).length=F.length+M.length:=by
 rcases@Fb M F fl with e|e<;>rw[e,aj]
 exact dn ..
noncomputable def bL:Nat->Nat
 |0=>1000
 |h+1=>2*bL h+1000
noncomputable def Cv(j:Nat)(L:List (List Nat)):Prop:=∀x∈L,cv 10 x=ac/\ ∀i,i<j->bA (cu (gS i)) x=ac
structure xp(h:Nat)(k:Nd)(nd:MV)(R:Nat->Bool->List Row)(B:Nat->List (List Nat)):Prop where
 ev:∀dp dig vs lead,dp+h<=3->RV vs lead->lead.length<=10->df lead=ah->∀d U,Cd (d+2+h) 116 [nd,.L vs,nI dp,.B dig] U=aa (.Y (bR (aX (lead++R dp dig)++[]::B dp)),U)
 tx:∀dp dig,dp+h<=3->tF h k (R dp dig) (B dp) dig
 rw:∀dp dig,df (R dp dig)=ah
 av:∀dp,dp+h<=3->Cv dp (B dp)
 ln:∀dp dig,dp+h<=3->dB (aX (R dp dig)++[]::B dp)<=bL h
 fr:∀dp dig,dA (R dp dig)=k.F
 dz:∀ow,Fz (6+2*h) (k.tree ow)
theorem xF:∀{h j:Nat},h<=j->bL h<=bL j
 |h,0,e=>by refine ak (Nat.le_zero.mp e) ?_;exact bj _
 |h,j+1,e=>by
  by_cases q:h=j+1
  ·refine ak q ?_;exact bj _
  ·have:=xF (h:=h) (j:=j) (by lia)
   show bL h<=2*bL j+1000
   lia
theorem Au(h3:h<=3):bL h<=15000:=ao (xF h3) (by decide)
theorem xp.up{j:Nat}{k:Nd}{nd:MV}{R:Nat->Bool->List Row}{B:Nat->List (List Nat)}(t:xp h k nd R B)(e:h<=j):xp j k nd R B:=by
 refine ee (bE e) λn e1_=>?_
 subst e1_
 refine⟨λdp dig vs lead hd r n1 o d U=>?_,λdp dig hd=>⟨(t.tx dp dig (by lia)).1,λlead l=>((t.tx dp dig (by lia)).2 lead l).up e⟩,t.rw,λdp hd=>t.av dp (by lia),λdp dig hd=>ao (t.ln dp dig (by lia)) (xF e),t.fr,λow=>(t.dz ow).up (by simp+arith only)⟩
 refine ak (show d+2+(h+n)=d+n+2+h from by simp+arith only) ?_
 exact t.ev dp dig vs lead (by lia) r n1 o _ U
theorem ir:dB (x::L)=x.length+2+dB L:=ae
theorem Pe:∀k,df [zW k]=ah/\bn (zW k).word uH=ah/\bn (zW k).word mP=ac/\H3 (zW k).word=ah:=c5 (⟨ae,ae,ae,ae⟩) (⟨ae,ae,ae,ae⟩) (⟨ae,ae,ae,ae⟩) (⟨ae,ae,ae,ae⟩) λu=>⟨ae,ae,ae,ae⟩
theorem Kk(hw:w<4):(∀r∈mV k w,r.Ok)/\dA (mV k w)=[]/\(mV k w).length<=2/\df (mV k w)=ah/\bU uH (mV k w)= .Y (zW k).jm:=by
 refine LZ (Pe k) λh1 h2 h3 h4=>?_
 have f1:dA [zW k]=[]:=by
  unfold dA
  refine ak gC (ak h4 ?_)
  rfl
 have g1:∀r,bU uH (zW k::r)= .Y (zW k).jm:=λr=>by
  unfold bU
  exact ak h2 ae
 have f2:∀w,dA [zW k,Fe w]=dA [Fe w]:=λw=>by
  have:dA ([zW k]++[Fe w])=_:=jQ
  rw[f1]at this
  exact this
 have o2:∀w,df [Fe w]=ah->df [zW k,Fe w]=ah:=λw h=>fH h1 h
 exact R1 (P:=λw=>(∀r∈mV k w,r.Ok)/\dA (mV k w)=[]/\(mV k w).length<=2/\df (mV k w)=ah/\bU uH (mV k w)= .Y (zW k).jm) hw ⟨pT (Cb k) (λr h=>nomatch h),f1,ar ae,h1,g1 _⟩ ⟨pT (Cb k) (pT (Ff 1) λr h=>nomatch h),f2 1,ar ae,o2 1 ae,g1 _⟩ ⟨pT (Cb k) (pT (Ff 2) λr h=>nomatch h),f2 2,ar ae,o2 2 ae,g1 _⟩ ⟨pT (Cb k) (pT (Ff 3) λr h=>nomatch h),f2 3,ar ae,o2 3 ae,g1 _⟩
theorem HB(h:bn r.word w=ac):bU w (r::M)=bU w M:=by
 show(match bn r.word w with|true=>_|false=>bU w M)=_
 exact ak h ae
theorem Kl(f:xC F)(hw:w<4)(l:jZ lead):qH (lead++gc fl F (mV k w)) (mR w):=by
 have q:∀w,w<4->(∀r∈lead++gc fl F (mV k w),r.Ok)/\bU mP (lead++gc fl F (mV k w))=bU mP (mV k w):=λw hw=>FD (Kk (k:=k) hw) λm1 m2 m3 m4 m5=>
  have mx:=p9 (fl:=fl) f m1 m2 m3
  ⟨mx.Q1 l,(mx.first l).2⟩
 have g1:∀r,bU mP (zW k::r)=bU mP r:=λr=>HB (Pe k).2.2.1
 exact R1 (P:=λw=>qH (lead++gc fl F (mV k w)) (mR w)) hw (pn (q 0 (by decide)).1 ((q 0 (by decide)).2.trans (g1 _))) (vQ (q 1 (by decide)).1 ((q 1 (by decide)).2.trans (g1 _)) MA) (vQ (q 2 (by decide)).1 ((q 2 (by decide)).2.trans (g1 _)) MB) (vQ (q 3 (by decide)).1 ((q 3 (by decide)).2.trans (g1 _)) MC)
theorem BW:∀k d U,Cd (d+1) 132 [cD (v0 k) (vZ k) (J5 k) (J6 k)] U=aa (po k,U):=c5 kq kq kq kq λu=>kq
theorem pp:∀k,Fz 5 (po k):=c5 (sX ae) (sX ae) (sX ae) (sX ae) λu=>sX ae
theorem Oa:∀w b d U,w<4->Cd (d+9) 86 [.S (mR w),.Y (bR (As w b))] U=aa (.Y (l9 b),U):=λw b d U h=>R1 (P:=λw=>∀d U,Cd (d+9) 86 [.S (mR w),.Y (bR (As w b))] U=aa (.Y (l9 b),U)) h (c5 (P:=λb=>∀d U,Cd (d+9) 86 [.S (mR _),.Y (bR (As _ b))] U=aa (.Y (l9 b),U)) kq kq kq kq (λu=>kq) b) (c5 (P:=λb=>∀d U,Cd (d+9) 86 [.S (mR _),.Y (bR (As _ b))] U=aa (.Y (l9 b),U)) kq kq kq kq (λu=>kq) b) (c5 (P:=λb=>∀d U,Cd (d+9) 86 [.S (mR _),.Y (bR (As _ b))] U=aa (.Y (l9 b),U)) kq kq kq kq (λu=>kq) b) (c5 (P:=λb=>∀d U,Cd (d+9) 86 [.S (mR _),.Y (bR (As _ b))] U=aa (.Y (l9 b),U)) kq kq kq kq (λu=>kq) b) d U
noncomputable def Oq(L:List (List Nat)):Bool:=L.all λx=> !cv 10 x&&(!bA (cu (gS 0)) x&&(!bA (cu (gS 1)) x&& !bA (cu (gS 2)) x))
theorem Sj(h:Oq L=ah):∀j,Cv j L:=λj x hx=>by
 refine gQ (aB (aP.mp h x hx)) λh1 h2=>?_
 refine gQ (aB h2) λh2 h3=>?_
 refine gQ (aB h3) λh3 h4=>?_
 refine⟨by simpa using h1,λi u=>?_⟩
 match i with
 |0=>simpa using h2
 |1=>simpa using h3
 |n+2=>exact(by simpa using h4:bA (cu (gS 2)) x=false)
theorem II:∀w b,Oq (As w b)=ah/\cr (dB (As w b)) 100=ah:=λw b=>by
 have h0:Oq (Hi b)=ah/\cr (dB (Hi b)) 100=ah:=c5 (P:=λb=>Oq (Hi b)=ah/\cr (dB (Hi b)) 100=ah) ⟨ae,ae⟩ ⟨ae,ae⟩ ⟨ae,ae⟩ ⟨ae,ae⟩ (λu=>⟨ae,ae⟩) b
 have h3:Oq (Os b)=ah/\cr (dB (Os b)) 100=ah:=c5 (P:=λb=>Oq (Os b)=ah/\cr (dB (Os b)) 100=ah) ⟨ae,ae⟩ ⟨ae,ae⟩ ⟨ae,ae⟩ ⟨ae,ae⟩ (λu=>⟨ae,ae⟩) b
 have h4:Oq (Ot b)=ah/\cr (dB (Ot b)) 100=ah:=c5 (P:=λb=>Oq (Ot b)=ah/\cr (dB (Ot b)) 100=ah) ⟨ae,ae⟩ ⟨ae,ae⟩ ⟨ae,ae⟩ ⟨ae,ae⟩ (λu=>⟨ae,ae⟩) b
 unfold As
 split<;>assumption
theorem Gv:∀k,Fz 6 (xt k):=λk=>.tup (aO (pp k) (aO ((Fz.bytes _).up (by decide)) (aO ((Fz.bytes _).up (by decide)) cz)))
theorem FT:∀b,Fz 2 (xq b):=λb=>.tup (aO (.bytes _) (aO (.bytes _) (aO (.bytes _) (aO (.bytes _) (aO (.bytes _) cz)))))
theorem mc:Fz 3 (fV F):=.tup λv hv=>by
 refine aV (aQ.mp hv) λr u e2_=>?_
 subst e2_
 exact .tup (aO (.bytes _) (aO (.bytes _) (aO (.bytes _) cz)))
theorem rV:Fz 7 (jM F k b w fl):=.dD (aO ((Fz.str _).up (by decide)) (aO ((Fz.str _).up (by decide)) (aO ((Fz.str _).up (by decide)) (aO ((Fz.str _).up (by decide)) (aO ((Fz.str _).up (by decide)) (aO ((Fz.str _).up (by decide)) cz))))))
 (aO ((Fz.str _).up (by decide)) (aO (mc.up (by decide)) (aO (Gv k) (aO ((FT b).up (by decide)) (aO ((Fz.int _).up (by decide)) (aO ((Fz.int _).up (by decide)) cz))))))
theorem vE(hz:Fz k nd)(r:RV vs lead):bI [nd,.L vs,nI dp,.B dig]=ah:=by
 show(nd.pure&&(bI vs&&(ah&&(ah&&ah))))=ah
 refine ak hz.1 (ak r.bI ?_)
 rfl
theorem M7(f:xC F)(hw:w<4)(hfl:fl<2):xp 0 ⟨ac,[.S zV,po k,.Y (l9 b)],F⟩ (jM F k b w fl) (λ_ _=>gc fl F (mV k w)) (λ_=>As w b):=by
 refine FD (Kk (k:=k) hw) λm1 m2 m3 m4 m5=>?_
 have mx:=p9 (fl:=fl) f m1 m2 m3
 have hrw:=Fc (fl:=fl) f.rw m4
 have hl:=cx hrw
 rw[xS]at hl
 have hfn:=f.n
 have hbl:=ar (II w b).2
 refine⟨λdp dig vs lead _ r n1 o d U=>?_,λdp dig _=>?_,λ_ _=>hrw,λdp _=>Sj (II w b).1 dp,λdp dig _=>?_,λ_ _=>mx.free,λow=>.tup (k:=5) (aO ((Fz.str _).up (by decide)) (aO (pp k) (aO ((Fz.bytes _).up (by decide)) (aO (iB.up (by decide)) cz))))⟩
 ·refine NZ (d:=d) hw hfl (ao ‹_› (by decide)) r n1 (vE rV r) ?_
  have hl2:=cx (fH o hrw)
  rw[aj,xS]at hl2
  refine ak cO (ak ir (ak aC ?_))
  lia
 ·exact Bk mx (IJ w b) m5 (MZ k) (λlead l=>Kl f hw l) (BW k) (pp k) λd U=>Oa w b d U hw
 ·refine ak cO (ak ir (ak aC ?_))
  show _<=1000
  lia
end
section
variable{a:Nat}{w:List Nat}
theorem AJ(h1:sW A=ah)(h2:sW B=ah):sW (A++B)=ah:=by
 unfold sW at*
 refine ak xi (ak h1 (ak h2 ?_))
 rfl
theorem Cv.mono(h:Cv j L)(e:i<=j):Cv i L:=λx hx=>⟨(h x hx).1,λn hn=>(h x hx).2 n (ao ‹_› ‹_›)⟩
theorem Cv.rows(hr:df rs=ah)(hB:Cv dp B):Cv dp (aX rs++[]::B):=λx hx=>by
 rcases bT.mp hx with hx|hx
 ·refine gQ (va hr x hx) λh1 h2=>?_
  exact⟨h1,λi u=>zt h2⟩
 ·cases hx with
  |head=>exact⟨ae,λi u=>ae⟩
  |tail _ hx=>exact hB x hx
structure On(k:Nd):Prop where
 sh:∃w x y,k.Ut=[.S w,x,y]/\bn w sy=k.vX/\ ∃j,Fz j x/\Fz j y
theorem On.bare(s:On k)(ow:List Row):∀d U,Cd (d+1) 89 [k.tree ow] U=aa (k.tree [],U):=by
 refine L1 s.sh λw x y h1 h2 h3=>?_
 exact Mg h1 h2 h3
theorem E3:(∀r∈p8 dig fl,r.Ok)/\dA (p8 dig fl)=[]/\(p8 dig fl).length<=2/\df (p8 dig fl)=ah/\bU mP (p8 dig fl)= .N/\((bU uH (p8 dig fl)= .N/\dig=ah)\/(∃o,bU uH (p8 dig fl)= .Y o/\ ∀d U,Cd (d+10) 58 [.Y o] U=aa (cD DN D1 [] [],U))):=by
 have h1:∀r∈[La],r.Ok:=pT Ra λr h=>nomatch h
 unfold p8
 split
 ·split
  ·exact⟨h1,ae,ar ae,ae,ae,.inr ⟨_,ae,Gw⟩⟩
  ·exact⟨(λr h=>nomatch h),ae,bD _,ae,ae,.inl ⟨ae,ae⟩⟩
 ·exact⟨h1,ae,ar ae,ae,ae,.inr ⟨_,ae,Gw⟩⟩
theorem xC.ahead(f:xC H)(o:r.Ok)(h1:df [r]=ah)(h2:sW [r]=ah)(h3:dA [r]=[]):jZ (H++[r])/\df (H++[r])=ah/\dA (H++[r])=H:=by
 have hn:=f.n
 refine⟨⟨λq hq=>(bT.mp hq).elim (f.ok q) λhq=>by refine ak (bF.mp hq) ?_;exact o,by refine ak aj (ak aW ?_);exact bG ‹_› (by decide),AJ f.fr h2⟩,fH f.rw h1,by exact ak jQ (ak f.fF (ak h3 (ak (aG ..) ae)))⟩
theorem rt(hz:Fz (3+k) inner):Fz (4+k) (eY F H fl inner):=by
 refine ak (show 4+k=(3+k)+1 from(cy ..)) ?_
 exact .dD (aO ((Fz.str _).up (by simp+arith only)) (aO ((Fz.str _).up (by simp+arith only)) (aO ((Fz.str _).up (by simp+arith only)) (aO ((Fz.str _).up (by simp+arith only)) (aO ((Fz.str _).up (by simp+arith only)) cz)))))
  (aO ((Fz.str _).up (by simp+arith only)) (aO (mc.up (aU ..)) (aO (mc.up (aU ..)) (aO ((Fz.int _).up (by simp+arith only)) (aO hz cz)))))
theorem HQ(f:xC F)(g:xC H)(hfl:fl<2)(hh:h<=9)(s:On k)(hkF:k.F=[])(hz:Fz (3+z) inner)(t:xp h k inner R' B'):
  xp (h+1) ⟨ah,[.S sy,k.tree [],fb H],F⟩ (eY F H fl inner) (λ_ dig=>gc fl F (p8 dig fl)) (λdp=>aX ((H++[Ce])++R' (dp+1) ac)++[]::B' (dp+1)):=by
 refine vf (g.ahead Nw ae ae ae) λhl1 hl2 hl3=>?_
 have hfn:=f.n
 have hgn:=g.n
 have hMl:dB (aX (H++[Ce]))<=360:=by
  have:=cx hl2
  rw[aj,aW]at this
  lia
 have hll:∀dp,dp+(h+1)<=3->dB (aX ((H++[Ce])++R' (dp+1) ac)++[]::B' (dp+1))<=360+bL h:=λdp hd=>by
  have:=t.ln (dp+1) ac (by lia)
  have e:aX ((H++[Ce])++R' (dp+1) ac)=aX (H++[Ce])++aX (R' (dp+1) ac):=gv ..
  refine ak e (ak (ay ..) (ak cO ?_))
  lia
 have hM:∀dig,df (gc fl F (p8 dig fl))=ah/\dB (aX (gc fl F (p8 dig fl)))<=480:=λdig=>by
  refine Oh (@E3 dig fl) λm1 m2 m3 m4 m5 m6=>?_
  have h1:=Fc (fl:=fl) f.rw m4
  have h2:=cx h1
  rw[xS]at h2
  exact⟨h1,by lia⟩
 refine⟨λdp dig vs lead hd r n1 o d U=>?_,λdp dig hd=>?_,λdp dig=>(hM dig).1,λdp hd=>?_,λdp dig hd=>?_,λdp dig=>?_,λow=>?_⟩
 ·refine ak (show d+2+(h+1)=d+h+1+2 from(bt ..)) ?_
  refine Ii (d:=d+h+1) dN hfl (ao ‹_› (by decide)) (ao ‹_› (by decide)) r n1 (vE (rt hz) r) ?_ λU=>?_
  ·have h2:=cx o
   have h3:=(hM dig).2
   have e:aX (lead++gc fl F (p8 dig fl))=aX lead++aX (gc fl F (p8 dig fl)):=gv ..
   have h4:=hll dp hd
   have h5:=Au (h:=h) (by lia)
   refine ak e (ak cO (ak cO (ak ir (ak aC ?_))))
   lia
  ·refine ak (show d+h+1+1=d+2+h from by simp+arith only) ?_
   exact t.ev (dp+1) ac (HC H++[rB Ce []]) (H++[Ce]) (by lia) (pX.app (RV.one ae)) hl1.2.1 hl2 d U
 ·refine Oh (@E3 dig fl) λm1 m2 m3 m4 m5 m6=>?_
  have hr:=(t.tx (dp+1) ac (by lia)).2 _ hl1
  rw[hl3,t.fr,hkF,aG]at hr
  exact xe (kk:=6+2*h) (p9 f m1 m2 m3) dN m6 m5 hr (s.bare H) (t.dz []) (iB.up (by simp+arith only)) (by simp+arith only) (dL ‹_›)
 ·exact Cv.rows (fH hl2 (t.rw _ _)) ((t.av (dp+1) (by lia)).mono (aU ..))
 ·have h3:=(hM dig).2
  have h4:=hll dp hd
  refine ak cO (ak ir (ak aC ?_))
  show _<=2*bL h+1000
  lia
 ·refine Oh (@E3 dig fl) λm1 m2 m3 m4 m5 m6=>?_
  exact(p9 (fl:=fl) f m1 m2 m3).free
 ·show Fz _ (MV.T [.S sy,k.tree [],fb H])
  exact(Fz.tup (k:=6+2*h) (aO ((Fz.str _).up (by simp+arith only)) (aO (t.dz []) (aO (iB.up (by simp+arith only)) cz)))).up (by simp+arith only)
end
section
variable{dp:Nat}{R:List Row}{dig:Bool}
theorem mN{p:α->Prop}{r:List α}(h:p a)(k:∀v∈r,p v):∀v∈a::r,p v:=λv hv=>by
 cases hv with
 |head=>exact h
 |tail _ hv=>exact k v hv
theorem nT{p:α->Prop}:∀v∈([]:List α),p v:=λv hv=>nomatch hv
theorem uT{P:List Nat×Wy->Prop}(h1:P (m,.next))(h3:∀p∈tl,P p):∀{Ks:List (List (List Nat))},(∀K∈Ks,∀x∈K,P (x,.no))->∀p∈iD m Ks tl,P p
 |[],_=>h3
 |K::r,h2=>λp hp=>by
  cases hp with
  |head=>exact h1
  |tail _ hp=>
   rcases bT.mp hp with hp|hp
   ·refine aV (aQ.mp hp) λx hx e2_=>?_
    subst e2_
    exact h2 K (.head _) x hx
   ·exact uT h1 h3 (λK' hK=>h2 K' (.tail _ hK)) p hp
theorem rn:∀{L:List (List Nat×Wy)},L≠[]->jK L->jK (p::L)
 |[],h,_=>absurd ae h
 |_::_,_,h=>h
theorem p7:∀{A L:List (List Nat×Wy)},L≠[]->jK L->jK (A++L)
 |[],_,_,h=>h
 |p::A,L,hn,h=>rn (λe=>hn (bl.mp e).2) (p7 hn h)
theorem AU:∀{K:List (List Nat)},K≠[]->jK (w7 K)
 |[],h=>absurd ae h
 |[x],_=>ae
 |x::y::K,_=>AU (K:=y::K) (az _ _)
theorem v4(ht:jK tl):∀{Ks:List (List (List Nat))},Ks≠[]->(∀K∈Ks,K≠[])->jK (iD m Ks tl)
 |[],h,_=>absurd ae h
 |[K],_,hK=>by
  have hne:=hK K (.head _)
  show jK ((m,Wy.next)::(w7 K++tl))
  refine rn (λe=>?_) ?_
  ·exact hne (eF.mp (bl.mp e).1)
  ·induction tl using am with
   |nil=>refine ak (aG ..) ?_;exact AU hne
   |cons p tl=>exact p7 (az _ _) ht
 |K::K'::r,_,hK=>rn (λe=>nomatch(bl.mp e).2) (p7 (az _ _) (v4 ht (Ks:=K'::r) (az _ _) λx hx=>hK x (.tail _ hx)))
theorem BX:∀{Ks:List (List (List Nat))},(∀K∈Ks,m.length+2+dB K<=n)->dB (dW (iD m Ks tl))<=Ks.length*n+dB (dW tl)
 |[],_=>by
  refine ak aC (ak (Nat.zero_mul ..) (ak (eQ ..) ?_))
  exact bj _
 |K::r,h=>by
  have h1:=h K (.head _)
  have h2:=BX (m:=m) (tl:=tl) (n:=n) (Ks:=r) λK hK=>h K (.tail _ hK)
  have e1:dW (iD m (K::r) tl)=m::(K++dW (iD m r tl)):=congrArg (m:: ·) md
  refine ak e1 (ak ir (ak cO (ak aq (ak (Nat.succ_mul ..) ?_))))
  lia
theorem QQ:∀st dp,lz (gS dp) (w3 st (gS dp)) .next:=λst dp=>by
 have h0:lz (gS dp) (cu (gS dp)++[]) .next:=λd U=>by
  match dp with
  |0|1|_+2=>kernel_rfl
 have h1:lz (gS dp) (cu (gS dp)++[32,9]) .next:=λd U=>by
  match dp with
  |0|1|_+2=>kernel_rfl
 unfold w3 xU
 split<;>assumption
theorem Rx:∀st dp,∀p∈Bn st (gS dp),lz (gS dp) p.1 p.2:=λst dp=>by
 have h0:lz (gS dp) (cu (gS dp)++[45,45]) .last:=λd U=>by
  match dp with
  |0|1|_+2=>kernel_rfl
 have h1:lz (gS dp) (cu (gS dp)++[45,45,32,9]) .last:=λd U=>by
  match dp with
  |0|1|_+2=>kernel_rfl
 have hb:=uz dp
 have hn:∀x,bA (cu (gS dp)) x=ac->lz (gS dp) x .no:=λx hx=>zR (ao ‹_› (by decide)) hx
 have h2:=hn [] ae
 have h3:=hn [45,45,98,57] (by match dp with|0|1|_+2=>rfl)
 have h4:=hn [101,112,105] ae
 unfold Bn xU
 split
 ·exact mN h0 (mN h2 nT)
 ·exact mN h1 (mN h2 nT)
 ·exact mN h0 (mN h3 (mN h4 nT))
 ·exact nT
theorem PB:∀st dp,yx (Bn st (gS dp))/\jK (Bn st (gS dp))/\dB (sA st)+dB (dW (Bn st (gS dp)))<=40/\(w3 st (gS dp)).length<=10:=λst dp=>by
 have hb:=uz dp
 have e:(cu (gS dp)).length=(gS dp).length+2:=ae
 unfold Bn sA w3 xU
 split
 ·refine⟨.inr (gu _ _ ae),ae,?_,?_⟩
  ·show 0+(_+2+(2+0))<=40
   refine ak aj (ak e ?_)
   simp only[aq,aC]
   lia
  ·refine ak aj (ak e ?_)
   simp only[aq,aC]
   lia
 ·refine⟨.inr (gu _ _ ae),ae,?_,?_⟩
  ·show 5+(_+2+(2+0))<=40
   refine ak aj (ak e ?_)
   simp only[aq,aC]
   lia
  ·refine ak aj (ak e ?_)
   simp only[aq,aC]
   lia
 ·refine⟨.inr (gu _ _ ae),ae,?_,?_⟩
  ·show 0+(_+2+(6+(5+0)))<=40
   refine ak aj (ak e ?_)
   simp only[aq,aC]
   lia
  ·refine ak aj (ak e ?_)
   simp only[aq,aC]
   lia
 ·refine⟨.inl ae,trivial,ar ae,?_⟩
  refine ak aj (ak e ?_)
  simp only[aC]
  lia
noncomputable def XX(st dp:Nat):Bool:=(sA st).all (λx=> !cv 10 x&& !bA (cu (gS dp)) x)&&(!cv 10 (w3 st (gS dp))&&(dW (Bn st (gS dp))).all λx=> !cv 10 x)
theorem Lw:∀st dp,XX st dp=ah:=λst dp=>by
 match st,dp with
 |0,0|0,1|0,_+2|1,0|1,1|1,_+2|2,0|2,1|2,_+2|_+3,0|_+3,1|_+3,_+2=>rfl
theorem Ru:∀st dp,dp<=2->Cv dp (sA st)/\Cv dp [w3 st (gS dp)]/\Cv dp (dW (Bn st (gS dp))):=λst dp hd=>by
 have h0:∀L:List (List Nat),L.all (λx=> !cv 10 x)=ah->Cv 0 L:=λL h x hx=>⟨by simpa using aP.mp h x hx,λi hi=>absurd hi (by lia)⟩
 have h1:∀L:List (List Nat),L.all (λx=> !cv 10 x&& !bA (cu (gS 0)) x)=ah->Cv 1 L:=λL h x hx=>by
  refine gQ (aB (aP.mp h x hx)) λa b=>?_
  refine⟨by simpa using a,λi hi=>?_⟩
  match i,hi with
  |0,_=>simpa using b
 have h2:∀L:List (List Nat),L.all (λx=> !cv 10 x&&(!bA (cu (gS 0)) x&& !bA (cu (gS 1)) x))=ah->Cv 2 L:=λL h x hx=>by
  refine gQ (aB (aP.mp h x hx)) λa b=>?_
  refine gQ (aB b) λb c=>?_
  refine⟨by simpa using a,λi hi=>?_⟩
  match i,hi with
  |0,_=>simpa using b
  |1,_=>simpa using c
 match dp,hd with
 |0,_=>match st with|0|1|2|_+3=>exact⟨h0 _ ae,h0 _ ae,h0 _ ae⟩
 |1,_=>match st with|0|1|2|_+3=>exact⟨h1 _ ae,h1 _ ae,h1 _ ae⟩
 |2,_=>match st with|0|1|2|_+3=>exact⟨h2 _ ae,h2 _ ae,h2 _ ae⟩
theorem Q4:∀st dp,∀x∈sA st,lz (gS dp) x .no:=λst dp x hx=>by
 have h:=aB (aP.mp (aB (Lw st dp)).1 x hx)
 have hb:=uz dp
 exact zR (ao ‹_› (by decide)) (by simpa[cu]using h.2)
theorem Uw:∀s dp,df [u8 s dp]=ah:=c5 (c3 ae ae λu=>ae) (c3 ae ae λu=>ae) (c3 ae ae λu=>ae) (c3 ae ae λu=>ae) λu=>c3 ae ae λu=>ae
theorem Ux:∀s dp,df [u8 s dp]=ah/\bn (u8 s dp).word uH=ah/\bn (u8 s dp).word mP=ac/\H3 (u8 s dp).word=ah:=λs dp=>⟨Uw s dp,ae,ae,ae⟩
theorem zn:(∀r∈[u8 s dp],r.Ok)/\dA [u8 s dp]=[]/\df [u8 s dp]=ah/\bU uH [u8 s dp]= .Y (u8 s dp).jm/\bU mP [u8 s dp]= .N:=by
 refine LZ (Ux s dp) λh1 h2 h3 h4=>?_
 refine⟨pT (Rc s dp) (λr h=>nomatch h),?_,h1,?_,?_⟩
 ·unfold dA
  refine ak gC (ak h4 ?_)
  rfl
 ·unfold bU
  exact ak h2 ae
 ·unfold bU
  refine ak h3 ?_
  rfl
theorem Sl:∀dp,∃c t,gS dp=c::t/\(∀c∈gS dp,c<256)/\qE [.S [120],.S BA] [.S [49],.S (gS dp)] (.S BA)=aa (aa (.S (gS dp)))
 |0=>gu _ _ ⟨ae,by decide,ae⟩
 |1=>gu _ _ ⟨ae,by decide,ae⟩
 |_+2=>⟨_,_,ae,by show∀c∈[61,95,113],c<256;decide,ae⟩
structure yd where
 nd:MV
 k:Nd
 R:Nat->Bool->List Row
 B:Nat->List (List Nat)
noncomputable def yd.L(x:yd)(dp:Nat)(dig:Bool):List (List Nat):=aX (x.R dp dig)++[]::x.B dp
noncomputable def AY(s st:Nat)(ks:List yd)(dp:Nat):List (List Nat):=sA st++dW (iD (w3 st (gS dp)) (ks.map λx=>x.L (dp+1) (bn (eO s) EN)) (Bn st (gS dp)))
theorem HS(hl:ks.length<=2)(t:∀x∈ks,xp h x.k x.nd x.R x.B)(hd:dp+1+h<=3):dB (AY s st ks dp)<=2*bL h+80:=by
 refine LZ (PB st dp) λu u h1 h2=>?_
 have h3:=BX (m:=w3 st (gS dp)) (tl:=Bn st (gS dp)) (n:=bL h+20) (Ks:=ks.map λx=>x.L (dp+1) (bn (eO s) EN)) λK hK=>by
  refine aV (aQ.mp hK) λx hx e2_=>?_
  subst e2_
  have:=(t x hx).ln (dp+1) (bn (eO s) EN) hd
  unfold yd.L
  lia
 have h4:ks.length*(bL h+20)<=2*(bL h+20):=qN _ hl
 unfold AY
 rw[au]at h3
 refine ak cO ?_
 lia
end
section
variable{dp:Nat}{dig:Bool}
theorem Gy(hz:∀v∈kids,Fz (3+k) v):Fz (5+k) (kl F s fl st kids):=by
 refine ak (show 5+k=(3+k+1)+1 from by simp+arith only) ?_
 exact .dD (aO ((Fz.str _).up (aE ..)) (aO ((Fz.str _).up (aE ..)) (aO ((Fz.str _).up (aE ..)) (aO ((Fz.str _).up (aE ..)) (aO ((Fz.str _).up (aE ..)) (aO ((Fz.str _).up (aE ..)) cz))))))
  (aO ((Fz.str _).up (aE ..)) (aO (mc.up (by simp+arith only)) (aO ((Fz.str _).up (aE ..)) (aO ((Fz.int _).up (aE ..)) (aO ((Fz.int _).up (aE ..)) (aO (.lst hz) cz))))))
noncomputable def yd.kd(x:yd)(dp:Nat)(dig:Bool):qw:=⟨x.L dp dig,x.k.jm,fb (dA (x.R dp dig))⟩
theorem jZ.nil:jZ []:=⟨(λr h=>nomatch h),bD _,ae⟩
theorem TP{x:yd}(t:xp h x.k x.nd x.R x.B)(hd:dp+h<=3):(x.kd dp dig).Ok h dig:=⟨dN,(t.tx dp dig hd).2 [] jZ.nil⟩
theorem J4{P:List Nat×Wy->Prop}{ks:List yd}(h0:∀x∈sA st,P (x,.no))(h1:P (w3 st (gS dp),.next))(h2:∀x∈ks,∀y∈x.L (dp+1) dig,P (y,.no))(h3:∀p∈Bn st (gS dp),P p):∀p∈w7 (sA st)++iD (w3 st (gS dp)) (ks.map λx=>x.L (dp+1) dig) (Bn st (gS dp)),P p:=λp hp=>by
 rcases bT.mp hp with hp|hp
 ·refine aV (aQ.mp hp) λx hx e2_=>?_
  subst e2_
  exact h0 x hx
 ·refine uT h1 h3 (λK hK y hy=>?_) p hp
  refine aV (aQ.mp hK) λx hx e2_=>?_
  subst e2_
  exact h2 x hx y hy
theorem Sb{x:yd}(t:xp h x.k x.nd x.R x.B)(hd:dp+h<=3):Cv dp (x.L dp dig):=Cv.rows (t.rw _ _) (t.av dp hd)
set_option maxHeartbeats 1000000 in
theorem Nf(f:xC F)(hfl:fl<2)(hst:st<4)(hh:h<=2)(hn:ks≠[])(hl:ks.length<=2)(t:∀x∈ks,xp h x.k x.nd x.R x.B)(hz:∀x∈ks,Fz (3+z) x.nd):
  xp (h+1) ⟨ac,[.S tW,.S (eO s),.T (ks.map λx=>x.k.jm)],F⟩ (kl F s fl st (ks.map λx=>x.nd)) (λdp _=>gc fl F [u8 s dp]) (AY s st ks):=by
 have hrw:∀dp,df (gc fl F [u8 s dp])=ah:=λdp=>Fc f.rw zn.2.2.1
 have hfn:=f.n
 have hrl:∀dp,dB (aX (gc fl F [u8 s dp]))<=360:=λdp=>by
  have:=cx (hrw dp)
  rw[xS,aW]at this
  lia
 have mx:∀dp,z7 (gc fl F [u8 s dp]) F [u8 s dp]:=λdp=>p9 f zn.1 zn.2.1 (ar ae)
 have hb:=Au (h:=h) (dL ‹_›)
 have hB:∀dp,dp+(h+1)<=3->dB (AY s st ks dp)<=2*bL h+80:=λdp hd=>HS hl t (by lia)
 refine⟨λdp dig vs lead hd r n1 o d U=>?_,λdp dig hd=>?_,λdp dig=>hrw dp,λdp hd=>?_,λdp dig hd=>?_,λdp dig=>(mx dp).free,λow=>?_⟩
 ·have e1:(ks.map λx=>((x.nd,x.L (dp+1) (bn (eO s) EN)):KV)).map (·.1)=ks.map λx=>x.nd:=bx ..
  have e2:(ks.map λx=>((x.nd,x.L (dp+1) (bn (eO s) EN)):KV)).map (·.2)=ks.map λx=>x.L (dp+1) (bn (eO s) EN):=bx ..
  have:=N0 (dp:=dp) (d:=d+h+1) (U:=U) (dig:=dig) (kids:=ks.map λx=>(x.nd,x.L (dp+1) (bn (eO s) EN))) (s:=s) (fl:=fl) (F:=F) (by lia) hst hfl (ao ‹_› (by decide)) r n1 (by
   refine ak e1 ?_
   refine vE (Gy (k:=z) λv hv=>?_) r
   refine aV (aQ.mp hv) λx hx e2_=>?_
   subst e2_
   exact hz x hx) (λe=>hn (eF.mp e)) (by refine ak (au ..) ?_;exact ao ‹_› (by decide)) (λk hk=>by
   refine aV (aQ.mp hk) λx hx e2_=>?_
   subst e2_
   exact dN) (λk hk U=>by
   refine aV (aQ.mp hk) λx hx e2_=>?_
   subst e2_
   have:=(t x hx).ev (dp+1) (bn (eO s) EN) [] [] (by lia) RV.nil (bD _) ae d U
   rw[show d+2+h=d+h+1+1 from by exact bt ..]at this
   exact this) (by
   refine ak e2 ?_
   have h2:=cx o
   have h3:=hrl dp
   have h4:=hB dp hd
   have e:aX (lead++gc fl F [u8 s dp])=aX lead++aX (gc fl F [u8 s dp]):=gv ..
   refine ak e (ak cO (ak cO (ak ir (ak aC ?_))))
   show _+(0+2+dB (AY s st ks dp))<=_
   lia)
  rw[e1,e2]at this
  refine ak (show d+2+(h+1)=d+h+1+2 from(bt ..)) ?_
  exact this
 ·obtain⟨x0,xs,rfl⟩:∃x0 xs,ks=x0::xs:=by
   induction ks using am with
   |nil=>exact absurd ae hn
   |cons a b=>exact gu a b ae
  generalize hdg:bn (eO s) EN=dg at*
  refine fI (Sl dp) λc u hc1 hc2 hc3=>?_
  have e1:(x0.kd (dp+1) dg::xs.map λx=>x.kd (dp+1) dg).map (λx:qw=>x.tr)=(x0::xs).map λx=>x.k.jm:=by
   refine ak bz (ak bz (ak bx ?_))
   rfl
  have e2:(x0.kd (dp+1) dg::xs.map λx=>x.kd (dp+1) dg).map (λx:qw=>x.L)=(x0::xs).map λx=>x.L (dp+1) dg:=by
   refine ak bz (ak bz (ak bx ?_))
   rfl
  have hm:∀k∈x0.kd (dp+1) dg::xs.map λx=>x.kd (dp+1) dg,∃x∈x0::xs,k=x.kd (dp+1) dg:=λk hk=>by
   cases hk with
   |head=>exact⟨x0,.head _,ae⟩
   |tail _ hk=>
    refine aV (aQ.mp hk) λx hx e2_=>?_
    subst e2_
    exact⟨x,.tail _ hx,ae⟩
  have hso:=aB (Lw st dp)
  have hso2:=aB hso.2
  refine LZ (PB st dp) λt1 t2 t3 t4=>?_
  have hav:∀x∈x0::xs,Cv (dp+1) (x.L (dp+1) dg):=λx hx=>Sb (t x hx) (by lia)
  have hbl:=uz dp
  have:=Bl (dig:=dig) (B:=AY s st (x0::xs) dp) (mx dp) zn.2.2.2.1 zn.2.2.2.2 (Na s dp) (Iq (ks:=[[120],BA]) (vs:=[[49],gS dp])) hc1 hc2 (ao ‹_› (by decide)) hc3 (h:=h) (k0:=x0.kd (dp+1) dg) (kr:=xs.map λx=>x.kd (dp+1) dg) (kk:=6+2*h) (tl:=Bn st (gS dp)) (pre:=sA st) (m:=w3 st (gS dp)) (λk hk=>by
   refine aV (hm k hk) λx hx e2_=>?_
   subst e2_
   refine ak hdg ?_
   exact TP (t x hx) (by lia)) (by rw[aq]at hl⊢;refine ak (au ..) ?_;exact bW ‹_› (by decide)) (λk hk=>by
   refine aV (hm k hk) λx hx e2_=>?_
   subst e2_
   exact(t x hx).dz _) (by simp+arith only) (ao ‹_› (by decide)) t1 (by refine ak e2 (ak (aZ hdg) ?_);rfl) (by
   refine ak e2 ?_
   exact J4 (λx hx=>by simpa using(aB (aP.mp hso.1 x hx)).1) (by simpa using hso2.1) (λx hx y hy=>(hav x hx y hy).1) λp hp=>by
    simpa using aP.mp hso2.2 p.1 (bM (f:=λp:List Nat×Wy=>p.1) hp)) (by
   refine ak e2 ?_
   exact J4 (λx hx=>Q4 st dp x hx) (QQ st dp) (λx hx y hy=>zR (ao ‹_› (by decide)) ((hav x hx y hy).2 dp (cn _))) (Rx st dp)) (by
   refine ak e2 ?_
   exact p7 (az _ _) (v4 t2 (az _ _) λK hK=>by
    refine aV (aQ.mp hK) λx hx e2_=>?_
    subst e2_
    exact dN))
  rw[e1]at this
  exact this
 ·refine vf (Ru st dp (by lia)) λs1 s2 s3=>?_
  intro x hx
  rcases bT.mp hx with hx|hx
  ·exact s1 x hx
  ·refine aV (aQ.mp hx) λp hp e2_=>?_
   subst e2_
   refine uT (P:=λp=>cv 10 p.1=ac/\ ∀i,i<dp->bA (cu (gS i)) p.1=ac) (s2 _ (.head _)) (λp hp=>s3 p.1 (bM (f:=λp:List Nat×Wy=>p.1) hp)) (λK hK y hy=>?_) p hp
   refine aV (aQ.mp hK) λx hx e2_=>?_
   subst e2_
   exact(Sb (t x hx) (by lia)).mono (nH dp) y hy
 ·have h3:=hrl dp
  have h4:=hB dp hd
  refine ak cO (ak ir (ak aC ?_))
  show _<=2*bL h+1000
  lia
 ·show Fz _ (MV.T [.S tW,.S (eO s),.T (ks.map λx=>x.k.jm),fb ow])
  refine(Fz.tup (k:=7+2*h) (aO ((Fz.str _).up (by simp+arith only)) (aO ((Fz.str _).up (by simp+arith only)) (aO (Fz.up (k:=6+2*h+1) (.tup λv hv=>?_) (by simp+arith only)) (aO (iB.up (by simp+arith only)) cz))))).up (by simp+arith only)
  refine aV (aQ.mp hv) λx hx e2_=>?_
  subst e2_
  exact(t x hx).dz _
end
section
theorem CW(hf:P f=aa F)(hp:bI vs=ac)(ha:tH F vs=aa vs')(hb:cp (CH P M G d) M G F.body (sx F.wi vs') U=aa (.r v,l',U'++τ))(hl:U'.length=U.length)(hv:Gc (U'++τ) U.length v=aa v')(hs:jG U.length U'=ah):CH P M G (d+1) f vs U=aa (v',U'):=bd hf (mf hp (bd ha (bd hb (bd ae (bd hv (by
 refine ak (aZ hl) (ak j3 ?_)
 exact mt (hl▸hs) ae))))))
theorem MO(hl:U'.length=n)(h:Fz k v)(hk:k<=39):Gc (U'++[v]) n (.R n)=aa v:=by
 subst hl
 exact mf (fZ.mpr λe=>Nat.not_succ_le_self _ (ar e)) (bd xE (h.2 _ _ 39 hk))
theorem ni(h0:l[i]?=aa (aa (.R A.length)))(h:cm C M G e l (A++[.D ks vs])=aa (v,A'++[.D ks vs]))(hl:A'.length=A.length)(hk:(i9 (.S key)&&bX (ks.length+1)&&eJ ks)=ah)(h2:Ir ks vs (.S key) v=aa (ks',vs'))(hg:(fJ 1 ks.length||fJ ks.length ks'.length)=ah)(k:cp C M G r l (A'++[.D ks' vs'])=R):
  cp C M G (.a (.x (.v i) (.c (.S key))) e::r) l (A++[.D ks vs])=R:=by
 refine nh h (l2:=l) (U2:=A'++[.D ks' vs']) (bd (nW h0) (mp ?_ ae)) k
 refine ak (aZ hl) ?_
 exact bd xE (mt hk (bd h2 (mt hg (congrArg aa D6))))
theorem Ml{v:MV}{l l':Loc}{U:bN}{cond:Loc->bN->Option (Bool×bN)}{U0 U1 U2:bN}{x:MV}{xs vs:List MV}(h0:jh l ts v=aa l')(h1:cond l' U=aa (ah,U))(h2:elt l' U=aa (x,U1))(h3:gP it U0 U1=ah)(k:gN it U0 l ts cond elt vs U1=aa (xs,U2)):gN it U0 l ts cond elt (v::vs) U=aa (x::xs,U2):=bd h0 (bd h1 (bd h2 (mt h3 (mp k ae))))
theorem Mx{M:qB}{G:List MV}{C:Calls}{ts:List Nat}{cond:List ME}{x y z:MV}{ws xs:List MV}{U1 U2 U3 U4:bN}(ha:cm C M G a l U=aa (x,U1))(hb:cm C M G b l U1=aa (y,U2))(hs:cm C M G s l U2=aa (z,U3))(hr:u9 x y z=aa ws)(h:gN .N U3 (grow l ts) ts (λl U=>ji C M G cond l U) (λl U=>cm C M G elt l U) ws U3=aa (xs,U4))(k:bX xs.length=ah):cm C M G (.j elt ts a b s cond) l U=aa (.L xs,U4):=bd ha (bd hb (bd hs (bd hr (bd h (mt k ae)))))
end
theorem DM(h:0<b):jO U .o (nI a) (nI b)=aa (nI (a%b)):=by
 show(match decide (0<aD b)with|true=>aa (MV.I ((aD a).fmod (aD b)))|false=>ag)=_
 refine ak (show decide (0<aD b)=ah from decide_eq_true (bQ.mpr h)) ?_
 dsimp only
 exact congrArg (λx=>aa (MV.I x)) (Int.fmod_eq_emod_of_nonneg (aD a) (cw b))
theorem UK(h:a<18446744073709551616):gO (aD a)=ah:=decide_eq_true h
theorem Jp(h:0<b)(h2:b<18446744073709551616):jO U .f (nI a) (nI b)=aa (nI (a/b)):=by
 show(match decide (0<aD b)&&gO (aD b)with|true=>aa (MV.I ((aD a).fdiv (aD b)))|false=>ag)=_
 refine ak (show decide (0<aD b)=ah from decide_eq_true (bQ.mpr h)) (ak (UK h2) ?_)
 exact congrArg (λx=>aa (MV.I x)) (Int.fdiv_eq_ediv_of_nonneg (aD a) (cw b))
theorem Ud(h:a<18446744073709551616)(h2:b<18446744073709551616):jO U .m (nI a) (nI b)=aa (nI (a*b)):=by
 show(match gO (aD a)&&gO (aD b)with|true=>aa (MV.I (aD a*aD b))|false=>ag)=_
 refine ak (UK h) (ak (UK h2) ?_)
 rfl
noncomputable def Up:Option Nat->MV
 |some r=>nI r
 |ag=>.I (-1)
noncomputable def strip(cs:List Nat)(at_:Nat)(rest:Option Nat)(run:Nat)(room:Int):MV:=.D [.S [99,101,108,108,115],.S [97,116],.S [114,101,115,116],.S [114,117,110],.S [114,111,111,109]] [.L (cs.map nI),nI at_,Up rest,nI run,.I room]
structure vg where
 a:Nat
 rest:Option Nat
 run:Nat
noncomputable def vg.ok(p:vg)(cs:List Nat):Prop:=p.a<=cs.length/\p.run<2147483647
noncomputable def vg.v(p:vg)(cs:List Nat)(room:Int):MV:=strip cs p.a p.rest p.run room
section
variable{a m:Nat}{rest:Option Nat}
theorem AO:∀{cs:List Nat},bI (cs.map nI)=ah
 |[]=>ae
 |c::cs=>by
  show(ah&&bI (cs.map nI))=ah
  refine ak AO ?_
  rfl
theorem vg.pure{p:vg}:(p.v cs room).pure=ah:=by
 show(ah&&(bI (cs.map nI)&&(ah&&((Up p.rest).pure&&(ah&&(ah&&ah))))))=ah
 refine ak AO ?_
 induction p.rest using bg<;>rfl
noncomputable def Ta:List MS:=MI.body.drop 1
noncomputable def VO(r m:Nat):Option Nat:=match cr m r with
 |true=>aa (r/m)
 |false=>ag
theorem KM(hm:0<m)(hms:m<1000):∃l',cp (Cd d) (gg mT) gT Ta [aa (.R 0),aa (nI m),ag] (strip cs a (aa r) run room::τ)=aa (.r (nI (r%m)),l',strip cs a (VO r m) run room::τ):=by
 have h0:∀U,jO U .o (nI r) (nI m)=aa (nI (r%m)):=λU=>DM hm
 unfold VO
 cases q:cr m r with
 |true=>
  replace q:=ar q
  exact⟨_,bb (v:=nI (r%m)) (U1:=strip cs a (aa r) run room::τ) (bq ae ae (h0 _)) (nh (v:=nI (r/m)) (U1:=strip cs a (aa r) run room::τ) (hY (U1:=strip cs a (aa r) run room::τ) (eZ ae ae (congrArg aa (decide_eq_true (dG.mpr q)))) (bq ae ae (Jp hm (bW ‹_› (by decide))))) (l2:=[aa (.R 0),aa (nI m),aa (nI (r%m))]) (U2:=strip cs a (aa (r/m)) run room::τ) ae (ca ae))⟩
 |false=>
  replace q:¬m<=r:=λh=>by rw[ky h]at q;exact tf q
  exact⟨_,bb (v:=nI (r%m)) (U1:=strip cs a (aa r) run room::τ) (bq ae ae (h0 _)) (nh (v:=.I (-1)) (U1:=strip cs a (aa r) run room::τ) (jz (U1:=strip cs a (aa r) run room::τ) (eZ ae ae (congrArg aa (decide_eq_false λh=>q (dG.mp h)))) ae) (l2:=[aa (.R 0),aa (nI m),aa (nI (r%m))]) (U2:=strip cs a ag run room::τ) ae (ca ae))⟩
theorem Mk{cs:List Nat}(h:a<cs.length):∃c,fi τ (.L (cs.map nI)) (nI a)=aa (nI c):=by
 refine⟨cs[a],?_⟩
 show(A6 (cs.map nI).length (aD a)).bind (λj=>(cs.map nI)[j]?)=_
 refine ak (au ..) (ak (u6 h) ?_)
 show(cs.map nI)[a]?=_
 refine ak (dm) (ak (b8 h) ?_)
 rfl
theorem iA{room:Int}{τ:bN}{p:vg}(hp:p.ok cs)(hm:0<m)(hms:m<1000)(hτ:bI τ=ah):∃r,r<m/\ ∃p':vg,p'.ok cs/\ ∀d,Cd (d+1) 109 [.R 0,nI m] (p.v cs room::τ)=aa (nI r,p'.v cs room::τ):=by
 obtain⟨a,rest,run⟩:=p
 refine gQ hp λha hr=>?_
 replace ha:a<=cs.length:=ha
 replace hr:run<2147483647:=hr
 have hb:∀s:vg,jG (s.v cs room::τ).length (s.v cs room::τ)=ah:=λs=>iX _ _ (by
  show((s.v cs room).pure&&bI τ)=ah
  refine ak vg.pure (ak hτ ?_)
  rfl)
 have go:∀{l':Loc} {r:Nat} {s:vg} {d:Nat},cp (Cd d) (gg mT) gT MI.body [aa (.R 0),aa (nI m),ag] ((⟨a,rest,run⟩:vg).v cs room::τ)=aa (.r (nI r),l',s.v cs room::τ)->Cd (d+1) 109 [.R 0,nI m] ((⟨a,rest,run⟩:vg).v cs room::τ)=aa (nI r,s.v cs room::τ):=λ{l' r s d} h=>
  CW (F:=MI) (τ:=[]) (U':=s.v cs room::τ) ae ae ae (by rw[aG];exact h) ae ae (hb s)
 induction rest using bg with
 |some r=>exact⟨r%m,mF _ hm,⟨a,VO r m,run⟩,⟨ha,hr⟩,λd=>(KM (cs:=cs) (a:=a) (run:=run) (room:=room) (τ:=τ) (d:=d) (r:=r) hm hms).elim λl' h=>go (mi (U1:=strip cs a (aa r) run room::τ) (eZ ae ae (congrArg aa (decide_eq_false λh=>nomatch h))) h)⟩
 |none=>
  by_cases q:a=cs.length
  ·have e:(aD a=aD (cs.map nI).length):=by rw[au,q]
   have h0:∀U,jO U .m (nI run) (.I 16807)=aa (nI (run*16807)):=λU=>Ud (bW ‹_› (by decide)) (by decide)
   have h1:∀U x,jO U .o (nI x) (.I 2147483647)=aa (nI (x%2147483647)):=λU x=>DM (by decide)
   have h2:∀U x,jO U .f (nI x) (.I 16)=aa (nI (x/16)):=λU x=>Jp (by decide) (by decide)
   have h3:∀U x,jO U .o (nI x) (nI m)=aa (nI (x%m)):=λU x=>DM hm
   refine⟨(run*16807+5)%2147483647/16%m,mF _ hm,⟨a,ag,(run*16807+5)%2147483647⟩,⟨ha,mF _ (by decide)⟩,λd=>go (rC (U1:=strip cs a ag run room::τ) ae (rC (U1:=strip cs a ag run room::τ) (eZ ae (iM ae ae) (congrArg aa (decide_eq_true e))) (nh (v:=nI ((run*16807+5)%2147483647)) (U1:=strip cs a ag run room::τ) (bq (bq (bq ae ae (h0 _)) ae ae) ae (h1 _ _)) (l2:=[aa (.R 0),aa (nI m),ag]) (U2:=strip cs a ag ((run*16807+5)%2147483647) room::τ) ae (ca (bq (bq ae ae (h2 _ _)) ae (h3 _ _))))))⟩
  ·refine ee (Mk (cs:=cs) (τ:=strip cs a ag run room::τ) (a:=a) (by lia)) λc hc=>?_
   refine⟨c%m,mF _ hm,⟨a+1,VO c m,run⟩,⟨by show a+1<=_;lia,hr⟩,λd=>(KM (cs:=cs) (a:=a+1) (run:=run) (room:=room) (τ:=τ) (d:=d) (r:=c) hm hms).elim λl' h=>go (rC (U1:=strip cs a ag run room::τ) ae (mi (U1:=strip cs a ag run room::τ) (eZ ae (iM ae ae) (congrArg aa (decide_eq_false λe=>q (by rw[au]at e;exact sG e)))) (nh (v:=nI c) (U1:=strip cs a ag run room::τ) (c9 ae ae hc) (l2:=[aa (.R 0),aa (nI m),ag]) (U2:=strip cs a (aa c) run room::τ) ae (nh (v:=nI (a+1)) (U1:=strip cs a (aa c) run room::τ) ae (l2:=[aa (.R 0),aa (nI m),ag]) (U2:=strip cs (a+1) (aa c) run room::τ) ae h))))⟩
end
inductive Gd:Nat->Bool->MV->Prop
 |leaf {h:Nat} {bare:Bool} {i k b w fl:Nat}:i<4->(bare=ah->i=0)->k<5->b<5->w<4->fl<2->Gd h bare (jM (rF i) k b w fl)
 |many {h:Nat} {bare:Bool} {i s fl st:Nat} {kids:List MV}:i<4->(bare=ah->i=0)->s<5->fl<2->st<4->kids≠[]->kids.length<=2->(∀v∈kids,Gd h ac v)->Gd (h+1) bare (kl (rF i) s fl st kids)
 |kg {h:Nat} {bare:Bool} {i j fl:Nat} {inner:MV}:i<4->(bare=ah->i=0)->j<4->fl<2->Gd h ah inner->Gd (h+1) bare (eY (rF i) (rF j) fl inner)
theorem Gd.fz(g:Gd h bare nd):Fz (7+2*h) nd:=by
 induction g with
 |leaf=>exact rV.up (aU ..)
 | @many h _ _ _ _ _ _ _ _ _ _ _ _ _ _ ih=>exact(Gy (k:=4+2*h) λv hv=>(ih v hv).up (by simp+arith only)).up (by simp+arith only)
 | @kg h _ _ _ _ _ _ _ _ _ _ ih=>exact(rt (k:=4+2*h) (ih.up (by simp+arith only))).up (by simp+arith only)
section
theorem AF(h1:iC C M G ks l U=aa (as,U1))(h2:iC C M G vs l U1=aa (bs,U2))(k:(as.all isStr&&eJ as&&bo as.length bs.length&&bX as.length)=ah)(k2:qd mu (.D as bs) U2=S):cm C M G (.e mu ks vs) l U=S:=bd h1 (bd h2 (mt k k2))
end
section
variable{dp:Nat}{τ:bN}{bare:Bool}{p:vg}
theorem JH:∀{U:bN} {r:Nat},r<4->fi U (.T [fV (rF 0),fV (rF 1),fV (rF 2),fV (rF 3)]) (nI r)=aa (fV (rF r)):=λh=>R1 h ae ae ae ae
theorem TC:∀{U:bN} {r:Nat},r<5->fi U (.T [.S (eO 0),.S (eO 1),.S (eO 2),.S (eO 3),.S (eO 4)]) (nI r)=aa (.S (eO r)):=λh=>t8 h ae ae ae ae ae
theorem TB:∀{U:bN} {r:Nat},r<5->fi U (.T [xt 0,xt 1,xt 2,xt 3,xt 4]) (nI r)=aa (xt r):=λh=>t8 h ae ae ae ae ae
theorem TA:∀{U:bN} {r:Nat},r<5->fi U (.T [xq 0,xq 1,xq 2,xq 3,xq 4]) (nI r)=aa (xq r):=λh=>t8 h ae ae ae ae ae
theorem JI:∀{U:bN} {r:Nat},r<4->∃w,fi U (.T [.S zV,.S tW,.S sy,.S tW]) (nI r)=aa (.S w)/\(w=zV\/w=tW\/w=sy):=λh=>R1 h ⟨_,ae,.inl ae⟩ ⟨_,ae,.inr (.inl ae)⟩ ⟨_,ae,.inr (.inr ae)⟩ ⟨_,ae,.inr (.inl ae)⟩
noncomputable def yU:List MS:=Jl.body.drop 3
noncomputable def Tb:List MS:=Jl.body.drop 4
noncomputable abbrev v6(dp:Nat)(bare:Bool)(w:List Nat)(x:Option MV):Loc:=[aa (.R 0),aa (nI dp),aa (.B bare),aa (.S w),x]
theorem tY(hp:p.ok cs)(hτ:bI τ=ah):∃i,i<4/\(bare=ah->i=0)/\ ∃p':vg,p'.ok cs/\ ∀d R,cp (Cd (d+1)) (gg mT) gT Tb (v6 dp bare w (aa (.R (p.v cs room::τ).length))) ((p'.v cs room::τ)++[MV.D [.S fO,.S ku] [.S w,fV (rF i)]])=R->cp (Cd (d+1)) (gg mT) gT yU (v6 dp bare w ag) (p.v cs room::τ)=R:=by
 induction bare using aY with
 |true=>exact⟨0,by decide,λu=>ae,p,hp,λd R h=>bb (v:=.R (p.v cs room::τ).length) (U1:=(p.v cs room::τ)++[MV.D [.S fO,.S ku] [.S w,fV (rF 0)]]) (AF ae (bk ae (bk (hY (U1:=p.v cs room::τ) ae ae) ae)) ae ae) h⟩
 |false=>
  obtain⟨r,hr,p',hp',hd⟩:=iA (room:=room) hp (m:=4) (by decide) (by decide) hτ
  exact⟨r,hr,(λh=>nomatch h),p',hp',λd R h=>bb (v:=.R (p.v cs room::τ).length) (U1:=(p'.v cs room::τ)++[MV.D [.S fO,.S ku] [.S w,fV (rF r)]]) (AF ae (bk ae (bk (jz (U1:=p.v cs room::τ) ae (c9 ae (aS ae (hd d)) (JH hr))) ae)) ae ae) h⟩
theorem iP{ks:List (List Nat)}(hτ:bI τ=ah)(h:bI vs=ah):bI (τ++[MV.D (ks.map MV.S) vs])=ah:=rZ hτ (by
 show((bI (ks.map MV.S)&&bI vs)&&ah)=ah
 refine ak h (ak (nc λv hv=>by
  refine aV (aQ.mp hv) λx u e2_=>?_
  subst e2_
  rfl) ?_)
 rfl)
theorem pu(h:v.pure=ah)(k:bI r=ah):bI (v::r)=ah:=eV.mpr ⟨h,k⟩
theorem A2{n:Nat}{room:Int}(hp:p.ok cs)(hτ:bI τ=ah):∃nd,Gd n bare nd/\ ∃(p':vg),p'.ok cs/\ ∀d,∃l',cp (Cd (d+1)) (gg mT) gT yU (v6 dp bare zV ag) (p.v cs room::τ)=aa (.r (.R (p.v cs room::τ).length),l',(p'.v cs room::τ)++[nd]):=by
 obtain⟨i,hi,hbi,p0,hp0,h0⟩:=tY (dp:=dp) (bare:=bare) (w:=zV) (room:=room) hp hτ
 have hF:(fV (rF i)).pure=ah:=mc.1
 obtain⟨k,hk,p1,hp1,h1⟩:=iA (room:=room) hp0 (m:=5) (by decide) (by decide) (iP (ks:=[fO,ku]) (vs:=[.S zV,fV (rF i)]) hτ (pu ae (pu hF ae)))
 have hK:(xt k).pure=ah:=(Gv k).1
 obtain⟨b,hb,p2,hp2,h2⟩:=iA (room:=room) hp1 (m:=5) (by decide) (by decide) (iP (ks:=[fO,ku,Gs]) (vs:=[.S zV,fV (rF i),xt k]) hτ (pu ae (pu hF (pu hK ae))))
 have hB:(xq b).pure=ah:=(FT b).1
 obtain⟨w,hw,p3,hp3,h3⟩:=iA (room:=room) hp2 (m:=4) (by decide) (by decide) (iP (ks:=[fO,ku,Gs,FU]) (vs:=[.S zV,fV (rF i),xt k,xq b]) hτ (pu ae (pu hF (pu hK (pu hB ae)))))
 obtain⟨fl,hf,p4,hp4,h4⟩:=iA (room:=room) hp3 (m:=2) (by decide) (by decide) (iP (ks:=[fO,ku,Gs,FU,Vo]) (vs:=[.S zV,fV (rF i),xt k,xq b,nI w]) hτ (pu ae (pu hF (pu hK (pu hB ae)))))
 refine⟨_,.leaf hi hbi hk hb hw hf,p4,hp4,λd=>⟨_,h0 d _ (mi (U1:=(p0.v cs room::τ)++[MV.D [.S fO,.S ku] [.S zV,fV (rF i)]]) ae (mi (U1:=(p0.v cs room::τ)++[MV.D [.S fO,.S ku] [.S zV,fV (rF i)]]) ae (ni (A:=p0.v cs room::τ) (A':=p1.v cs room::τ) ae (c9 ae (aS ae (h1 d)) (TB hk)) ae ae ae ae (ni (A:=p1.v cs room::τ) (A':=p2.v cs room::τ) ae (c9 ae (aS ae (h2 d)) (TA hb)) ae ae ae ae (ni (A:=p2.v cs room::τ) (A':=p3.v cs room::τ) ae (aS ae (h3 d)) ae ae ae ae (ni (A:=p3.v cs room::τ) (A':=p4.v cs room::τ) ae (aS ae (h4 d)) ae ae ae ae (ca ae)))))))⟩⟩
end
section
variable{cs:List Nat}{d n dp:Nat}{room:Int}{τ:bN}{bare:Bool}{p:vg}
noncomputable def Ey(cs:List Nat)(n:Nat):Prop:=∀(dp:Nat) (bare:Bool) {p:vg} {room:Int} {τ:bN},dp+n=3->p.ok cs->bI τ=ah->∃nd,Gd n bare nd/\ ∃(p':vg) (room':Int),p'.ok cs/\ ∀d,Cd (d+2+n) 110 [.R 0,nI dp,.B bare] (p.v cs room::τ)=aa (nd,p'.v cs room'::τ)
theorem DQ(ih:Ey cs n)(hd:dp+1+n=3)(hp:p.ok cs)(hτ:bI τ=ah):∃nd,Gd (n+1) bare nd/\ ∃(p':vg) (room':Int),p'.ok cs/\ ∀d,∃l',cp (Cd (d+2+n)) (gg mT) gT yU (v6 dp bare sy ag) (p.v cs room::τ)=aa (.r (.R (p.v cs room::τ).length),l',(p'.v cs room'::τ)++[nd]):=by
 obtain⟨i,hi,hbi,p0,hp0,h0⟩:=tY (dp:=dp) (bare:=bare) (w:=sy) (room:=room) hp hτ
 have hF:(fV (rF i)).pure=ah:=mc.1
 obtain⟨j,hj,p1,hp1,h1⟩:=iA (room:=room) hp0 (m:=4) (by decide) (by decide) (iP (ks:=[fO,ku]) (vs:=[.S sy,fV (rF i)]) hτ (pu ae (pu hF ae)))
 have hH:(fV (rF j)).pure=ah:=mc.1
 obtain⟨fl,hf,p2,hp2,h2⟩:=iA (room:=room) hp1 (m:=2) (by decide) (by decide) (iP (ks:=[fO,ku,Gf]) (vs:=[.S sy,fV (rF i),fV (rF j)]) hτ (pu ae (pu hF (pu hH ae))))
 obtain⟨nd,hg,p3,room',hp3,h3⟩:=ih (dp+1) ah (room:=room) hd hp2 (iP (ks:=[fO,ku,Gf,q9]) (vs:=[.S sy,fV (rF i),fV (rF j),nI fl]) hτ (pu ae (pu hF (pu hH ae))))
 refine⟨_,.kg hi hbi hj hf hg,gu p3 room' ⟨hp3,λd=>⟨_,(show d+2+n=d+1+n+1 from(cy ..))▸h0 (d+1+n) _ (mi (U1:=(p0.v cs room::τ)++[MV.D [.S fO,.S ku] [.S sy,fV (rF i)]]) ae (rC (U1:=(p0.v cs room::τ)++[MV.D [.S fO,.S ku] [.S sy,fV (rF i)]]) ae (ni (A:=p0.v cs room::τ) (A':=p1.v cs room::τ) ae (c9 ae (aS ae (h1 _)) (JH hj)) ae ae ae ae (ni (A:=p1.v cs room::τ) (A':=p2.v cs room::τ) ae (aS ae (h2 _)) ae ae ae ae (ni (A:=p2.v cs room::τ) (A':=p3.v cs room'::τ) ae (aS ae ((show d+2+n=d+1+n+1 from(cy ..))▸h3 d)) ae ae ae ae (ca ae))))))⟩⟩⟩
theorem HZ(ih:Ey cs n)(hd:dp+1+n=3)(hp:p.ok cs)(hτ:bI τ=ah):∃nd,Gd (n+1) bare nd/\ ∃(p':vg) (room':Int),p'.ok cs/\ ∀d,∃l',cp (Cd (d+2+n)) (gg mT) gT yU (v6 dp bare tW ag) (p.v cs room::τ)=aa (.r (.R (p.v cs room::τ).length),l',(p'.v cs room'::τ)++[nd]):=by
 obtain⟨i,hi,hbi,p0,hp0,h0⟩:=tY (dp:=dp) (bare:=bare) (w:=tW) (room:=room) hp hτ
 have hF:(fV (rF i)).pure=ah:=mc.1
 obtain⟨s,hs,p1,hp1,h1⟩:=iA (room:=room) hp0 (m:=5) (by decide) (by decide) (iP (ks:=[fO,ku]) (vs:=[.S tW,fV (rF i)]) hτ (pu ae (pu hF ae)))
 obtain⟨fl,hf,p2,hp2,h2⟩:=iA (room:=room) hp1 (m:=2) (by decide) (by decide) (iP (ks:=[fO,ku,xc]) (vs:=[.S tW,fV (rF i),.S (eO s)]) hτ (pu ae (pu hF ae)))
 obtain⟨st,ht,p3,hp3,h3⟩:=iA (room:=room) hp2 (m:=4) (by decide) (by decide) (iP (ks:=[fO,ku,xc,q9]) (vs:=[.S tW,fV (rF i),.S (eO s),nI fl]) hτ (pu ae (pu hF ae)))
 have hpn:bI (τ++[MV.D ([fO,ku,xc,q9,wu].map MV.S) [.S tW,fV (rF i),.S (eO s),nI fl,nI st]])=ah:=iP hτ (pu ae (pu hF ae))
 obtain⟨r,hr,p4,hp4,h4⟩:=iA (room:=room) hp3 (m:=2) (by decide) (by decide) hpn
 obtain⟨n1,g1,p5,room5,hp5,h5⟩:=ih (dp+1) ac (room:=room) hd hp4 hpn
 have e:∀d,d+2+n=d+1+n+1:=λd=>by exact cy ..
 have fin:∀{kids:List MV} {p':vg} {room':Int} {d:Nat},gN .N ((p4.v cs room::τ)++[MV.D ([fO,ku,xc,q9,wu].map MV.S) [.S tW,fV (rF i),.S (eO s),nI fl,nI st]]) (v6 dp bare tW (aa (.R (p.v cs room::τ).length))++[ag]) [5] (λl U=>ji (Cd (d+1+n+1)) (gg mT) gT [] l U) (λl U=>cm (Cd (d+1+n+1)) (gg mT) gT (.l 110 ac [.v 0,.b .a (.v 1) (.c (.I 1)),.c (.B ac)]) l U) (Ik 1 (r+1) 0) ((p4.v cs room::τ)++[MV.D ([fO,ku,xc,q9,wu].map MV.S) [.S tW,fV (rF i),.S (eO s),nI fl,nI st]])=aa (kids,(p'.v cs room'::τ)++[MV.D ([fO,ku,xc,q9,wu].map MV.S) [.S tW,fV (rF i),.S (eO s),nI fl,nI st]])->bX kids.length=ah->
   ∃l',cp (Cd (d+2+n)) (gg mT) gT yU (v6 dp bare tW ag) (p.v cs room::τ)=aa (.r (.R (p.v cs room::τ).length),l',(p'.v cs room'::τ)++[kl (rF i) s fl st kids]):=λ{kids p' room' d} h hz=>⟨_,e d▸h0 (d+1+n) _ (rC (U1:=(p0.v cs room::τ)++[MV.D [.S fO,.S ku] [.S tW,fV (rF i)]]) ae (ni (A:=p0.v cs room::τ) (A':=p1.v cs room::τ) ae (c9 ae (aS ae (h1 _)) (TC hs)) ae ae ae ae (ni (A:=p1.v cs room::τ) (A':=p2.v cs room::τ) ae (aS ae (h2 _)) ae ae ae ae (ni (A:=p2.v cs room::τ) (A':=p3.v cs room::τ) ae (aS ae (h3 _)) ae ae ae ae (ni (A:=p3.v cs room::τ) (A':=p'.v cs room'::τ) (v:=.L kids) ae (Mx (U2:=(p4.v cs room::τ)++[MV.D ([fO,ku,xc,q9,wu].map MV.S) [.S tW,fV (rF i),.S (eO s),nI fl,nI st]]) (y:=nI (r+1)) (ws:=Ik 1 (r+1) 0) ae (bq ae (aS ae (h4 _)) (by
    show aa (MV.I (1+aD r))=aa (MV.I (aD (r+1)))
    exact ak (show(1:Int)+aD r=aD (r+1) from by
     show(1:Int)+(r:Int)=((r+1:Nat):Int)
     lia) ae)) ae (by
    match r,hr with
    |0,_|1,_=>rfl) h hz) ae ae ae ae (ca ae))))))⟩
 have hc:r=0\/r=1:=by lia
 rcases hc with rfl|rfl
 ·exact⟨_,.many hi hbi hs hf ht (kids:=[n1]) (az _ _) (ar ae) (aO g1 λv hv=>nomatch hv),gu p5 room5 ⟨hp5,λd=>fin (Ml ae ae (aS ae (e d▸h5 d)) ae ae) ae⟩⟩
 ·obtain⟨n2,g2,p6,room6,hp6,h6⟩:=ih (dp+1) ac (room:=room5) hd hp5 hpn
  exact⟨_,.many hi hbi hs hf ht (kids:=[n1,n2]) (az _ _) (ar ae) (aO g1 (aO g2 λv hv=>nomatch hv)),gu p6 room6 ⟨hp6,λd=>fin (Ml ae ae (aS ae (e d▸h5 d)) ae (Ml ae ae (aS ae (e d▸h6 d)) ae ae)) ae⟩⟩
theorem U5(h:cm C M G a l U=aa (v,U1))(h2:bh (aa (v,U1))=aa (ah,U1)):bh (ii C M G ah (a::b::r) l U)=aa (ah,U1):=(congrArg bh (EF h h2)).trans h2
noncomputable def Jm:List MS:=Jl.body.drop 2
theorem A3(hw:w=zV\/w=tW\/w=sy):∃w',(w'=zV\/(dp≠3/\(w'=tW\/w'=sy)))/\ ∀d R,cp (Cd d) (gg mT) gT yU (v6 dp bare w' ag) (p.v cs room::τ)=R->cp (Cd d) (gg mT) gT Jm (v6 dp bare w ag) (p.v cs room::τ)=R:=by
 by_cases q:dp=3
 ·subst q
  exact⟨zV,.inl ae,λd R h=>rC (U1:=p.v cs room::τ) (U5 (v:=.B ah) ae ae) (bb ae h)⟩
 ·have q1:∀d,bh (cm (Cd d) (gg mT) gT (.m .e (.v 1) (.c (.I 3))) (v6 dp bare w ag) (p.v cs room::τ))=aa (ac,p.v cs room::τ):=λd=>eZ ae ae (congrArg aa (decide_eq_false λh=>q (sG h)))
  by_cases q2:room<1
  ·exact⟨zV,.inl ae,λd R h=>rC (U1:=p.v cs room::τ) (Ig (q1 d) (Bj (eZ ae ae (congrArg aa (decide_eq_true q2))))) (bb ae h)⟩
  ·have q3:∀d R,cp (Cd d) (gg mT) gT yU (v6 dp bare w ag) (p.v cs room::τ)=R->cp (Cd d) (gg mT) gT Jm (v6 dp bare w ag) (p.v cs room::τ)=R:=λd R h=>mi (U1:=p.v cs room::τ) (Ig (q1 d) (Bj (eZ ae ae (congrArg aa (decide_eq_false q2))))) h
   exact⟨w,hw.imp id λh=>⟨q,h⟩,q3⟩
theorem rW{w:List Nat}{p0 p':vg}{room':Int}{r:Nat}{dd:Nat}{l':Loc}(hτ:bI τ=ah)(h0:Cd dd 109 [.R 0,nI 4] (p.v cs (room-1)::τ)=aa (nI r,p0.v cs (room-1)::τ))(hw:fi (p0.v cs (room-1)::τ) (.T [.S zV,.S tW,.S sy,.S tW]) (nI r)=aa (.S w)){h:Nat}(g:Fz h nd)(hh:h<=39)
  (hb:cp (Cd dd) (gg mT) gT Jm (v6 dp bare w ag) (p0.v cs (room-1)::τ)=aa (.r (.R (p0.v cs (room-1)::τ).length),l',(p'.v cs room'::τ)++[nd])):Cd (dd+1) 110 [.R 0,nI dp,.B bare] (p.v cs room::τ)=aa (nd,p'.v cs room'::τ):=
 CW (F:=Jl) (U':=p'.v cs room'::τ) (τ:=[nd]) ae ae ae (nh (v:=.I (room-1)) (U1:=p.v cs room::τ) ae (l2:=[aa (.R 0),aa (nI dp),aa (.B bare),ag,ag]) (U2:=p.v cs (room-1)::τ) ae (bb (c9 ae (aS ae h0) hw) hb)) ae (MO ae g hh) (iX _ _ (by
     show((p'.v cs room').pure&&bI τ)=ah
     refine ak vg.pure (ak hτ ?_)
     rfl))
theorem Nl:∀n,Ey cs n:=λn=>by
 induction n with
 |zero=>
  intro dp bare p room τ hd hp hτ
  obtain⟨r,hr,p0,hp0,h0⟩:=iA (room:=room-1) hp (m:=4) (by decide) (by decide) hτ
  refine aV (JI (U:=p0.v cs (room-1)::τ) hr) λw hw hw2=>?_
  refine aV (A3 (cs:=cs) (p:=p0) (room:=room-1) (τ:=τ) (dp:=dp) (bare:=bare) hw2) λw' hw3 hs=>?_
  rcases hw3 with rfl|⟨q,_⟩
  ·obtain⟨nd,g,p1,hp1,h1⟩:=A2 (n:=0) (dp:=dp) (bare:=bare) (room:=room-1) hp0 hτ
   exact⟨nd,g,gu p1 (room-1) ⟨hp1,λd=>(h1 d).elim λl' h2=>rW hτ (h0 d) hw g.fz (aE ..) (hs _ _ h2)⟩⟩
  ·lia
 |succ n ih=>
  intro dp bare p room τ hd hp hτ
  obtain⟨r,hr,p0,hp0,h0⟩:=iA (room:=room-1) hp (m:=4) (by decide) (by decide) hτ
  refine aV (JI (U:=p0.v cs (room-1)::τ) hr) λw hw hw2=>?_
  refine aV (A3 (cs:=cs) (p:=p0) (room:=room-1) (τ:=τ) (dp:=dp) (bare:=bare) hw2) λw' hw3 hs=>?_
  have e:∀d,d+2+n=d+1+n+1:=λd=>by exact cy ..
  have h0':∀d,Cd (d+2+n) 109 [.R 0,nI 4] (p.v cs (room-1)::τ)=aa (nI r,p0.v cs (room-1)::τ):=λd=>by refine ak (e d) ?_;exact h0 _
  rcases hw3 with rfl|⟨q,rfl|rfl⟩
  ·obtain⟨nd,g,p1,hp1,h1⟩:=A2 (n:=n+1) (dp:=dp) (bare:=bare) (room:=room-1) hp0 hτ
   exact⟨nd,g,gu p1 (room-1) ⟨hp1,λd=>(h1 (d+1+n)).elim λl' h2=>rW hτ (h0' d) hw g.fz (by lia) (hs _ _ (e d▸h2))⟩⟩
  ·obtain⟨nd,g,p1,room',hp1,h1⟩:=HZ (dp:=dp) (bare:=bare) (room:=room-1) ih (by lia) hp0 hτ
   exact⟨nd,g,gu p1 room' ⟨hp1,λd=>(h1 d).elim λl' h2=>rW hτ (h0' d) hw g.fz (by lia) (hs _ _ h2)⟩⟩
  ·obtain⟨nd,g,p1,room',hp1,h1⟩:=DQ (dp:=dp) (bare:=bare) (room:=room-1) ih (by lia) hp0 hτ
   exact⟨nd,g,gu p1 room' ⟨hp1,λd=>(h1 d).elim λl' h2=>rW hτ (h0' d) hw g.fz (by lia) (hs _ _ h2)⟩⟩
end
section
theorem vW:∀{cs:List Nat},oy (cs.map nI)=aa (cs.map aD)
 |[]=>ae
 |c::cs=>by
  show(oy (cs.map nI)).map (aD c:: ·)=_
  refine ak vW ?_
  rfl
theorem Ly:∀{cs:List Nat} {a:Nat},(cs.map aD).foldl (· + ·) (aD a)=aD (cs.foldl (· + ·) a)
 |[],_=>ae
 |c::cs,a=>Ly (cs:=cs) (a:=a+c)
theorem U6:(10:Int)^60=aD 1000000000000000000000000000000000000000000000000000000000000:=ae
theorem Lv{ks:List Int}(hk:ks.length<=63):∃cs:List Nat,∃p:vg,p.ok cs/\ ∀d U,Cd (d+1) 108 [.L (ks.map MV.I)] U=aa (p.v cs 8,U):=by
 have hp:bI [.L (ks.map MV.I)]=ah:=by
  show(bI (ks.map MV.I)&&ah)=ah
  refine ak (nc λv hv=>by
   refine aV (aQ.mp hv) λx w e2_=>?_
   subst e2_
   rfl) ?_
  rfl
 have hs:∀U,uQ U (.L (ks.map MV.I)) .N (.I 40)=aa (.L ((ks.take (min 40 ks.length)).map MV.I)):=λU=>by
  show(aa 0).bind (λx=>(aa (yN (ks.map MV.I).length 40)).map λy=>MV.L (cut (ks.map MV.I) x y))=_
  refine congrArg (λl=>aa (MV.L l)) ?_
  show((ks.map MV.I).take (max 0 (min (40:Int) (ks.map MV.I).length)).toNat).drop 0=_
  exact ak j1 (ak (au ..) (ak (aZ ob) (ak (BF 40 ks.length) ae)))
 generalize ht:ks.take (min 40 ks.length)=ts at hs
 have hl:ts.length<=1000:=by refine ak (aZ ht) (ak eK ?_);lia
 have hm:∀(i:Int) U,jO U .o (.I (aD i.natAbs)) (.I ((10:Int)^60))=aa (nI (i.natAbs%1000000000000000000000000000000000000000000000000000000000000)):=λi U=>by
  refine ak U6 ?_
  exact DM (by decide)
 have hsum:∀(cs:List Nat) U,jO U .o (.I ((cs.map aD).foldl (· + ·) 0)) (.I 2147483587)=aa (nI (cs.foldl (· + ·) 0%2147483587)):=λcs U=>by
  refine ak (show(cs.map aD).foldl (· + ·) 0=aD (cs.foldl (· + ·) 0) from Ly (a:=0)) ?_
  exact DM (by decide)
 have hbi:∀(cs:List Nat) U,vH U .u [.L (cs.map nI)]=aa (.I ((cs.map aD).foldl (· + ·) 0)):=λcs U=>by
  show(oy (cs.map nI)).map _=_
  refine ak vW ?_
  rfl
 generalize hcs:(ts.map λi=>i.natAbs%1000000000000000000000000000000000000000000000000000000000000)=cs
 have hmap:ts.map (λi=>nI (i.natAbs%1000000000000000000000000000000000000000000000000000000000000))=cs.map nI:=by
  refine ak (aZ hcs) (ak bx ?_)
  rfl
 refine gu cs ⟨0,ag,3+cs.foldl (· + ·) 0%2147483587⟩ ⟨⟨bD _,?_⟩,λd U=>?_⟩
 ·have:=mF (cs.foldl (· + ·) 0) (show 2147483587>0 by decide)
  show 3+_<2147483647
  lia
 ·refine aM (F:=SZ) (v:=(⟨0,ag,3+cs.foldl (· + ·) 0%2147483587⟩:vg).v cs 8) (U':=[]) ae hp ae (bb (v:=.L (cs.map nI)) (U1:=[]) ((fU (gr (vO ae ae ae (hs _)) ae) (fu MV.I (λi=>nI (i.natAbs%1000000000000000000000000000000000000000000000000000000000000)) ae λi hi=>⟨_,ae,ae,bq ae ae (hm i _)⟩) (ja (by refine ak (au ..) ?_;exact hl))).trans (by exact ak hmap ae)) (ca (AF ae (bk ae (bk ae (bk ae (bk (bq ae (bq (iM ae (hbi _ _)) ae (hsum _ _)) ae) (bk ae ae))))) ae ae))) ?_
  exact mt vg.pure ae
end
noncomputable abbrev objs(F:List Row):MV:=.T (F.map Row.obj)
noncomputable abbrev wm(F:List Row)(k b:Nat):MV:=.O 4 [11,15,10] [cD (v0 k) (vZ k) (J5 k) (J6 k),.Y (l9 b),objs F]
noncomputable abbrev wn(F:List Row)(s:Nat)(ps:List MV):MV:=.O 5 [6,16,10] [.S (eO s),.L ps,objs F]
noncomputable abbrev lE(H:List Row)(p:MV):MV:=.O 6 [17,10] [p,objs H]
structure yi(h n:Nat)(k:Nd)(nd pc:MV):Prop where
 du:∀d U,Cd (d+2+h) 112 [nd] U=aa (k.jm,U)
 pv:∀d U,Cd (d+3+h) 113 [nd] U=aa (pc,U)
 td:∃f,(∀U,DO (gg mT) 1 pc U=aa f)/\ ∀d U,Cd (d+6+h) f [pc] U=aa (k.jm,U)
 dh:n<=h
 dp:∃f,(∀U,DO (gg mT) 2 pc U=aa f)/\ ∀d U,Cd (d+1+h) f [pc] U=aa (nI n,U)
 fz:Fz (5+2*h) pc
 fl:k.F=[]->(∃as vs,pc= .O 6 as vs)\/(∃c as vs,pc= .O c as vs/\fJ c 7=ah/\bo c 6=ac/\yA as vs 10=aa (.T []))
section
variable{F:List Row}
noncomputable def PC(F:List Row):MV:=.T [.T (F.map λr=>.S r.word),.T (F.map λr=>.Y r.jm)]
theorem LH:∀i d U,Cd (d+1) 111 [fV (rF i)] U=aa (PC (rF i),U):=c4 kq kq kq λu=>kq
theorem LI:∀i,vH U .z [PC (rF i)]=aa (fb (rF i)):=c4 ae ae ae λu=>ae
theorem oH:Fz 3 (objs F):=.tup jA
theorem TT:∀k,∃p,po k= .T [.S (v0 k),.S (vZ k),p]/\vH [] .d [p]=aa (.D (J5 k) (J6 k)):=c5 (⟨_,ae,ae⟩) (⟨_,ae,ae⟩) (⟨_,ae,ae⟩) (⟨_,ae,ae⟩) λu=>⟨_,ae,ae⟩
theorem rP(hl:l[0]?=aa (aa nd))(hf:fi [] nd (.S key)=aa (fV (rF i))):cm (Cd (d+1)) (gg mT) gT (.u .z [.l 111 ac [.x (.v 0) (.c (.S key))]]) l []=aa (fb (rF i),[]):=
 iM (bk (aS (bk (c9 (nW hl) ae hf) ae) (LH i d [])) ae) (LI i)
theorem zp(hz:Fz 3 (cD top sub ks vs)):AH (Cd (d+1)) (gg mT) 2 ac [.S top,.S sub,.D ks vs] []=aa (cD top sub ks vs,[]):=
 wg (f:=131) (F:=Th) (l1:=[aa (.R 0),aa (.S top),aa (.S sub),aa (.D ks vs)]) ae ae ae (fj (U:=[]) ae ae ae ae (fj (U:=[]) ae ae ae ae (fj (U:=[]) ae ae ae ae kc))) hz ae ae
theorem uN{d:Nat}{e:ME}{l:Loc}(he:cm (Cd (d+1)) (gg mT) gT e l U=aa (fV F,U))(hs:jG U.length U=ah)(hs':jG (U.length+1) U=ah)(hn:F.length<=1000){g:Row->Loc}{t1 t2 t3:Nat}(hb:∀r∈F,jh (grow l [t1,t2,t3]) [t1,t2,t3] (rB r [.Y r.jm])=aa (g r)/\(g r)[t1]?=aa (aa (.Y r.name))/\(g r)[t2]?=aa (aa (.Y r.raw))):
  cm (Cd (d+1)) (gg mT) gT (.u .t [.f (.w 1 ac [.v t1,.v t2]) [t1,t2,t3] e []]) l U=aa (objs F,U):=
 iM (bk (fU (gr he ae) (fu (λr:Row=>rB r [.Y r.jm]) Row.obj ae λr hr=>⟨g r,(hb r hr).1,ae,pj (bk (nW (hb r hr).2.1) (bk (nW (hb r hr).2.2) ae)) (pt hs hs')⟩) (ja (by refine ak (au ..) ?_;exact hn))) ae) ae
theorem M6(hF:(rF i).length<=2)(ok:∀r∈rF i,r.Ok):yi 0 0 ⟨ac,[.S zV,po k,.Y (l9 b)],rF i⟩ (jM (rF i) k b w fl) (wm (rF i) k b):=by
 have hz:Fz 6 (MV.T [.S zV,po k,.Y (l9 b),fb (rF i)]):=.tup (k:=5) (aO ((Fz.str _).up (by decide)) (aO (pp k) (aO ((Fz.bytes _).up (by decide)) (aO (iB.up (by decide)) cz))))
 have hpz:Fz 4 (wm (rF i) k b):=.obj (aO (DC k).2.2 (aO ((Fz.bytes _).up (by decide)) (aO oH cz)))
 have hp:=bY (aO rV cz:∀v∈[jM (rF i) k b w fl],Fz 7 v)
 have hp2:=bY (aO hpz cz)
 refine aV (TT k) λp hp3 hp4=>?_
 refine⟨λd U=>?_,λd U=>?_,⟨139,λU=>ae,λd U=>?_⟩,bj _,⟨140,λU=>ae,λd U=>?_⟩,hpz.up (by decide),λe=>.inr (rg _ _ _ ⟨ae,ae,ae,?_⟩)⟩
 ·exact aM (F:=Jn) ae hp ae (bb (rP (d:=d) ae ae) (rC (U1:=[]) ae (ca (kE (bk ae (bk ae (bk ae (bk ae ae)))) ae)))) (fw hz)
 ·refine aM (F:=MJ) ae hp ae (mi (U1:=[]) ae (bb (uN (d:=d+1) (c9 ae ae ae) ae ae (ao ‹_› (by decide)) (g:=λr=>[aa (jM (rF i) k b w fl),ag,ag,ag,ag,aa (.Y r.name),aa (.Y r.raw),aa (.Y r.jm)]) λr hr=>⟨ae,ae,ae⟩) (mi (U1:=[]) ae (nh (v:=.T [.S (v0 k),.S (vZ k),p]) (c9 (c9 ae ae ae) ae (U7.trans (congrArg aa hp3))) (l2:=[aa (jM (rF i) k b w fl),aa (objs (rF i)),aa (.S (v0 k)),aa (.S (vZ k)),aa p]) (U2:=[]) ae (ca (pj (bk (pj (bk ae (bk ae (bk (iM ae hp4) ae))) (zp (d:=d+1) (DC k).2.2)) (bk ae (bk ae ae))) (wg (f:=138) (F:=Tl) (l1:=[aa (.R 0),aa (cD (v0 k) (vZ k) (J5 k) (J6 k)),aa (.Y (l9 b)),aa (objs (rF i))]) ae ae ae (fj (U:=[]) ae ae ae ae (fj (U:=[]) ae ae ae ae (fj (U:=[]) ae ae ae ae kc))) hpz ae ae))))))) (fw hpz)
 ·exact aM (F:=Tm) ae hp2 ae (ca (kE (bk ae (bk (gp ae ae ae (BW k _ _)) (bk ae (bk (aS ae (xW (d:=d+1) ok (ao ‹_› (by decide)) (.inr ae))) ae)))) ae)) (fw hz)
 ·exact aM (F:=Tn) ae hp2 ae (ca ae) ae
 ·have e:rF i=[]:=e
  refine ak e ?_
  rfl
end
section
theorem Qg(h:cm C M G o l U=aa (x,U1))(hx:cC U1 x=aa (.O c as vs))(hb:fJ c HY=ah):cm C M G (.s o c') l U=aa (.B (bo c c'),U1):=bd h (mp (bd hx (mt hb ae)) ae)
end
section
theorem KE(hn:H.length<=1000):jO U .a (objs H) (.T [])=aa (objs H):=by
 show E4 (H.map Row.obj++[])=_
 refine ak (aG ..) ?_
 unfold E4
 exact ak (ja (by rw[au];exact hn)) ae
theorem AX(hF:xC (rF j))(s:On ki)(hkF:ki.F=[])(hz:Fz z (eY (rF i) (rF j) fl inner))(dz:Fz (6+2*h) (ki.tree []))(t:yi h n ki inner pc):yi (h+1) (n+1) ⟨ah,[.S sy,ki.tree [],fb (rF j)],rF i⟩ (eY (rF i) (rF j) fl inner) (lE (rF j) pc):=by
 have hn:=hF.n
 have hz2:Fz (7+2*h) (MV.T [.S sy,ki.tree [],fb (rF j)]):=by
  refine ak (show 7+2*h=6+2*h+1 from(cy ..)) ?_
  exact .tup (aO ((Fz.str _).up (by simp+arith only)) (aO dz (aO (iB.up (by simp+arith only)) cz)))
 have hpz:Fz (6+2*h) (lE (rF j) pc):=by
  refine ak (show 6+2*h=5+2*h+1 from(cy ..)) ?_
  exact .obj (aO t.fz (aO (oH.up (by simp+arith only)) cz))
 have hp:=bY (aO hz cz)
 have hp2:=bY (aO hpz cz)
 have hdu:ki.jm=ki.tree []:=by unfold Nd.jm;exact ak hkF ae
 refine⟨λd U=>?_,λd U=>?_,⟨145,λU=>ae,λd U=>?_⟩,dH t.dh,⟨146,λU=>ae,λd U=>?_⟩,hpz.up (by simp+arith only),λe=>.inl (gu _ _ ae)⟩
 ·have h1:=t.du d []
  rw[show d+2+h=d+1+h+1 from(cy ..),hdu]at h1
  refine ak (show d+2+(h+1)=d+1+h+1+1 from(cy ..)) ?_
  exact aM (F:=Jn) ae hp ae (bb (rP ae ae) (mi (U1:=[]) ae (mi (U1:=[]) ae (ca (kE (bk ae (bk (aS (bk (c9 ae ae ae) ae) h1) (bk (rP (i:=j) ae ae) ae))) ae))))) (fw hz2)
 ·have h1:=t.pv d []
  rw[show d+3+h=d+2+h+1 from by exact cy ..]at h1
  refine ak (show d+3+(h+1)=d+2+h+1+1 from(cy ..)) ?_
  exact aM (F:=MJ) ae hp ae (rC (U1:=[]) ae (ca (pj (bk (aS (bk (c9 ae ae ae) ae) h1) (bk (uN (F:=rF j) (c9 ae ae ae) ae ae (ao ‹_› (by decide)) (g:=λr=>[aa (eY (rF i) (rF j) fl inner),ag,ag,ag,ag,aa (.Y r.name),aa (.Y r.raw),aa (.Y r.jm)]) λr hr=>⟨ae,ae,ae⟩) ae)) (wg (f:=144) (F:=Qk) (l1:=[aa (.R 0),aa pc,aa (objs (rF j))]) ae ae ae (fj (U:=[]) ae ae ae ae (fj (U:=[]) ae ae ae ae kc)) hpz ae ae)))) (fw hpz)
 ·refine aV t.td λf hm ht=>?_
  have h1:=ht d []
  rw[show d+6+h=d+5+h+1 from(cy ..),hdu]at h1
  have h2:=s.bare [] (d+5+h) []
  refine ak (show d+6+(h+1)=d+5+h+1+1 from(cy ..)) ?_
  have h3:cm (Cd (d+5+h+1)) (gg mT) gT (.i (.s (.t (.v 0) 17) 6) (.z []) (.u .t [.t (.t (.v 0) 17) 10])) [aa (lE (rF j) pc),ag] []=aa (.T [],[]):=by
   rcases t.fl hkF with⟨as,vs,rfl⟩|⟨c,as,vs,rfl,e1,e2,e3⟩
   ·exact hY (U1:=[]) ae ae
   ·refine jz (U1:=[]) (Ap (Qg ae ae e1) (ff e2)) (iM (bk (Jc (Jc ae ae) e3) ae) ae)
  have h4:=xW (d:=d+1+h+1) (U:=[]) hF.ok (ao ‹_› (by decide)) (.inr ae)
  rw[show d+1+h+1+4=d+5+h+1 from by simp+arith only]at h4
  exact aM (F:=Tr) ae hp2 ae (bb h3 (ca (kE (bk ae (bk (aS (bk (gp ae (hm []) ae h1) ae) h2) (bk (aS (bk (bq (iM ae ae) ae (KE (ao ‹_› (by decide)))) ae) h4) ae))) ae))) (fw hz2)
 ·refine aV t.dp λf hm ht=>?_
  have h1:=ht d []
  refine ak (show d+1+(h+1)=d+1+h+1 from((b9 ..).symm)) ?_
  exact aM (F:=Ts) ae hp2 ae (ca (bq ae (gp ae (hm []) ae h1) (by
   show aa (MV.I (1+aD n))=aa (MV.I (aD (n+1)))
   exact ak (show(1:Int)+aD n=aD (n+1) from by
    show(1:Int)+(n:Int)=((n+1:Nat):Int)
    lia) ae))) ae
end
structure fC where
 t:yd
 pc:MV
 n:Nat
 R:List Row
 B:List (List Nat)
section
theorem zm:∀{ns:List Nat} {a B:Nat},a<=B->(∀n∈ns,n<=B)->∃m,m<=B/\(ns.map aD).foldl (λa b=>pick (decide (a<b)) b a) (aD a)=aD m
 |[],a,B,h,_=>⟨a,h,ae⟩
 |n::ns,a,B,h,hn=>by
  refine ak bz (ak jx ?_)
  by_cases q:a<n
  ·refine ak (show decide (aD a<aD n)=ah from decide_eq_true (bQ.mpr q)) ?_
   exact zm (hn n (.head _)) λm hm=>hn m (.tail _ hm)
  ·refine ak (show decide (aD a<aD n)=ac from decide_eq_false λe=>q (bQ.mp e)) ?_
   exact zm h λm hm=>hn m (.tail _ hm)
theorem Nc{fl s st h z:Nat}{ks:List fC}(hF:xC (rF i))(hl:ks.length<=2)(hz:Fz z (kl (rF i) s fl st (ks.map λx=>x.t.nd)))(dz:∀x∈ks,Fz (6+2*h) x.t.k.jm)(t:∀x∈ks,yi h x.n x.t.k x.t.nd x.pc):
  ∃n,yi (h+1) n ⟨ac,[.S tW,.S (eO s),.T (ks.map λx=>x.t.k.jm)],rF i⟩ (kl (rF i) s fl st (ks.map λx=>x.t.nd)) (wn (rF i) s (ks.map λx=>x.pc)):=by
 have hn:=hF.n
 have hmem:∀{p:MV->Prop} {f:fC->MV},(∀x∈ks,p (f x))->∀v∈ks.map f,p v:=λhp v hv=>by
  refine aV (aQ.mp hv) λx hx e2_=>?_
  subst e2_
  exact hp x hx
 have hz2:Fz (8+2*h) (MV.T [.S tW,.S (eO s),.T (ks.map λx=>x.t.k.jm),fb (rF i)]):=by
  refine ak (show 8+2*h=6+2*h+1+1 from by simp+arith only) ?_
  exact .tup (aO ((Fz.str _).up (aE ..)) (aO ((Fz.str _).up (aE ..)) (aO (.tup (hmem dz)) (aO (iB.up (by simp+arith only)) cz))))
 have hpz:Fz (7+2*h) (wn (rF i) s (ks.map λx=>x.pc)):=by
  refine ak (show 7+2*h=5+2*h+1+1 from by simp+arith only) ?_
  exact .obj (aO ((Fz.str _).up (aE ..)) (aO (.lst (hmem λx hx=>(t x hx).fz)) (aO (oH.up (by simp+arith only)) cz)))
 have hp:=bY (aO hz cz)
 have hp2:=bY (aO hpz cz)
 have hsz:∀(f:fC->MV),bX (ks.map f).length=ah:=λf=>ja (by refine ak (au ..) ?_;exact ao ‹_› (by decide))
 refine aV (zm (ns:=ks.map λx=>x.n) (a:=0) (B:=h) (bD _) λn hn=>aV (aQ.mp hn) λx hx e=>e▸(t x hx).dh) λm hm hmx=>?_
 refine⟨m+1,λd U=>?_,λd U=>?_,⟨142,λU=>ae,λd U=>?_⟩,dH hm,⟨143,λU=>ae,λd U=>?_⟩,hpz.up (by simp+arith only),λe=>.inr (rg _ _ _ ⟨ae,ae,ae,?_⟩)⟩
 ·refine ak (show d+2+(h+1)=d+1+h+1+1 from(cy ..)) ?_
  refine aM (F:=Jn) ae hp ae (bb (rP ae ae) (mi (U1:=[]) ae (rC (U1:=[]) ae (ca (kE (bk ae (bk ae (bk (iM (bk (fU (gr (c9 ae ae ae) ae) (fu (λx:fC=>x.t.nd) (λx=>x.t.k.jm) ae λx hx=>⟨_,ae,ae,aS ae ?_⟩) (hsz _)) ae) ae) (bk ae ae)))) ae))))) (fw hz2)
  have h1:=(t x hx).du d []
  rw[show d+2+h=d+1+h+1 from by exact cy ..]at h1
  exact h1
 ·refine ak (show d+3+(h+1)=d+2+h+1+1 from(cy ..)) ?_
  refine aM (F:=MJ) ae hp ae (mi (U1:=[]) ae (bb (uN (F:=rF i) (c9 ae ae ae) ae ae (ao ‹_› (by decide)) (g:=λr=>[aa (kl (rF i) s fl st (ks.map λx=>x.t.nd)),ag,ag,ag,ag,aa (.Y r.name),aa (.Y r.raw),aa (.Y r.jm)]) λr hr=>⟨ae,ae,ae⟩) (rC (U1:=[]) ae (ca (pj (bk (c9 ae ae ae) (bk (fU (gr (c9 ae ae ae) ae) (fu (λx:fC=>x.t.nd) (λx=>x.pc) ae λx hx=>⟨_,ae,ae,aS ae ?_⟩) (hsz _)) (bk ae ae))) (wg (f:=141) (F:=To) (l1:=[aa (.R 0),aa (.S (eO s)),aa (.L (ks.map λx=>x.pc)),aa (objs (rF i))]) ae ae ae (fj (U:=[]) ae ae ae ae (fj (U:=[]) ae ae ae ae (fj (U:=[]) ae ae ae ae kc))) hpz ae ae)))))) (fw hpz)
  have h1:=(t x hx).pv d []
  rw[show d+3+h=d+2+h+1 from by exact cy ..]at h1
  exact h1
 ·have h4:=xW (d:=d+2+h) (U:=[]) hF.ok (ao ‹_› (by decide)) (.inr ae)
  refine ak (show d+6+(h+1)=d+2+h+4+1 from by simp+arith only) ?_
  refine aM (F:=Tp) ae hp2 ae (ca (kE (bk ae (bk ae (bk (iM (bk (fU (gr ae ae) (fu (λx:fC=>x.pc) (λx=>x.t.k.jm) ae λx hx=>?_) (hsz _)) ae) ae) (bk (aS ae h4) ae)))) ae)) (fw hz2)
  refine aV ((t x hx).td) λf hm ht=>?_
  have h1:=ht d []
  rw[show d+6+h=d+2+h+4 from by simp+arith only]at h1
  exact⟨_,ae,ae,gp ae (hm []) ae h1⟩
 ·refine ak (show d+1+(h+1)=d+1+h+1 from((b9 ..).symm)) ?_
  refine aM (F:=Tq) ae hp2 ae (ca (bq ae (iM (bk (bq ae (fU (gr ae ae) (fu (λx:fC=>x.pc) (λx=>nI x.n) ae λx hx=>?_) (hsz _)) (wL (x:=[.I 0]) (by refine ak (au ..) ?_;simp only[aq,aC];lia))) ae) (v:=nI m) ?_) (by
   show aa (MV.I (1+aD m))=aa (MV.I (aD (m+1)))
   exact ak (show(1:Int)+aD m=aD (m+1) from by
    show(1:Int)+(m:Int)=((m+1:Nat):Int)
    lia) ae))) ae
  ·refine aV ((t x hx).dp) λf hm ht=>?_
   exact⟨_,ae,ae,gp ae (hm []) ae (ht d [])⟩
  ·show(oy (MV.I 0::(ks.map λx=>nI x.n))).bind QO=_
   have e:(ks.map λx=>nI x.n)=(ks.map λx=>x.n).map nI:=by refine ak bx ?_;rfl
   refine ak e ?_
   exact bd (mp vW ae) (congrArg (λx=>aa (MV.I x)) hmx)
 ·have e:rF i=[]:=e
  refine ak e ?_
  rfl
end
section
variable{m x r data:List Nat}{h d n:Nat}{U:bN}
theorem K3:∀{m x r:List Nat},cv 13 m=ac->bA m (x++13::r)=bA m x
 |[],_,_,_=>ae
 |c::m,x,r,h=>by
  have h1:bo 13 c=ac:=by
   unfold cv at h
   cases q:bo 13 c with
   |false=>rfl
   |true=>rw[q]at h;exact tf h
  have h2:cv 13 m=ac:=by
   unfold cv at h
   rw[h1]at h
   exact h
  induction x using am with
  |nil=>
   show(bo c 13&&bA m r)=ac
   refine ak FP (ak h1 ?_)
   rfl
  |cons y x=>
   show(bo c y&&bA m (x++13::r))=(bo c y&&bA m x)
   exact ak (K3 h2) ae
theorem GF{x:List Nat}(h:cv 13 m=ac):∀{r:List (List Nat)},bA m (bR (x::r))=bA m x
 |[]=>ae
 |y::r=>by
  refine ak (cK (az _ _)) ?_
  exact K3 h
theorem vU{p:Nat}{m:List Nat}:∀{x rest:List Nat} {n:Nat},cv p x=ac->dk (p::m) (x++rest) n=dk (p::m) rest (n+x.length)
 |[],_,_,_=>ae
 |c::x,rest,n,h=>by
  have h1:bo p c=ac:=by
   unfold cv at h
   cases q:bo p c with
   |false=>rfl
   |true=>rw[q]at h;exact tf h
  have h2:cv p x=ac:=by
   unfold cv at h
   rw[h1]at h
   exact h
  show(match(bo p c&&bA m (x++rest))with|true=>aa n|false=>dk (p::m) (x++rest) (n+1))=_
  refine ak h1 ?_
  show dk (p::m) (x++rest) (n+1)=_
  exact ak (vU h2) (ak aq (ak (bt ..) (ak (b9 ..) ae)))
theorem Dv(h13:cv 13 m=ac):∀{L:List (List Nat)} {n:Nat},L≠[]->(∀x∈L,cv 10 x=ac)->(dk (10::m) (10::bR L) n).isSome=L.any (bA m)
 |[],_,h,_=>absurd ae h
 |[x],n,_,h10=>by
  show(match(bA m x)with|true=>aa n|false=>dk (10::m) x (n+1)).isSome=(bA m x||false)
  cases bA m x with
  |true=>rfl
  |false=>
   dsimp only
   refine ak (aZ (aG x)) (ak (vU (h10 x (.head _))) ?_)
   rfl
 |x::y::r,n,_,h10=>by
  have ih:=Dv h13 (L:=y::r) (n:=n+1+(x++[13]).length) (az _ _) λz hz=>h10 z (.tail _ hz)
  show(match(bA m (bR (x::y::r)))with|true=>aa n|false=>dk (10::m) (bR (x::y::r)) (n+1)).isSome=(bA m x||(y::r).any (bA m))
  refine ak (GF h13) (ak (aZ ih) ?_)
  cases bA m x with
  |true=>rfl
  |false=>
   dsimp only
   refine ak (cK (az _ _)) (ak (show x++13::10::bR (y::r)=(x++[13])++10::bR (y::r) from by rw[ay];rfl) (ak (vU (pq (h10 x (.head _)) ae)) ?_))
   rfl
theorem Rs{k:Nat}(h1:h<=data.length)(hd:data.length<=16777216)(hk:k<=1000):uQ U (.Y data) (nI h) (nI (h+k))=aa (.Y ((data.drop h).take k)):=by
 have a1:=UK (bG (ao h1 hd) (by decide:16777216<18446744073709551616))
 have a2:=UK (bG (Nat.add_le_add (ao h1 hd) hk) (by decide:16777216+1000<18446744073709551616))
 refine(show EC data.length (nI h) (nI (h+k)) (λx y=>MV.Y (Mine.cut data x y))=_ from bd (x:=yN data.length (aD h)) (mt a1 ae) (mp (x:=yN data.length (aD (h+k))) (mt a2 ae) (congrArg MV.Y ?_)))
 show(data.take (max 0 (min ((h+k:Nat):Int) data.length)).toNat).drop (max 0 (min (h:Int) data.length)).toNat=_
 refine ak (BF (h+k) data.length) (ak (BF h data.length) (ak (fX h1) (ak j0 ?_)))
 by_cases q:h+k<=data.length
 ·exact ak (fX q) (ak (bZ ..) ae)
 ·have q:=oS q
  have r:=fA (i:=h) (l:=data)▸Nat.sub_le_sub_right q h
  exact ak (oV q) (ak (ew (bV fA)) (ak (ew (ao r (bV (bZ ..)))) ae))
theorem V4{l l':Loc}{v:MV}{it:MV}{ts:List Nat}{cond:Loc->bN->Option (Bool×bN)}{elt:Loc->bN->Option (MV×bN)}{U0 U2:bN}{xs vs:List MV}(h0:jh l ts v=aa l')(h1:cond l' U=aa (ac,U))(h3:gP it U0 U=ah)(k:gN it U0 l ts cond elt vs U=aa (xs,U2)):gN it U0 l ts cond elt (v::vs) U=aa (xs,U2):=bd h0 (bd h1 (mt h3 k))
theorem EO{xs:List MV}:nV U .e (.L xs) (.L [])=aa xs.isEmpty:=by
 induction xs using am<;>rfl
noncomputable def ML:List ME:=[.m .e (.y (.v 0) (.v 2) (.b .a (.v 2) (.u .l [.v 1]))) (.v 1)]
theorem FS{LL:List MV}(h13:cv 13 m=ac)(hm:m≠[])(hml:m.length<=100)(hd:data.length<=16777216):∀{L:List (List Nat)} {h:Nat},h<=data.length->data.drop h=bR L->
  ∃xs,xs.isEmpty= !L.any (bA m)/\xs.length<=L.length/\gN (.L LL) [] [aa (.Y data),aa (.Y m),ag,ag,ag] [2,3,4] (λl U=>ji (Cd d) (gg mT) gT ML l U) (λl U=>cm (Cd d) (gg mT) gT (.c (.I 1)) l U) (fK h L) []=aa (xs,[])
 |[],_,_,_=>⟨[],ae,bj _,ae⟩
 |x::r,h,hh,hL=>by
  have hc:∀{u v w:MV},ji (Cd d) (gg mT) gT ML [aa (.Y data),aa (.Y m),aa (nI h),aa v,aa w] []=aa (bA m x,[]):=λ{u v w}=>by
   refine Jd (eZ (vO (q:=nI (h+m.length)) ae ae (bq ae (iM ae ae) ae) (Rs hh hd (ao ‹_› (by decide)))) ae ?_)
   show aa (bn ((data.drop h).take m.length) m)=_
   exact ak tX (ak hL (ak (GF h13) ae))
  have one:∀{b:Bool} {v w:MV} {rest xs:List MV},bA m x=b->gN (.L LL) [] [aa (.Y data),aa (.Y m),ag,ag,ag] [2,3,4] (λl U=>ji (Cd d) (gg mT) gT ML l U) (λl U=>cm (Cd d) (gg mT) gT (.c (.I 1)) l U) rest []=aa (xs,[])->
    gN (.L LL) [] [aa (.Y data),aa (.Y m),ag,ag,ag] [2,3,4] (λl U=>ji (Cd d) (gg mT) gT ML l U) (λl U=>cm (Cd d) (gg mT) gT (.c (.I 1)) l U) (.T [nI h,v,w]::rest) []=aa ((match b with|true=>[.I 1]|false=>[])++xs,[]):=λ{b v w rest xs} hb hr=>by
   have:=hc (u:=v) (v:=v) (w:=w)
   rw[hb]at this
   induction b using aY with
   |true=>exact Ml ae this ae ae hr
   |false=>exact V4 ae this ae hr
  induction r using am with
  |nil=>
   induction x using am with
   |nil=>
    refine⟨[],?_,bD _,ae⟩
    induction m using am with
    |nil=>exact absurd ae hm
    |cons c m=>rfl
   |cons c t=>
    refine⟨_,?_,?_,one ae ae⟩
    ·show _= !(bA m (c::t)||false)
     cases bA m (c::t)<;>rfl
    ·cases bA m (c::t)with
     |true=>exact bj _
     |false=>exact bD _
  |cons y r=>
   rw[cK (az _ _)]at hL
   have hL2:data.drop (h+x.length+2)=bR (y::r):=by
    refine ak (b9 ..) (ak (aZ ye) (ak hL (ak List.drop_append (ak (List.drop_of_length_le (aU ..)) ?_))))
    refine ak (show x.length+2-x.length=2 from(bZ ..)) ?_
    rfl
   have hlen:(data.drop h).length=(x++13::10::bR (y::r)).length:=by exact ak hL ae
   rw[fA,aj,aq,aq]at hlen
   refine jl (FS (LL:=LL) h13 hm hml hd (L:=y::r) (h:=h+x.length+2) (by lia) hL2) λxs h1 h2 h3=>?_
   refine⟨_,?_,?_,one ae h3⟩
   ·show _= !(bA m x||(y::r).any (bA m))
    cases bA m x with
    |true=>rfl
    |false=>exact h1
   ·refine ak (aq (a:=x)) ?_
    cases bA m x with
    |true=>exact dH h2
    |false=>exact dL h2
theorem zf{ls:List (List Nat)}(hls:ls≠[])(h10:∀x∈ls,cv 10 x=ac)(hd:(bR ls).length<=1000000):
  Cd (d+1) 12 [.Y (bR ls)] U=aa (.L (fK 0 ls),U):=by
 have hlen:=vd (ls:=ls)
 refine gR (tV (d:=d) (data:=bR ls) (b:=(bR ls).length) (x1:=.I 0) (x2:=.I (-1)) (n:=kx-(ls.length+1)) (p:=ag) (q:=ag) (acc:=[]) (ao ‹_› (by decide)) (bj _) hls h10 jg.all (eQ _) (by refine ak aC ?_;lia)) λl' f h hf=>?_
 rw[show kx-(ls.length+1)+ls.length+1=kx from by unfold kx;lia]at h
 have hz:Gc [.L ([]++fK 0 ls)] 0 (.R 0)=aa (.L (fK 0 ls)):=(Fz.lst tU).2 _ _ 39 (by decide)
 rcases hf with rfl|⟨rfl,h4⟩
 ·exact aM (F:=Tf) ae ae ae (bb (hY ae (iM ae ae)) (bb (lB ae ae) (bb ae (Cj h)))) hz
 ·exact aM (F:=Tf) ae ae ae (bb (hY ae (iM ae ae)) (bb (lB ae ae) (bb ae (GO h (ca (nW h4)))))) hz
theorem Hk{L:List (List Nat)}(h13:cv 13 m=ac)(hm:m≠[])(hml:m.length<=100)(hL:L≠[])(h10:∀x∈L,cv 10 x=ac)(hd:(bR L).length<=1000000):Cd (d+2) 93 [.Y (bR L),.Y m] U=aa (.B (L.any (bA m)),U):=by
 have hlen:=vd (ls:=L)
 refine jl (FS (d:=d+1) (LL:=fK 0 L) h13 hm hml (ao ‹_› (by decide)) (L:=L) (h:=0) (bD _) ae) λxs h1 h2 h3=>?_
 refine aM (F:=YM) (U':=[]) ae ae ae (ca (F2 (fU (gr (aS ae (zf hL h10 hd)) ae) h3 (km (by lia))) ae (?_:nV [] .n (.L xs) (.L [])=aa (L.any (bA m))))) ae
 show(nV [] .e (.L xs) (.L [])).map (!·)=_
 refine ak EO (ak h1 ?_)
 cases L.any (bA m)<;>rfl
end
section
variable{m x:List Nat}{d n N:Nat}{Ls:List (List (List Nat))}
theorem OV{p:Nat->Bool}:∀{B:Nat},p B=ah->∃N,N<=B/\p N=ah/\ ∀m,m<N->p m=ac
 |0,h=>⟨0,bj _,h,λm hm=>absurd hm (xm _)⟩
 |B+1,h=>by
  by_cases q:∃N,N<=B/\p N=ah
  ·refine aV q λN h1 h2=>?_
   refine jl (OV h2) λK k1 k2 k3=>?_
   exact⟨K,by lia,k2,k3⟩
  ·refine⟨B+1,bj _,h,λm hm=>?_⟩
   cases e:p m with
   |false=>rfl
   |true=>exact absurd ⟨m,by lia,e⟩ q
noncomputable def Hj(n:Nat)(L:List (List Nat)):Bool:=L.any (bA (cu (gn n)))
noncomputable def uO(Ls:List (List (List Nat)))(n:Nat):Bool:=Ls.all λL=> !Hj n L
noncomputable def CG(Ls:List (List (List Nat)))(N:Nat):Prop:=N<5/\uO Ls N=ah/\ ∀m,m<N->uO Ls m=ac
noncomputable def RP(L:List (List Nat)):Prop:=L≠[]/\(∀x∈L,cv 10 x=ac)/\(bR L).length<=500000
theorem yX:∀{xs:List α},((xs.filter p).map g).isEmpty=xs.all λx=> !p x
 |[]=>ae
 |x::xs=>by
  refine ak gC (ak List.all_cons ?_)
  cases p x with
  |true=>rfl
  |false=>exact yX
theorem Sk:∀{n:Nat},n<5->cv 13 (cu (gn n))=ac:=λh=>t8 h ae ae ae ae ae
theorem PU:∀{U:bN} {n:Nat},n<5->vH U .s [nI n]=aa (.S [48+n]):=λh=>t8 h ae ae ae ae ae
theorem IK:∀{U:bN} {n:Nat},n<5->vH U .y [.L [nI (48+n)]]=aa (.Y [48+n]):=λh=>t8 h ae ae ae ae ae
theorem EA(h:n<5):∀c∈gn n,c<256:=t8 h (by decide) (by decide) (by decide) (by decide) (by decide)
noncomputable def WH:List MS:=[.a (.v 2) (.b .a (.g 39) (.u .s [.v 1])),.a (.v 3) (.b .a (.c (.Y [45,45])) (.u .y [.f (.u .o [.v 4]) [4] (.v 2) []])),.i (.m .e (.f (.c (.I 1)) [4] (.v 0) [.l 93 ac [.v 4,.v 3]]) (.d ac [])) [.r (.v 2)] [],.a (.v 1) (.b .a (.v 1) (.c (.I 1)))]
noncomputable abbrev lA(Ls:List (List (List Nat))):MV:=.L (Ls.map λL=>.Y (bR L))
theorem FR{R:Option (Fl×Loc×bN)}{p q:Option MV}{r:List MS}(hn:n<5)(hl:Ls.length<=10)(hL:∀L∈Ls,RP L)(k:cp (Cd (d+2)) (gg mT) gT ((match uO Ls n with|true=>[.r (.v 2)]|false=>[])++r) [aa (lA Ls),aa (nI n),aa (.S (gn n)),aa (.Y (cu (gn n)))] []=R):
  cp (Cd (d+2)) (gg mT) gT (.a (.v 2) (.b .a (.g 39) (.u .s [.v 1])):: .a (.v 3) (.b .a (.c (.Y [45,45])) (.u .y [.f (.u .o [.v 4]) [4] (.v 2) []])):: .i (.m .e (.f (.c (.I 1)) [4] (.v 0) [.l 93 ac [.v 4,.v 3]]) (.d ac [])) [.r (.v 2)] []::r) [aa (lA Ls),aa (nI n),p,q] []=R:=by
 have ht:bh (cm (Cd (d+2)) (gg mT) gT (.m .e (.f (.c (.I 1)) [4] (.v 0) [.l 93 ac [.v 4,.v 3]]) (.d ac [])) [aa (lA Ls),aa (nI n),aa (.S (gn n)),aa (.Y (cu (gn n)))] [])=aa (uO Ls n,[]):=by
  refine eZ (fU (gr ae ae) (xG (λL=>.Y (bR L)) (λw=>.I 1) (λL=>Hj n L) ae λL hLm=>⟨_,ae,?_,λw=>ae⟩) (ja ?_)) ae ?_
  ·refine vf (hL L hLm) λh1 h2 h3=>?_
   exact Jd (Ap (aS ae (Hk (d:=d) (Sk hn) (az _ _) (ar ae) h1 h2 (by omega))) ae)
  ·refine ak (au ..) ?_
   exact ao (iw _ _) (by omega)
  ·refine ak EO (ak yX ?_)
   rfl
 refine bb (v:=.S (gn n)) (bq ae (iM ae (PU hn)) ae) (bb (v:=.Y (cu (gn n))) (bq ae (H2 ae ae (EA hn) (ar ae) λc hc=>ae) ae) ?_)
 cases hf:uO Ls n with
 |true=>
  rw[hf]at ht k
  exact rC ht k
 |false=>
  rw[hf]at ht k
  exact mi ht k
theorem FQ(hl:Ls.length<=10)(hL:∀L∈Ls,RP L)(hN:CG Ls N):∀{k n F:Nat} {p q:Option MV},n+k=N->∃l',n4 (λl U=>bh (cm (Cd (d+2)) (gg mT) gT (.c (.B ah)) l U)) (λl U=>cp (Cd (d+2)) (gg mT) gT WH l U) (F+k+1) [aa (lA Ls),aa (nI n),p,q] []=aa (.r (.S (gn N)),l',[])
 |0,n,F,p,q,e=>by
  have e:n=N:=e
  subst e
  have h2:=hN.2.1
  exact⟨_,QN ae (FR hN.1 hl hL (by refine ak h2 ?_;exact ca ae))⟩
 |k+1,n,F,p,q,e=>by
  have h2:=hN.2.2 n (by omega)
  have h5:=hN.1
  refine ee (FQ hl hL hN (k:=k) (n:=n+1) (F:=F) (p:=aa (.S (gn n))) (q:=aa (.Y (cu (gn n)))) (by omega)) λl' ih=>?_
  exact⟨l',Kh ae (FR (by omega) hl hL (by refine ak h2 ?_;exact bb ae kc)) ih⟩
theorem Ay:(lA Ls).pure=ah:=nc λv hv=>by
 refine aV (aQ.mp hv) λL u e2_=>?_
 subst e2_
 rfl
theorem CS(hl:Ls.length<=10)(hL:∀L∈Ls,RP L)(hN:CG Ls N):Cd (d+3) 94 [lA Ls] U=aa (.S (gn N),U):=by
 have h5:=hN.1
 refine ee (FQ (d:=d) hl hL hN (k:=N) (n:=0) (F:=kx-(N+1)) (p:=ag) (q:=ag) (dn ..)) λl' h=>?_
 rw[show kx-(N+1)+N+1=kx from by unfold kx;lia]at h
 exact aM (F:=YN) ae (by
  show((lA Ls).pure&&ah)=ah
  refine ak Ay ?_
  rfl) ae (bb ae (Cj h)) ae
noncomputable def OK:ME:=.m .n (.f (.c (.I 1)) [8] (.v 4) [.m .a (.b .a (.c (.Y [10,45,45,61,95,112,97,114,116])) (.u .y [.d ac [.v 5]])) (.b .a (.c (.Y [10])) (.v 8))]) (.d ac [])
theorem Nn(hl:Ls.length<=10)(hL:∀L∈Ls,RP L)(hN:CG Ls N):∀{k n F:Nat},n+k=N->n4 (λl U=>bh (cm (Cd d) (gg mT) gT OK l U)) (λl U=>cp (Cd d) (gg mT) gT [.a (.v 5) (.b .a (.v 5) (.c (.I 1)))] l U) (F+k+1) [a,b,c,e,aa (lA Ls),aa (nI (48+n)),ag,ag] []=aa (.n,[a,b,c,e,aa (lA Ls),aa (nI (48+N)),ag,ag],[]):=by
 have ht:∀n,n<5->bh (cm (Cd d) (gg mT) gT OK [a,b,c,e,aa (lA Ls),aa (nI (48+n)),ag,ag] [])=aa (!uO Ls n,[]):=λn hn=>by
  refine eZ (fU (gr ae ae) (xG (λL=>.Y (bR L)) (λ_=>.I 1) (λL=>Hj n L) ae λL hLm=>⟨_,ae,?_,λ_=>ae⟩) (ja ?_)) ae ?_
  ·refine vf (hL L hLm) λh1 h2 h3=>?_
   refine Jd (eZ (bq ae (iM ae (IK hn)) ae) (bq ae ae (cB (x:=[10]) (by refine ak aj ?_;simp only[aq,aC];lia))) (congrArg aa (Dv (Sk hn) h1 h2)))
  ·refine ak (au ..) ?_
   exact ao (iw _ _) (ao ‹_› (by decide))
  ·show(nV [] .e (.L _) (.L [])).map (!·)=_
   refine ak EO (ak yX ?_)
   rfl
 intro k
 induction k with
 |zero=>
  intro n F e
  have e:n=N:=e
  subst e
  have h1:=ht n hN.1
  rw[hN.2.1]at h1
  exact QM h1
 |succ k ih=>
  intro n F e
  have h2:=hN.2.2 n (by omega)
  have h5:=hN.1
  have h1:=ht n (by omega)
  rw[h2]at h1
  exact Kh h1 (bb ae kc) (ih (n:=n+1) (by omega))
end
noncomputable def xy:List Nat:=[55,98,105,116]
section
theorem QY:bI [objs F]=ah:=bY (aO oH cz)
theorem yJ(f:xC F):Cd (d+5) 95 [objs F] U=aa (.N,U):=by
 have h:=zT (d:=d) (U:=[]) f.ok (by have:=f.n;exact ao ‹_› (by decide))
 rw[f.fF]at h
 exact yG (F:=YO) (U':=[]) (l':=[aa (objs F)]) ae QY ae (mi (U1:=[]) (eZ (iM (bk (aS (bk (iM ae ae) ae) h) ae) ae) (iM ae ae) (congrArg (λx=>aa (!x)) (decide_eq_true ae))) kc)
theorem L9(h:x.length+y.length<=1000):jO (.L x::U) .a (.R 0) (.L y)=aa (.L (x++y)):=by
 show TZ (x++y)=_
 unfold TZ
 exact ak (ja (by rw[aj];exact h)) ae
theorem GL{r:Row}{w:List Nat}(h1:r.name=n)(h2:r.raw=w):MV.O 1 [3,4] [.Y n,.Y w]=r.obj:=by
 refine ak (aZ h1) (ak (aZ h2) ?_)
 rfl
theorem LY(f:xC F)(hM:∀r∈M,r.Ok)(hn:M.length<=3)(hl:(cU (M++F)).length<=100000):cp (Cd (d+4)) (gg mT) gT [.r (.b .a (.l 23 ac [.b .a (.v 3) (.u .i [.v 0])]) (.g 3))] [aa (objs F),aa kd,aa (.S enc),aa (.R 0)] [.L (M.map Row.obj)]=aa (.r (.Y (cU (M++F)++[13,10])),[aa (objs F),aa kd,aa (.S enc),aa (.R 0)],[.L (M.map Row.obj)]):=by
 have hfn:=f.n
 refine ca (bq (aS (bk (bq ae (iM ae ae) (L9 (by refine ak (au ..) (ak (au ..) ?_);lia))) ae) ?_) ae (cB (by refine ak aj ?_;simp only[aq,aC];lia)))
 refine ak (aZ bS) ?_
 exact Es (λr hr=>(bT.mp hr).elim (hM r) (f.ok r)) (by refine ak aj ?_;lia) (ao ‹_› (by decide))
theorem xM(f:xC F)(hk:∀d U,Cd (d+8) 68 [kd] U=aa (.Y wk,U))(hz:Fz 3 kd)(hw:wk.length<=1000)(hM:∀r∈M,r.Ok)(hl:(cU (M++F)).length<=100000)(h1:r1.name=Ag)(h2:r1.raw=32::wk)
  (he:(M=[r1]/\bn enc xy=ah)\/(M=[r1,r2]/\bn enc xy=ac/\r2.name=EH/\r2.raw=32::enc/\(∀c∈enc,c<256)/\enc.length<=100)):
  Cd (d+9) 96 [objs F,kd,.S enc] U=aa (.Y (cU (M++F)++[13,10]),U):=by
 have hp:bI [objs F,kd,.S enc]=ah:=bY (k:=3) (aO oH (aO hz (aO ((Fz.str _).up (by decide)) cz)))
 have hb:∀v,v=jO [] .a (.Y [32]) (.Y wk)->v=aa (.Y r1.raw):=λv hv=>by
  refine ak hv (ak h2 ?_)
  exact cB (x:=[32]) (by refine ak aj ?_;simp only[aq,aC];lia)
 have hn1:=pt (d:=d+7) (U:=[]) (n:=Ag) (r:=r1.raw) ae ae
 rw[GL h1 ae]at hn1
 have h0:cm (Cd (d+8)) (gg mT) gT (.d ah [.w 1 ac [.c (.Y Ag),.b .a (.c (.Y [32])) (.l 68 ac [.v 1])]]) [aa (objs F),aa kd,aa (.S enc),ag] []=aa (.R 0,[.L [r1.obj]]):=
  (lB (bk (pj (bk ae (bk (bq ae (aS ae (hk d [])) (hb _ ae)) ae)) hn1) ae) ae).trans ae
 have hc:∀{c:Bool},bn enc xy=c->bh (cm (Cd (d+8)) (gg mT) gT (.m .n (.v 2) (.g 33)) [aa (objs F),aa kd,aa (.S enc),aa (.R 0)] [.L [r1.obj]])=aa (!c,[.L [r1.obj]]):=λ{c} hc=>eZ ae ae (congrArg (λx=>aa (!x)) hc)
 rcases he with⟨rfl,e⟩|⟨rfl,e,e1,e2,e3,e4⟩
 ·exact aM (F:=WI) ae hp ae (oM (aS ae (yJ (d:=d+3) f)) (bb h0 (mi (hc e) (LY (d:=d+4) (M:=[r1]) f hM (ar ae) hl)))) ae
 ·have hn2:=pt (d:=d+7) (U:=[.L [r1.obj]]) (n:=EH) (r:=r2.raw) ae ae
  rw[GL e1 ae]at hn2
  refine aM (F:=WI) ae hp ae (oM (aS ae (yJ (d:=d+3) f)) (bb h0 (rC (hc e) (oM (v:=.N) (vN ae ae (bk (pj (bk ae (bk (bq ae (H2 ae ae e3 (ao ‹_› (by decide)) λc hc=>ae) ?_) ae)) hn2) ae) (vD (l:=[r1.obj]) ae (ar ae))) (LY (d:=d+4) (M:=[r1,r2]) f hM (ar ae) hl))))) ae
  refine ak e2 ?_
  exact cB (x:=[32]) (by refine ak aj ?_;simp only[aq,aC];lia)
end
section
variable{k:Nat}
noncomputable def nz:Nat->List Nat
 |0=>xy
 |1=>xy
 |2=>xy
 |3=>mR 1
 |_=>mR 2
noncomputable abbrev W7(k:Nat):MV:=cD (v0 k) (vZ k) (J5 k) (J6 k)
noncomputable def X2:Nat->Bool
 |0=>ah
 |1=>ah
 |_=>ac
theorem G6:∀k d U,Cd (d+8) 68 [W7 k] U=aa (.Y (qG k).raw.tail,U):=c5 kq kq kq kq λu=>kq
theorem Im:∀d U,Cd (d+8) 68 [cD DN D1 [] []] U=aa (.Y DX.raw.tail,U):=kq
noncomputable abbrev RT(s:Nat):Prop:=∀N,N<5->∀d U,Cd (d+8) 68 [cD R3 (eO s) [.S BA] [.S (gn N)]] U=aa (.Y (wo s N).raw.tail,U)
theorem wm0:RT 0:=λj h=>t8 h kq kq kq kq kq
theorem wm1:RT 1:=λj h=>t8 h kq kq kq kq kq
theorem wm2:RT 2:=λj h=>t8 h kq kq kq kq kq
theorem wm3:RT 3:=λj h=>t8 h kq kq kq kq kq
theorem wm4(i:Nat):RT (i+4):=λj h=>t8 h kq kq kq kq kq
theorem Og:∀s,RT s:=c5 wm0 wm1 wm2 wm3 wm4
theorem PD:∀k d U,Cd (d+1) 135 [W7 k] U=aa (.B (X2 k),U):=c5 kq kq kq kq λu=>kq
theorem Hr:∀b t d U,Cd (d+8) 91 [.Y (l9 b),.B t] U=aa (.S (nz b),U):=λb t=>aY (motive:=λt=>∀d U,Cd (d+8) 91 [.Y (l9 b),.B t] U=aa (.S (nz b),U)) t (c5 (P:=λb=>∀d U,Cd (d+8) 91 [.Y (l9 b),.B ac] U=aa (.S (nz b),U)) kq kq kq kq (λu=>kq) b) (c5 (P:=λb=>∀d U,Cd (d+8) 91 [.Y (l9 b),.B ah] U=aa (.S (nz b),U)) kq kq kq kq (λu=>kq) b)
theorem JR:∀b t d U,Cd (d+8) 92 [.S (nz b),.Y (l9 b),.B t] U=aa (.Y (bR (Ew b)),U):=λb t=>aY (motive:=λt=>∀d U,Cd (d+8) 92 [.S (nz b),.Y (l9 b),.B t] U=aa (.Y (bR (Ew b)),U)) t (c5 (P:=λb=>∀d U,Cd (d+8) 92 [.S (nz b),.Y (l9 b),.B ac] U=aa (.Y (bR (Ew b)),U)) kq kq kq kq (λu=>kq) b) (c5 (P:=λb=>∀d U,Cd (d+8) 92 [.S (nz b),.Y (l9 b),.B ah] U=aa (.Y (bR (Ew b)),U)) kq kq kq kq (λu=>kq) b)
end
structure z8(h:Nat)(k:Nd)(nd pc:MV)(R:List Row)(B:List (List Nat)):Prop where
 bu:∀d U,Cd (d+12+3*h) 101 [pc] U=aa (.Y (bR (aX R++[]::B)),U)
 Ur:∀lead,(cU lead).length<=5000->∀d U,Cd (d+3+h) 115 [nd,.Y (cU lead)] U=aa (.Y (bR (aX (lead++R)++[]::B)),U)
 tx:∀dig,tF h k R B dig
 nb:∀x∈aX R++[]::B,cv 10 x=ac/\ ∀i,h<i->bA (cu (gn i)) x=ac
 ln:dB (aX R++[]::B)<=bL h
 rw:df R=ah
 fr:k.F=[]->dA R=[]
section
noncomputable def iL:Nat->List Row
 |3=>[Q7 3]
 |0=>[]
 |1=>[]
 |2=>[]
 |_=>[Q7 4]
theorem K8:∀k,df [qG k]=ah/\bn (qG k).word uH=ah/\bn (qG k).word mP=ac/\H3 (qG k).word=ah/\(qG k).name=Ag/\(qG k).raw=32::QE k/\cr (QE k).length 100=ah
 :=c5 ⟨ae,ae,ae,ae,ae,ae,ae⟩ ⟨ae,ae,ae,ae,ae,ae,ae⟩ ⟨ae,ae,ae,ae,ae,ae,ae⟩ ⟨ae,ae,ae,ae,ae,ae,ae⟩ λu=>⟨ae,ae,ae,ae,ae,ae,ae⟩
theorem EI:∀b,df (iL b)=ah/\dA (iL b)=[]/\(iL b).length<=1/\(∀r∈iL b,r.Ok):=c5 (⟨ae,ae,by decide,λr h=>nomatch h⟩) (⟨ae,ae,by decide,λr h=>nomatch h⟩) (⟨ae,ae,by decide,λr h=>nomatch h⟩) (⟨ae,ae,ar ae,pT (K6 3) λr h=>nomatch h⟩) λu=>⟨ae,ae,ar ae,pT (K6 4) λr h=>nomatch h⟩
theorem Jz(h:bn r.word w=ac):bU w (r::M)=bU w M:=by
 show(match bn r.word w with|true=>_|false=>bU w M)=_
 exact ak h ae
theorem Km:(∀r∈qG k::iL b,r.Ok)/\dA (qG k::iL b)=[]/\(qG k::iL b).length<=2/\df (qG k::iL b)=ah/\bU uH (qG k::iL b)= .Y (qG k).jm:=by
 refine Vp (K8 k) λh1 h2 h3 h4 h5 h6 h7=>?_
 refine LZ (EI b) λc1 c2 c3 c4=>?_
 refine⟨pT (Q8 k) c4,?_,dH c3,fH h1 c1,?_⟩
 ·unfold dA at c2⊢
  refine ak gC (ak h4 ?_)
  exact c2
 ·unfold bU
  exact ak h2 ae
theorem Kn(f:xC F)(l:jZ lead):qH (lead++(qG k::iL b++F)) (nz b):=by
 have q:∀b,(∀r∈lead++(qG k::iL b++F),r.Ok)/\bU mP (lead++(qG k::iL b++F))=bU mP (iL b):=λb=>FD (Km (k:=k) (b:=b)) λm1 m2 m3 m4 m5=>
  have mx:z7 (qG k::iL b++F) F (qG k::iL b):=p9 (fl:=0) f m1 m2 m3
  ⟨mx.Q1 l,(mx.first l).2.trans (Jz (K8 k).2.2.1)⟩
 exact c5 (P:=λb=>qH (lead++(qG k::iL b++F)) (nz b)) (pn (q 0).1 (q 0).2) (pn (q 1).1 (q 1).2) (pn (q 2).1 (q 2).2) (vQ (q 3).1 (q 3).2 My) (λn=>vQ (q (n+4)).1 (q (n+4)).2 Mz) b
theorem N9:∀b d U,Cd (d+9) 86 [.S (nz b),.Y (bR (Ew b))] U=aa (.Y (l9 b),U)
 |0,d,U|1,d,U|2,d,U|3,d,U|_+4,d,U=>by kernel_rfl
theorem IL(h:N<i):bA (cu (gn i)) (cu (gn N)++t)=ac:=by
 show(bo (48+i) (48+N)&&ah)=ac
 cases e:bo (48+i) (48+N)with
 |false=>rfl
 |true=>
  have:=aN e
  lia
theorem nbO:∀b,∀x∈Ew b,cv 10 x=ac/\ ∀i,0<i->bA (cu (gn i)) x=ac:=λb=>by
 have h:∀{x:List Nat},cv 10 x=ac->bA [45,45] x=ac->cv 10 x=ac/\ ∀i,0<i->bA (cu (gn i)) x=ac:=λh1 h2=>⟨h1,λi u=>zt h2⟩
 exact c5 (P:=λb=>∀x∈Ew b,cv 10 x=ac/\ ∀i,0<i->bA (cu (gn i)) x=ac) (mN (h ae ae) nT) (mN (h ae ae) (mN (h ae ae) nT)) (mN ⟨ae,λi hi=>IL (N:=0) (t:=[]) hi⟩ (mN (h ae ae) nT)) (mN (h ae ae) nT) (λu=>mN (h ae ae) nT) b
theorem Mf:∀b,cr (dB (Ew b)) 100=ah/\Ew b≠[]
 :=c5 ⟨ae,az _ _⟩ ⟨ae,az _ _⟩ ⟨ae,az _ _⟩ ⟨ae,az _ _⟩ λu=>⟨ae,az _ _⟩
theorem xP(h:df R=ah)(hB:∀x∈B,cv 10 x=ac/\ ∀i,n<i->bA (cu (gn i)) x=ac):∀x∈aX R++[]::B,cv 10 x=ac/\ ∀i,n<i->bA (cu (gn i)) x=ac:=λx hx=>by
 rcases bT.mp hx with hx|hx
 ·refine gQ (va h x hx) λh1 h2=>?_
  exact⟨h1,λi u=>zt h2⟩
 ·cases hx with
  |head=>exact⟨ae,λi u=>ae⟩
  |tail _ hx=>exact hB x hx
theorem r7(hB:B≠[]):(cU R++[13,10])++bR B=bR (aX R++[]::B):=by
 exact ak (ay ..) (ak (vI hB) (ak (px (az _ _)) ae))
theorem jR:cU (A++X)=cU A++cU X:=gv ..
theorem A7(h1:r.name=nm)(h2:r.raw=32::w):cU [r]=(nm++[58,32])++(w++[13,10]):=by
 show(r.name++58::(r.raw++[13,10]))++[]=_
 refine ak h1 (ak h2 (ak (aG ..) (ak (ay ..) ?_)))
 rfl
end
section
noncomputable abbrev SI:List Nat:=[67,111,110,116,101,110,116,45,84,121,112,101,58,32]
theorem Qd(hl:l[0]?=aa (aa nd)):∀b:Nat,fi [] nd (.S FU)=aa (xq b)->cm (Cd d) (gg mT) gT (.i (.m .e (.x (.x (.v 0) (.c (.S [98,111,100,121]))) (.c (.I 1))) (.c (.Y []))) (.c (.Y [])) (.b .a (.b .a (.c (.Y [67,111,110,116,101,110,116,45,84,114,97,110,115,102,101,114,45,69,110,99,111,100,105,110,103,58,32])) (.x (.x (.v 0) (.c (.S [98,111,100,121]))) (.c (.I 1)))) (.c (.Y [13,10])))) l []=aa (.Y (cU (iL b)),[]):=by
 intro b hb
 have h0:cm (Cd d) (gg mT) gT (.v 0) l []=aa (nd,[]):=nW hl
 have h1:cm (Cd d) (gg mT) gT (.x (.x (.v 0) (.c (.S [98,111,100,121]))) (.c (.I 1))) l []=aa (.Y (SP b),[]):=c9 (c9 h0 ae hb) ae Rz
 clear hb
 revert h1 b
 exact c5 (λh1=>hY (U1:=[]) (eZ h1 ae ae) ae) (λh1=>hY (U1:=[]) (eZ h1 ae ae) ae) (λh1=>hY (U1:=[]) (eZ h1 ae ae) ae) (λh1=>jz (U1:=[]) (eZ h1 ae ae) (bq (bq ae h1 ae) ae ae)) λu h1=>jz (U1:=[]) (eZ h1 ae ae) (bq (bq ae h1 ae) ae ae)
theorem Qy:∀b,bn (nz b) xy=ah/\iL b=[]\/ ∃r2,bn (nz b) xy=ac/\iL b=[r2]/\r2.name=EH/\r2.raw=32::nz b/\(∀c∈nz b,c<256)/\(nz b).length<=100:=
 c5 (.inl ⟨ae,ae⟩) (.inl ⟨ae,ae⟩) (.inl ⟨ae,ae⟩) (.inr ⟨_,ae,ae,ae,ae,by decide,by decide⟩) λu=>.inr ⟨_,ae,ae,ae,ae,(by decide:∀c∈mR 2,c<256),ar ae⟩
theorem M5(f:xC (rF i)):z8 0 ⟨ac,[.S zV,po k,.Y (l9 b)],rF i⟩ (jM (rF i) k b w fl) (wm (rF i) k b) (qG k::iL b++rF i) (Ew b):=by
 refine FD (Km (k:=k) (b:=b)) λm1 m2 m3 m4 m5=>?_
 have mx:z7 (qG k::iL b++rF i) (rF i) (qG k::iL b):=p9 (fl:=0) f m1 m2 m3
 refine Vp (K8 k) λk1 k2 k3 k4 k5 k6 k7=>?_
 replace k7:=ar k7
 refine gQ (Mf b) λb1 b2=>?_
 replace b1:=ar b1
 have b3:=d6 b2
 have hrw:=fH m4 f.rw
 have hfn:=f.n
 have hl:=cx hrw
 rw[aj]at hl
 replace hl:dB (aX (qG k::iL b++rF i))<=480:=by lia
 have hlb:=gf (rs:=qG k::iL b++rF i)
 have hp2:bI [wm (rF i) k b]=ah:=bY (k:=4) (aO (.obj (aO (DC k).2.2 (aO ((Fz.bytes _).up (by decide)) (aO oH cz)))) cz)
 have he:bn (nz b) xy=ah/\iL b=[]\/ ∃r2,bn (nz b) xy=ac/\iL b=[r2]/\r2.name=EH/\r2.raw=32::nz b/\(∀c∈nz b,c<256)/\(nz b).length<=100:=Qy b
 have hh:∀d,Cd (d+9) 96 [objs (rF i),W7 k,.S (nz b)] []=aa (.Y (cU (qG k::iL b++rF i)++[13,10]),[]):=λd=>by
  rcases he with⟨e1,e2⟩|⟨r2,e1,e2,e3,e4,e5,e6⟩
  ·exact xM (r1:=qG k) (r2:=qG k) f (G6 k) (DC k).2.2 (by refine ak k6 ?_;show(QE k).length<=_;exact ao ‹_› (by decide)) m1 (by lia) k5 (by refine ak k6 ?_;rfl) (.inl ⟨by exact ak e2 ae,e1⟩)
  ·exact xM (r1:=qG k) (r2:=r2) f (G6 k) (DC k).2.2 (by refine ak k6 ?_;show(QE k).length<=_;exact ao ‹_› (by decide)) m1 (by lia) k5 (by refine ak k6 ?_;rfl) (.inr ⟨by exact ak e2 ae,e1,e3,e4,e5,e6⟩)
 refine⟨λd U=>?_,λlead hld d U=>?_,λdig=>?_,xP hrw (nbO b),?_,hrw,λe=>?_⟩
 ·have h97:Cd (d+11) 97 [wm (rF i) k b] []=aa (.Y (bR (aX (qG k::iL b++rF i)++[]::Ew b)),[]):=
   aM (F:=YQ) ae hp2 ae (bb ae (mi (U1:=[]) (Ig (Ap (gp ae ae ae ((DC k).1 (d+9) [])) ae) (Bj (Ap (gp ae ae ae ((DC k).2.1 (d+9) [])) ae))) (bb (aS (bk ae (bk (gp ae ae ae (PD k (d+9) [])) ae)) (Hr b (X2 k) (d+2) [])) (ca ((bq (aS ae (hh (d+1))) (aS (bk ae (bk ae (bk (gp ae ae ae (PD k (d+9) [])) ae))) (JR b (X2 k) (d+2) [])) (cB (by simp only[aj,aq,aC]at hl⊢;lia))).trans (by exact ak (r7 b2) ae)))))) ae
  exact aM (F:=MG) ae hp2 ae (mi (U1:=[]) ae (ca (jz (U1:=[]) ae (aS ae h97)))) ae
 ·have hF:=lD (d:=d+1) (U:=[]) (pX (F:=rF i)) (.inr ae) (ao ‹_› (by decide)) (by have:=gf (rs:=rF i);have:=cx f.rw;lia)
  have hp:bI [jM (rF i) k b w fl,.Y (cU lead)]=ah:=bY (k:=7) (aO rV (aO ((Fz.bytes _).up (by decide)) cz))
  have hlF:=gf (rs:=rF i)
  have hlF2:=cx f.rw
  have hlc:=gf (rs:=iL b)
  have hlc2:=cx (EI b).1
  have hlc3:=(EI b).2.2.1
  have hk1:=A7 k5 k6
  have JO:bR (aX (lead++(qG k::iL b++rF i))++[]::Ew b)=(((((cU lead++SI)++QE k)++[13,10])++cU (iL b))++(cU (rF i)++[13,10]))++bR (Ew b):=by
   refine ak (aZ (r7 b2)) (ak (show lead++(qG k::iL b++rF i)=lead++([qG k]++(iL b++rF i)) from ae) (ak jR (ak jR (ak jR (ak hk1 ?_)))))
   simp only[ay]
   rfl
  refine ak JO ?_
  have H:((((((cU lead++SI)++QE k)++[13,10])++cU (iL b))++(cU (rF i)++[13,10]))++bR (Ew b)).length<=16777216:=by simp only[aj,aq,aC];lia
  exact aM (F:=MK) ae hp ae (mi (U1:=[]) ae (bb (v:=.Y (cU (rF i)++[13,10])) (bq (aS (bk (c9 ae ae ae) ae) hF) ae (cB (lb (la H)))) (rC (U1:=[]) ae (bb (Qd ae b ae) (ca (bq (bq (bq (bq (bq (bq ae ae (cB (la (la (la (la (la H))))))) (c9 (c9 ae ae ae) ae Rz) (cB (la (la (la (la H)))))) ae (cB (la (la (la H))))) ae (cB (la (la H)))) ae (cB (la H))) (c9 (c9 ae ae ae) ae ae) (cB H))))))) ae
 ·have:=Bk (dig:=dig) mx b2 m5 (MY k) (λlead l=>Kn f l) (BW k) (pp k) (N9 b)
  exact this
 ·rw[cO,ir,aC]
  show _<=1000
  lia
 ·refine ak jQ (ak m2 (ak f.fF ?_))
  exact e
end
section
theorem wf(f:xC H):jZ (H++[nA])/\df (H++[nA])=ah/\dA (H++[nA])=H:=f.ahead Nx ae ae ae
theorem mz:aX (A++X)=aX A++aX X:=gv ..
theorem HN(hL:L≠[]):cU A++bR (aX R++L)=bR (aX (A++R)++L):=by
 exact ak (px (L:=aX R++L) λe=>hL (bl.mp e).2) (ak mz (ak (ay ..) ae))
theorem Er(f:xC H)(hz:Fz z pc)(hl:(bR (aX R++[]::B)).length<=100000)(h5:5<=c)(t:∀U,Cd c 101 [pc] U=aa (.Y (bR (aX R++[]::B)),U)):Cd (c+1) 102 [pc,objs H] U=aa (.Y (bR (aX ((H++[nA])++R)++[]::B)),U):=by
 refine ee (bE h5) λd e1_=>?_
 subst e1_
 refine vf (wf f) λa1 a2 a3=>?_
 have hn:=f.n
 have h1:=gf (rs:=H++[nA])
 have h2:=cx a2
 rw[aj,aW]at h2
 have hw:=Es (d:=d+1) (U:=[]) a1.1 (by refine ak aj (ak aW ?_);omega) (by lia)
 rw[bS]at hw
 have hp:bI [pc,objs H]=ah:=bY (k:=z+3) (aO (hz.up (aU ..)) (aO (oH.up (aE ..)) cz))
 rw[show 5+d=d+5 from by exact dn ..]at t⊢
 refine ak (aZ (HN (az _ _))) ?_
 exact aM (F:=SU) ae hp ae (oM (aS ae (yJ f)) (ca (bq (aS (bk (bq (iM ae ae) ((lB (bk (pj ae (pt ae ae)) ae) ae).trans ae) (wL (y:=[nA.obj]) (by refine ak (au ..) (ak aW ?_);omega))) ae) hw) (aS ae (t [])) (cB (by refine ak aj ?_;lia))))) ae
theorem HP(f:xC (rF j))(s:On ki)(hkF:ki.F=[])(hz:Fz z (eY (rF i) (rF j) fl inner))(hzp:Fz z pc)(dz:Fz (6+2*h) (ki.tree []))(hh:h<=3)(t:z8 h ki inner pc R B):
  z8 (h+1) ⟨ah,[.S sy,ki.tree [],fb (rF j)],rF i⟩ (eY (rF i) (rF j) fl inner) (lE (rF j) pc) [DX] (aX ((rF j++[nA])++R)++[]::B):=by
 refine vf (wf f) λa1 a2 a3=>?_
 have hn:=f.n
 have hb:=Au hh
 have hln:=t.ln
 have hl1:=d6 (K:=aX R++[]::B) dN
 have hl2:=cx a2
 rw[aj,aW]at hl2
 have hl3:dB (aX ((rF j++[nA])++R)++[]::B)<=360+bL h:=by
  refine ak mz (ak (ay ..) (ak cO ?_))
  lia
 have hl4:=d6 (K:=aX ((rF j++[nA])++R)++[]::B) dN
 have hro:df [DX]=ah:=ae
 have hp2:bI [lE (rF j) pc]=ah:=bY (k:=z+4) (aO (.obj (aO (hzp.up (aU ..)) (aO (oH.up (aE ..)) cz))) cz)
 have hp3:∀v,bI [eY (rF i) (rF j) fl inner,.Y v]=ah:=λv=>bY (k:=z+1) (aO (hz.up (aU ..)) (aO ((Fz.bytes _).up (aE ..)) cz))
 have hok:∀r∈[DX],r.Ok:=pT Q9 λr h=>nomatch h
 have e32:(cU ([DX]++[])++[13,10]).length=32:=ae
 have e19:(cU [nA]).length=19:=ae
 refine⟨λd U=>?_,λlead hld d U=>?_,λdig=>?_,xP hro λx hx=>?_,?_,hro,λe=>ae⟩
 ·refine ak (show d+12+3*(h+1)=d+12+3*h+1+1+1 from((b9 ..).symm)) ?_
  have hw:=Er (U:=[]) f hzp (by lia) (c:=d+12+3*h) (by simp+arith only) (t.bu d)
  have hh:=xM (d:=d+3*h+4) (U:=[]) (M:=[DX]) (r1:=DX) (r2:=DX) (enc:=xy) O2 Im (Iq (ks:=[]) (vs:=[])) (ar ae) hok (ar ae) ae ae (.inl ⟨ae,ae⟩)
  rw[show d+3*h+4+9=d+12+3*h+1 from by lia]at hh
  have hk:=zp (d:=d+12+3*h) (Iq (top:=DN) (sub:=D1) (ks:=[]) (vs:=[]))
  have h100:Cd (d+12+3*h+1+1) 100 [lE (rF j) pc] []=aa (.Y (bR (aX [DX]++[]::(aX ((rF j++[nA])++R)++[]::B))),[]):=by
   refine ak (aZ (r7 dN)) ?_
   exact aM (F:=SS) ae hp2 ae (ca (bq (aS (bk ae (bk (pj (bk ae (bk ae (bk (AF ae ae ae ae) ae))) hk) (bk ae ae))) hh) (aS ae hw) (cB (by refine ak aj ?_;lia)))) ae
  exact aM (F:=MG) ae hp2 ae (mi (U1:=[]) ae (ca (hY (U1:=[]) ae (aS ae h100)))) ae
 ·refine ak (show d+3+(h+1)=d+3+h+1 from by lia) ?_
  have hF:=lD (d:=d+2+h) (U:=[]) (pX (F:=rF j)) (.inr ae) (by lia) (by have:=gf (rs:=rF j);have:=cx f.rw;lia)
  rw[show d+2+h+1=d+3+h from by lia]at hF
  have hlH:=gf (rs:=rF j)
  have hlH2:=cx f.rw
  have ho:=t.Ur (rF j++[nA]) (by refine ak gf ?_;lia) d []
  rw[jR]at ho
  refine ak (aZ (r7 dN)) (ak jR ?_)
  refine aM (F:=MK) (v:=.Y (cU lead++cU [DX]++[13,10]++bR (aX ((rF j++[nA])++R)++[]::B))) (U':=[]) ae (hp3 _) ae (rC (U1:=[]) ae (ca ((bq (bq ae ae (cB (by simp only[aj,aq,aC];lia))) (aS (bk (c9 ae ae ae) (bk (bq (aS (bk (c9 ae ae ae) ae) hF) ae (cB (y:=cU [nA]) (by refine ak aj ?_;lia))) ae)) ho) (cB (by simp only[aj,aq,aC];lia))).trans ?_))) ae
  rw[ay (cU lead) (cU [DX])]
  rfl
 ·have hr:=(t.tx ac).2 _ a1
  rw[a3,t.fr hkF,hkF,aG]at hr
  have mx:z7 [DX] [] [DX]:=p9 (fl:=0) O2 hok ae (ar ae)
  have:=xe (dig:=dig) (kk:=6+2*h) mx dN (.inr ⟨_,ae,M0⟩) ae hr (s.bare (rF j)) dz (iB.up (by lia)) (by lia) (by lia)
  exact this
 ·have:=xP (n:=h) (fH a2 t.rw) (B:=B) (λx hx=>t.nb x (bT.mpr (.inr (.tail _ hx)))) x hx
  exact⟨this.1,λi hi=>this.2 i (by lia)⟩
 ·rw[cO,ir,aC,show dB (aX [DX])=30 from ae]
  show _<=2*bL h+1000
  lia
end
section
variable{N:Nat}{m:List Nat}{Ls:List (List (List Nat))}
noncomputable def jn(m:List Nat)(Ls:List (List (List Nat))):List Nat:=(Ls.map λL=>((m++[13,10])++bR L)++[13,10]).flatten
theorem Go(hT:T≠[]):∀{Ls:List (List (List Nat))},(∀L∈Ls,L≠[])->jn m Ls++bR T=bR (dW (iD m Ls [])++T)
 |[],_=>ae
 |L::Ls,h=>by
  have ih:=Go hT (Ls:=Ls) λL hL=>h L (.tail _ hL)
  have hne:dW (iD m Ls [])++T≠[]:=λe=>hT (bl.mp e).2
  have e1:dW (iD m (L::Ls) [])=m::(L++dW (iD m Ls [])):=congrArg (m:: ·) md
  refine ak e1 ?_
  show((((m++[13,10])++bR L)++[13,10])++jn m Ls)++bR T=bR (m::(L++dW (iD m Ls [])++T))
  rewrite[ay L];refine ak (cK λe=>h L (.head _) (bl.mp e).1) (ak (iR (h L (.head _)) hne) (ak (aZ ih) ?_))
  simp only[ay,cH,cq]
noncomputable def PA(N:Nat):List (List Nat×Wy):=[(cu (gn N)++[45,45],.last),([],.no)]
noncomputable def mU(N:Nat)(Ls:List (List (List Nat))):List (List Nat):=dW (iD (cu (gn N)) Ls (PA N))
theorem BS(h:∀L∈Ls,L≠[]):((jn (cu (gn N)) Ls++cu (gn N))++[45,45])++[13,10]=bR (mU N Ls):=by
 unfold mU
 refine ak BV (ak Dm ?_)
 show _=bR (_++[cu (gn N)++[45,45],[]])
 refine ak (aZ (Go (az _ _) h)) (ak (ay ..) (ak (ay ..) ?_));rewrite[<-ay (cu (gn N))]
 rfl
theorem JZ(h:∀L∈Ls,L≠[]):(jn (cu (gn N)) Ls).length+13=(bR (mU N Ls)).length:=by
 refine ak (aZ (BS h)) ?_
 simp only[aj]
 rfl
theorem Uv:∀s N,N<5->df [wo s N]=ah:=c5 (λu h=>t8 h ae ae ae ae ae) (λu h=>t8 h ae ae ae ae ae) (λu h=>t8 h ae ae ae ae ae) (λu h=>t8 h ae ae ae ae ae) λu u h=>t8 h ae ae ae ae ae
theorem Pf:∀s N,N<5->df [wo s N]=ah/\bn (wo s N).word uH=ah/\bn (wo s N).word mP=ac/\H3 (wo s N).word=ah/\(wo s N).name=Ag/\(wo s N).raw=32::([109,117,108,116,105,112,97,114,116,47]++eO s++[59,13,10,32,98,111,117,110,100,97,114,121,61,34]++gn N++[34]):=λs N hN=>⟨Uv s N hN,ae,ae,ae,ae,by show(32::([109,117,108,116,105,112,97,114,116,47]++eO s++[59]))++(13::10::([32,98,111,117,110,100,97,114,121,61,34]++gn N++[34]))=_;simp only[cH,ay,cq]⟩
theorem Nh(h:N<5):lz (gn N) (cu (gn N)) .next:=t8 h kq kq kq kq kq
theorem N1(h:N<5):∀p∈PA N,lz (gn N) p.1 p.2:=mN (t8 h kq kq kq kq kq) (mN (zR (ar ae) ae) nT)
theorem Lx:∀s,cr (eO s).length 20=ah/\ ∀c∈eO s,c<256
 |0|1|2|3=>⟨ae,by decide⟩
 |_+4=>⟨ae,by show∀c∈[120,45,97,110,121],c<256;decide⟩
theorem Gq(hz:(jn (cu (gn N)) Ls).length<=100000):Ae [] .j (.Y []) [.L (Ls.map λL=>.Y (((cu (gn N)++[13,10])++bR L)++[13,10]))]=aa (.Y (jn (cu (gn N)) Ls),[]):=by
 have e:(Ls.map λL=>MV.Y (((cu (gn N)++[13,10])++bR L)++[13,10]))=(Ls.map λL=>((cu (gn N)++[13,10])++bR L)++[13,10]).map MV.Y:=by refine ak bx ?_;rfl
 refine ak e ?_
 exact zd (by show(jn (cu (gn N)) Ls).length<=_;exact ao ‹_› (by decide))
theorem HO(hN:N<5)(hl:Ls.length<=10)(hL:∀L∈Ls,RP L)(hz:(bR (mU N Ls)).length<=100000):Cd (d+1) 98 [lA Ls,.S (gn N)] U=aa (.Y (bR (mU N Ls)),U):=by
 have hne:∀L∈Ls,L≠[]:=λL h=>(hL L h).1
 have hj:=JZ (N:=N) hne
 have e9:(cu (gn N)).length=9:=ae
 refine ak (aZ (BS hne)) ?_
 have hjn:=Gq (N:=N) (Ls:=Ls) (by lia)
 have H:(((jn (cu (gn N)) Ls++cu (gn N))++[45,45])++[13,10]).length<=16777216:=by simp only[aj,aq,aC];lia
 refine aM (F:=YR) (v:=.Y (((jn (cu (gn N)) Ls++cu (gn N))++[45,45])++[13,10])) (U':=[]) ae (by
  show((lA Ls).pure&&ah)=ah
  refine ak Ay ?_
  rfl) ae (bb (v:=.Y (cu (gn N))) (bq ae (H2 ae ae (EA hN) (ar ae) λc hc=>ae) ae) (ca (bq (bq (bq (vN ae ae (bk (fU (gr ae ae) (fu (λL=>.Y (bR L)) (λL=>.Y (((cu (gn N)++[13,10])++bR L)++[13,10])) ae λL hLm=>⟨_,ae,ae,?_⟩) (ja (by refine ak (au ..) ?_;exact ao ‹_› (by decide)))) ae) hjn) ae (cB (la (la H)))) ae (cB (la H))) ae (cB H)))) ae
 ·have h3:=(hL L hLm).2.2
  have H:(((cu (gn N)++[13,10])++bR L)++[13,10]).length<=16777216:=by simp only[aj,aq,aC];lia
  exact bq (bq (bq ae ae ae) ae (cB (la H))) ae (cB H)
end
section
noncomputable def fC.LO(x:fC):List (List Nat):=aX x.R++[]::x.B
noncomputable def fC.kd(x:fC):qw:=⟨x.LO,x.t.k.jm,fb (dA x.R)⟩
theorem MM(h:∀L∈Ls,∀x∈L,bA (cu (gn n)) x=ac):uO Ls n=ah:=aP.mpr λL hL=>by
 have:Hj n L=ac:=by
  unfold Hj
  cases e:L.any (bA (cu (gn n)))with
  |false=>rfl
  |true=>
   refine aV (kJ.mp e) λx hx hp=>?_
   rw[h L hL x hx]at hp
   exact ft hp
 refine ak this ?_
 rfl
theorem Nm(h:uO Ls n=ah):∀L∈Ls,∀x∈L,bA (cu (gn n)) x=ac:=λL hL x hx=>by
 have h1:=aP.mp h L hL
 cases e:bA (cu (gn n)) x with
 |false=>rfl
 |true=>
  have:Hj n L=ah:=kJ.mpr ⟨x,hx,e⟩
  rw[this]at h1
  exact ft h1
theorem FO(h:N<5):cv 10 (cu (gn N))=ac:=t8 h ae ae ae ae ae
theorem GA(hN:N<5):(∀r∈[wo s N],r.Ok)/\dA [wo s N]=[]/\df [wo s N]=ah/\bU uH [wo s N]= .Y (wo s N).jm/\bU mP [wo s N]= .N:=by
 refine FD (Pf s N hN) λh1 h2 h3 h4 u=>?_
 refine⟨pT (Rb s N hN) (λr h=>nomatch h),?_,h1,?_,?_⟩
 ·unfold dA
  refine ak gC (ak h4 ?_)
  rfl
 ·unfold bU
  exact ak h2 ae
 ·unfold bU
  refine ak h3 ?_
  rfl
theorem HT{Ls:List (List (List Nat))}{P:List Nat->Prop}(h1:P (cu (gn N)))(h2:∀L∈Ls,∀x∈L,P x)(h3:P (cu (gn N)++[45,45]))(h4:P []):∀x∈mU N Ls,P x:=λx hx=>by
 refine aV (aQ.mp hx) λp hp e2_=>?_
 subst e2_
 exact uT (P:=λp=>P p.1) h1 (mN h3 (mN h4 nT)) h2 p hp
theorem Ng(f:xC F)(hN:CG (ks.map fC.LO) N)(hh:h<=3)(hn:ks≠[])(hl:ks.length<=2)(dz:∀x∈ks,Fz (6+2*h) x.t.k.jm)(ht:∀x∈ks,∀dig,tF h x.t.k x.R x.B dig)(h10:∀x∈ks,∀y∈x.LO,cv 10 y=ac):
  tF (h+1) ⟨ac,[.S tW,.S (eO s),.T (ks.map λx=>x.t.k.jm)],F⟩ ([wo s N]++F) (mU N (ks.map fC.LO)) dig:=by
 refine vf hN λhN5 hfr _=>?_
 refine FD (GA (s:=s) hN5) λm1 m2 m3 m4 m5=>?_
 obtain⟨x0,xs,rfl⟩:∃x0 xs,ks=x0::xs:=by
  induction ks using am with
  |nil=>exact absurd ae hn
  |cons a b=>exact gu a b ae
 have e1:(x0.kd::xs.map fC.kd).map (λx:qw=>x.tr)=(x0::xs).map λx=>x.t.k.jm:=by
  refine ak bz (ak bz (ak bx ?_))
  rfl
 have e2:(x0.kd::xs.map fC.kd).map (λx:qw=>x.L)=(x0::xs).map fC.LO:=by
  refine ak bz (ak bz (ak bx ?_))
  rfl
 have hm:∀k∈x0.kd::xs.map fC.kd,∃x∈x0::xs,k=x.kd:=λk hk=>by
  cases hk with
  |head=>exact⟨x0,.head _,ae⟩
  |tail _ hk=>
   refine aV (aQ.mp hk) λx hx e2_=>?_
   subst e2_
   exact⟨x,.tail _ hx,ae⟩
 have hfree:=Nm hfr
 have mx:z7 ([wo s N]++F) F [wo s N]:=p9 (fl:=0) f m1 m2 (ar ae)
 have all:∀{P:List Nat×Wy->Prop},P (cu (gn N),.next)->(∀x∈x0::xs,∀y∈x.LO,P (y,.no))->(∀p∈PA N,P p)->∀p∈w7 []++iD (cu (gn N)) ((x0.kd::xs.map fC.kd).map λx:qw=>x.L) (PA N),P p:=λp1 p2 p3 p hp=>by
  rw[e2]at hp
  refine uT p1 p3 (λK hK y hy=>?_) p hp
  refine aV (aQ.mp hK) λx hx e2_=>?_
  subst e2_
  exact p2 x hx y hy
 have:=Bl (dig:=dig) (bd:=gn N) (B:=mU N ((x0::xs).map fC.LO)) mx m4 m5 (M9 s N hN5) (Iq (ks:=[BA]) (vs:=[gn N])) ae (EA hN5) (ar ae) ae (h:=h) (k0:=x0.kd) (kr:=xs.map fC.kd) (kk:=6+2*h) (tl:=PA N) (pre:=[]) (m:=cu (gn N)) (λk hk=>by
  refine aV (hm k hk) λx hx e2_=>?_
  subst e2_
  exact⟨dN,(ht x hx _).2 [] jZ.nil⟩) (by rw[aq]at hl⊢;refine ak (au ..) ?_;exact bW ‹_› (by decide)) (λk hk=>by
  refine aV (hm k hk) λx hx e2_=>?_
  subst e2_
  exact dz x hx) (by simp+arith only) (ao ‹_› (by decide)) (.inr (gu _ _ ae)) (by refine ak e2 ?_;rfl) (all (FO hN5) h10 (mN (pq (FO hN5) ae) (mN ae nT))) (all (Nh hN5) (λx hx y hy=>zR (ar ae) (hfree _ (bM hx) y hy)) (N1 hN5)) (by
  refine ak e2 ?_
  exact v4 (m:=cu (gn N)) (tl:=PA N) ae (az _ _) λK hK=>by
   refine aV (aQ.mp hK) λx hx e2_=>?_
   subst e2_
   exact dN)
 rw[e1]at this
 exact this
end
section
theorem Nb(f:xC (rF i))(hh:h<=2)(hn:ks≠[])(hl:ks.length<=2)(dz:∀x∈ks,Fz (6+2*h) x.t.k.jm)(hz:Fz z (kl (rF i) s fl st (ks.map λx=>x.t.nd)))(hzp:Fz z (wn (rF i) s (ks.map λx=>x.pc)))(t:∀x∈ks,z8 h x.t.k x.t.nd x.pc x.R x.B):
  ∃N,z8 (h+1) ⟨ac,[.S tW,.S (eO s),.T (ks.map λx=>x.t.k.jm)],rF i⟩ (kl (rF i) s fl st (ks.map λx=>x.t.nd)) (wn (rF i) s (ks.map λx=>x.pc)) ([wo s N]++rF i) (mU N (ks.map fC.LO)):=by
 have hb:=Au (h:=h) (dL ‹_›)
 have hnb:∀L∈ks.map fC.LO,∀y∈L,cv 10 y=ac/\ ∀i,h<i->bA (cu (gn i)) y=ac:=λL hL y hy=>by
  refine aV (aQ.mp hL) λx hx e2_=>?_
  subst e2_
  exact(t x hx).nb y hy
 refine jl (OV (p:=uO (ks.map fC.LO)) (MM (n:=h+1) λL hL y hy=>(hnb L hL y hy).2 _ (cn h))) λN hN1 hN2 hN3=>?_
 have hN5:N<5:=by lia
 have hN:CG (ks.map fC.LO) N:=⟨hN5,hN2,hN3⟩
 have hLe:∀L∈ks.map fC.LO,dB L<=bL h/\L≠[]:=λL hL=>by
  refine aV (aQ.mp hL) λx hx e2_=>?_
  subst e2_
  exact⟨(t x hx).ln,dN⟩
 have hL:∀L∈ks.map fC.LO,RP L:=λL hLm=>by
  refine gQ (hLe L hLm) λh1 h2=>?_
  have h3:=d6 h2
  exact⟨h2,λy hy=>(hnb L hLm y hy).1,by lia⟩
 have hBl:dB (mU N (ks.map fC.LO))<=2*bL h+60:=by
  have h3:=BX (m:=cu (gn N)) (tl:=PA N) (n:=bL h+11) (Ks:=ks.map fC.LO) λK hK=>by
   have:=(hLe K hK).1
   have e9:(cu (gn N)).length=9:=ae
   lia
  have h4:ks.length*(bL h+11)<=2*(bL h+11):=qN _ hl
  have h5:dB (dW (PA N))=15:=ae
  rw[au]at h3
  unfold mU
  lia
 have hBn:mU N (ks.map fC.LO)≠[]:=by
  induction ks using am with
  |nil=>exact absurd ae hn
  |cons x r=>exact az _ _
 have hBu:=d6 hBn
 refine FD (GA (s:=s) hN5) λm1 m2 m3 m4 m5=>?_
 refine Oh (Pf s N hN5) λ_ _ _ _ w5 w6=>?_
 refine gQ (Lx s) λsl s256=>?_
 replace sl:=ar sl
 have hrw:=fH m3 f.rw
 have hfn:=f.n
 have hrl:=cx hrw
 rw[aj,aW]at hrl
 have hrB:=gf (rs:=[wo s N]++rF i)
 have hp:=λv=>bY (k:=z+1) (aO (hz.up (aU ..)) (aO ((Fz.bytes v).up (aE ..)) cz))
 have hp2:=bY (aO hzp cz)
 have hkl:(ks.map fC.LO).length<=10:=by refine ak (au ..) ?_;exact ao ‹_› (by decide)
 refine⟨N,λd U=>?_,λlead hld d U=>?_,λdig=>?_,xP hrw λx hx=>?_,?_,hrw,λe=>?_⟩
 ·refine ak (show d+12+3*(h+1)=d+13+3*h+1+1 from by simp+arith only) ?_
  have hbo:lA (ks.map fC.LO)= .L (ks.map λx=>.Y (bR x.LO)):=by
   unfold lA
   refine ak bx ?_
   rfl
  have h94:=CS (d:=d+10+3*h) (U:=[]) hkl hL hN
  have h98:=HO (d:=d+12+3*h) (U:=[]) hN5 hkl hL (by lia)
  rw[show d+10+3*h+3=d+13+3*h from by exact bt ..]at h94
  rw[show d+12+3*h+1=d+13+3*h from by exact bt ..]at h98
  rw[hbo]at h94 h98
  have hhd:=xM (d:=d+4+3*h) (U:=[]) (M:=[wo s N]) (r1:=wo s N) (r2:=wo s N) (enc:=xy) f (Og s N hN5) (Iq (ks:=[BA]) (vs:=[gn N])) (by refine ak w6 ?_;simp only[List.tail_cons,aj,aq,aC];have:(gn N).length=7:=ae;lia) m1 (by lia) w5 (by refine ak w6 ?_;rfl) (.inl ⟨ae,ae⟩)
  rw[show d+4+3*h+9=d+13+3*h from by exact bt ..]at hhd
  have hk:=zp (d:=d+12+3*h) (Iq (top:=R3) (sub:=eO s) (ks:=[BA]) (vs:=[gn N]))
  rw[show d+12+3*h+1=d+13+3*h from by exact bt ..]at hk
  have h99:Cd (d+13+3*h+1) 99 [wn (rF i) s (ks.map λx=>x.pc)] []=aa (.Y (bR (aX ([wo s N]++rF i)++[]::mU N (ks.map fC.LO))),[]):=by
   refine ak (aZ (r7 hBn)) ?_
   refine aM (F:=YS) ae hp2 ae (mi (U1:=[]) (eZ (iM (bk ae ae) ae) ae (congrArg aa (decide_eq_false ?_))) (bb (fU (gr ae ae) (fu (λx:fC=>x.pc) (λx=>.Y (bR x.LO)) ae λx hx=>⟨_,ae,ae,aS ae ?_⟩) (ja (by refine ak (au ..) ?_;exact ao ‹_› (by decide)))) (bb (aS ae h94) (bb (pj (bk ae (bk ae (bk (AF ae ae ae ae) ae))) hk) (ca (bq (aS ae hhd) (aS ae h98) (cB (by simp only[aj,aq,aC]at hrB⊢;lia)))))))) ae
   ·intro e
    induction ks using am with
    |nil=>exact hn ae
    |cons a b=>cases e
   ·have:=(t x hx).bu (d+1) []
    rw[show d+1+12+3*h=d+13+3*h from by rfl]at this
    exact this
  exact aM (F:=MG) ae hp2 ae (rC (U1:=[]) ae (ca (aS ae h99))) ae
 ·refine ak (show d+3+(h+1)=d+3+h+1 from((b9 ..).symm)) ?_
  have hF:=lD (d:=d+2+h) (U:=[]) (pX (F:=rF i)) (.inr ae) (ao ‹_› (by decide)) (by have:=gf (rs:=rF i);have:=cx f.rw;lia)
  rw[show d+2+h+1=d+3+h from by exact bt ..]at hF
  have hlF:=gf (rs:=rF i)
  have hlF2:=cx f.rw
  have hne:∀L∈ks.map fC.LO,L≠[]:=λL h=>(hLe L h).2
  have hj:=JZ (N:=N) hne
  have e9:(cu (gn N)).length=9:=ae
  have e7:(gn N).length=7:=ae
  have hbo:(MV.L (ks.map λx=>.Y (bR x.LO)))=lA (ks.map fC.LO):=by
   unfold lA
   refine ak bx ?_
   rfl
  have hlp:=Nn (d:=d+3+h) (a:=aa (kl (rF i) s fl st (ks.map λx=>x.t.nd))) (b:=aa (.Y (cU lead))) (c:=aa (.Y (cU (rF i)++[13,10]))) (e:=ag) hkl hL hN (k:=N) (n:=0) (F:=kx-(N+1)) (dn ..)
  rw[show kx-(N+1)+N+1=kx from by unfold kx;lia]at hlp
  have hjn:=Gq (N:=N) (Ls:=ks.map fC.LO) (by lia)
  have JO:bR (aX (lead++([wo s N]++rF i))++[]::mU N (ks.map fC.LO))=(((((cU lead++SI)++(((([109,117,108,116,105,112,97,114,116,47]++eO s)++[59,13,10,32,98,111,117,110,100,97,114,121,61,34])++gn N)++[34,13,10]))++(cU (rF i)++[13,10]))++jn (cu (gn N)) (ks.map fC.LO))++cu (gn N))++[45,45,13,10]:=by
   refine ak (aZ (r7 hBn)) (ak jR (ak jR (ak (A7 w5 w6) (ak (aZ (BS hne)) ?_))))
   simp only[ay]
   rfl
  refine ak JO ?_
  have H:((((((cU lead++SI)++(((([109,117,108,116,105,112,97,114,116,47]++eO s)++[59,13,10,32,98,111,117,110,100,97,114,121,61,34])++gn N)++[34,13,10]))++(cU (rF i)++[13,10]))++jn (cu (gn N)) (ks.map fC.LO))++cu (gn N))++[45,45,13,10]).length<=16777216:=by simp only[aj,aq,aC];lia
  have K:=lb (la (la (la (la H))))
  refine aM (F:=MK) (v:=.Y ((((((cU lead++SI)++(((([109,117,108,116,105,112,97,114,116,47]++eO s)++[59,13,10,32,98,111,117,110,100,97,114,121,61,34])++gn N)++[34,13,10]))++(cU (rF i)++[13,10]))++jn (cu (gn N)) (ks.map fC.LO))++cu (gn N))++[45,45,13,10])) (U':=[]) ae (hp _) ae (mi (U1:=[]) ae (bb (v:=.Y (cU (rF i)++[13,10])) (bq (aS (bk (c9 ae ae ae) ae) hF) ae (cB (lb (la (la (la H)))))) (mi (U1:=[]) ae (bb (v:=lA (ks.map fC.LO)) ((fU (gr (c9 ae ae ae) ae) (fu (λx:fC=>x.t.nd) (λx=>.Y (bR x.LO)) ae λx hx=>⟨_,ae,ae,aS ae ?_⟩) (ja (by refine ak (au ..) ?_;exact ao ‹_› (by decide)))).trans (by exact ak hbo ae)) (bb ae (GO hlp
   (bb (v:=.Y (cu (gn N))) (bq ae (iM ae (IK hN5)) ae) (bb (v:=.Y (((([109,117,108,116,105,112,97,114,116,47]++eO s)++[59,13,10,32,98,111,117,110,100,97,114,121,61,34])++gn N)++[34,13,10])) (bq (bq (bq (bq ae (H2 (c9 ae ae ae) ae s256 (ao ‹_› (by decide)) λc hc=>ae) (cB (la (la (la K))))) ae (cB (la (la K)))) (vO (v:=.Y (gn N)) ae ae ae ae) (cB (la K))) ae (cB K))
   (ca (bq (bq (bq (bq (bq (bq ae ae (cB (la (la (la (la (la H))))))) ae (cB (la (la (la (la H)))))) ae (cB (la (la (la H))))) (vN ae ae (bk (fU (gr ae ae) (fu (λL=>.Y (bR L)) (λL=>.Y (((cu (gn N)++[13,10])++bR L)++[13,10])) ae λL hLm=>⟨_,ae,ae,?_⟩) (ja (by refine ak (au ..) ?_;exact ao ‹_› (by decide)))) ae) hjn) (cB (la (la H)))) ae (cB (la H))) ae (cB H))))))))))) ae
  ·exact(t x hx).Ur [] (bD _) d []
  ·have h3:=(hL L hLm).2.2
   have H:(((cu (gn N)++[13,10])++bR L)++[13,10]).length<=16777216:=by simp only[aj,aq,aC];lia
   exact bq (bq (bq ae ae ae) ae (cB (la H))) ae (cB H)
 ·exact Ng f hN (dL ‹_›) hn hl dz (λx hx=>(t x hx).tx) λx hx y hy=>((t x hx).nb y hy).1
 ·refine HT (P:=λx=>cv 10 x=ac/\ ∀i,h+1<i->bA (cu (gn i)) x=ac) ⟨FO hN5,λi hi=>?_⟩ (λL hL y hy=>⟨(hnb L hL y hy).1,λi hi=>(hnb L hL y hy).2 i (cZ ‹_›)⟩) ⟨pq (FO hN5) ae,λi hi=>IL (bG ‹_› ‹_›)⟩ ⟨ae,λi _=>ae⟩ x hx
  have:=IL (N:=N) (i:=i) (bG ‹_› ‹_›) (t:=[])
  rw[aG]at this
  exact this
 ·rw[cO,ir,aC]
  show _<=2*bL h+1000
  lia
 ·refine ak jQ (ak m2 (ak f.fF ?_))
  exact e
end
section
variable{j k w h:Nat}{pc:MV}{bare:Bool}
theorem yi.up(t:yi h n kn nd pc)(e:h<=j):yi j n kn nd pc:=by
 refine ee (bE e) λm e1_=>?_
 subst e1_
 refine⟨λd U=>?_,λd U=>?_,?_,ao t.dh e,?_,t.fz.up (by simp+arith only),t.fl⟩
 ·refine ak (show d+2+(h+m)=d+m+2+h from by simp+arith only) ?_;exact t.du _ U
 ·refine ak (show d+3+(h+m)=d+m+3+h from by simp+arith only) ?_;exact t.pv _ U
 ·refine aV t.td λf h1 h2=>?_
  refine⟨f,h1,λd U=>?_⟩
  refine ak (show d+6+(h+m)=d+m+6+h from by simp+arith only) ?_;exact h2 _ U
 ·refine aV t.dp λf h1 h2=>?_
  refine⟨f,h1,λd U=>?_⟩
  refine ak (show d+1+(h+m)=d+m+1+h from by simp+arith only) ?_;exact h2 _ U
theorem z8.up(t:z8 h kn nd pc R B)(e:h<=j):z8 j kn nd pc R B:=by
 refine ee (bE e) λm e1_=>?_
 subst e1_
 refine⟨λd U=>?_,λlead hl d U=>?_,λdig=>⟨(t.tx dig).1,λlead l=>((t.tx dig).2 lead l).up e⟩,λx hx=>⟨(t.nb x hx).1,λi hi=>(t.nb x hx).2 i (bG ‹_› ‹_›)⟩,ao t.ln (xF e),t.rw,t.fr⟩
 ·refine ak (show d+12+3*(h+m)=d+3*m+12+3*h from by simp+arith only) ?_;exact t.bu _ U
 ·refine ak (show d+3+(h+m)=d+m+3+h from by simp+arith only) ?_;exact t.Ur lead hl _ U
noncomputable def rG(k:Nat)(v:MV):Prop:=∀j,k<=j->BJ j v v=aa ah
theorem rG.up(t:rG h v)(e:h<=j):rG j v:=λi hi=>t i (ao e hi)
theorem rG.str:rG 1 (.S x):=λj hj=>by
 refine ee (bE hj) λn e1_=>?_
 subst e1_
 refine ak (dn ..) ?_
 show aa (bn x x)=_
 exact ak (iO ..) ae
theorem rG.bytes:rG 1 (.Y x):=λj hj=>by
 refine ee (bE hj) λn e1_=>?_
 subst e1_
 refine ak (dn ..) ?_
 show aa (bn x x)=_
 exact ak (iO ..) ae
theorem yT:∀{l:List MV},(∀v∈l,f v v=aa ah)->wV f l l=aa ah
 |[],_=>ae
 |v::r,h=>bd (h v (.head _)) (bd (yT λu hu=>h u (.tail _ hu)) ae)
theorem rG.tup(t:∀v∈l,rG h v):rG (h+1) (.T l):=λj hj=>by
 refine ee (bE hj) λn e1_=>?_
 subst e1_
 refine ak (bt ..) ?_
 exact yT λv hv=>t v hv _ (aU _ _)
noncomputable def Yy:Nat->MV->Bool
 |0,_=>ac
 |k+1,v=>match v with
  | .T l=>l.all (Yy k)
  | .S _=>ah
  | .Y _=>ah
  |_=>ac
theorem OG:∀{k:Nat} {v:MV},Yy k v=ah->rG k v
 |0,_,h=>by exact ft h
 |k+1,v,h=>by
  induction v using MV.casesOn with
  |T l=>exact .tup λv hv=>OG (aP.mp h v hv)
  |S l=>exact rG.str.up (aE ..)
  |Y l=>exact rG.bytes.up (aE ..)
  |_=>exact ft h
theorem J7:∀k,rG 5 (po k)
 |0|1|2|3|_+4=>OG ae
theorem rE:rG 3 (fb F):=.tup λv hv=>by
 refine aV (aQ.mp hv) λr u e2_=>?_
 subst e2_
 exact .tup (aO .str (aO .bytes cz))
structure FH(h:Nat)(bare:Bool)(x:fC):Prop where
 th:xp h x.t.k x.t.nd x.t.R x.t.B
 pc:yi h x.n x.t.k x.t.nd x.pc
 ou:z8 h x.t.k x.t.nd x.pc x.R x.B
 sh:On x.t.k
 ba:bare=ah->x.t.k.F=[]
 fz:Fz (7+2*h) x.t.nd
 eq:∀ow,rG (6+2*h) (x.t.k.tree ow)
 so:∃w,fi [] x.t.nd (.S fO)=aa (.S w)/\bn w sy=x.t.k.vX
theorem yM:∀{kids:List MV},(∀v∈kids,∃x:fC,x.t.nd=v/\FH h bare x)->∃xs:List fC,(xs.map λx=>x.t.nd)=kids/\ ∀x∈xs,FH h bare x
 |[],_=>⟨[],ae,nT⟩
 |v::r,hv=>by
  refine aV (hv v (.head _)) λx e1_ h1=>?_
  subst e1_
  refine aV (yM (kids:=r) λv h=>hv v (.tail _ h)) λxs e1_ h2=>?_
  subst e1_
  exact⟨x::xs,ae,mN h1 h2⟩
theorem Ca(h:bare=ah->i=0):bare=ah->rF i=[]:=λe=>by refine ak (h e) ?_;rfl
theorem PT(g:Gd h bare nd):h<=3->∃x:fC,x.t.nd=nd/\FH h bare x:=by
 induction g with
 | @leaf h bare i k b w fl hi hb hk hbb hw hf=>
   intro hh
   exact⟨⟨⟨jM (rF i) k b w fl,⟨ac,[.S zV,po k,.Y (l9 b)],rF i⟩,λ_ _=>gc fl (rF i) (mV k w),λ_=>As w b⟩,wm (rF i) k b,0,qG k::iL b++rF i,Ew b⟩,ae,
    ⟨(M7 (xx i) hw hf).up (bD _),(M6 (xx i).n (xx i).ok).up (bD _),(M5 (xx i)).up (bD _),⟨_,_,_,ae,ae,5,pp k,(Fz.bytes _).up (by decide)⟩,Ca hb,(Gd.leaf (h:=h) hi hb hk hbb hw hf).fz,λow=>rG.up (h:=6) (.tup (h:=5) (aO (rG.str.up (aE ..)) (aO (J7 k) (aO (rG.bytes.up (aE ..)) (aO (rE.up (aE ..)) cz))))) (aU ..),⟨_,ae,ae⟩⟩⟩
 | @kg h bare i j fl inner hi hb hj hf hg ih=>
   intro hh
   refine aV (ih (cZ ‹_›)) λx e1_ a=>?_
   subst e1_
   have hz:=(Gd.kg hi hb hj hf hg).fz
   have hF:=a.ba ae
   have dz:=a.th.dz []
   exact⟨⟨⟨eY (rF i) (rF j) fl x.t.nd,⟨ah,[.S sy,x.t.k.tree [],fb (rF j)],rF i⟩,_,_⟩,lE (rF j) x.pc,x.n+1,[DX],aX ((rF j++[nA])++x.R)++[]::x.B⟩,ae,
    ⟨HQ (z:=4+2*h) (xx i) (xx j) hf (by lia) a.sh hF (a.fz.up (by simp+arith only)) a.th,AX (xx j) a.sh hF hz dz a.pc,HP (z:=7+2*(h+1)) (xx j) a.sh hF hz (a.pc.fz.up (by simp+arith only)) dz (cZ ‹_›) a.ou,⟨_,_,_,ae,ae,6+2*h,dz,iB.up (by simp+arith only)⟩,Ca hb,hz,λow=>rG.up (h:=6+2*h+1) (.tup (aO (rG.str.up (by simp+arith only)) (aO (a.eq []) (aO (rE.up (by simp+arith only)) cz)))) (by simp+arith only),⟨_,ae,ae⟩⟩⟩
 | @many h bare i s fl st kids hi hb hs hf ht hn hl hg ih=>
   intro hh
   refine aV (yM (bare:=ac) λv hv=>ih v hv (cZ ‹_›)) λxs e1_ ha=>?_
   subst e1_
   have hz:=(Gd.many hi hb hs hf ht hn hl hg).fz
   have hn2:xs≠[]:=λe=>hn (by refine ak e ?_;rfl)
   rw[au]at hl
   have dz:∀x∈xs,Fz (6+2*h) x.t.k.jm:=λx hx=>(ha x hx).th.dz _
   refine ee (Nc (xx i) hl hz dz λx hx=>(ha x hx).pc) λn hp=>?_
   refine ee (Nb (z:=7+2*(h+1)) (xx i) (by lia) hn2 hl dz hz (hp.fz.up (by simp+arith only)) λx hx=>(ha x hx).ou) λN ho=>?_
   have e1:((xs.map λx=>x.t).map λx=>x.k.jm)=xs.map λx=>x.t.k.jm:=bx ..
   have e2:((xs.map λx=>x.t).map λx=>x.nd)=xs.map λx=>x.t.nd:=bx ..
   have hm:∀{P:yd->Prop},(∀x∈xs,P x.t)->∀t∈xs.map λx=>x.t,P t:=λhp t ht=>by
    refine aV (aQ.mp ht) λx hx e2_=>?_
    subst e2_
    exact hp x hx
   have hth:=Nf (h:=h) (z:=4+2*h) (ks:=xs.map λx=>x.t) (s:=s) (xx i) hf ht (by lia) (λe=>hn2 (eF.mp e)) (by refine ak (au ..) ?_;exact hl) (hm λx hx=>(ha x hx).th) (hm (P:=λt=>Fz (3+(4+2*h)) t.nd) λx hx=>(ha x hx).fz.up (by simp+arith only))
   rw[e1,e2]at hth
   exact⟨⟨⟨kl (rF i) s fl st (xs.map λx=>x.t.nd),⟨ac,[.S tW,.S (eO s),.T (xs.map λx=>x.t.k.jm)],rF i⟩,_,_⟩,wn (rF i) s (xs.map λx=>x.pc),n,[wo s N]++rF i,mU N (xs.map fC.LO)⟩,ae,
    ⟨hth,hp,ho,⟨_,_,_,ae,ae,7+2*h,(Fz.str _).up (by simp+arith only),(show 7+2*h=6+2*h+1 from(cy ..))▸Fz.tup λv hv=>by
      refine aV (aQ.mp hv) λx hx e2_=>?_
      subst e2_
      exact dz x hx⟩,Ca hb,hz,λow=>rG.up (h:=6+2*h+1+1) (.tup (aO (rG.str.up (aE ..)) (aO (rG.str.up (aE ..)) (aO (.tup λv hv=>by
      refine aV (aQ.mp hv) λx hx e2_=>?_
      subst e2_
      exact(ha x hx).eq _) (aO (rE.up (by simp+arith only)) cz))))) (cn _),⟨_,ae,ae⟩⟩⟩
end
section
variable{H:List Row}{nd:MV}{kn:Nd}
theorem Ld(r:mL 3 L ac tr own)(hl:(bR L).length<=100000):∃p:MV,p.pure=ah/\(∀d U,Cd (d+19) 85 [.Y (bR L)] U=aa (p,U))/\(∀d U,Cd (d+18) 106 [.Y (bR L),p] U=aa (tr,U))/\(∀d U,Cd (d+5) 105 [p] U=aa (own,U)):=by
 refine wx (r (data:=bR L) (a:=0) jg.all (ao ‹_› (by decide)) 0 (by decide)) λc as vs h1 h2 h3 h4=>?_
 refine⟨_,h4.1,λd U=>?_,h2,h3⟩
 have:=h1 d []
 rw[eQ]at this
 exact aM (F:=YJ) ae ae ae (ca (aS (bk ae (bk ae (bk (iM ae ae) (bk ae (bk ae ae))))) this)) (fw h4)
theorem GZ(hp:p.pure=ah)(h1:∀d U,Cd (d+18) 106 [.Y m,p] U=aa (tr,U))(h2:∀d U,Cd (d+5) 105 [p] U=aa (own,U))(hb:∀d U,Cd (d+1) 89 [tr] U=aa (br,U))(hz:Fz 14 br)(hz2:Fz 14 own):Cd (d+19) 107 [.Y m,p] U=aa (.T [.S sy,br,own],U):=
 rp (d:=d+13) (h1 d []) (h2 (d+13) []) hb hp hz hz2 (by decide)
theorem Ek(h:F.length<=100):jO U .a (fb F) (.T [.T [.S [102,114,111,109],.Y [97,64,98]]])=aa (fb (F++[nf])):=by
 show E4 ((F.map λr=>MV.T [.S r.word,.Y r.jm])++[nf].map λr=>MV.T [.S r.word,.Y r.jm])=_
 refine ak (aZ bS) ?_
 unfold E4
 refine ak (ja (by rw[au,aj,aW];exact bG ‹_› (by decide))) ?_
 rfl
theorem Nj(h1:cC U v=aa x)(h2:cC U w=aa x)(e:rG 60 x):nV U .n v w=aa ac:=mp (bd h1 (bd h2 (e 60 (bj _)))) ae
theorem SQ(h1:cC U v=aa x)(h2:cC U w=aa x)(e:rG 60 x):nV U .e v w=aa ah:=bd h1 (bd h2 (e 60 (bj _)))
theorem QK(f:xC F):jZ (F++[nf,Cc])/\df (F++[nf,Cc])=ah/\dA (F++[nf,Cc])=F++[nf]:=by
 have hn:=f.n
 refine⟨⟨λr hr=>(bT.mp hr).elim (f.ok r) (mN (p:=λr:Row=>r.Ok) K7 (mN Nv nT) r),?_,AJ f.fr ae⟩,fH f.rw ae,?_⟩
 ·refine ak aj ?_
  show _+2<=10
  lia
 ·refine ak jQ (ak f.fF ?_)
  rfl
noncomputable abbrev VV(H:List Row)(nd:MV):MV:=.D [.S fO,.S ku,.S Gf,.S JS] [.S sy,.T [],fV H,nd]
noncomputable abbrev BH(H:List Row)(kn:Nd):MV:=.T [.S sy,kn.tree [],fb H]
theorem Hw(hF:kn.F=[])(hz:Fz 13 nd)(dz:Fz 12 (kn.tree []))(t:yi 3 n kn nd pc):Cd (d+6) 112 [VV (rF i) nd] U=aa (BH (rF i) kn,U):=by
 have hz1:Fz 14 (VV (rF i) nd):=.dD (aO ((Fz.str _).up (by decide)) (aO ((Fz.str _).up (by decide)) (aO ((Fz.str _).up (by decide)) (aO ((Fz.str _).up (by decide)) cz)))) (aO ((Fz.str _).up (by decide)) (aO (Fz.up (k:=1) (.tup (k:=0) cz) (by decide)) (aO (mc.up (by decide)) (aO hz cz))))
 have hz2:Fz 13 (BH (rF i) kn):=.tup (aO ((Fz.str _).up (by decide)) (aO dz (aO (iB.up (by decide)) cz)))
 have h1:=t.du d []
 have hdu:kn.jm=kn.tree []:=by unfold Nd.jm;exact ak hF ae
 rw[hdu]at h1
 exact aM (F:=Jn) ae (bY (aO hz1 cz)) ae (bb (rP (i:=0) ae ae) (mi (U1:=[]) ae (mi (U1:=[]) ae (ca (kE (bk ae (bk (aS (bk (c9 ae ae ae) ae) h1) (bk (rP (i:=i) ae ae) ae))) ae))))) (fw hz2)
theorem E2(f:xC H)(t:yi 3 n kn nd pc)(o:z8 3 kn nd pc R B):Cd (d+23) 104 [pc,objs H] U=aa (.Y (bR (aX ((H++[nA])++R)++[]::B)),U):=by
 have hln:=o.ln
 have hb:=Au (h:=3) (by decide)
 have hl1:=d6 (K:=aX R++[]::B) dN
 have hw:=Er (c:=d+12+3*3) (U:=[]) f t.fz (by lia) (aE ..) (o.bu d)
 refine aV t.dp λg hm hd=>?_
 have hn:=t.dh
 have hp:bI [pc,objs H]=ah:=bY (k:=11) (aO t.fz (aO (oH.up (by decide)) cz))
 have h3:Cd (d+22) 103 [pc,.I 20] []=aa (.N,[]):=
  yG (F:=SV) (U':=[]) (l':=[aa pc,aa (.I 20)]) ae (bY (k:=11) (aO t.fz (aO ((Fz.int _).up (by decide)) cz))) ae (mi (U1:=[]) (eZ (gp ae (hm []) ae (hd (d+17) [])) ae (congrArg aa (decide_eq_false λe=>by
   have:20<n:=bQ.mp e
   lia))) kc)
 exact aM (F:=SW) ae hp ae (oM (aS ae h3) (ca (aS ae hw))) ae
end
section
variable{kn:Nd}
theorem AG(h:v.pure=ah):cC U v=aa v:=by
 induction v using MV.casesOn with
 |R i=>exact ft h
 |_=>rfl
theorem Mw(h:iC C M G args l U=aa (vs,U1))(k:C f vs U1=aa (v,U2))(hc:CY v=ah):cm C M G (.l f ah args) l U=aa (.R U2.length,U2++[v]):=bd h (bd k (mt hc ae))
theorem Ry{ow:List Row}(s:On kn):kn.vX=ac->∃w x y,kn.Ut=[.S w,x,y]/\ ∀ow,kn.tree ow= .T [.S w,x,y,fb ow]:=λh=>by
 refine L1 s.sh λw x y h1 h2 h3=>?_
 refine rg w x y ⟨h1,λow=>?_⟩
 unfold Nd.tree
 refine ak h (ak h1 ?_)
 rfl
theorem M2{i d:Nat}{s nd:MV}{l:Loc}{w m:List Nat}{p:MV}(sh:On kn)(hF:kn.F=[])(so:fi [] nd (.S fO)=aa (.S w))(sw:bn w sy=kn.vX)(eq:∀ow,rG 12 (kn.tree ow))(hn:(rF i).length<=2)
  (l3:l[3]?=aa (aa nd)) (l5:l[5]?=aa (aa (BH (rF i) kn))) (l6:l[6]?=aa (aa (.Y m))) (l7:l[7]?=aa (aa p)) (hp:nd.pure=ah) (h106:Cd (d+30) 106 [.Y m,p] [s]=aa (kn.tree (rF i++[nf]),[s])):
  bh (cm (Cd (d+30)) (gg mT) gT (.a [.m .n (.x (.v 3) (.c (.S [115,111,114,116]))) (.c (.S [108,101,116,116,101,114])),.m .n (.l 106 ac [.v 6,.v 7]) (.b .a (.y (.x (.v 5) (.c (.I 1))) (.c .N) (.n (.c (.I 1)))) (.z [.b .a (.x (.v 5) (.c (.I 2))) (.z [.z [.c (.S [102,114,111,109]),.c (.Y [97,64,98])]])]))]) l [s])=aa (ac,[s]):=by
 have v3:cm (Cd (d+30)) (gg mT) gT (.v 3) l [s]=aa (nd,[s]):=nW l3
 have v5:cm (Cd (d+30)) (gg mT) gT (.v 5) l [s]=aa (BH (rF i) kn,[s]):=nW l5
 have v67:iC (Cd (d+30)) (gg mT) gT [.v 6,.v 7] l [s]=aa ([.Y m,p],[s]):=bk (nW l6) (bk (nW l7) ae)
 have so':fi [s] nd (.S fO)=aa (.S w):=by
  induction nd using MV.casesOn with
  |R i=>exact ft hp
  |_=>exact so
 have t1:∀{b:Bool},bn w sy=b->bh (cm (Cd (d+30)) (gg mT) gT (.m .n (.x (.v 3) (.c (.S [115,111,114,116]))) (.c (.S [108,101,116,116,101,114]))) l [s])=aa (!b,[s]):=λ{b} h=>eZ (c9 v3 ae so') ae (congrArg (λx=>aa (!x)) h)
 cases hl:kn.vX with
 |true=>exact LC (t1 (b:=ah) (sw.trans hl))
 |false=>
  refine FE (Ry (ow:=[]) sh hl) λw' x y h1 h2=>?_
  have e:=h2 []
  have ex:BH (rF i) kn= .T [.S sy,.T [.S w',x,y,fb []],fb (rF i)]:=by unfold BH;exact ak e ae
  rw[ex]at v5
  rw[h2]at h106
  have hq:=eq (rF i++[nf])
  rw[h2]at hq
  exact pF (t1 (b:=ac) (sw.trans hl)) (kY (eZ (aS v67 h106) (bq (vO (v:=.T [.S w',x,y]) (c9 v5 ae ae) ae ae ae) (kE (bk (bq (c9 v5 ae ae) ae (Ek (ao ‹_› (by decide)))) ae) ae) ae) (Nj ae ae (hq.up (by decide)))))
noncomputable def Te:List MS:=Qj.body.drop 3
theorem J8(a:FH 3 ah x)(hs:s.pure=ah):∃l',cp (Cd (d+30)) (gg mT) gT Te [aa ksV,aa (.R 0),aa (fV (rF i)),aa x.t.nd,ag,ag,ag,ag,ag,ag,ag] [s]=aa (.r (.B ah),l',[s]):=by
 have f:=xx i
 have hn:=f.n
 have hF:=a.ba ae
 refine aV a.so λw so sw=>?_
 have hb:=Au (h:=3) (by decide)
 have dz:=a.th.dz []
 have eq0:=a.eq []
 have hdu:x.t.k.jm=x.t.k.tree []:=by unfold Nd.jm;exact ak hF ae
 refine vf (QK f) λl1 l2 l3=>?_
 refine vf (wf f) λo1 o2 o3=>?_
 --the stranger's
 have hth:=a.th.ev 0 ac _ _ (by decide) ((pX (F:=rF i)).app ((RV.one (r:=nf) (ex:=[]) ae).app (RV.one (r:=Cc) (ex:=[]) ae))) l1.2.1 l2 (d+25) [s]
 have hrt:=(a.th.tx 0 ac (by decide)).2 _ l1
 rw[l3,hF,aG,a.th.fr,hF,aG]at hrt
 have htl:(bR (aX ((rF i++([nf]++[Cc]))++x.t.R 0 ac)++[]::x.t.B 0)).length<=100000:=by
  have h1:=a.th.ln 0 ac (by decide)
  have h2:=cx l2
  rw[aj]at h2
  have h3:=d6 (K:=aX ((rF i++([nf]++[Cc]))++x.t.R 0 ac)++[]::x.t.B 0) dN
  rw[mz,ay,cO]at h3
  replace h2:dB (aX (rF i++([nf]++[Cc])))<=120*((rF i).length+2):=h2
  refine ak mz (ak (ay ..) ?_)
  lia
 refine sB (Ld hrt htl) λp hp p1 p2 p3=>?_
 have h107:=GZ (U:=[s]) (d:=d+11) hp p2 p3 (a.sh.bare _) (dz.up (by decide)) (iB.up (by decide))
 --Ur own
 have hou:(bR (aX ((rF i++[nA])++x.R)++[]::x.B)).length<=100000:=by
  have h1:=a.ou.ln
  have h2:=cx o2
  rw[aj,aW]at h2
  have h3:=d6 (K:=aX ((rF i++[nA])++x.R)++[]::x.B) dN
  rw[mz,ay,cO]at h3
  refine ak mz (ak (ay ..) ?_)
  lia
 have hro:=(a.ou.tx ac).2 _ o1
 rw[o3,hF,aG,a.ou.fr hF,aG]at hro
 refine sB (Ld hro hou) λq hq q1 q2 q3=>?_
 have h107':=GZ (U:=[s]) (d:=d+11) hq q2 q3 (a.sh.bare _) (dz.up (by decide)) (iB.up (by decide))
 have hms:=E2 (d:=d+7) (U:=[s]) f a.pc a.ou
 have hlaw:=a.ou.Ur (rF i++[nA]) (by
  refine ak gf ?_
  have h2:=cx o2
  rw[aj,aW]at h2
  lia) (d+24) [s]
 rw[jR]at hlaw
 have hlH:=gf (rs:=rF i)
 have hlH2:=cx f.rw
 have e19:(cU [nA]).length=19:=ae
 have h114:=lD (d:=d+29) (U:=[s]) (pX (F:=rF i)) (.inr ae) (ao ‹_› (by decide)) (by lia)
 --the piece
 have hdue:=Hw (i:=i) (U:=[s]) (d:=d+24) hF a.fz dz a.pc
 have hpc:=a.pc.pv (d+24) [s]
 have hzl:Fz 15 (eY (rF 0) (rF i) 0 x.t.nd):=(rt (k:=10) a.fz).up (by decide)
 refine aV ((AX (i:=0) (fl:=0) f a.sh hF hzl dz a.pc).td) λg1 hg1 hg2=>?_
 refine aV a.pc.td λg3 hg3 hg4=>?_
 have hg2':=hg2 (d+20) [s]
 have hg4':=hg4 (d+21) [s]
 rw[hdu]at hg4'
 have hpz:Fz 12 (lE (rF i) x.pc):=.obj (aO (a.pc.fz) (aO (oH.up (by decide)) cz))
 have hbs:∀n,jG n [s]=ah:=λn=>iX n _ (by
  show(s.pure&&ah)=ah
  refine ak hs ?_
  rfl)
 have hnew:=wg (P:=P0) (G:=gT) (M:=gg mT) (d:=d+29) (U:=[s]) (f:=144) (F:=Qk) (c:=6) (args:=[x.pc,objs (rF i)]) (l1:=[aa (.R 1),aa x.pc,aa (objs (rF i))]) ae ae ae (fj (U:=[s]) ae ae ae ae (fj (U:=[s]) ae ae ae ae kc)) hpz (hbs _) (hbs _)
 have eqd:rG 60 (BH (rF i) x.t.k):=rG.up (h:=13) (.tup (aO (rG.str.up (by decide)) (aO eq0 (aO (rE.up (by decide)) cz)))) (by decide)
 have eqf:rG 60 (MV.T [.S sy,x.t.k.tree [],fb (rF i++[nf])]):=rG.up (h:=13) (.tup (aO (rG.str.up (by decide)) (aO eq0 (aO (rE.up (by decide)) cz)))) (by decide)
 refine⟨_,bb (v:=VV (rF i) x.t.nd) (AF ae ae ae ae) (bb (v:=BH (rF i) x.t.k) (aS ae hdue) (bb (aS (bk ae (bk (bq (iM ae ae) ae (wL (by
  show(CF _ (rF i)).length+2<=1000
  refine ak (au ..) ?_
  lia))) ae)) hth) (bb (aS ae (p1 (d+11) [s])) (mi (U1:=[s]) (eZ (aS ae h107) (kE (bk ae (bk (c9 ae ae ae) (bk (bq (c9 ae ae ae) ae (Ek (ao ‹_› (by decide)))) ae))) ae) (Nj ae ae eqf)) (mi (M2 a.sh hF so sw a.eq hn ae ae ae ae a.fz.1 (p2 (d+12) [s])) (bb (v:=x.pc) (aS ae hpc) (bb (v:=objs (rF i)) (uN (d:=d+29) ae (hbs _) (hbs _) (ao ‹_› (by decide)) (g:=λr=>[aa ksV,aa (.R 0),aa (fV (rF i)),aa x.t.nd,aa (VV (rF i) x.t.nd),aa (BH (rF i) x.t.k),aa (.Y (bR (aX ((rF i++([nf]++[Cc]))++x.t.R 0 ac)++[]::x.t.B 0))),aa p,aa x.pc,ag,ag,aa (.Y r.name),aa (.Y r.raw),aa (.Y r.jm)]) λr hr=>⟨ae,ae,ae⟩)
  (mi (U1:=[s]) (Ig (eZ (gp (pj ae hnew) (hg1 _) ae hg2') ae (Nj ae ae eqd)) (Bj (eZ (gp ae (hg3 _) ae hg4') (c9 ae ae ae) (Nj (AG dz.1) (AG dz.1) (eq0.up (by decide)))))) (bb (aS ae hms) (ca (OD (F2 ae (aS (bk ae (bk (bq (aS ae h114) ae (cB (y:=cU [nA]) (by refine ak aj ?_;lia))) ae)) hlaw) (SQ ae ae (rG.bytes.up (by decide)))) ae (Jb (F2 (aS (bk ae (bk (aS ae (q1 (d+11) [s])) ae)) h107') ae (SQ ae ae eqd))))))))))))))⟩
end
theorem plain:Om:=λks hk=>by
 refine gR (Lv hk) λcs p hp hs=>?_
 obtain⟨i,hi,p1,hp1,h1⟩:=iA (cs:=cs) (room:=8) (τ:=[]) hp (m:=4) (by decide) (by decide) ae
 obtain⟨nd,g,p2,room2,hp2,h2⟩:=Nl (cs:=cs) 3 0 ah (room:=8) (τ:=[]) ae hp1 ae
 refine aV (PT g (by decide)) λx e1_ a=>?_
 subst e1_
 refine ee (J8 (s:=p2.v cs room2) (ksV:=.L (ks.map MV.I)) (i:=i) (d:=0) a vg.pure) λl' ht=>?_
 have hpu:bI [.L (ks.map MV.I)]=ah:=by
  show(bI (ks.map MV.I)&&ah)=ah
  refine ak (nc λv hv=>by
   refine aV (aQ.mp hv) λx u e2_=>?_
   subst e2_
   rfl) ?_
  rfl
 exact gu 31 [] ⟨by decide,aM (F:=Qj) (v:=.B ah) (U':=[p2.v cs room2]) ae hpu ae (bb (Mw ae (hs _ _) ae) (bb (c9 ae (aS ae (h1 29)) (JH hi)) (bb (aS ae (h2 25)) ht))) ae⟩
theorem done:ic.Holds:=JP plain
end Mine
theorem PySem.Challenge.cw_pq0959_01_holds : PySem.Challenge.rw_pq0959_01.Holds :=
  Mine.done
