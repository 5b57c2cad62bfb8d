import PyProof.Rows.All
import KE.KSortAsk
import Wide.All
import OpenK.AllK
import Wide.FinOn
import PyProof.FactsAll.tuple
import PyProof.FactsAll.tuple_2
import PyProof.StrLoop
import PyProof.Cells
import PyProof.WalksPairs
import PyProof.WalksMore
import PyProof.StrWalks
import PyProof.CompFree
import PyProof.DictDisplay
import PyProof.DictStraight
import PyProof.LetGo
import PyProof.SliceSyntax
import PyProof.Rows.Chain
import Lean
import PySem.Challenge.RW_hb0001_01
set_option Elab.async false
set_option autoImplicit false
set_option maxRecDepth 1000000
set_option maxHeartbeats 0
set_option linter.all false
noncomputable section
open Array renaming any_toList→Qg,find?_toList→Qh,forIn_toList→Qi,getElem?_toList→vW,length_toList→yv,mem_toList_iff→Qj,toList_inj→BW,toList_push→Ht
open Bool renaming and_eq_true→jX,and_eq_true_iff→dF,and_false→Qp,and_true→vY,eq_false_iff→rX,false_eq_true→Hv,false_ne_true→mM,false_or→Qq,noConfusion→jw,not_eq_true'→tI,not_inj→Qr,or_eq_false_iff→Qs,or_eq_true_iff→BZ,rec→Qt
open Classical renaming byCases→r2,em→f9
open Eq renaming symm→B1,trans→v2
open False renaming elim→HF
open ForInStep renaming yield→kV
open Int renaming add_sub_cancel→QK,eq_ofNat_of_zero_le→B3,lt_of_lt_of_le→QL,natCast_nonneg→yy,natCast_pos→QM,ne_of_gt→QN,ofNat_le→QO,ofNat_lt→B4,toNat→HK
open Int.ofNat renaming inj→tK
open List renaming all_eq_true→g',all_toArray→QR,any_eq_false→QS,append_assoc→jy,append_cons→mP,append_nil→eZ,cons→QT,drop_eq_nil_iff→QV,eq_nil_of_length_eq_zero→HO,ext_getElem→HP,filter→QW,filterMap→QX,filter_append→r3,filter_congr→HQ,filter_cons→QY,filter_cons_of_neg→B8,filter_cons_of_pos→B9,filter_eq_nil_iff→tO,filter_eq_self→B',filter_map→QZ,find?_cons_of_neg→HR,find?_cons_of_pos→HS,foldl→HT,forIn_cons→HU,forall_mem_cons→yB,getD_eq_getElem?_getD→jz,getElem?_append_left→qR,getElem?_append_right→yC,getElem?_concat_length→HV,getElem?_cons_succ→Q0,getElem?_cons_zero→yD,getElem?_eq_getElem→h2,getElem?_eq_none→Ca,getElem?_eq_none_iff→yE,getElem?_eq_some_iff→jZ,getElem?_inj→Cb,getElem?_map→qS,getElem?_range→yF,getElem?_replicate→HW,getElem?_set→Q1,getElem?_set_ne→tP,getElem?_set_self→yG,getElem?_toArray→HX,getElem_map→HY,getElem_mem→yH,getElem_range→HZ,isEmpty_iff→Cc,isEmpty_map→Q2,length→f',length_append→fh,length_filter_le→H0,length_map→cG,length_range→gB,length_range'→Q3,length_replicate→Cd,length_set→H1,length_singleton→Q4,length_take→H2,length_zip→Q5,lookup→yI,lookup_append→yJ,lookup_cons→l1,lookup_cons_self→H3,map→eB,map_append→nF,map_congr_left→pS,map_cons→oN,map_id→Q6,map_map→tQ,map_reverse→Q7,map_take→Q8,mem_append→nG,mem_append_left→oO,mem_append_right→wb,mem_cons→kh,mem_filter→oP,mem_iff_getElem→H4,mem_map→hu,mem_of_getElem?→h3,mem_range→ga,mem_reverse→Q9,mem_singleton→jA,nil_append→H5,nodup_append→Ce,nodup_cons→nH,nodup_nil→Cf,nodup_range→wc,of_mem_zip→H6,pairwise_map→tR,range→ck,range'→pT,range_eq_range'→Cg,range_succ→Ch,replicate→dx,replicate_succ→Q',reverse_append→Ra,reverse_cons→Rb,reverse_replicate→H7,set→yK,set_append_right→H8,size_toArray→yL,take_length→Rc,take_of_length_le→Rd,zipIdx_cons→Re,zip_cons_cons→yM
open List.Pairwise renaming imp→ags,nil→agt
open List.Sublist renaming filter→agu,length_le→agv,map→agw
open List.cons renaming inj→B7,injEq→QU
open Nat renaming add_assoc→mQ,add_comm→qT,add_le_add→hv,add_le_add_left→fB,add_le_add_right→hb,add_left_cancel→H9,add_lt_add_of_lt_of_le→r6,add_lt_add_right→nI,add_right_comm→pV,add_sub_cancel→Ri,add_sub_cancel_left→wd,add_sub_of_le→Rj,add_zero→Rk,beq→kj,ble→kk,blt→H',casesOn→Rl,decEq→Rm,le_add_left→iI,le_add_left_of_le→Ia,le_add_right→d2,le_antisymm→Rn,le_of_ble_eq_true→aE,le_of_eq→dh,le_of_lt→h4,le_of_lt_succ→ls,le_of_not_lt→Ro,le_of_succ_le→yN,le_of_succ_le_succ→Ib,le_refl→cJ,le_succ→h5,le_succ_of_le→lu,le_trans→a',lt_irrefl→oR,lt_of_le_of_lt→cn,lt_of_lt_of_eq→Rp,lt_of_lt_of_le→fa,lt_of_succ_lt→mR,lt_of_succ_lt_succ→Rq,lt_or_ge→Co,lt_succ_iff_lt_or_eq→Rr,lt_succ_of_le→pW,lt_succ_of_lt→pX,lt_succ_self→qU,lt_trans→fi,mod_lt→tU,mul_le_mul_left→gU,ne_of_beq_eq_false→tV,ne_of_gt→Cp,ne_of_lt→mS,not_le_of_lt→Cq,not_lt→r7,not_lt_of_le→Rs,not_lt_zero→yO,one_ne_zero→Rt,sub_add_cancel→Cr,sub_add_sub_cancel→Ru,sub_le→nJ,sub_lt→Cs,sub_self→r8,sub_sub→Ic,sub_sub_self→r9,sub_succ_lt_self→Rv,succ→l2,succ_add→Rw,succ_add_eq_add_succ→jB,succ_le_succ→gq,succ_lt_succ→Rx,succ_ne_zero→Ry,zero_add→jj,zero_le→fu,zero_lt_succ→Rz,zero_ne_one→Ct
open Nat.succ renaming inj→oS
open Ne renaming symm→Ie
open Option renaming bind_eq_some_iff→yP,eq_none_iff_forall_ne_some→we,getD→Cw,getD_some→RA,isNone→RB,isNone_iff_eq_none→Cx,isSome→pY,isSome_iff_exists→oT,map→qV,map_eq_some_iff→l3,or_none→RC
open Option.some renaming inj→ej,injEq→yQ
open Prod renaming fst→If
open PyProof.Rows renaming IntsAre→Cy,envOfC→Cz,get?_update_seq→RF,len_list→agx,len_tuple→agy,listUpdate_at→Ig,seqEpoch_at→Ih,seqObj→iZ
open PySem renaming Addr→a8,Around→eC,BoolOp→CA,Comprehension→RH,Const→l5,DictEntry→mT,Env→eg,Expr→bn,FuncData→ID,Heap→dD,IsPart→wh,IsTupleKey→IH,NameKind→mV,Obj→fQ,Operator→yS,OsState→h6,Params→gr,Pos→hd,Program→lx,PyData→yT,Reads→t0,ReadsAll→yU,Result→yV,Scope→gc,Sem→il,Shared→a2,Stmt→fv,Str→aL,SubscriptOn→wj,Tok→i0,Value→au,World→ez,arm_eval_BoolOp→R3,assignEach→t3,assignInOrder→R4,attributeBase→I0,backTo→kX,behindInMarks→I1,binaryOp→I2,bindArgs→I3,bindC→yX,bindL→wn,boolOp→yY,builtinsNs→yZ,cLine→kY,callEnvC→nM,callWith→y0,call_meets→CJ,cellsFrom→y1,codeAny→t4,compareOp→t5,eqIsQuiet→y2,evalEach→I4,findBy→CK,foldedSetIterable→CL,getItem→t6,getMethod→y3,getMethod_builtin→R5,importedModules→CM,intKind→gs,intKind_is→p4,letOwnedTupleGo→CN,mainGlobals→kZ,methodCallPos→R6,model→bc,notedBy→wo,recursionLimit→CO,reduceHash→I5,relabel→wp,seqIndex?→wq,seqSlot_of→R7,sizeLine_eq→lz,slicePick→sc,slicePicked→I6,spliced→sd,standAt→CP,starEach→j1,stored→CQ,strKind_is→I7,swapsWith→y4,sysModules→k0,treeTable→t7,truthy→y5,typeIs_int→CR,wpAny→bg,wpAny_BinOp→I8,wpAny_Call_Name_kw→se,wpAny_Constant_int→I9,wpAny_Constant_str→R8,wpAny_Slice→I',wpAny_UnaryOp→R9,wpAny_assign_Name→R',wpAny_binaryOp_repeat_ref→Sa,wpAny_bind→cK,wpAny_call→Ja,wpAny_call_entry→Sb,wpAny_eqBool_int→Sc,wpAny_execs_nil→Jb,wpAny_forIn_list→Sd,wpAny_getItem_list_slice→Se,wpAny_getItem_of→Jc,wpAny_holding→sf,wpAny_isTrue_BoolOp→Sf,wpAny_items_cons→Jd,wpAny_items_nil→Sg,wpAny_letTemporaryGo→Sh,wpAny_loadPart→Si,wpAny_mono→fb,wpAny_newList→Je,wpAny_pure→eH,wpAny_setItem_pairs→Sj,wpAny_specialOf→CS,wpAny_standAt→sg,wpAny_truthy_bool→Sk
open PySem.Calls renaming Name_function_global→RG
open PySem.Challenge renaming pw_hb0001_01→agz,rw_hb0001_01→qW
open PySem.Const.bool renaming elim→Ii
open PySem.Const.int renaming elim→Ij
open PySem.Const.str renaming elim→Ik
open PySem.Data.dict renaming elim→Il
open PySem.Expr renaming ListComp→RI
open PySem.Expr.Attribute renaming elim→Im
open PySem.Expr.BinOp renaming elim→Io
open PySem.Expr.BoolOp renaming elim→Ip
open PySem.Expr.Call renaming elim→Iq
open PySem.Expr.Compare renaming elim→Ir
open PySem.Expr.Constant renaming elim→Is
open PySem.Expr.Dict renaming elim→It
open PySem.Expr.IfExp renaming elim→Iu
open PySem.Expr.List renaming elim→Iv
open PySem.Expr.ListComp renaming elim→Iw
open PySem.Expr.Name renaming elim→CB
open PySem.Expr.Slice renaming elim→Ix
open PySem.Expr.Subscript renaming elim→Iy
open PySem.Expr.Tuple renaming elim→CC
open PySem.Expr.UnaryOp renaming elim→Iz
open PySem.F renaming args_dict_get_3→RJ,args_int_rmul_2→RK,entry_dict_get→RL,entry_int_rmul→RM,fills_int_mul→RN,slot_dict_get→IA,slot_int_index→RO,slot_int_rmul→CD,slot_list_getitem→IB,slot_str_getitem→RP,slot_tuple_mul→IC,slot_tuple_rmul→RQ
open PySem.Heap renaming SameBut→tY,get?_push_of_some→lv,get?_push_size→nK,get?_update_self→IG,lt_size→mU,size_push→RR
open PySem.Heap.IsSliceOf renaming new→IE
open PySem.Heap.SameBut renaming update→IF
open PySem.IsRange renaming new→RS
open PySem.NameKind renaming free→tZ
open PySem.Obj renaming data→II,mapSeq→mW,putName→IJ,putNameByArray→CE,putName_eq→CF
open PySem.PyData renaming canLayAll0→RT,eqv→iK,eqvAll→IK,keyHash→wi,strOk→RU,tuple→RV
open PySem.ReadsAll renaming cons→RW
open PySem.SeqAt.RcNeAt renaming lists→agA,lists_lengths→agB
open PySem.Stmt.Assign renaming elim→IL
open PySem.Stmt.AugAssign renaming elim→IM
open PySem.Stmt.Expr renaming elim→IN
open PySem.Stmt.For renaming elim→IP
open PySem.Stmt.If renaming elim→IQ
open PySem.Stmt.Return renaming elim→IR
open PySem.Stmt.While renaming elim→IS
open PySem.Str renaming append→RX,ofString→IT
open PySem.StrLaws renaming sliceIdx_none_lo→RY,strSliceIndices_plain→RZ
open PySem.Value renaming int→qX,type→CG
open PySem.Value.int renaming elim→IU
open PySem.Value.ref renaming elim→IV,inj→IW
open PySem.W renaming Frag→kl,KasT→IX,boot_heap→t1,cellsFrom_some→IY,dictOf→p2,emptyDict→ly,findIn→oU,instObj→nL,kas_sort→CI,keepIn→yW,looks_pair→p3,looseW→wk,nsIn→qY,piece_app→sa,plainGet_of→IZ,segRun_of→sb,topFrame→t2,typeIn→wm
open PySem.W.Fast renaming te10110043849684766642→agC,te10880121769531294198→agD,te10994771534591457954→agE,te11698064438423848299→agF,te11892475500146522536→agG,te13664370479719496447→agH,te14082659384304107361→agI,te14364793385576792824→CH,te14374325043358763698→agJ,te14722251495701143533→agK,te15667345088766844465→agL,te16090120013241838585→agM,te2386780881361962483→agN,te3247288618530077131→agO,te3399658132070893891→R0,te479339242167458305→agP,te5160383126252970620→agQ,te5923862056798008813→R1,te5991557255702980513→agR,te7317090234206586261→agS,te7369524293546568484→agT,te7409074990110511671→agU,te821141287760084731→R2,te9446332074065402090→agV,tw10110043849684766642→agW,tw14364793385576792824→agX
open _root_ renaming Array→gS,BEq→nA,Bool→av,Decidable→v1,DecidableEq→jx,DecidablePred→qM,Int→am,LawfulBEq→oM,List→B,Nat→C,Option→Y,String→wt,Unit→p6,beq_eq_false_iff_ne→ma,beq_iff_eq→jl,beq_self_eq_true→lE,bne_iff_ne→p8,bne_self_eq_false→J1,congrArg→an,decide_eq_decide→q9,decide_eq_false→j3,decide_eq_true→iO,decide_eq_true_eq→zF,decide_eq_true_iff→Vf,if_false→EB,of_decide_eq_true→gi
section
namespace Mine
inductive D where
 |nn
 |cj (b:av)
 |ii (i:am)
 |ss (s:B C)
 |tup (l:B D)
 |ew (lo ay:am)
 |cd (O:B (am×am))
 |ref (z:C)
 |fw (l:B am)
noncomputable abbrev gT:=B (am ⊕ B am)
inductive a0 where
 |li (xs:B D)
 |cq (O:B (am×D))
 |ds (O:B (B C×D))
 |h' (O:B (gT×D))
 |bF (c:C) (aG:B (C×D))
noncomputable abbrev St:=B a0
noncomputable abbrev aX:=B (Y D)
noncomputable abbrev dC:=D→St→Prop
noncomputable abbrev iX:=aX→St→Prop
inductive iU where|add|sub|mul|mod|band|bor|bxor
inductive jg where|eq|ne|lt|le|gt|ge|is|pk|my
inductive HD where|i|s|t
set_option genSizeOf false
set_option genInjectivity false
mutual
inductive ab where
 |nn|cj (b:av)|ii (i:am)|ss (s:B C)
 |v (x:C)
 |gl (name:B C) (val:D)
 |bin (op:iU) (a b:ab)
 |qA (a b:ab)|pE (a b:ab)
 |neg (a:ab)
 |and (O:d6)|or (O:d6)
 |cmp (op:jg) (a b:ab)
 |ite (t:T) (a b:ab)
 |tup (O:d6)|lst (O:d6)
 |m4 (ks:B (B C)) (ar:d6)
 |pa (ks:B am) (ar:d6)
 |eQ (k:HD)
 |at(a:ab) (f:C)
 |aq (a i:ab)
 |lk (a lo:ab)|mF (a ay:ab)|rev (a:ab)
 |comp (b7:ab) (xs:B C) (many:av) (bb:ab) (eo:fc)
 |call (f:C) (b6:d6)
 |new (c:C) (b6:d6)
 |hj (o:ab) (m:C) (b6:d6)
 |len (a:ab)|jc (a:ab)|sorted (a:ab)|strOf (a:ab)
 |gQ (a:ab)|pF (a b:ab)
 |append (o x:ab)
 |m3 (o k d:ab)
 |bad
inductive d6 where
 |nil
 |cons (e:ab) (r:d6)
inductive T where
 |e (a:ab)
 |g4 (t:T)
 |and (bE:fc)|or (bE:fc)
 |cmp (op:jg) (a b:ab)
inductive fc where
 |nil
 |cons (t:T) (r:fc)
end
mutual
inductive S where
 |asg (x:C) (e:ab)
 |o1 (xs:B C) (e:ab)
 |cc (o:ab) (f:C) (e:ab)
 |gJ (o i:ab) (e:ab)
 |aug (x:C) (op:iU) (e:ab)
 |o3 (o:ab) (f:C) (op:iU) (e:ab)
 |o4 (o i:ab) (op:iU) (e:ab)
 |ex (e:ab)
 |ret (e:ab)
 |mD
 |b4 (t:T) (a b:bk)
 |pL (t:T) (b:bk)
 |dd (xs:B C) (many:av) (bb:ab) (b:bk)
 |bad
inductive bk where
 |nil
 |cons (s:S) (r:bk)
end
set_option genSizeOf true
set_option genInjectivity true
structure oL where
 np:C
 nl:C
 names:B (B C)
 body:bk
structure iY where
 fns:C→Y oL
 pv:C→C→Y C
 i6:C→Y C
 fld:C→C→av
noncomputable def et{α:Type}:Y α→(α→Prop)→Prop
 |some a,k=>k a
 |none,_=>False
noncomputable def small(i:am):Bool:=decide (-(2:am)^62<i)&&decide (i< (2:am)^62)
noncomputable def su(f:C→C→am)(a b:am):Y Int:=if 0≤a∧0≤b then some (f a.toNat b.toNat)else none
noncomputable def jO{α:Type}(f:am→Y α):D→Y α
 | .ii i=>f i
 |_=>none
noncomputable def yc{α:Type}(f:B C→Y α):D→Y α
 | .ss i=>f i
 |_=>none
noncomputable def Jp(a:D):D→Y D
 | .ii j=>jO (λ i=>some (.ii (i+j))) a
 | .ss t=>yc (λ s=>if s.length+t.length≤100000 then some (.ss (s++t))else none) a
 |_=>none
noncomputable def kC{α:Type}(f:am→am→Y α)(a b:D):Y α:=jO (λ i=>jO (f i) b) a
noncomputable def AH(i j:am):Y D:=if small i&&small j then some (.ii (i*j))else none
noncomputable def fH(op:iU)(a b:D):Y D:=match op with
 | .add=>Jp a b
 | .sub=>kC (λ i j=>some (.ii (i-j))) a b
 | .mul=>kC AH a b
 | .mod=>kC (λ i j=>if j=0 then none else some (.ii (i.fmod j))) a b
 | .band=>kC (λ i j=>(su (λ x y=>((x&&& y:C):am)) i j).map .ii) a b
 | .bor=>kC (λ i j=>(su (λ x y=>((x|||y:C):am)) i j).map .ii) a b
 | .bxor=>kC (λ i j=>(su (λ x y=>((x|||y:C):am)- ((x&&& y:C):am)) i j).map .ii) a b
noncomputable def vf(s:B C):Bool:=decide (s.length≤100)&&s.all (decide<|· <128)
noncomputable def eL(n:St):C→D→av
 |_,.ii _=>true
 |_,.ss s=>vf s
 |z+1,.tup l=>l.all (eL n z)
 |z+1,.ref a=>match n[a]? with
  |some (.li xs)=>xs.all (eL n z)
  |_=>false
 |_,_=>false
noncomputable def k6(f:D→D→av):B D→B D→av
 | [],[]=>true
 |x::xs,y::bf=>f x y&&k6 f xs bf
 |_,_=>false
noncomputable def fJ(n:St):C→D→D→av
 |_,.ii a,.ii b=>decide (a=b)
 |_,.ss a,.ss b=>decide (a=b)
 |z+1,.tup a,.tup b=>k6 (fJ n z) a b
 |z+1,.ref a,.ref b=>match n[a]?,n[b]? with
  |some (.li xs),some (.li bf)=>k6 (fJ n z) xs bf
  |_,_=>false
 |_,_,_=>false
noncomputable def m5(z:C)(n:St)(a b:D):Y Bool:=if eL n z a&&eL n z b then some (fJ n z a b)else none
noncomputable def xg(n:St)(k:D)(l:B D):Y Bool:=if l.all (eL n 2)&&eL n 2 k then some (l.any λ x=>fJ n 2 x k)else none
noncomputable def Al(n:St)(k:D):D→Y av
 | .tup l=>xg n k l
 | .ref z=>match n[z]? with
  |some (.li xs)=>xg n k xs
  |some (.cq O)=>jO (λ i=>some (O.lookup i).isSome) k
  |_=>none
 | .cd O=>jO (λ i=>some (O.lookup i).isSome) k
 |_=>none
noncomputable def kD(op:iU)(a b:D):Y D:=match op with
 | .add=>kC (λ i j=>some (.ii (i+j))) a b
 | .sub=>kC (λ i j=>some (.ii (i-j))) a b
 | .bor=>kC (λ i j=>(su (λ x y=>((x|||y:C):am)) i j).map .ii) a b
 |_=>none
noncomputable def s1(n:St):D→D→Y av
 | .ref m,.ref z=>match n[m]?,n[z]? with
  |some (.li xs),some (.li [])=>some (!xs.isEmpty)
  |_,_=>none
 |_,_=>none
noncomputable def abg(n:St)(a b:D):Y Bool:=match s1 n a b with
 |some r=>some r
 |none=>(m5 4 n a b).map (!·)
noncomputable def Y6:D→Y av
 | .nn=>some true
 | .tup _=>some false
 | .ref _=>some false
 |_=>none
noncomputable def Mh(a:D):D→Y av
 | .nn=>Y6 a
 |_=>none
noncomputable def cY(op:jg)(a b:D)(n:St):Y Bool:=
 match op with
 | .eq=>m5 4 n a b
 | .ne=>abg n a b
 | .lt=>kC (λ i j=>some (decide (i<j))) a b
 | .le=>kC (λ i j=>some (decide (i≤j))) a b
 | .gt=>kC (λ i j=>some (decide (j<i))) a b
 | .ge=>kC (λ i j=>some (decide (j≤i))) a b
 | .is=>Mh a b
 | .pk=>Al n a b
 | .my=>(Al n a b).map (!·)
noncomputable def ig(n:St):D→Y av
 | .cj b=>some b
 | .ii i=>some (decide (i≠0))
 | .ref z=>match n[z]? with
  |some (.li xs)=>some (!xs.isEmpty)
  |_=>none
 |_=>none
noncomputable def room:Nat:=1000000
noncomputable def n4{α:Type}(l:B α)(i:am):Y α:=
 if 0≤i then l[i.toNat]? else if 0≤i+l.length then l[(i+l.length).toNat]? else none
noncomputable def rj(k:D):Y a0→Y D
 |some (.li xs)=>jO (n4 xs) k
 |some (.ds O)=>yc (λ s=>O.lookup s) k
 |some (.cq O)=>jO (λ i=>O.lookup i) k
 |_=>none
noncomputable def de(n:St)(a k:D):Y D:=
 match a with
 | .tup l=>jO (λ i=>if l.length≤room then n4 l i else none) k
 | .ss s=>jO (λ i=>if s.length≤room∧0≤i then(n4 s i).map λ c=>.ss [c]else none) k
 | .cd O=>jO (λ i=>(O.lookup i).map .ii) k
 | .ref z=>rj k n[z]?
 |_=>none
noncomputable def c8{dn:Type}[nA dn](O:B (dn×D))(k:dn)(v:D):B (dn×D):=
 if(O.lookup k).isSome then O.map λ e=>if e.1==k then(e.1,v)else e else O++[(k,v)]
noncomputable def vJ:B D→Y (B am)
 | []=>some []
 | .ii i::r=>(vJ r).map (i::·)
 |_::_=>none
noncomputable def vK:B D→Y gT
 | []=>some []
 | .ii i::r=>(vK r).map (.inl i::·)
 | .tup l::r=>(vJ l).bind λ is=>(vK r).map (.inr is::·)
 |_::_=>none
noncomputable def Bw:D→Y gT
 | .tup l=>vK l
 |_=>none
noncomputable def rL(n:St)(z:C)(k v:D):Y a0→Y St
 |some (.ds O)=>yc (λ s=>if O.length<room then some (n.set z (.ds (c8 O s v)))else none) k
 |some (.cq O)=>jO (λ i=>if O.length<room then some (n.set z (.cq (c8 O i v)))else none) k
 |some (.h' O)=>(Bw k).bind λ k=>if O.length<room then some (n.set z (.h' (c8 O k v)))else none
 |_=>none
noncomputable def Go(n:St)(z:C)(k v:D):Y St:=rL n z k v n[z]?
noncomputable def w1(k d:D):Y a0→Y D
 |some (.cq O)=>jO (λ i=>some ((O.lookup i).getD d)) k
 |some (.h' O)=>(Bw k).bind λ k=>some ((O.lookup k).getD d)
 |_=>none
noncomputable def uD(n:St)(a k d:D):Y D:=
 match a with
 | .cd O=>jO (λ i=>some (((O.lookup i).map .ii).getD d)) k
 | .ref z=>w1 k d n[z]?
 |_=>none
noncomputable def Ao(n:St)(z:C):Bool:=match n[z]? with
 |some (.li _)=>true
 |_=>false
noncomputable def rh(n:St):D→av
 | .cd _=>true
 | .ref z=>match n[z]? with
  |some (.cq _)|some (.h' _)=>true
  |_=>false
 |_=>false
noncomputable def sp(f:C):Y a0→Y D
 |some (.bF _ aG)=>aG.lookup f
 |_=>none
noncomputable def d7(n:St)(v:D)(f:C):Y D:=
 match v with
 | .ref z=>sp f n[z]?
 |_=>none
noncomputable def lj(P:iY)(n:St)(v:D)(f:C)(x:D):Y St:=
 match v with
 | .ref z=>match n[z]? with
  |some (.bF c aG)=>if P.fld c f=true∧aG.length<200 then some (n.set z (.bF c (c8 aG f x)))else none
  |_=>none
 |_=>none
noncomputable def zG(i:am):Y (B C):=if 0≤i∧i<10 then some [48+i.toNat]else none
noncomputable def lb(n:St):D→Y am
 | .tup l=>if l.length≤room then some l.length else none
 | .ref z=>match n[z]? with
  |some (.li xs)=>some xs.length
  |_=>none
 |_=>none
noncomputable def upTo(lo:am):C→B D
 |0=>[]
 |z+1=>.ii lo::upTo (lo+1) z
noncomputable def hR(n:St):D→Y (B D)
 | .tup l=>some l
 | .ss s=>if s.all (decide<|· <128)then some (s.map λ c=>.ss [c])else none
 | .ew lo ay=>if small lo&&small ay then some (upTo lo (ay-lo).toNat)else none
 | .ref z=>match n[z]? with
  |some (.li xs)=>some xs
  |_=>none
 |_=>none
noncomputable def live(a:D)(l:B D)(n:St):Prop:=
 match a with
 | .ref z=>n[z]? =some (.li l)
 |_=>True
noncomputable def iR(env:aX)(x:C)(v:D):aX:=env.set x (some v)
noncomputable def ti(env:aX):B C→B D→Y aX
 | [],[]=>some env
 |x::xs,v::ar=>ti (iR env x v) xs ar
 |_,_=>none
noncomputable def di(many:av)(xs:B C)(v:D)(env:aX):Y aX:=
 match many,xs,v with
 |false,[x],v=>some (iR env x v)
 |true,xs,.tup l=>ti env xs l
 |_,_,_=>none
noncomputable def E3:D→D→av
 | .tup [.ii a,.ii b],.tup [.ii c,.ii d]=>decide (a<c)||(decide (a=c)&&decide (b<d))
 |_,_=>false
noncomputable def m':D→av
 | .tup [.ii _,.ii _]=>true
 |_=>false
noncomputable def oc{α:Type}(f:C→C→av)(z:C):IX α→Y α
 | .ret a=>some a
 | .ask i j k=>if i<z∧j<z then oc f z (k (f i j))else none
noncomputable def pJ(xs:B D):Y (B D):=
 if xs.length<2 then some xs else(oc (λ i j=>E3 (xs.getD i .nn) (xs.getD j .nn)) xs.length (CI xs.length)).map λ p=>p.toList.map λ i=>xs.getD i .nn
noncomputable def x1:D→D→Y D
 | .tup [x],.ii z=>if z=1 then some (.tup [x])else none
 |_,_=>none
noncomputable def vs(n:St):D→D→Y (B D)
 | .ref m,.ii z=>match n[m]? with
  |some (.li [x])=>if 0≤z∧z<1000 then some (dx z.toNat x)else none
  |_=>none
 |_,_=>none
noncomputable def xG:D→Y D
 | .ii i=>some (.ii (-i))
 |_=>none
noncomputable def uZ(n:St):D→Y (B D)
 | .ref m=>match n[m]? with
  |some (.li xs)=>some xs
  |_=>none
 |_=>none
noncomputable def uw(n:St):D→D→Y (B D)
 | .ref m,.ii z=>match n[m]? with
  |some (.li xs)=>if 0≤z∧z<1000 then some (xs.drop z.toNat)else none
  |_=>none
 |_,_=>none
noncomputable def rR(n:St):D→D→Y (D ⊕ B D)
 | .ref m,.ii z=>match n[m]? with
  |some (.li xs)=>if 0≤z∧z<1000 then some (.inr (xs.take z.toNat))else none
  |_=>none
 | .ss s,.ii z=>if 0≤z∧z<1000∧s.length≤1000 then some (.inl (.ss (s.take z.toNat)))else none
 | .fw l,.ii z=>if 0≤z∧z<1000∧l.length≤1000 then some (.inr ((l.take z.toNat).map .ii))else none
 |_,_=>none
noncomputable def s0(n:St):D ⊕ B D→D×St
 | .inl v=>(v,n)
 | .inr l=>(.ref n.length,n++[.li l])
noncomputable def mu(P:iY)(n:St)(m:C):D→Y C
 | .ref z=>match n[z]? with
  |some (.bF c aG)=>if(aG.lookup m).isNone then P.pv c m else none
  |_=>none
 |_=>none
noncomputable def rO(n:St):D→Y D
 | .ref m=>match n[m]? with
  |some (.li xs)=>some (.tup xs)
  |_=>none
 | .tup l=>some (.tup l)
 |_=>none
noncomputable def vD(n:St):D→Y (B D)
 | .ref m=>match n[m]? with
  |some (.li xs)=>if xs.length<64∧xs.all m'=true then(pJ xs).bind λ bf=>if bf.length<64 then some bf else none else none
  |_=>none
 |_=>none
noncomputable def yg:D→Y D
 | .ii i=>(zG i).map .ss
 |_=>none
noncomputable def ov:D→Y D
 | .ii z=>if small z=true then some (.ew 0 z)else none
 |_=>none
noncomputable def vx:D→D→Y D
 | .ii lo,.ii ay=>if small lo=true∧small ay=true then some (.ew lo ay)else none
 |_,_=>none
noncomputable def l8(n:St):D→D→Y St
 | .ref z,v=>match n[z]? with
  |some (.li xs)=>if xs.length<room then some (n.set z (.li (xs++[v])))else none
  |_=>none
 |_,_=>none
noncomputable def ml(n:St):D→av
 | .ref z=>Ao n z
 |_=>false
noncomputable def j'(n:St):D→D→D→Y St
 | .ref z,k,v=>Go n z k v
 |_,_,_=>none
noncomputable def vv(n:St):D→D→Y D
 | .ref z,k=>de n (.ref z) k
 |_,_=>none
section
variable(P:iY)(V:C→B D→dC→St→Prop)
noncomputable def o'(dr:St→Prop)(step:D→(B D→St→Prop)→St→Prop):B D→B D→(B D→St→Prop)→St→Prop
 | [],acc,Q,n=>dr n∧Q acc n
 |x::r,acc,Q,n=>dr n∧step x (λ out J=>o' dr step r (acc++out) Q J) n
mutual
noncomputable def dj:ab→aX→dC→St→Prop
 | .nn,_,Q,n=>Q .nn n
 | .cj b,_,Q,n=>Q (.cj b) n
 | .ii i,_,Q,n=>Q (.ii i) n
 | .ss s,_,Q,n=>Q (.ss s) n
 | .v x,env,Q,n=>et (env[x]?.join) λ a=>Q a n
 | .gl _ val,_,Q,n=>Q val n
 | .bin op a b,env,Q,n=>dj a env (λ db aa=>dj b env (λ gH ao=>et (fH op db gH) λ r=>Q r ao) aa) n
 | .qA a b,env,Q,n=>dj a env (λ db aa=>dj b env (λ gH ao=>et (x1 db gH) λ r=>Q r ao) aa) n
 | .pE a b,env,Q,n=>dj a env (λ db aa=>dj b env (λ gH ao=>et (vs ao db gH) λ r=>Q (.ref ao.length) (ao++[.li r])) aa) n
 | .neg a,env,Q,n=>dj a env (λ db aa=>et (xG db) λ r=>Q r aa) n
 | .and O,env,Q,n=>wA O env Q n
 | .or O,env,Q,n=>xO O env Q n
 | .cmp op a b,env,Q,n=>dj a env (λ db aa=>dj b env (λ gH ao=>et (cY op db gH ao) λ r=>Q (.cj r) ao) aa) n
 | .ite t a b,env,Q,n=>qI t env (λ r aa=>if r=true then dj a env Q aa else dj b env Q aa) n
 | .tup O,env,Q,n=>m6 O env (λ ar aa=>ar.length≤1000∧Q (.tup ar) aa) n
 | .lst O,env,Q,n=>m6 O env (λ ar aa=>ar.length≤1000∧Q (.ref aa.length) (aa++[.li ar])) n
 | .m4 ks ar,env,Q,n=>m6 ar env (λ l aa=>ks.length=l.length∧Q (.ref aa.length) (aa++[.ds (ks.zip l)])) n
 | .pa ks ar,env,Q,n=>m6 ar env (λ l aa=>ks.length=l.length∧Q (.ref aa.length) (aa++[.cq (ks.zip l)])) n
 | .eQ .i,_,Q,n=>Q (.ref n.length) (n++[.cq []])
 | .eQ .s,_,Q,n=>Q (.ref n.length) (n++[.ds []])
 | .eQ .t,_,Q,n=>Q (.ref n.length) (n++[.h' []])
 | .at a f,env,Q,n=>dj a env (λ db aa=>et (d7 aa db f) λ r=>Q r aa) n
 | .aq a i,env,Q,n=>dj a env (λ db aa=>dj i env (λ fN ao=>et (de ao db fN) λ r=>Q r ao) aa) n
 | .lk a lo,env,Q,n=>dj a env (λ db aa=>dj lo env (λ rT ao=>et (uw ao db rT) λ r=>Q (.ref ao.length) (ao++[.li r])) aa) n
 | .mF a ay,env,Q,n=>dj a env (λ db aa=>dj ay env (λ afV ao=>et (rR ao db afV) λ r=>Q (s0 ao r).1 (s0 ao r).2) aa) n
 | .rev a,env,Q,n=>dj a env (λ db aa=>et (uZ aa db) λ l=>Q (.ref aa.length) (aa++[.li l.reverse])) n
 | .comp b7 xs many bb eo,env,Q,n=>dj bb env (λ fN aa=>et (hR aa fN) λ l=>l.length≤100000∧
   o' (live fN l) (λ x K ao=>et (di many xs x env) λ aF=>rN eo aF (λ b bW=>if b=true then dj b7 aF (λ r eP=>K [r] eP) bW else K [] bW) ao)
    l [] (λ acc ao=>Q (.ref ao.length) (ao++[.li acc])) aa) n
 | .call f b6,env,Q,n=>m6 b6 env (λ ar aa=>V f ar Q aa) n
 | .new c b6,env,Q,n=>et (P.i6 c) λ f=>m6 b6 env (λ ar aa=>V f (.ref aa.length::ar) (λ r ao=>r= .nn∧Q (.ref aa.length) ao) (aa++[.bF c []])) n
 | .hj o m b6,env,Q,n=>dj o env (λ fz aa=>et (mu P aa m fz) λ f=>m6 b6 env (λ ar ao=>V f (fz::ar) Q ao) aa) n
 | .len a,env,Q,n=>dj a env (λ db aa=>et (lb aa db) λ z=>Q (.ii z) aa) n
 | .jc a,env,Q,n=>dj a env (λ db aa=>et (rO aa db) λ r=>Q r aa) n
 | .sorted a,env,Q,n=>dj a env (λ db aa=>et (vD aa db) λ r=>Q (.ref aa.length) (aa++[.li r])) n
 | .strOf a,env,Q,n=>dj a env (λ db aa=>et (yg db) λ r=>Q r aa) n
 | .gQ a,env,Q,n=>dj a env (λ db aa=>et (ov db) λ r=>Q r aa) n
 | .pF a b,env,Q,n=>dj a env (λ db aa=>dj b env (λ gH ao=>et (vx db gH) λ r=>Q r ao) aa) n
 | .append o x,env,Q,n=>dj o env (λ fz aa=>ml aa fz=true∧dj x env (λ yp ao=>et (l8 ao fz yp) λ bW=>Q .nn bW) aa) n
 | .m3 o k d,env,Q,n=>dj o env (λ fz aa=>rh aa fz=true∧dj k env (λ G8 ao=>dj d env (λ G7 bW=>et (uD bW fz G8 G7) λ r=>Q r bW) ao) aa) n
 | .bad,_,_,_=>False
noncomputable def m6:d6→aX→(B D→St→Prop)→St→Prop
 | .nil,_,Q,n=>Q [] n
 | .cons e r,env,Q,n=>dj e env (λ v aa=>m6 r env (λ ar ao=>Q (v::ar) ao) aa) n
noncomputable def wA:d6→aX→dC→St→Prop
 | .nil,_,_,_=>False
 | .cons e .nil,env,Q,n=>dj e env Q n
 | .cons e (.cons bC r),env,Q,n=>dj e env (λ v aa=>et (ig aa v) λ b=>if b=true then wA (.cons bC r) env Q aa else Q v aa) n
noncomputable def xO:d6→aX→dC→St→Prop
 | .nil,_,_,_=>False
 | .cons e .nil,env,Q,n=>dj e env Q n
 | .cons e (.cons bC r),env,Q,n=>dj e env (λ v aa=>et (ig aa v) λ b=>if b=true then Q v aa else xO (.cons bC r) env Q aa) n
noncomputable def qI:T→aX→(av→St→Prop)→St→Prop
 | .e a,env,Q,n=>dj a env (λ v aa=>et (ig aa v) λ b=>Q b aa) n
 | .g4 t,env,Q,n=>qI t env (λ b aa=>Q (!b) aa) n
 | .and bE,env,Q,n=>rN bE env Q n
 | .or bE,env,Q,n=>Bx bE env Q n
 | .cmp op a b,env,Q,n=>dj a env (λ db aa=>dj b env (λ gH ao=>et (cY op db gH ao) λ r=>Q r ao) aa) n
noncomputable def rN:fc→aX→(av→St→Prop)→St→Prop
 | .nil,_,Q,n=>Q true n
 | .cons t r,env,Q,n=>qI t env (λ b aa=>if b=true then rN r env Q aa else Q false aa) n
noncomputable def Bx:fc→aX→(av→St→Prop)→St→Prop
 | .nil,_,Q,n=>Q false n
 | .cons t r,env,Q,n=>qI t env (λ b aa=>if b=true then Q true aa else Bx r env Q aa) n
end
noncomputable def zU(dr:St→Prop)(step:D→aX→iX→St→Prop):B D→aX→iX→St→Prop
 | [],env,cb,n=>dr n∧cb env n
 |x::r,env,cb,n=>dr n∧step x env (λ aF J=>zU dr step r aF cb J) n
noncomputable def BG(lT:aX→(av→St→Prop)→St→Prop)(body:aX→iX→St→Prop):C→aX→iX→St→Prop
 |0,_,_,_=>False
 |z+1,env,cb,n=>lT env (λ b aa=>if b=true then body env (λ aF ao=>BG lT body z aF cb ao) aa else cb env aa) n
mutual
noncomputable def GC:S→aX→iX→dC→St→Prop
 | .asg x e,env,cb,_,n=>dj P V e env (λ v aa=>cb (iR env x v) aa) n
 | .o1 xs e,env,cb,_,n=>dj P V e env (λ v aa=>et (di true xs v env) λ aF=>cb aF aa) n
 | .cc o f e,env,cb,_,n=>dj P V e env (λ v aa=>dj P V o env (λ fz ao=>et (lj P ao fz f v) λ bW=>cb env bW) aa) n
 | .gJ o i e,env,cb,_,n=>dj P V e env (λ v aa=>dj P V o env (λ fz ao=>dj P V i env (λ fN bW=>et (j' bW fz fN v) λ eP=>cb env eP) ao) aa) n
 | .aug x op e,env,cb,_,n=>et (env[x]?.join) λ a=>dj P V e env (λ v aa=>et (kD op a v) λ r=>cb (iR env x r) aa) n
 | .o3 o f op e,env,cb,_,n=>dj P V o env (λ fz aa=>et (d7 aa fz f) λ a=>dj P V e env (λ v ao=>et (kD op a v) λ r=>et (lj P ao fz f r) λ bW=>cb env bW) aa) n
 | .o4 o i op e,env,cb,_,n=>dj P V o env (λ fz aa=>dj P V i env (λ fN ao=>et (vv ao fz fN) λ a=>dj P V e env (λ v bW=>et (kD op a v) λ r=>et (j' bW fz fN r) λ eP=>cb env eP) ao) aa) n
 | .ex e,env,cb,_,n=>dj P V e env (λ _ aa=>cb env aa) n
 | .ret e,env,_,cF,n=>dj P V e env cF n
 | .mD,_,_,cF,n=>cF .nn n
 | .b4 t a b,env,cb,cF,n=>qI P V t env (λ r aa=>if r=true then nu a env cb cF aa else nu b env cb cF aa) n
 | .pL t b,env,cb,cF,n=>BG (qI P V t) (λ aF km J=>nu b aF km cF J) 60 env cb n
 | .dd xs many bb b,env,cb,cF,n=>dj P V bb env (λ fN aa=>et (hR aa fN) λ l=>l.length≤100000∧
   zU (live fN l) (λ x aF km J=>et (di many xs x aF) λ dH=>nu b dH km cF J) l env cb aa) n
 | .bad,_,_,_,_=>False
noncomputable def nu:bk→aX→iX→dC→St→Prop
 | .nil,env,cb,_,n=>cb env n
 | .cons s r,env,cb,cF,n=>GC s env (λ aF aa=>nu r aF cb cF aa) cF n
end
end
noncomputable def sw(P:iY):C→C→B D→dC→St→Prop
 |0,_,_,_,_=>False
 |z+1,f,b6,Q,n=>et (P.fns f) λ d=>b6.length=d.np∧
   nu P (sw P z) d.body (b6.map some++dx (d.nl-d.np) none) (λ _ J=>Q .nn J) (λ v J=>Q v J) n
theorem ZH:oM (am ⊕ B am) where
 eq_of_beq {a b} h:=by
  cases a<;>cases b
  ·exact an _ (eq_of_beq (α:=am) h)
  ·cases h
  ·cases h
  ·exact an _ (eq_of_beq (α:=B am) h)
 rfl {a}:=by
  cases a
  ·exact lE (α:=am) _
  ·exact lE (α:=B am) _
theorem Aw:oM gT:=have:=ZH;inferInstance
theorem ahh{α:Type}{a:α}{P:Prop}(h:none=some a):P:=nomatch h
theorem aho{α:Type}{a:α}{P:Prop}(h:some a=none):P:=nomatch h
theorem K1{P:Prop}(h:false=true):P:=nomatch h
theorem ahr{P:Prop}(h:true=false):P:=nomatch h
theorem ahg{α:Type}{a:α}{l:B α}{P:Prop}(h: []=a::l):P:=nomatch h
theorem ag1{α:Type}{a:α}{l:B α}{P:Prop}(h:a::l=[]):P:=nomatch h
theorem k9{α:Type}{a:α}{P:Prop}(h:a∈ []):P:=nomatch h
theorem ag2{P:Prop}(h:False):P:=h.elim
end Mine
end
local macro_rules |`(nomatch $x:term)=>`((by first|exact Mine.ahh $x|exact Mine.aho $x|exact Mine.K1 $x|exact Mine.ahr $x|exact Mine.ahg $x|exact Mine.ag1 $x|exact Mine.k9 $x|exact Mine.ag2 $x|(have hh:= $x;cases hh)))
section
open PySem PySem.W PyProof.Rows
namespace Mine
variable{f:aL→av}{ak:bn→Prop}{x:bn}{a b:av}
noncomputable def gj(z m:C)(f:z=m→av):Bool:=match Rm z m with
 | .isTrue h=>f h
 | .isFalse _=>false
theorem gE{z m:C}{f:z=m→av}{M:Prop}(h:gj z m f=true)(k:∀e,f e=true→M):M:=by
 unfold gj at h
 split at h
 ·exact k _ h
 ·cases h
noncomputable def Ka:l5→av
 | .none=>true
 |_=>false
@[elab_as_elim] theorem UJ{ak:l5→Prop}{x:l5}(h:Ka x=true)(k:ak .none):ak x:=by
 cases x<;>first|exact k|exact jw h
noncomputable def rV(f:l5→av)(x:bn):Bool:=gj x.ctorIdx 19 λ h=>Is (motive_1:=λ _=>av) x h λ c _ _=>f c
@[elab_as_elim] theorem tB{f:l5→av}(h:rV f x=true)(k:∀c z p,f c=true→ak (.Constant c z p)):ak x:=
 gE h λ e q=>Is (motive_1:=λ x=>∀e,Is (motive_1:=λ _=>av) x e (λ c _ _=>f c)=true→ak x) x e (λ c z p _ q=>k c z p q) e q
noncomputable def nx(f:aL→av)(x:bn):Bool:=gj x.ctorIdx 23 λ h=>CB (motive_1:=λ _=>av) x h λ y _=>f y
@[elab_as_elim] theorem mL(h:nx f x=true)(k:∀y p,f y=true→ak (.Name y p)):ak x:=
 gE h λ e q=>CB (motive_1:=λ x=>∀e,CB (motive_1:=λ _=>av) x e (λ y _=>f y)=true→ak x) x e (λ y p _ q=>k y p q) e q
noncomputable def BL(f:bn→yS→bn→av)(x:bn):Bool:=gj x.ctorIdx 2 λ h=>Io (motive_1:=λ _=>av) x h λ l o r _=>f l o r
@[elab_as_elim] theorem Hi{f:bn→yS→bn→av}(h:BL f x=true)(k:∀l o r p,f l o r=true→ak (.BinOp l o r p)):ak x:=
 gE h λ e q=>Io (motive_1:=λ x=>∀e,Io (motive_1:=λ _=>av) x e (λ l o r _=>f l o r)=true→ak x) x e (λ l o r p _ q=>k l o r p q) e q
noncomputable def BP(f:UnaryOp→bn→av)(x:bn):Bool:=gj x.ctorIdx 3 λ h=>Iz (motive_1:=λ _=>av) x h λ o y _=>f o y
@[elab_as_elim] theorem Hn{f:UnaryOp→bn→av}(h:BP f x=true)(k:∀o y p,f o y=true→ak (.UnaryOp o y p)):ak x:=
 gE h λ e q=>Iz (motive_1:=λ x=>∀e,Iz (motive_1:=λ _=>av) x e (λ o y _=>f o y)=true→ak x) x e (λ o y p _ q=>k o y p q) e q
noncomputable def ys(f:CA→B bn→av)(x:bn):Bool:=gj x.ctorIdx 0 λ h=>Ip (motive_1:=λ _=>av) x h λ o y _=>f o y
@[elab_as_elim] theorem BM{f:CA→B bn→av}(h:ys f x=true)(k:∀o y p,f o y=true→ak (.BoolOp o y p)):ak x:=
 gE h λ e q=>Ip (motive_1:=λ x=>∀e,Ip (motive_1:=λ _=>av) x e (λ o y _=>f o y)=true→ak x) x e (λ o y p _ q=>k o y p q) e q
noncomputable def Hj(f:bn→B CmpOp→B bn→av)(x:bn):Bool:=gj x.ctorIdx 15 λ h=>Ir (motive_1:=λ _=>av) x h λ l o r _=>f l o r
@[elab_as_elim] theorem P4{f:bn→B CmpOp→B bn→av}(h:Hj f x=true)(k:∀l o r p,f l o r=true→ak (.Compare l o r p)):ak x:=
 gE h λ e q=>Ir (motive_1:=λ x=>∀e,Ir (motive_1:=λ _=>av) x e (λ l o r _=>f l o r)=true→ak x) x e (λ l o r p _ q=>k l o r p q) e q
noncomputable def P5(f:bn→bn→bn→av)(x:bn):Bool:=gj x.ctorIdx 5 λ h=>Iu (motive_1:=λ _=>av) x h λ l o r _=>f l o r
@[elab_as_elim] theorem agg{f:bn→bn→bn→av}(h:P5 f x=true)(k:∀l o r p,f l o r=true→ak (.IfExp l o r p)):ak x:=
 gE h λ e q=>Iu (motive_1:=λ x=>∀e,Iu (motive_1:=λ _=>av) x e (λ l o r _=>f l o r)=true→ak x) x e (λ l o r p _ q=>k l o r p q) e q
noncomputable def yt(f:B bn→av)(x:bn):Bool:=gj x.ctorIdx 25 λ h=>CC (motive_1:=λ _=>av) x h λ l _ _=>f l
@[elab_as_elim] theorem Hm{f:B bn→av}(h:yt f x=true)(k:∀l z p,f l=true→ak (.Tuple l z p)):ak x:=
 gE h λ e q=>CC (motive_1:=λ x=>∀e,CC (motive_1:=λ _=>av) x e (λ l _ _=>f l)=true→ak x) x e (λ l z p _ q=>k l z p q) e q
noncomputable def P8(f:B bn→av)(x:bn):Bool:=gj x.ctorIdx 24 λ h=>Iv (motive_1:=λ _=>av) x h λ l _=>f l
@[elab_as_elim] theorem agh{f:B bn→av}(h:P8 f x=true)(k:∀l p,f l=true→ak (.List l p)):ak x:=
 gE h λ e q=>Iv (motive_1:=λ x=>∀e,Iv (motive_1:=λ _=>av) x e (λ l _=>f l)=true→ak x) x e (λ l p _ q=>k l p q) e q
noncomputable def BN(f:B (Y bn)→B bn→av)(x:bn):Bool:=gj x.ctorIdx 6 λ h=>It (motive_1:=λ _=>av) x h λ l r _=>f l r
@[elab_as_elim] theorem Hk{f:B (Y bn)→B bn→av}(h:BN f x=true)(k:∀l r p,f l r=true→ak (.Dict l r p)):ak x:=
 gE h λ e q=>It (motive_1:=λ x=>∀e,It (motive_1:=λ _=>av) x e (λ l r _=>f l r)=true→ak x) x e (λ l r p _ q=>k l r p q) e q
noncomputable def rU(f:bn→aL→hd→av)(x:bn):Bool:=gj x.ctorIdx 20 λ h=>Im (motive_1:=λ _=>av) x h λ y a p=>f y a p
@[elab_as_elim] theorem tA{f:bn→aL→hd→av}(h:rU f x=true)(k:∀y a p,f y a p=true→ak (.Attribute y a p)):ak x:=
 gE h λ e q=>Im (motive_1:=λ x=>∀e,Im (motive_1:=λ _=>av) x e (λ y a p=>f y a p)=true→ak x) x e (λ y a p _ q=>k y a p q) e q
noncomputable def rW(f:bn→bn→av)(x:bn):Bool:=gj x.ctorIdx 21 λ h=>Iy (motive_1:=λ _=>av) x h λ y a _=>f y a
@[elab_as_elim] theorem tC{f:bn→bn→av}(h:rW f x=true)(k:∀y a p,f y a=true→ak (.Subscript y a p)):ak x:=
 gE h λ e q=>Iy (motive_1:=λ x=>∀e,Iy (motive_1:=λ _=>av) x e (λ y a _=>f y a)=true→ak x) x e (λ y a p _ q=>k y a p q) e q
noncomputable def BO(f:Y bn→Y bn→Y bn→av)(x:bn):Bool:=gj x.ctorIdx 26 λ h=>Ix (motive_1:=λ _=>av) x h λ a b c _=>f a b c
@[elab_as_elim] theorem Hl{f:Y bn→Y bn→Y bn→av}(h:BO f x=true)(k:∀a b c p,f a b c=true→ak (.Slice a b c p)):ak x:=
 gE h λ e q=>Ix (motive_1:=λ x=>∀e,Ix (motive_1:=λ _=>av) x e (λ a b c _=>f a b c)=true→ak x) x e (λ a b c p _ q=>k a b c p q) e q
noncomputable def mK(f:bn→B bn→B Keyword→hd→av)(x:bn):Bool:=gj x.ctorIdx 16 λ h=>Iq (motive_1:=λ _=>av) x h λ a b c p=>f a b c p
@[elab_as_elim] theorem nw{f:bn→B bn→B Keyword→hd→av}(h:mK f x=true)(k:∀a b c p,f a b c p=true→ak (.Call a b c p)):ak x:=
 gE h λ e q=>Iq (motive_1:=λ x=>∀e,Iq (motive_1:=λ _=>av) x e (λ a b c p=>f a b c p)=true→ak x) x e (λ a b c p _ q=>k a b c p q) e q
noncomputable def P6(f:bn→B RH→gc→av)(x:bn):Bool:=gj x.ctorIdx 8 λ h=>Iw (motive_1:=λ _=>av) x h λ a b c _=>f a b c
@[elab_as_elim] theorem P7{f:bn→B RH→gc→av}(h:P6 f x=true)(k:∀a b c p,f a b c=true→ak (.ListComp a b c p)):ak x:=
 gE h λ e q=>Iw (motive_1:=λ x=>∀e,Iw (motive_1:=λ _=>av) x e (λ a b c _=>f a b c)=true→ak x) x e (λ a b c p _ q=>k a b c p q) e q
noncomputable def J7(f:av→av)(x:l5):Bool:=gj x.ctorIdx 1 λ h=>Ii (motive:=λ _=>av) x h λ b=>f b
@[elab_as_elim] theorem UF{ak:l5→Prop}{x:l5}{f:av→av}(h:J7 f x=true)(k:∀b,f b=true→ak (.bool b)):ak x:=
 gE h λ e q=>Ii (motive:=λ x=>∀e,Ii (motive:=λ _=>av) x e (λ b=>f b)=true→ak x) x e (λ b _ q=>k b q) e q
noncomputable def zt(f:am→av)(x:l5):Bool:=gj x.ctorIdx 2 λ h=>Ij (motive:=λ _=>av) x h λ b=>f b
@[elab_as_elim] theorem Dk{ak:l5→Prop}{x:l5}{f:am→av}(h:zt f x=true)(k:∀b,f b=true→ak (.int b)):ak x:=
 gE h λ e q=>Ij (motive:=λ x=>∀e,Ij (motive:=λ _=>av) x e (λ b=>f b)=true→ak x) x e (λ b _ q=>k b q) e q
noncomputable def Dl(f:aL→av)(x:l5):Bool:=gj x.ctorIdx 5 λ h=>Ik (motive:=λ _=>av) x h λ b=>f b
@[elab_as_elim] theorem Kb{ak:l5→Prop}{x:l5}(h:Dl f x=true)(k:∀b,f b=true→ak (.str b)):ak x:=
 gE h λ e q=>Ik (motive:=λ x=>∀e,Ik (motive:=λ _=>av) x e (λ b=>f b)=true→ak x) x e (λ b _ q=>k b q) e q
noncomputable def hh{α:Type}:B α→av
 | []=>true
 |_::_=>false
noncomputable def dy{α:Type}(f:α→av):B α→av
 |x::r=>hh r&&f x
 | []=>false
noncomputable def oe{α:Type}(f:α→B α→av):B α→av
 |x::r=>f x r
 | []=>false
noncomputable def on{α:Type}:Y α→av
 |none=>true
 |some _=>false
noncomputable def cT{α:Type}(f:α→av):Y α→av
 |some x=>f x
 |none=>false
theorem a7(h:(a&&b)=true):a=true:=(dF.mp h).1
theorem aD(h:(a&&b)=true):b=true:=(dF.mp h).2
@[elab_as_elim] theorem g0{α:Type}{ak:B α→Prop}:∀{l:B α},hh l=true→ak []→ak l
 | [],_,k=>k
@[elab_as_elim] theorem jp{α:Type}{f:α→av}{ak:B α→Prop}:∀{l:B α},dy f l=true→(∀x,f x=true→ak [x])→ak l
 | [x],h,k=>k x h
@[elab_as_elim] theorem jr{α:Type}{f:α→B α→av}{ak:B α→Prop}:∀{l:B α},oe f l=true→(∀x r,f x r=true→ak (x::r))→ak l
 |x::r,h,k=>k x r h
@[elab_as_elim] theorem rA{α:Type}{ak:Y α→Prop}:∀{l:Y α},on l=true→ak none→ak l
 |none,_,k=>k
@[elab_as_elim] theorem qt{α:Type}{f:α→av}{ak:Y α→Prop}:∀{l:Y α},cT f l=true→(∀x,f x=true→ak (some x))→ak l
 |some x,h,k=>k x h
@[elab_as_elim] theorem jI{α:Type}[jx α]{a b:α}{ak:α→Prop}(h:(a==b)=true)(k:ak b):ak a:=(jl.mp h).symm▸k
noncomputable def vInt(f:am→av)(x:au):Bool:=gj x.ctorIdx 4 λ h=>IU (motive:=λ _=>av) x h λ i _=>f i
@[elab_as_elim] theorem afS{ak:au→Prop}{x:au}{f:am→av}(h:vInt f x=true)(k:∀i t,f i=true→ak (.int i t)):ak x:=
 gE h λ e q=>IU (motive:=λ x=>∀e,IU (motive:=λ _=>av) x e (λ i _=>f i)=true→ak x) x e (λ i t _ q=>k i t q) e q
end Mine
end
section
namespace Mine
noncomputable def UL:B (am×am):=[(0,20),(1,9),(2,10),(3,11),(4,12),(5,13),(6,14),(7,15),(8,16),(9,17),(10,18),(11,19),(12,1),(13,4)]
noncomputable def o8:B (am×am):=[(20,0),(9,1),(10,2),(11,3),(12,4),(13,5),(14,6),(15,7),(16,8),(17,9),(18,10),(19,11),(1,12),(4,13)]
noncomputable def Th:bk:=
 .cons (.cc (.v 0) 0 (.lst .nil)) (.cons (.cc (.v 0) 1 (.eQ .t)) (.cons (.cc (.v 0) 2 (.lst .nil)) (.cons (.cc (.v 0) 3 (.lst .nil)) (.cons (.cc (.v 0) 4 (.lst .nil)) (.cons (.dd [1] false (.gQ (.gl [80,82,73,77,95,69,78,68] (.ii 16))) (.cons (.asg 2 (.tup (.cons (.gl [82,95,80,82,73,77] (.ii 1)) (.cons (.v 1) .nil)))) (.cons (.ex (.append (.at (.v 0) 0) (.v 2))) (.cons (.gJ (.at (.v 0) 1) (.v 2) (.v 1)) (.cons (.ex (.append (.at (.v 0) 2) (.ii 1))) (.cons (.ex (.append (.at (.v 0) 3) (.ii 1))) (.cons (.ex (.append (.at (.v 0) 4) (.ii 0))) .nil))))))) .nil)))))
noncomputable def Tj:bk:=
 .cons (.b4 (.or (.cons (.cmp .lt (.v 1) (.ii 0)) (.cons (.cmp .ge (.v 1) (.len (.at (.v 0) 0))) .nil))) (.cons (.bad) .nil) (.nil)) (.cons (.ret (.aq (.at (.v 0) 0) (.v 1))) .nil)
noncomputable def Ti:bk:=
 .cons (.asg 2 (.m3 (.at (.v 0) 1) (.v 1) (.neg (.ii 1)))) (.cons (.b4 (.cmp .ge (.v 2) (.ii 0)) (.cons (.ret (.v 2)) .nil) (.nil)) (.cons (.ex (.call 17 (.cons (.v 0) (.cons (.v 1) .nil)))) (.cons (.asg 3 (.ii 1)) (.cons (.asg 4 (.ii 1)) (.cons (.asg 5 (.ii 0)) (.cons (.b4 (.or (.cons (.cmp .eq (.aq (.v 1) (.ii 0)) (.gl [82,95,86,65,82] (.ii 6))) (.cons (.cmp .eq (.aq (.v 1) (.ii 0)) (.gl [82,95,77,86,65,82] (.ii 7))) .nil))) (.cons (.asg 5 (.ii 1)) .nil) (.nil)) (.cons (.asg 6 (.call 15 (.cons (.aq (.v 1) (.ii 0)) .nil))) (.cons (.dd [7] false (.call 14 (.cons (.v 1) .nil)) (.cons (.b4 (.cmp .gt (.bin .add (.aq (.at (.v 0) 2) (.v 7)) (.v 6)) (.v 3)) (.cons (.asg 3 (.bin .add (.aq (.at (.v 0) 2) (.v 7)) (.v 6))) .nil) (.nil)) (.cons (.aug 4 .add (.aq (.at (.v 0) 3) (.v 7))) (.cons (.b4 (.cmp .eq (.aq (.at (.v 0) 4) (.v 7)) (.ii 1)) (.cons (.asg 5 (.ii 1)) .nil) (.nil)) .nil)))) (.cons (.b4 (.cmp .gt (.v 3) (.gl [68,69,69,80,69,83,84,95,75,73,78,68] (.ii 24))) (.cons (.bad) .nil) (.nil)) (.cons (.b4 (.cmp .gt (.v 4) (.gl [72,69,65,86,73,69,83,84,95,75,73,78,68] (.ii 4096))) (.cons (.bad) .nil) (.nil)) (.cons (.asg 8 (.len (.at (.v 0) 0))) (.cons (.ex (.append (.at (.v 0) 0) (.v 1))) (.cons (.gJ (.at (.v 0) 1) (.v 1) (.v 8)) (.cons (.ex (.append (.at (.v 0) 2) (.v 3))) (.cons (.ex (.append (.at (.v 0) 3) (.v 4))) (.cons (.ex (.append (.at (.v 0) 4) (.v 5))) (.cons (.ret (.v 8)) .nil)))))))))))))))))
noncomputable def Tn:bk:=
 .cons (.cc (.v 0) 5 (.v 1)) (.cons (.cc (.v 0) 6 (.v 2)) (.cons (.cc (.v 0) 7 (.v 3)) (.cons (.cc (.v 0) 8 (.v 4)) (.cons (.cc (.v 0) 9 (.v 5)) (.cons (.cc (.v 0) 10 (.lst .nil)) (.cons (.cc (.v 0) 11 (.lst .nil)) (.cons (.cc (.v 0) 12 (.lst .nil)) (.cons (.cc (.v 0) 13 (.lst .nil)) (.cons (.dd [8] false (.v 6) (.cons (.ex (.append (.at (.v 0) 11) (.v 8))) (.cons (.ex (.append (.at (.v 0) 12) (.gl [86,65,95,78,79,78,69] (.ii 0)))) (.cons (.ex (.append (.at (.v 0) 13) (.tup (.cons (.ii 0) (.cons (.tup .nil) .nil))))) .nil)))) (.cons (.cc (.v 0) 14 (.lst .nil)) (.cons (.cc (.v 0) 15 (.lst .nil)) (.cons (.cc (.v 0) 16 (.v 7)) (.cons (.cc (.v 0) 17 (.ii 0)) (.cons (.cc (.v 0) 18 (.neg (.ii 1))) (.cons (.cc (.v 0) 19 (.lst .nil)) (.cons (.cc (.v 0) 20 (.lst .nil)) (.cons (.cc (.v 0) 21 (.lst .nil)) (.cons (.cc (.v 0) 22 (.ii 0)) (.cons (.cc (.v 0) 23 (.ii 0)) .nil)))))))))))))))))))
noncomputable def Tk:bk:=
 .cons (.cc (.v 0) 24 (.v 1)) (.cons (.cc (.v 0) 25 (.v 2)) (.cons (.cc (.v 0) 6 (.v 3)) (.cons (.cc (.v 0) 26 (.v 4)) (.cons (.cc (.v 0) 8 (.v 5)) (.cons (.cc (.v 0) 27 (.ii 0)) (.cons (.cc (.v 0) 28 (.lst .nil)) (.cons (.cc (.v 0) 29 (.lst .nil)) (.cons (.cc (.v 0) 30 (.v 6)) (.cons (.cc (.v 0) 11 (.jc (.v 7))) (.cons (.cc (.v 0) 31 (.call 31 (.cons (.len (.v 7)) .nil))) (.cons (.cc (.v 0) 32 (.qA (.tup (.cons (.ii 0) .nil)) (.len (.v 7)))) (.cons (.cc (.v 0) 33 .nn) (.cons (.cc (.v 0) 34 (.ii 0)) .nil)))))))))))))
noncomputable def Tm:bk:=
 .cons (.cc (.v 0) 35 (.new 0 .nil)) (.cons (.cc (.v 0) 36 (.lst (.cons (.nn) .nil))) (.cons (.cc (.v 0) 37 (.lst (.cons (.nn) .nil))) (.cons (.cc (.v 0) 15 (.lst (.cons (.nn) .nil))) (.cons (.cc (.v 0) 38 (.eQ .i)) (.cons (.cc (.v 0) 39 (.lst .nil)) (.cons (.cc (.v 0) 40 (.ii 0)) .nil))))))
noncomputable def Tl:bk:=
 .cons (.cc (.v 0) 41 (.v 1)) (.cons (.cc (.v 0) 42 (.v 2)) (.cons (.cc (.v 0) 43 (.v 3)) (.cons (.cc (.v 0) 44 (.v 4)) (.cons (.cc (.v 0) 45 (.v 5)) (.cons (.cc (.v 0) 46 (.ii 0)) .nil)))))
noncomputable def Tg:bk:=
 .cons (.cc (.v 0) 0 (.lst .nil)) .nil
noncomputable def To:bk:=
 .cons (.cc (.v 0) 47 (.v 1)) (.cons (.cc (.v 0) 16 (.v 2)) (.cons (.cc (.v 0) 48 (.lst (.cons (.nn) .nil))) (.cons (.cc (.v 0) 49 (.lst (.cons (.nn) .nil))) (.cons (.cc (.v 0) 50 (.eQ .i)) (.cons (.cc (.v 0) 51 (.new 5 .nil)) (.cons (.cc (.v 0) 52 (.eQ .i)) (.cons (.cc (.v 0) 53 (.eQ .i)) (.cons (.cc (.v 0) 54 (.eQ .i)) .nil))))))))
noncomputable def Tp:bk:=
 .cons (.cc (.v 0) 55 (.v 1)) (.cons (.cc (.v 0) 47 (.at (.v 1) 47)) (.cons (.cc (.v 0) 35 (.at (.at (.v 1) 47) 35)) (.cons (.cc (.v 0) 56 (.v 2)) (.cons (.cc (.v 0) 16 (.v 3)) (.cons (.cc (.v 0) 57 (.eQ .i)) (.cons (.cc (.v 0) 58 (.eQ .i)) (.cons (.cc (.v 0) 59 (.lst .nil)) (.cons (.cc (.v 0) 60 (.eQ .i)) (.cons (.cc (.v 0) 25 (.ii 0)) (.cons (.cc (.v 0) 24 (.ii 0)) (.cons (.cc (.v 0) 61 (.ii 0)) (.cons (.cc (.v 0) 62 (.ii 0)) .nil))))))))))))
noncomputable def Tf:bk:=
 .cons (.cc (.v 0) 55 (.v 1)) (.cons (.cc (.v 0) 63 (.v 2)) (.cons (.cc (.v 0) 47 (.at (.v 1) 47)) (.cons (.cc (.v 0) 35 (.at (.at (.v 1) 47) 35)) (.cons (.cc (.v 0) 36 (.lst .nil)) (.cons (.cc (.v 0) 64 (.lst .nil)) (.cons (.cc (.v 0) 54 (.eQ .i)) (.cons (.cc (.v 0) 65 (.lst .nil)) (.cons (.cc (.v 0) 66 (.lst .nil)) (.cons (.cc (.v 0) 67 (.lst .nil)) (.cons (.cc (.v 0) 68 (.eQ .i)) (.cons (.cc (.v 0) 69 (.eQ .i)) (.cons (.cc (.v 0) 53 (.ii 0)) .nil))))))))))))
noncomputable def Td:bk:=
 .cons (.cc (.v 0) 35 (.v 1)) (.cons (.cc (.v 0) 70 (.eQ .i)) (.cons (.cc (.v 0) 10 (.eQ .i)) (.cons (.cc (.v 0) 71 (.eQ .i)) (.cons (.cc (.v 0) 12 (.eQ .i)) (.cons (.cc (.v 0) 72 (.eQ .i)) (.cons (.cc (.v 0) 13 (.eQ .i)) (.cons (.cc (.v 0) 73 (.eQ .i)) (.cons (.cc (.v 0) 74 (.eQ .i)) .nil))))))))
noncomputable def Tc:bk:=
 .cons (.ret (.m3 (.at (.v 0) 70) (.v 1) (.neg (.ii 1)))) .nil
noncomputable def Te:bk:=
 .cons (.ret (.m3 (.at (.v 0) 71) (.call 24 (.cons (.at (.v 0) 35) (.cons (.v 1) .nil))) (.ii 0))) .nil
noncomputable def TM:bk:=
 .cons (.asg 1 (.aq (.v 0) (.ii 0))) (.cons (.b4 (.or (.cons (.cmp .eq (.v 1) (.gl [82,95,67,76,65,83,83] (.ii 2))) (.cons (.cmp .eq (.v 1) (.gl [82,95,86,65,76,85,69] (.ii 3))) .nil))) (.cons (.ret (.aq (.v 0) (.ii 2))) .nil) (.nil)) (.cons (.b4 (.or (.cons (.cmp .eq (.v 1) (.gl [82,95,65,82,82,65,89] (.ii 4))) (.cons (.cmp .eq (.v 1) (.gl [82,95,66,89,82,69,70] (.ii 5))) (.cons (.cmp .eq (.v 1) (.gl [82,95,66,79,88,69,68] (.ii 8))) (.cons (.cmp .eq (.v 1) (.gl [82,95,82,79,82,69,70] (.ii 9))) (.cons (.cmp .eq (.v 1) (.gl [82,95,82,65,87] (.ii 11))) .nil)))))) (.cons (.ret (.tup (.cons (.aq (.v 0) (.ii 1)) .nil))) .nil) (.nil)) (.cons (.b4 (.cmp .eq (.v 1) (.gl [82,95,70,84,78] (.ii 10))) (.cons (.ret (.bin .add (.tup (.cons (.aq (.v 0) (.ii 1)) .nil)) (.aq (.v 0) (.ii 3)))) .nil) (.nil)) (.cons (.ret (.tup .nil)) .nil))))
noncomputable def T':bk:=
 .cons (.b4 (.or (.cons (.cmp .eq (.v 0) (.gl [82,95,67,76,65,83,83] (.ii 2))) (.cons (.cmp .eq (.v 0) (.gl [82,95,86,65,76,85,69] (.ii 3))) (.cons (.cmp .eq (.v 0) (.gl [82,95,65,82,82,65,89] (.ii 4))) .nil)))) (.cons (.ret (.ii 1)) .nil) (.nil)) (.cons (.ret (.ii 0)) .nil)
noncomputable def T9:bk:=
 .cons (.b4 (.or (.cons (.cmp .eq (.v 0) (.gl [82,95,67,76,65,83,83] (.ii 2))) (.cons (.cmp .eq (.v 0) (.gl [82,95,86,65,76,85,69] (.ii 3))) .nil))) (.cons (.ret (.ii 3)) .nil) (.nil)) (.cons (.b4 (.cmp .eq (.v 0) (.gl [82,95,70,84,78] (.ii 10))) (.cons (.ret (.ii 4)) .nil) (.nil)) (.cons (.ret (.ii 2)) .nil))
noncomputable def Tv:bk:=
 .cons (.b4 (.or (.cons (.cmp .eq (.len (.v 1)) (.ii 0)) (.cons (.cmp .le (.aq (.v 1) (.ii 0)) (.gl [82,95,80,82,73,77] (.ii 1))) (.cons (.cmp .gt (.aq (.v 1) (.ii 0)) (.gl [82,95,82,65,87] (.ii 11))) .nil)))) (.cons (.bad) .nil) (.nil)) (.cons (.asg 2 (.aq (.v 1) (.ii 0))) (.cons (.b4 (.cmp .ne (.len (.v 1)) (.call 16 (.cons (.v 2) .nil))) (.cons (.bad) .nil) (.nil)) (.cons (.dd [3] false (.call 14 (.cons (.v 1) .nil)) (.cons (.ex (.hj (.v 0) 75 (.cons (.v 3) .nil))) .nil)) (.cons (.b4 (.or (.cons (.cmp .eq (.v 2) (.gl [82,95,67,76,65,83,83] (.ii 2))) (.cons (.cmp .eq (.v 2) (.gl [82,95,86,65,76,85,69] (.ii 3))) .nil))) (.cons (.ex (.call 18 (.cons (.v 0) (.cons (.v 1) .nil)))) .nil) (.cons (.b4 (.or (.cons (.cmp .eq (.v 2) (.gl [82,95,86,65,82] (.ii 6))) (.cons (.cmp .eq (.v 2) (.gl [82,95,77,86,65,82] (.ii 7))) .nil))) (.cons (.b4 (.cmp .lt (.aq (.v 1) (.ii 1)) (.ii 0)) (.cons (.bad) .nil) (.nil)) .nil) (.cons (.b4 (.cmp .eq (.v 2) (.gl [82,95,70,84,78] (.ii 10))) (.cons (.b4 (.or (.cons (.g4 (.e (.call 20 (.cons (.v 0) (.cons (.aq (.v 1) (.ii 1)) .nil))))) (.cons (.cmp .lt (.aq (.v 1) (.ii 2)) (.ii 0)) .nil))) (.cons (.bad) .nil) (.nil)) (.cons (.ex (.call 19 (.cons (.v 0) (.cons (.aq (.v 1) (.ii 3)) .nil)))) .nil)) (.cons (.b4 (.cmp .eq (.v 2) (.gl [82,95,66,79,88,69,68] (.ii 8))) (.cons (.b4 (.g4 (.or (.cons (.e .bad) (.cons (.e .bad) .nil)))) (.cons (.bad) .nil) (.nil)) .nil) (.cons (.b4 (.g4 (.e (.call 20 (.cons (.v 0) (.cons (.aq (.v 1) (.ii 1)) .nil))))) (.cons (.bad) .nil) (.nil)) .nil)) .nil)) .nil)) .nil)) .nil))))
noncomputable def Tw:bk:=
 .cons (.b4 (.or (.cons (.cmp .le (.aq (.v 1) (.ii 1)) (.ii 0)) (.cons (.cmp .pk (.aq (.v 1) (.ii 1)) (.gl [84,73,68,95,80,82,73,77] (.cd o8))) .nil))) (.cons (.bad) .nil) (.nil)) (.cons (.ex (.call 19 (.cons (.v 0) (.cons (.aq (.v 1) (.ii 2)) .nil)))) .nil)
noncomputable def Tu:bk:=
 .cons (.dd [2] false (.v 1) (.cons (.b4 (.g4 (.e (.call 20 (.cons (.v 0) (.cons (.v 2) .nil))))) (.cons (.bad) .nil) (.nil)) .nil)) .nil
noncomputable def T2:bk:=
 .cons (.b4 (.or (.cons (.cmp .eq (.v 1) (.gl [86,79,73,68] (.ii 0))) (.cons (.cmp .eq (.v 1) (.gl [78,85,76,76,75] (.ii 14))) .nil))) (.cons (.ret (.cj false)) .nil) (.nil)) (.cons (.asg 2 (.aq (.hj (.v 0) 75 (.cons (.v 1) .nil)) (.ii 0))) (.cons (.ret (.or (.cons (.cmp .le (.v 2) (.gl [82,95,65,82,82,65,89] (.ii 4))) (.cons (.cmp .eq (.v 2) (.gl [82,95,86,65,82] (.ii 6))) (.cons (.cmp .eq (.v 2) (.gl [82,95,77,86,65,82] (.ii 7))) .nil))))) .nil))
noncomputable def Tx:bk:=
 .cons (.b4 (.cmp .pk (.v 1) (.gl [84,73,68,95,80,82,73,77] (.cd o8))) (.cons (.ret .bad) .nil) (.nil)) (.cons (.ret (.hj (.v 0) 76 (.cons (.tup (.cons (.gl [82,95,67,76,65,83,83] (.ii 2)) (.cons (.v 1) (.cons (.v 2) .nil)))) .nil))) .nil)
noncomputable def Ud:bk:=
 .cons (.ret (.hj (.v 0) 76 (.cons (.tup (.cons (.gl [82,95,86,65,82] (.ii 6)) (.cons (.v 1) .nil))) .nil))) .nil
noncomputable def TP:bk:=
 .cons (.ret (.aq (.hj (.v 0) 75 (.cons (.v 1) .nil)) (.ii 0))) .nil
noncomputable def Ub:bk:=
 .cons (.asg 2 (.hj (.v 0) 75 (.cons (.v 1) .nil))) (.cons (.b4 (.or (.cons (.cmp .eq (.aq (.v 2) (.ii 0)) (.gl [82,95,67,76,65,83,83] (.ii 2))) (.cons (.cmp .eq (.aq (.v 2) (.ii 0)) (.gl [82,95,86,65,76,85,69] (.ii 3))) .nil))) (.cons (.ret (.aq (.v 2) (.ii 1))) .nil) (.nil)) (.cons (.b4 (.cmp .eq (.aq (.v 2) (.ii 0)) (.gl [82,95,80,82,73,77] (.ii 1))) (.cons (.ret (.m3 (.gl [80,82,73,77,95,84,73,68] (.cd UL)) (.v 1) (.ii 0))) .nil) (.nil)) (.cons (.b4 (.cmp .eq (.aq (.v 2) (.ii 0)) (.gl [82,95,65,82,82,65,89] (.ii 4))) (.cons (.ret (.gl [65,82,82,65,89,95,84,73,68] (.ii 5))) .nil) (.nil)) (.cons (.ret (.ii 0)) .nil))))
noncomputable def Ts:bk:=
 .cons (.asg 2 (.hj (.v 0) 75 (.cons (.v 1) .nil))) (.cons (.b4 (.or (.cons (.cmp .eq (.aq (.v 2) (.ii 0)) (.gl [82,95,67,76,65,83,83] (.ii 2))) (.cons (.cmp .eq (.aq (.v 2) (.ii 0)) (.gl [82,95,86,65,76,85,69] (.ii 3))) .nil))) (.cons (.ret (.aq (.v 2) (.ii 2))) .nil) (.nil)) (.cons (.ret (.tup .nil)) .nil))
noncomputable def Tz:bk:=
 .cons (.ex (.hj (.v 0) 75 (.cons (.v 1) .nil))) (.cons (.b4 (.cmp .eq (.aq (.at (.v 0) 4) (.v 1)) (.ii 0)) (.cons (.ret (.v 1)) .nil) (.nil)) (.cons (.ret (.call 27 (.cons (.v 0) (.cons (.v 1) (.cons (.v 2) (.cons (.v 3) (.cons (.eQ .i) .nil))))))) .nil))
noncomputable def TB:bk:=
 .cons (.b4 (.cmp .eq (.aq (.at (.v 0) 4) (.v 1)) (.ii 0)) (.cons (.ret (.v 1)) .nil) (.nil)) (.cons (.b4 (.cmp .pk (.v 1) (.v 4)) (.cons (.ret (.aq (.v 4) (.v 1))) .nil) (.nil)) (.cons (.asg 5 (.aq (.at (.v 0) 0) (.v 1))) (.cons (.b4 (.cmp .eq (.aq (.v 5) (.ii 0)) (.gl [82,95,86,65,82] (.ii 6))) (.cons (.ret (.call 29 (.cons (.v 2) (.cons (.aq (.v 5) (.ii 1)) (.cons (.v 1) .nil))))) .nil) (.nil)) (.cons (.b4 (.cmp .eq (.aq (.v 5) (.ii 0)) (.gl [82,95,77,86,65,82] (.ii 7))) (.cons (.ret (.call 29 (.cons (.v 3) (.cons (.aq (.v 5) (.ii 1)) (.cons (.v 1) .nil))))) .nil) (.nil)) (.cons (.asg 6 (.lst .nil)) (.cons (.dd [7] false (.call 14 (.cons (.v 5) .nil)) (.cons (.ex (.append (.v 6) (.call 27 (.cons (.v 0) (.cons (.v 7) (.cons (.v 2) (.cons (.v 3) (.cons (.v 4) .nil)))))))) .nil)) (.cons (.gJ (.v 4) (.v 1) (.call 28 (.cons (.v 0) (.cons (.v 5) (.cons (.jc (.v 6)) .nil))))) (.cons (.ret (.aq (.v 4) (.v 1))) .nil))))))))
noncomputable def Ue:bk:=
 .cons (.asg 3 (.aq (.v 1) (.ii 0))) (.cons (.b4 (.or (.cons (.cmp .eq (.v 3) (.gl [82,95,67,76,65,83,83] (.ii 2))) (.cons (.cmp .eq (.v 3) (.gl [82,95,86,65,76,85,69] (.ii 3))) .nil))) (.cons (.ret (.hj (.v 0) 76 (.cons (.tup (.cons (.v 3) (.cons (.aq (.v 1) (.ii 1)) (.cons (.v 2) .nil)))) .nil))) .nil) (.nil)) (.cons (.b4 (.cmp .eq (.v 3) (.gl [82,95,70,84,78] (.ii 10))) (.cons (.ret (.hj (.v 0) 76 (.cons (.tup (.cons (.v 3) (.cons (.aq (.v 2) (.ii 0)) (.cons (.aq (.v 1) (.ii 2)) (.cons (.lk (.v 2) (.ii 1)) .nil))))) .nil))) .nil) (.nil)) (.cons (.b4 (.cmp .eq (.v 3) (.gl [82,95,66,79,88,69,68] (.ii 8))) (.cons (.ret .bad) .nil) (.nil)) (.cons (.ret (.hj (.v 0) 76 (.cons (.tup (.cons (.v 3) (.cons (.aq (.v 2) (.ii 0)) .nil))) .nil))) .nil))))
noncomputable def T6:bk:=
 .cons (.b4 (.cmp .lt (.v 1) (.len (.v 0))) (.cons (.ret (.aq (.v 0) (.v 1))) .nil) (.nil)) (.cons (.ret (.v 2)) .nil)
noncomputable def TA:bk:=
 .cons (.asg 4 (.lst .nil)) (.cons (.dd [5] false (.v 1) (.cons (.ex (.append (.v 4) (.call 26 (.cons (.v 0) (.cons (.v 5) (.cons (.v 2) (.cons (.v 3) .nil))))))) .nil)) (.cons (.ret (.jc (.v 4))) .nil))
noncomputable def T7:bk:=
 .cons (.asg 1 (.lst .nil)) (.cons (.dd [2] false (.gQ (.v 0)) (.cons (.ex (.append (.v 1) (.bin .add (.ss [112]) (.strOf (.v 2))))) .nil)) (.cons (.ret (.jc (.v 1))) .nil))
noncomputable def TO:bk:=
 .cons (.b4 (.and (.cons (.cmp .ne (.bin .band (.v 0) (.bin .add (.gl [77,70,95,67,84,79,82] (.ii 32)) (.gl [77,70,95,67,67,84,79,82] (.ii 64)))) (.ii 0)) (.cons (.cmp .ne (.bin .band (.v 0) (.gl [77,70,95,83,80,69,67,73,65,76] (.ii 128))) (.ii 0)) .nil))) (.cons (.ret (.bin .sub (.v 0) (.gl [77,70,95,83,80,69,67,73,65,76] (.ii 128)))) .nil) (.nil)) (.cons (.ret (.v 0)) .nil)
noncomputable def Tr:bk:=
 .cons (.asg 7 (.aq (.at (.v 0) 36) (.v 1))) (.cons (.asg 8 (.len (.at (.v 0) 15))) (.cons (.ex (.append (.at (.v 0) 15) (.new 2 (.cons (.v 8) (.cons (.v 1) (.cons (.v 2) (.cons (.v 3) (.cons (.call 32 (.cons (.v 4) .nil)) (.cons (.v 5) (.cons (.v 6) .nil)))))))))) (.cons (.ex (.append (.at (.v 7) 15) (.v 8))) (.cons (.ex (.call 34 (.cons (.v 0) (.cons (.v 8) .nil)))) (.cons (.ret (.v 8)) .nil)))))
noncomputable def T5:bk:=
 .cons (.asg 2 (.aq (.at (.v 0) 15) (.v 1))) (.cons (.asg 3 (.aq (.at (.v 0) 36) (.at (.v 2) 25))) (.cons (.b4 (.cmp .ne (.bin .band (.at (.v 2) 8) (.gl [77,70,95,67,67,84,79,82] (.ii 64))) (.ii 0)) (.cons (.cc (.v 3) 17 (.v 1)) .nil) (.nil)) (.cons (.b4 (.and (.cons (.cmp .eq (.at (.v 2) 6) (.ss [70,105,110,97,108,105,122,101])) (.cons (.e .bad) (.cons (.cmp .eq (.len (.at (.v 2) 11)) (.ii 0)) (.cons (.cmp .eq (.at (.v 2) 30) (.gl [86,79,73,68] (.ii 0))) .nil))))) (.cons (.b4 (.or (.cons (.cmp .eq (.at (.v 2) 25) (.gl [84,95,79,66,74,69,67,84] (.ii 1))) (.cons (.cmp .eq (.bin .band (.at (.v 2) 8) (.gl [77,70,95,78,69,87,83,76,79,84] (.ii 4))) (.ii 0)) .nil))) (.cons (.cc (.v 3) 22 (.v 1)) .nil) (.nil)) .nil) (.nil)) .nil)))
noncomputable def T8:bk:=
 .cons (.b4 (.cmp .my (.v 1) (.v 0)) (.cons (.ex (.append (.v 0) (.v 1))) .nil) (.nil)) .nil
noncomputable def Tq:bk:=
 .cons (.ex (.call 35 (.cons (.at (.aq (.at (.v 0) 36) (.v 1)) 19) (.cons (.tup (.cons (.v 2) (.cons (.v 3) (.cons (.v 4) .nil)))) .nil)))) .nil
noncomputable def Ua:bk:=
 .cons (.b4 (.cmp .pk (.v 1) (.gl [84,73,68,95,80,82,73,77] (.cd o8))) (.cons (.ret (.aq (.gl [84,73,68,95,80,82,73,77] (.cd o8)) (.v 1))) .nil) (.nil)) (.cons (.asg 2 (.aq (.at (.v 0) 36) (.v 1))) (.cons (.asg 3 (.lst .nil)) (.cons (.dd [4] false (.gQ (.len (.at (.v 2) 11))) (.cons (.ex (.append (.v 3) (.call 22 (.cons (.at (.v 0) 35) (.cons (.v 4) .nil))))) .nil)) (.cons (.ret (.call 38 (.cons (.v 0) (.cons (.v 1) (.cons (.jc (.v 3)) .nil))))) .nil))))
noncomputable def TQ:bk:=
 .cons (.asg 3 (.at (.aq (.at (.v 0) 36) (.v 1)) 7)) (.cons (.b4 (.or (.cons (.cmp .eq (.v 3) (.gl [83,95,83,84,82,85,67,84] (.ii 2))) (.cons (.cmp .eq (.v 3) (.gl [83,95,69,78,85,77] (.ii 5))) .nil))) (.cons (.ret .bad) .nil) (.nil)) (.cons (.ret (.call 21 (.cons (.at (.v 0) 35) (.cons (.v 1) (.cons (.v 2) .nil))))) .nil))
noncomputable def Uc:bk:=
 .cons (.asg 2 (.call 24 (.cons (.at (.v 0) 35) (.cons (.v 1) .nil)))) (.cons (.b4 (.or (.cons (.cmp .le (.v 2) (.ii 0)) (.cons (.cmp .ge (.v 2) (.len (.at (.v 0) 36))) .nil))) (.cons (.ret .nn) .nil) (.nil)) (.cons (.ret (.aq (.at (.v 0) 36) (.v 2))) .nil))
noncomputable def TL:bk:=
 .cons (.asg 3 (.lst .nil)) (.cons (.dd [4] false (.at (.aq (.at (.v 0) 36) (.v 1)) 15) (.cons (.b4 (.cmp .eq (.at (.aq (.at (.v 0) 15) (.v 4)) 6) (.v 2)) (.cons (.ex (.append (.v 3) (.v 4))) .nil) (.nil)) .nil)) (.cons (.ret (.v 3)) .nil))
noncomputable def T3:bk:=
 .cons (.b4 (.cmp .eq (.aq (.v 1) (.ii 1)) (.ii 0)) (.cons (.ret (.tup (.cons (.gl [86,79,73,68] (.ii 0)) (.cons (.tup .nil) .nil)))) .nil) (.nil)) (.cons (.asg 2 (.aq (.at (.v 0) 15) (.aq (.v 1) (.ii 1)))) (.cons (.b4 (.cmp .is (.v 2) (.nn)) (.cons (.bad) .nil) (.nil)) (.cons (.asg 3 (.call 25 (.cons (.at (.v 0) 35) (.cons (.aq (.v 1) (.ii 0)) .nil)))) (.cons (.ret (.tup (.cons (.call 26 (.cons (.at (.v 0) 35) (.cons (.at (.v 2) 30) (.cons (.v 3) (.cons (.aq (.v 1) (.ii 2)) .nil))))) (.cons (.call 30 (.cons (.at (.v 0) 35) (.cons (.at (.v 2) 11) (.cons (.v 3) (.cons (.aq (.v 1) (.ii 2)) .nil))))) .nil)))) .nil))))
noncomputable def TN:bk:=
 .cons (.ret (.and (.cons (.cmp .eq (.call 23 (.cons (.at (.v 0) 35) (.cons (.v 1) .nil))) (.gl [82,95,67,76,65,83,83] (.ii 2))) (.cons (.cmp .eq (.hj (.v 0) 7 (.cons (.v 1) .nil)) (.gl [83,95,73,70,65,67,69] (.ii 3))) .nil)))) .nil
noncomputable def Tt:bk:=
 .cons (.asg 2 (.lst .nil)) (.cons (.asg 3 (.eQ .i)) (.cons (.pL (.and (.cons (.cmp .ne (.v 1) (.neg (.ii 1))) (.cons (.cmp .my (.v 1) (.v 3)) .nil))) (.cons (.gJ (.v 3) (.v 1) (.ii 1)) (.cons (.ex (.append (.v 2) (.v 1))) (.cons (.asg 1 (.hj (.v 0) 9 (.cons (.v 1) .nil))) .nil)))) (.cons (.ret (.v 2)) .nil)))
noncomputable def TG:bk:=
 .cons (.asg 1 (.lst .nil)) (.cons (.dd [2] false (.gQ (.len (.at (.v 0) 65))) (.cons (.asg 3 (.call 37 (.cons (.at (.v 0) 47) (.cons (.aq (.aq (.at (.v 0) 65) (.v 2)) (.ii 0)) .nil)))) (.cons (.ex (.append (.v 1) (.tup (.cons (.len (.call 43 (.cons (.at (.at (.v 0) 63) 56) (.cons (.v 3) .nil)))) (.cons (.v 2) .nil))))) .nil))) (.cons (.dd [4,2] true (.sorted (.v 1)) (.cons (.o1 [5,6,7] (.aq (.at (.v 0) 65) (.v 2))) (.cons (.ex (.call 45 (.cons (.v 0) (.cons (.v 5) (.cons (.v 6) (.cons (.v 7) .nil)))))) .nil))) .nil))
noncomputable def TE:bk:=
 .cons (.asg 4 (.call 48 (.cons (.v 0) (.cons (.v 1) (.cons (.v 2) .nil))))) (.cons (.b4 (.cmp .is (.v 4) (.nn)) (.cons (.ex .bad) (.cons (.mD) .nil)) (.nil)) (.cons (.asg 5 (.aq (.at (.at (.v 0) 47) 15) (.v 2))) (.cons (.asg 6 (.aq (.at (.at (.v 0) 47) 15) (.aq (.v 4) (.ii 1)))) (.cons (.asg 7 (.call 47 (.cons (.v 0) (.cons (.v 5) (.cons (.v 6) (.cons (.v 4) .nil)))))) (.cons (.b4 (.e (.v 7)) (.cons (.ex .bad) .nil) (.nil)) (.cons (.b4 (.cmp .eq (.v 7) (.ii 0)) (.cons (.ex (.call 46 (.cons (.v 0) (.cons (.v 1) (.cons (.v 2) (.cons (.v 4) (.cons (.v 3) .nil))))))) .nil) (.nil)) (.cons (.cc (.v 5) 29 (.lst .nil)) (.cons (.dd [8,9] true (.at (.v 6) 29) (.cons (.ex (.append (.at (.v 5) 29) (.tup (.cons (.v 8) (.cons (.call 30 (.cons (.at (.v 0) 35) (.cons (.v 9) (.cons (.call 25 (.cons (.at (.v 0) 35) (.cons (.aq (.v 4) (.ii 0)) .nil))) (.cons (.tup .nil) .nil))))) .nil))))) .nil)) .nil))))))))
noncomputable def TK:bk:=
 .cons (.asg 5 (.lst .nil)) (.cons (.b4 (.e (.aq (.v 3) (.ii 3))) (.cons (.ex (.append (.v 5) (.tup (.cons (.aq (.v 3) (.ii 0)) (.cons (.aq (.v 3) (.ii 1)) .nil))))) .nil) (.nil)) (.cons (.dd [6,7,8] true (.at (.call 39 (.cons (.at (.v 0) 47) (.cons (.aq (.v 3) (.ii 0)) .nil))) 19) (.cons (.b4 (.and (.cons (.cmp .eq (.v 6) (.aq (.v 3) (.ii 1))) (.cons (.g4 (.e (.call 42 (.cons (.at (.at (.v 0) 63) 56) (.cons (.v 7) .nil))))) .nil))) (.cons (.ex (.append (.v 5) (.tup (.cons (.call 26 (.cons (.at (.v 0) 35) (.cons (.v 7) (.cons (.call 25 (.cons (.at (.v 0) 35) (.cons (.aq (.v 3) (.ii 0)) .nil))) (.cons (.tup .nil) .nil))))) (.cons (.v 8) .nil))))) .nil) (.nil)) .nil)) (.cons (.asg 9 (.aq (.at (.at (.v 0) 47) 15) (.v 2))) (.cons (.b4 (.and (.cons (.e (.v 5)) (.cons (.e (.bin .band (.at (.v 9) 8) (.gl [77,70,95,65,66,83,84,82,65,67,84] (.ii 8)))) .nil))) (.cons (.bad) .nil) (.nil)) (.cons (.b4 (.e (.aq (.v 3) (.ii 3))) (.cons (.o3 (.v 9) 8 .bor (.gl [77,70,95,78,69,87,83,76,79,84] (.ii 4))) .nil) (.nil)) (.cons (.dd [7,8] true (.v 5) (.cons (.ex (.call 36 (.cons (.at (.v 0) 47) (.cons (.v 1) (.cons (.v 2) (.cons (.v 7) (.cons (.v 8) .nil))))))) .nil)) .nil))))))
noncomputable def TF:bk:=
 .cons (.b4 (.and (.cons (.cmp .eq (.at (.v 1) 6) (.ss [70,105,110,97,108,105,122,101])) (.cons (.g4 (.e (.at (.v 1) 11))) (.cons (.g4 (.e (.at (.v 1) 27))) .nil)))) (.cons (.ret (.ii 249)) .nil) (.nil)) (.cons (.b4 (.cmp .gt (.aq (.v 3) (.ii 2)) (.ii 1)) (.cons (.ret (.ii 462)) .nil) (.nil)) (.cons (.b4 (.or (.cons (.g4 (.e (.bin .band (.at (.v 2) 8) (.gl [77,70,95,86,73,82,84,85,65,76] (.ii 2))))) (.cons (.e (.bin .band (.at (.v 2) 8) (.gl [77,70,95,83,84,65,84,73,67] (.ii 1)))) .nil))) (.cons (.ret (.ii 506)) .nil) (.nil)) (.cons (.b4 (.e (.bin .band (.at (.v 2) 8) (.gl [77,70,95,70,73,78,65,76] (.ii 16)))) (.cons (.ret (.ii 239)) .nil) (.nil)) (.cons (.b4 (.cmp .ne (.aq (.call 41 (.cons (.at (.v 0) 47) (.cons (.tup (.cons (.aq (.v 3) (.ii 0)) (.cons (.aq (.v 3) (.ii 1)) (.cons (.tup .nil) .nil)))) .nil))) (.ii 0)) (.at (.v 1) 30)) (.cons (.ret (.ii 508)) .nil) (.nil)) (.cons (.asg 4 (.at (.v 2) 26)) (.cons (.b4 (.and (.cons (.cmp .eq (.v 4) (.gl [65,95,70,65,77,79,82,65,83,77] (.ii 5))) (.cons (.e .bad) .nil))) (.cons (.asg 4 (.gl [65,95,70,65,77,73,76,89] (.ii 4))) .nil) (.nil)) (.cons (.ret (.ite (.cmp .ne (.v 4) (.at (.v 1) 26)) (.ii 507) (.ii 0))) .nil)))))))
noncomputable def TC:bk:=
 .cons (.asg 3 (.aq (.at (.at (.v 0) 47) 15) (.v 2))) (.cons (.asg 4 (.cj false)) (.cons (.dd [5] false (.lk (.call 43 (.cons (.at (.at (.v 0) 63) 56) (.cons (.call 37 (.cons (.at (.v 0) 47) (.cons (.v 1) .nil))) .nil))) (.ii 1)) (.cons (.asg 6 (.comp (.aq (.at (.at (.v 0) 47) 15) (.v 8)) [8] false (.call 51 (.cons (.v 0) (.cons (.v 5) (.cons (.at (.v 3) 6) (.cons (.at (.v 3) 27) (.cons (.at (.v 3) 11) .nil)))))) (.cons (.cmp .ne (.at (.aq (.at (.at (.v 0) 47) 15) (.v 8)) 26) (.gl [65,95,80,82,73,86,65,84,69] (.ii 1))) .nil))) (.cons (.asg 7 (.comp (.at (.v 9) 24) [9] false (.v 6) (.cons (.and (.cons (.e (.call 49 (.cons (.v 0) (.cons (.v 3) (.cons (.v 9) .nil))))) (.cons (.g4 (.e (.bin .band (.bin .bxor (.at (.v 9) 8) (.at (.v 3) 8)) (.gl [77,70,95,83,80,69,67,73,65,76] (.ii 128))))) (.cons (.e (.call 50 (.cons (.v 3) (.cons (.v 9) .nil)))) .nil)))) .nil))) (.cons (.b4 (.e (.v 7)) (.cons (.ret (.tup (.cons (.v 5) (.cons (.aq (.v 7) (.ii 0)) (.cons (.len (.v 7)) (.cons (.or (.cons (.v 4) (.cons (.cmp .gt (.len (.v 6)) (.len (.v 7))) .nil))) .nil)))))) .nil) (.nil)) (.cons (.asg 4 (.or (.cons (.v 4) (.cons (.cmp .gt (.len (.v 6)) (.ii 0)) .nil)))) .nil))))) (.cons (.ret .nn) .nil)))
noncomputable def TD:bk:=
 .cons (.b4 (.cmp .eq (.at (.v 2) 26) (.gl [65,95,80,82,73,86,65,84,69] (.ii 1))) (.cons (.ret (.cj false)) .nil) (.nil)) (.cons (.ret (.or (.cons (.cmp .my (.at (.v 2) 26) (.tup (.cons (.gl [65,95,65,83,83,69,77,66,76,89] (.ii 3)) (.cons (.gl [65,95,70,65,77,65,78,68,65,83,77] (.ii 2)) .nil)))) (.cons (.bad) .nil)))) .nil)
noncomputable def TH:bk:=
 .cons (.ret (.cmp .eq (.comp (.bin .band (.v 2) (.gl [80,70,95,79,85,84] (.ii 1))) [2] false (.at (.v 0) 32) (.nil)) (.comp (.bin .band (.v 3) (.gl [80,70,95,79,85,84] (.ii 1))) [3] false (.at (.v 1) 32) (.nil)))) .nil
noncomputable def TJ:bk:=
 .cons (.asg 5 (.lst .nil)) (.cons (.b4 (.e (.call 24 (.cons (.at (.v 0) 35) (.cons (.v 1) .nil)))) (.cons (.dd [6] false (.call 40 (.cons (.at (.v 0) 47) (.cons (.call 24 (.cons (.at (.v 0) 35) (.cons (.v 1) .nil))) (.cons (.v 2) .nil)))) (.cons (.b4 (.and (.cons (.cmp .eq (.at (.aq (.at (.at (.v 0) 47) 15) (.v 6)) 27) (.v 3)) (.cons (.cmp .eq (.aq (.call 41 (.cons (.at (.v 0) 47) (.cons (.tup (.cons (.v 1) (.cons (.v 6) (.cons (.tup .nil) .nil)))) .nil))) (.ii 1)) (.v 4)) .nil))) (.cons (.ex (.append (.v 5) (.v 6))) .nil) (.nil)) .nil)) .nil) (.nil)) (.cons (.ret (.v 5)) .nil))
noncomputable def TZ:bk:=
 .cons (.asg 2 (.aq (.v 0) (.ss [97,116]))) (.cons (.gJ (.v 0) (.ss [97,116]) (.bin .add (.v 2) (.ii 1))) (.cons (.asg 3 (.tup (.cons (.ii 0) (.cons (.ii 1) (.cons (.ii 1) (.cons (.ii 0) (.cons (.ii 0) (.cons (.ii 1) (.cons (.ii 3) (.cons (.ii 0) (.cons (.ii 0) (.cons (.ii 2) (.cons (.ii 0) (.cons (.ii 1) (.cons (.ii 0) (.cons (.ii 0) (.cons (.ii 1) (.cons (.ii 1) (.cons (.ii 0) (.cons (.ii 0) (.cons (.ii 0) (.cons (.ii 0) (.cons (.ii 2) (.cons (.ii 0) (.cons (.ii 0) .nil))))))))))))))))))))))))) (.cons (.b4 (.cmp .lt (.v 2) (.len (.aq (.v 0) (.ss [105,110])))) (.cons (.ret (.bin .mod (.aq (.aq (.v 0) (.ss [105,110])) (.v 2)) (.v 1))) .nil) (.nil)) (.cons (.ret (.ite (.cmp .lt (.v 2) (.len (.v 3))) (.bin .mod (.aq (.v 3) (.v 2)) (.v 1)) (.bin .mod (.bin .add (.bin .mul (.ii 5) (.v 2)) (.ii 3)) (.v 1)))) .nil))))
noncomputable def TX:bk:=
 .cons (.b4 (.cmp .eq (.aq (.v 0) (.ii 0)) (.ss [118])) (.cons (.ret (.aq (.v 1) (.aq (.v 0) (.ii 1)))) .nil) (.nil)) (.cons (.b4 (.cmp .eq (.aq (.v 0) (.ii 0)) (.ss [97])) (.cons (.ret (.tup (.cons (.ss [97]) (.cons (.call 53 (.cons (.aq (.v 0) (.ii 1)) (.cons (.v 1) .nil))) .nil)))) .nil) (.nil)) (.cons (.b4 (.cmp .eq (.aq (.v 0) (.ii 0)) (.ss [103])) (.cons (.ret (.tup (.cons (.ss [103]) (.cons (.aq (.v 0) (.ii 1)) (.cons (.jc (.comp (.call 53 (.cons (.v 2) (.cons (.v 1) .nil))) [2] false (.aq (.v 0) (.ii 2)) (.nil))) .nil))))) .nil) (.nil)) (.cons (.ret (.v 0)) .nil)))
noncomputable def TR:bk:=
 .cons (.asg 2 (.at (.aq (.v 0) (.ss [115,116,111,114,101])) 35)) (.cons (.b4 (.cmp .eq (.aq (.v 1) (.ii 0)) (.ss [118])) (.cons (.ret (.hj (.v 2) 76 (.cons (.tup (.cons (.gl [82,95,86,65,82] (.ii 6)) (.cons (.aq (.v 1) (.ii 1)) .nil))) .nil))) .nil) (.nil)) (.cons (.b4 (.cmp .eq (.aq (.v 1) (.ii 0)) (.ss [97])) (.cons (.ret (.hj (.v 2) 76 (.cons (.tup (.cons (.gl [82,95,65,82,82,65,89] (.ii 4)) (.cons (.call 54 (.cons (.v 0) (.cons (.aq (.v 1) (.ii 1)) .nil))) .nil))) .nil))) .nil) (.nil)) (.cons (.b4 (.cmp .eq (.aq (.v 1) (.ii 0)) (.ss [103])) (.cons (.ret (.hj (.v 2) 76 (.cons (.tup (.cons (.gl [82,95,67,76,65,83,83] (.ii 2)) (.cons (.aq (.v 1) (.ii 1)) (.cons (.jc (.comp (.call 54 (.cons (.v 0) (.cons (.v 3) .nil))) [3] false (.aq (.v 1) (.ii 2)) (.nil))) .nil)))) .nil))) .nil) (.nil)) (.cons (.ret (.aq (.v 1) (.ii 1))) .nil))))
noncomputable def T0:bk:=
 .cons (.asg 2 (.call 52 (.cons (.v 0) (.cons (.ii 6) .nil)))) (.cons (.asg 3 (.tup (.cons (.ss [107]) (.cons (.aq (.tup (.cons (.gl [73,52] (.ii 7)) (.cons (.gl [83,84,82,73,78,71] (.ii 13)) (.cons (.gl [79,66,74,69,67,84] (.ii 12)) .nil)))) (.bin .mod (.v 2) (.ii 3))) .nil)))) (.cons (.b4 (.and (.cons (.cmp .gt (.v 1) (.ii 0)) (.cons (.cmp .lt (.v 2) (.ii 4)) .nil))) (.cons (.asg 3 (.tup (.cons (.ss [118]) (.cons (.bin .mod (.v 2) (.v 1)) .nil)))) .nil) (.nil)) (.cons (.b4 (.cmp .eq (.v 2) (.ii 3)) (.cons (.ret (.tup (.cons (.ss [97]) (.cons (.v 3) .nil)))) .nil) (.nil)) (.cons (.ret (.ite (.cmp .eq (.v 2) (.ii 2)) (.tup (.cons (.ss [103]) (.cons (.ii 70) (.cons (.tup (.cons (.v 3) .nil)) .nil)))) (.v 3))) .nil))))
noncomputable def TV:bk:=
 .cons (.ret (.jc (.comp (.tup (.cons (.ss [118]) (.cons (.v 2) .nil))) [2] false (.gQ (.aq (.aq (.v 0) (.ss [109,97,110,121])) (.v 1))) (.nil)))) .nil
noncomputable def TS:bk:=
 .cons (.asg 2 (.call 56 (.cons (.v 0) (.cons (.v 1) .nil)))) (.cons (.asg 3 (.lst (.cons (.tup (.cons (.v 1) (.cons (.v 2) .nil))) .nil))) (.cons (.pL (.cmp .gt (.v 1) (.ii 0)) (.cons (.asg 2 (.jc (.comp (.call 53 (.cons (.v 4) (.cons (.v 2) .nil))) [4] false (.aq (.aq (.v 0) (.ss [117,112])) (.v 1)) (.nil)))) (.cons (.aug 1 .sub (.ii 1)) (.cons (.ex (.append (.v 3) (.tup (.cons (.v 1) (.cons (.v 2) .nil))))) .nil)))) (.cons (.ret (.v 3)) .nil)))
noncomputable def T1:bk:=
 .cons (.asg 1 (.aq (.v 0) (.ss [115,116,111,114,101]))) (.cons (.gJ (.v 0) (.ss [109,97,110,121]) (.lst (.cons (.bin .add (.ii 1) (.call 52 (.cons (.v 0) (.cons (.ii 2) .nil)))) .nil))) (.cons (.dd [2] false (.tup (.cons (.ii 1) (.cons (.ii 2) (.cons (.ii 3) .nil)))) (.cons (.ex (.append (.aq (.v 0) (.ss [109,97,110,121])) (.call 52 (.cons (.v 0) (.cons (.ii 3) .nil))))) .nil)) (.cons (.gJ (.v 0) (.ss [117,112]) (.lst (.cons (.tup .nil) .nil))) (.cons (.dd [2] false (.tup (.cons (.ii 1) (.cons (.ii 2) (.cons (.ii 3) .nil)))) (.cons (.ex (.append (.aq (.v 0) (.ss [117,112])) (.jc (.comp (.call 55 (.cons (.v 0) (.cons (.aq (.aq (.v 0) (.ss [109,97,110,121])) (.v 2)) .nil))) [5] false (.gQ (.aq (.aq (.v 0) (.ss [109,97,110,121])) (.bin .sub (.v 2) (.ii 1)))) (.nil))))) .nil)) (.cons (.cc (.v 1) 36 (.pE (.lst (.cons (.nn) .nil)) (.ii 66))) (.cons (.dd [2] false (.gQ (.ii 4)) (.cons (.ex (.append (.at (.v 1) 36) (.new 1 (.cons (.bin .add (.ii 66) (.v 2)) (.cons (.aq (.ss [65,66,67,68]) (.v 2)) (.cons (.ii 1) (.cons (.ii 0) (.cons (.neg (.ii 1)) (.cons (.mF (.ss [84,85]) (.aq (.aq (.v 0) (.ss [109,97,110,121])) (.v 2))) (.cons (.ii 1) .nil)))))))))) .nil)) (.cons (.ex (.append (.at (.v 1) 36) (.new 1 (.cons (.ii 70) (.cons (.ss [71]) (.cons (.ii 1) (.cons (.ii 0) (.cons (.neg (.ii 1)) (.cons (.ss [84]) (.cons (.ii 1) .nil)))))))))) (.cons (.dd [2] false (.gQ (.ii 4)) (.cons (.asg 3 (.comp (.call 54 (.cons (.v 0) (.cons (.tup (.cons (.ss [103]) (.cons (.bin .add (.ii 66) (.v 6)) (.cons (.v 7) .nil)))) .nil))) [6,7] true (.call 57 (.cons (.v 0) (.cons (.v 2) .nil))) (.nil))) (.cons (.dd [4] false (.pF (.ii 1) (.len (.v 3))) (.cons (.gJ (.at (.aq (.v 0) (.ss [104,111,115,116])) 70) (.aq (.v 3) (.bin .sub (.v 4) (.ii 1))) (.aq (.v 3) (.v 4))) .nil)) .nil))) .nil))))))))
noncomputable def TW:bk:=
 .cons (.asg 5 (.call 57 (.cons (.v 0) (.cons (.v 1) .nil)))) (.cons (.asg 6 (.call 53 (.cons (.aq (.aq (.v 0) (.ss [103,105,118,101,110])) (.v 2)) (.cons (.aq (.aq (.v 5) (.neg (.ii 1))) (.ii 1)) .nil)))) (.cons (.asg 7 (.bin .add (.ite (.e (.v 4)) (.ii 2) (.ii 6)) (.bin .mul (.ii 128) (.v 3)))) (.cons (.asg 8 (.call 33 (.cons (.aq (.v 0) (.ss [115,116,111,114,101])) (.cons (.bin .add (.ii 66) (.v 1)) (.cons (.v 2) (.cons (.ii 6) (.cons (.v 7) (.cons (.gl [86,79,73,68] (.ii 0)) (.cons (.tup (.cons (.call 54 (.cons (.v 0) (.cons (.v 6) .nil))) .nil)) .nil))))))))) (.cons (.asg 9 (.m4 [[108,101,118,101,108],[110,97,109,101],[115,111,114,116],[109,105,100],[102,108,97,103,115],[115,116,97,110,100,115],[111,118,101,114]] (.cons (.v 1) (.cons (.v 2) (.cons (.v 3) (.cons (.v 8) (.cons (.v 7) (.cons (.lst .nil) (.cons (.v 4) .nil))))))))) (.cons (.ex (.append (.aq (.v 0) (.ss [114,111,119,115])) (.v 9))) .nil)))))
noncomputable def TU:bk:=
 .cons (.dd [1] false (.ss [109,110]) (.cons (.asg 2 (.call 52 (.cons (.v 0) (.cons (.ii 4) .nil)))) (.cons (.dd [3] false (.aq (.tup (.cons (.tup (.cons (.ii 0) .nil)) (.cons (.tup (.cons (.ii 1) .nil)) (.cons (.tup (.cons (.ii 0) (.cons (.ii 1) .nil))) (.cons (.tup (.cons (.ii 1) (.cons (.ii 0) .nil))) .nil))))) (.v 2)) (.cons (.ex (.call 59 (.cons (.v 0) (.cons (.ii 0) (.cons (.v 1) (.cons (.v 3) (.cons (.cj false) .nil))))))) .nil)) .nil))) (.cons (.dd [4] false (.tup (.cons (.ii 1) (.cons (.ii 2) (.cons (.ii 3) .nil)))) (.cons (.dd [1] false (.ss [109,110]) (.cons (.asg 5 (.call 52 (.cons (.v 0) (.cons (.ii 8) .nil)))) (.cons (.dd [3] false (.aq (.tup (.cons (.tup .nil) (.cons (.tup (.cons (.ii 0) .nil)) (.cons (.tup (.cons (.ii 1) .nil)) (.cons (.tup (.cons (.ii 0) (.cons (.ii 1) .nil))) (.cons (.tup (.cons (.ii 0) .nil)) (.cons (.tup (.cons (.ii 1) .nil)) (.cons (.tup (.cons (.ii 1) (.cons (.ii 0) .nil))) (.cons (.tup (.cons (.ii 0) .nil)) .nil))))))))) (.v 5)) (.cons (.asg 6 (.comp (.v 7) [7] false (.aq (.v 0) (.ss [114,111,119,115])) (.cons (.and (.cons (.cmp .eq (.aq (.v 7) (.ss [110,97,109,101])) (.v 1)) (.cons (.cmp .eq (.aq (.v 7) (.ss [115,111,114,116])) (.v 3)) (.cons (.cmp .lt (.aq (.v 7) (.ss [108,101,118,101,108])) (.v 4)) .nil)))) .nil))) (.cons (.ex (.call 59 (.cons (.v 0) (.cons (.v 4) (.cons (.v 1) (.cons (.v 3) (.cons (.and (.cons (.cmp .ne (.v 6) (.lst .nil)) (.cons (.cmp .my (.v 5) (.tup (.cons (.ii 4) (.cons (.ii 5) .nil)))) .nil))) .nil))))))) .nil))) .nil))) .nil)) .nil)
noncomputable def TY:bk:=
 .cons (.asg 2 (.cj false)) (.cons (.dd [3,4] true (.lk (.call 57 (.cons (.v 0) (.cons (.aq (.v 1) (.ss [108,101,118,101,108])) .nil))) (.ii 1)) (.cons (.asg 5 (.comp (.v 9) [9] false (.aq (.v 0) (.ss [114,111,119,115])) (.cons (.and (.cons (.cmp .eq (.aq (.v 9) (.ss [108,101,118,101,108])) (.v 3)) (.cons (.cmp .eq (.aq (.v 9) (.ss [110,97,109,101])) (.aq (.v 1) (.ss [110,97,109,101]))) .nil))) .nil))) (.cons (.asg 6 (.comp (.v 10) [10] false (.v 5) (.cons (.cmp .eq (.aq (.v 10) (.ss [115,111,114,116])) (.aq (.v 1) (.ss [115,111,114,116]))) .nil))) (.cons (.asg 2 (.or (.cons (.v 2) (.cons (.cmp .gt (.len (.v 5)) (.len (.v 6))) .nil)))) (.cons (.b4 (.cmp .ne (.v 6) (.lst .nil)) (.cons (.b4 (.e (.v 2)) (.cons (.o4 (.v 1) (.ss [102,108,97,103,115]) .add (.ii 4)) (.cons (.ex (.append (.aq (.v 1) (.ss [115,116,97,110,100,115])) (.tup (.cons (.tup (.cons (.ss [103]) (.cons (.bin .add (.ii 66) (.v 3)) (.cons (.v 4) .nil)))) (.cons (.aq (.aq (.v 6) (.ii 0)) (.ss [109,105,100])) .nil))))) .nil)) (.nil)) (.cons (.dd [7,8] true (.aq (.aq (.v 6) (.ii 0)) (.ss [115,116,97,110,100,115])) (.cons (.ex (.append (.aq (.v 1) (.ss [115,116,97,110,100,115])) (.tup (.cons (.call 53 (.cons (.v 7) (.cons (.v 4) .nil))) (.cons (.v 8) .nil))))) .nil)) (.cons (.mD) .nil))) (.nil)) .nil))))) .nil)
noncomputable def zn:bk:=
 .cons (.asg 1 (.m4 [[105,110],[97,116],[114,111,119,115],[115,116,111,114,101]] (.cons (.comp (.bin .mod (.v 12) (.ii 1000003)) [12] false (.mF (.v 0) (.ii 63)) (.nil)) (.cons (.ii 0) (.cons (.lst .nil) (.cons (.new 3 .nil) .nil)))))) (.cons (.asg 2 (.aq (.v 1) (.ss [115,116,111,114,101]))) (.cons (.gJ (.v 1) (.ss [104,111,115,116]) (.new 9 (.cons (.at (.v 2) 35) .nil))) (.cons (.ex (.call 58 (.cons (.v 1) .nil))) (.cons (.gJ (.v 1) (.ss [103,105,118,101,110]) (.eQ .s)) (.cons (.dd [3] false (.ss [109,110]) (.cons (.gJ (.aq (.v 1) (.ss [103,105,118,101,110])) (.v 3) (.call 55 (.cons (.v 1) (.cons (.aq (.aq (.v 1) (.ss [109,97,110,121])) (.ii 0)) .nil)))) .nil)) (.cons (.ex (.call 60 (.cons (.v 1) .nil))) (.cons (.cc (.aq (.v 1) (.ss [104,111,115,116])) 71 (.pa [34] (.cons (.ii 3) .nil))) (.cons (.asg 4 (.lst (.cons (.lst .nil) (.cons (.lst .nil) (.cons (.lst .nil) (.cons (.lst .nil) .nil)))))) (.cons (.dd [5] false (.aq (.v 1) (.ss [114,111,119,115])) (.cons (.b4 (.and (.cons (.cmp .lt (.aq (.v 5) (.ss [108,101,118,101,108])) (.ii 3)) (.cons (.cmp .eq (.call 52 (.cons (.v 1) (.cons (.ii 3) .nil))) (.ii 2)) .nil))) (.cons (.ex (.call 36 (.cons (.v 2) (.cons (.bin .add (.ii 66) (.aq (.v 5) (.ss [108,101,118,101,108]))) (.cons (.aq (.v 5) (.ss [109,105,100])) (.cons (.call 54 (.cons (.v 1) (.cons (.tup (.cons (.ss [103]) (.cons (.ii 34) (.cons (.tup .nil) .nil)))) .nil))) (.cons (.ii 900) .nil))))))) (.cons (.ex (.append (.aq (.v 4) (.aq (.v 5) (.ss [108,101,118,101,108]))) (.tup (.cons (.aq (.v 5) (.ss [109,105,100])) (.cons (.call 54 (.cons (.v 1) (.cons (.tup (.cons (.ss [103]) (.cons (.ii 34) (.cons (.tup .nil) .nil)))) .nil))) (.cons (.ii 900) .nil)))))) .nil)) (.nil)) .nil)) (.cons (.asg 6 (.new 7 (.cons (.new 6 (.cons (.v 2) (.cons (.ii 1) .nil))) (.cons (.aq (.v 1) (.ss [104,111,115,116])) (.cons (.ii 1) .nil))))) (.cons (.asg 7 (.new 8 (.cons (.at (.v 6) 55) (.cons (.v 6) .nil)))) (.cons (.asg 8 (.comp (.v 13) [13] false (.aq (.v 1) (.ss [114,111,119,115])) (.cons (.e (.aq (.v 13) (.ss [111,118,101,114]))) .nil))) (.cons (.b4 (.cmp .eq (.call 52 (.cons (.v 1) (.cons (.ii 2) .nil))) (.ii 1)) (.cons (.asg 8 (.rev (.v 8))) .nil) (.nil)) (.cons (.dd [5] false (.v 8) (.cons (.ex (.append (.at (.v 7) 65) (.tup (.cons (.bin .add (.ii 66) (.aq (.v 5) (.ss [108,101,118,101,108]))) (.cons (.aq (.v 5) (.ss [109,105,100])) (.cons (.new 4 (.cons (.gl [78,95,77,69,84,72,79,68] (.ii 91)) (.cons (.tup (.cons (.aq (.v 5) (.ss [110,97,109,101])) (.cons (.ii 0) .nil))) (.cons (.lst .nil) (.cons (.ii 128) (.cons (.aq (.v 5) (.ss [109,105,100])) .nil)))))) .nil)))))) .nil)) (.cons (.ex (.call 44 (.cons (.v 7) .nil))) (.cons (.dd [9] false (.gQ (.ii 4)) (.cons (.dd [5] false (.v 8) (.cons (.b4 (.cmp .eq (.aq (.v 5) (.ss [108,101,118,101,108])) (.v 9)) (.cons (.ex (.call 61 (.cons (.v 1) (.cons (.v 5) .nil)))) (.cons (.dd [10,11] true (.aq (.v 5) (.ss [115,116,97,110,100,115])) (.cons (.ex (.append (.aq (.v 4) (.v 9)) (.tup (.cons (.aq (.v 5) (.ss [109,105,100])) (.cons (.call 54 (.cons (.v 1) (.cons (.v 10) .nil))) (.cons (.v 11) .nil)))))) .nil)) .nil)) (.nil)) .nil)) .nil)) (.cons (.b4 (.or (.cons (.cmp .ne (.at (.v 6) 59) (.lst .nil)) (.cons (.cmp .ne (.comp (.at (.aq (.at (.v 2) 36) (.bin .add (.ii 66) (.v 14))) 19) [14] false (.gQ (.ii 4)) (.nil)) (.v 4)) .nil))) (.cons (.ret (.cj false)) .nil) (.nil)) (.cons (.ret (.cmp .eq (.comp (.at (.v 15) 8) [15] false (.lk (.at (.v 2) 15) (.ii 1)) (.nil)) (.comp (.aq (.v 16) (.ss [102,108,97,103,115])) [16] false (.aq (.v 1) (.ss [114,111,119,115])) (.nil)))) .nil))))))))))))))))))
noncomputable def jD:B (B C):=[[114,111,119,115],
 [105,110,100,101,120],
 [100,101,112,116,104,115],
 [119,101,105,103,104,116,115],
 [111,112,101,110,115],
 [116,105,100],
 [110,97,109,101],
 [115,111,114,116],
 [102,108,97,103,115],
 [98,97,115,101],
 [105,102,97,99,101,115],
 [112,97,114,97,109,115],
 [118,97,114,105,97,110,99,101,115],
 [98,111,117,110,100,115],
 [102,105,101,108,100,115],
 [109,101,116,104,111,100,115],
 [97,115,109],
 [99,99,116,111,114],
 [117,110,100,101,114],
 [105,109,112,108,115],
 [112,114,111,112,115],
 [101,118,101,110,116,115],
 [102,105,110,97,108,105,115,101,114],
 [104,111,109,101],
 [109,105,100],
 [111,119,110,101,114],
 [97,99,99,101,115,115],
 [110,103,101,110],
 [103,110,97,109,101,115],
 [103,98,111,117,110,100,115],
 [114,101,116],
 [112,110,97,109,101,115],
 [112,102,108,97,103,115],
 [98,111,100,121],
 [110,97,116,105,118,101],
 [107,116],
 [116,121,112,101,115],
 [102,105,101,108,100,115,95],
 [110,97,109,101,115],
 [97,115,109,115],
 [101,110,116,114,121],
 [107,105,110,100],
 [97],
 [107,105,100,115],
 [109,111,100,115],
 [97,116],
 [110,105,100],
 [115,116,111,114,101],
 [102,110,115],
 [118,97,114,115],
 [111,102,95,109,105,100],
 [100,105,97,103,115],
 [105,110,105,116,115],
 [115,105,110,105,116,115],
 [99,111,110,115,116,115],
 [117,110,105,116],
 [104,111,115,116],
 [107,105,110,100,115],
 [117,110,109,101,116],
 [116,111,108,100],
 [116,112,97,114,97,109,115],
 [101,97,114,108,121],
 [115,116,97,116,105,99],
 [99,120],
 [119,111,114,107],
 [111,118,101,114,114,105,100,101,115],
 [101,120,112,108,105,99,105,116,115],
 [108,97,116,101],
 [107,101,121,115],
 [111,112,101,114,115],
 [98,97,115,101,115],
 [115,111,114,116,115],
 [117,110,100,101,114,115],
 [103,102,108,97,103,115],
 [110,101,119,115],
 [114,111,119],
 [112,117,116]]
noncomputable def DO:C→Y oL
 |0=>some ⟨1,3,[[115,101,108,102],[110,117,109,98,101,114],[114,111,119]],Th⟩
 |1=>some ⟨2,2,[[115,101,108,102],[107]],Tj⟩
 |2=>some ⟨2,9,[[115,101,108,102],[114,111,119],[102,111,117,110,100],[100,101,112,116,104],[119,101,105,103,104,116],[111,112,101,110,101,100],[108,101,118,101,108],[105,110,110,101,114],[107]],Ti⟩
 |3=>some ⟨8,9,[[115,101,108,102],[116,105,100],[110,97,109,101],[115,111,114,116],[102,108,97,103,115],[98,97,115,101],[112,97,114,97,109,115],[97,115,109],[119,111,114,100]],Tn⟩
 |4=>some ⟨8,8,[[115,101,108,102],[109,105,100],[111,119,110,101,114],[110,97,109,101],[97,99,99,101,115,115],[102,108,97,103,115],[114,101,116],[112,97,114,97,109,115]],Tk⟩
 |5=>some ⟨1,1,[[115,101,108,102]],Tm⟩
 |6=>some ⟨6,6,[[115,101,108,102],[107,105,110,100],[97],[107,105,100,115],[109,111,100,115],[97,116]],Tl⟩
 |7=>some ⟨1,1,[[115,101,108,102]],Tg⟩
 |8=>some ⟨3,3,[[115,101,108,102],[115,116,111,114,101],[97,115,109]],To⟩
 |9=>some ⟨4,4,[[115,101,108,102],[117,110,105,116],[104,111,115,116],[97,115,109]],Tp⟩
 |10=>some ⟨3,3,[[115,101,108,102],[117,110,105,116],[99,120]],Tf⟩
 |11=>some ⟨2,2,[[115,101,108,102],[107,116]],Td⟩
 |12=>some ⟨2,2,[[115,101,108,102],[107]],Tc⟩
 |13=>some ⟨2,2,[[115,101,108,102],[107]],Te⟩
 |14=>some ⟨1,2,[[114,111,119],[115,111,114,116]],TM⟩
 |15=>some ⟨1,1,[[115,111,114,116]],T'⟩
 |16=>some ⟨1,1,[[115,111,114,116]],T9⟩
 |17=>some ⟨2,4,[[107,116],[114,111,119],[115,111,114,116],[105,110,110,101,114]],Tv⟩
 |18=>some ⟨2,2,[[107,116],[114,111,119]],Tw⟩
 |19=>some ⟨2,3,[[107,116],[97,114,103,115],[97,114,103]],Tu⟩
 |20=>some ⟨2,3,[[107,116],[107],[115,111,114,116]],T2⟩
 |21=>some ⟨3,3,[[107,116],[116,105,100],[97,114,103,115]],Tx⟩
 |22=>some ⟨2,2,[[107,116],[105]],Ud⟩
 |23=>some ⟨2,2,[[107,116],[107]],TP⟩
 |24=>some ⟨2,3,[[107,116],[107],[114,111,119]],Ub⟩
 |25=>some ⟨2,3,[[107,116],[107],[114,111,119]],Ts⟩
 |26=>some ⟨4,4,[[107,116],[107],[116,97,114,103,115],[109,97,114,103,115]],Tz⟩
 |27=>some ⟨5,8,[[107,116],[107],[116,97,114,103,115],[109,97,114,103,115],[115,101,101,110],[114,111,119],[105,110,110,101,114],[112,97,114,116]],TB⟩
 |28=>some ⟨3,4,[[107,116],[114,111,119],[105,110,110,101,114],[115,111,114,116]],Ue⟩
 |29=>some ⟨3,3,[[97,114,103,115],[112,108,97,99,101],[107]],T6⟩
 |30=>some ⟨4,6,[[107,116],[107,115],[116,97,114,103,115],[109,97,114,103,115],[111,117,116],[107]],TA⟩
 |31=>some ⟨1,3,[[99,111,117,110,116],[111,117,116],[112,108,97,99,101]],T7⟩
 |32=>some ⟨1,1,[[102,108,97,103,115]],TO⟩
 |33=>some ⟨7,9,[[115,116,111,114,101],[116,105,100],[110,97,109,101],[97,99,99,101,115,115],[102,108,97,103,115],[114,101,116],[112,97,114,97,109,115],[116],[109,105,100]],Tr⟩
 |34=>some ⟨2,4,[[115,116,111,114,101],[109,105,100],[109],[116]],T5⟩
 |35=>some ⟨2,2,[[114,111,119,115],[114,111,119]],T8⟩
 |36=>some ⟨5,5,[[115,116,111,114,101],[116,105,100],[98,111,100,121,95,109,105,100],[100,101,99,108,95,111,119,110,101,114],[100,101,99,108,95,109,105,100]],Tq⟩
 |37=>some ⟨2,5,[[115,116,111,114,101],[116,105,100],[116],[97,114,103,115],[112,108,97,99,101]],Ua⟩
 |38=>some ⟨3,4,[[115,116,111,114,101],[116,105,100],[97,114,103,115],[115,111,114,116]],TQ⟩
 |39=>some ⟨2,3,[[115,116,111,114,101],[107],[116,105,100]],Uc⟩
 |40=>some ⟨3,5,[[115,116,111,114,101],[116,105,100],[110,97,109,101],[111,117,116],[109,105,100]],TL⟩
 |41=>some ⟨2,4,[[115,116,111,114,101],[109,114,101,102],[109],[116,97,114,103,115]],T3⟩
 |42=>some ⟨2,2,[[104,111,115,116],[107]],TN⟩
 |43=>some ⟨2,4,[[104,111,115,116],[107],[111,117,116],[115,101,101,110]],Tt⟩
 |44=>some ⟨1,8,[[100],[114,111,119,115],[105],[111,119,110],[100,101,112,116,104],[116,105,100],[109,105,100],[110,111,100,101]],TG⟩
 |45=>some ⟨4,10,[[100],[116,105,100],[109,105,100],[110,111,100,101],[102,111,117,110,100],[109],[111,108,100],[110,117,109,98,101,114],[102,108,97,103,115],[107,105,110,100,115]],TE⟩
 |46=>some ⟨5,10,[[100],[116,105,100],[109,105,100],[102,111,117,110,100],[110,111,100,101],[114,111,119,115],[98,111,100,121],[111,119,110,101,114],[100,101,99,108],[109]],TK⟩
 |47=>some ⟨4,5,[[100],[109],[111,108,100],[102,111,117,110,100],[97,99,99,101,115,115]],TF⟩
 |48=>some ⟨3,10,[[100],[116,105,100],[109,105,100],[109],[110,101,97,114,101,114],[97,116],[108,105,107,101],[102,105,116]],TC⟩
 |49=>some ⟨3,3,[[100],[109],[111,108,100]],TD⟩
 |50=>some ⟨2,4,[[109],[111,116,104,101,114]],TH⟩
 |51=>some ⟨5,7,[[100],[97,116],[110,97,109,101],[110,103,101,110],[112,97,114,97,109,115],[111,117,116],[109,105,100]],TJ⟩
 |52=>some ⟨2,4,[[119],[110],[97,116],[102,105,108,108]],TZ⟩
 |53=>some ⟨2,3,[[116,101,114,109],[97,114,103,115]],TX⟩
 |54=>some ⟨2,4,[[119],[116,101,114,109],[107,116]],TR⟩
 |55=>some ⟨2,4,[[119],[109,97,110,121],[110],[112,97,114,116]],T0⟩
 |56=>some ⟨2,3,[[119],[108,101,118,101,108]],TV⟩
 |57=>some ⟨2,5,[[119],[108,101,118,101,108],[97,114,103,115],[111,117,116]],TS⟩
 |58=>some ⟨1,8,[[119],[115,116,111,114,101],[108,101,118,101,108],[107,105,110,100,115],[112,108,97,99,101]],T1⟩
 |59=>some ⟨5,10,[[119],[108,101,118,101,108],[110,97,109,101],[115,111,114,116],[111,118,101,114],[108,105,110,101],[116,101,114,109],[102,108,97,103,115],[109,105,100],[114,111,119]],TW⟩
 |60=>some ⟨1,8,[[119],[110,97,109,101],[102,111,114,109],[115,111,114,116],[108,101,118,101,108],[100,101,101,100],[97,98,111,118,101]],TU⟩
 |61=>some ⟨2,11,[[119],[114,111,119],[112,97,115,115,101,100],[97,116],[97,114,103,115],[108,105,107,101],[102,105,116],[111,119,110,101,114],[100,101,99,108]],TY⟩
 |62=>some ⟨1,17,[[115,99,114,105,112,116],[119],[115,116,111,114,101],[110,97,109,101],[119,97,110,116,101,100],[114,111,119],[121,97,114,100],[100],[111,118,101,114],[108,101,118,101,108],[111,119,110,101,114],[100,101,99,108]],zn⟩
 |_=>none
noncomputable def Fb:C→C→Y C
 |0,75=>some 1
 |0,76=>some 2
 |9,9=>some 12
 |9,7=>some 13
 |_,_=>none
noncomputable def xi:C→Y C
 |0=>some 0
 |1=>some 3
 |2=>some 4
 |3=>some 5
 |4=>some 6
 |5=>some 7
 |6=>some 8
 |7=>some 9
 |8=>some 10
 |9=>some 11
 |_=>none
noncomputable def zR:B (B C):=[[0,1,2,3,4],[5,6,7,8,9,10,11,12,13,14,15,16,17,18,19,20,21,22,23],[24,25,6,26,8,27,28,29,30,11,31,32,33,34],[35,36,37,15,38,39,40],[41,42,43,44,45,46],[0],[47,16,48,49,50,51,52,53,54],[55,47,35,56,16,57,58,59,60,25,24,61,62],[55,63,47,35,36,64,54,65,66,67,68,69,53],[35,70,10,71,12,72,13,73,74]]
noncomputable def wU(c f:C):Bool:=(zR.getD c []).contains f
noncomputable def ac:iY:=⟨DO,Fb,xi,wU⟩
end Mine
end
section
namespace Mine
noncomputable def Wn:B Nat:=[81,88,95,270,291,312,490,511,553,574,630,651,658,672,109,116,123,130,137,144,151,158,179,186,193,200,221,228,235,249,256,326,333,340,347,354,361,368,375,382,389,396,410,417,424,431,438,445,450,464,469,476,707,712,717,724,729,734,739,746,751,756,761]
noncomputable def UM:B Nat:=[98,273,294,315,493,535,556,605,633,696]
noncomputable def n0(f:C):Nat:=Wn.getD f 0
noncomputable def sv(f:C):Nat:=UM.getD f 0
end Mine
end
section
open PySem PySem.W PyProof.Rows
namespace Mine
variable{a:D}{α:Type}{o:Y α}{oG:Type}{v:au}{as:B D}{ar:B au}
noncomputable def st(s:B C):Str:=⟨s.toArray⟩
theorem ye{a b:B C}(h:st a=st b):a=b:=by
 have h:=an (λ x:aL=>x.cps.toList) h
 exact h
noncomputable def gb{α c4:Type}(R:α→c4→Prop):Y α→Y c4→Prop
 |some a,w=>∃v,w=some v∧R a v
 |none,w=>w=none
theorem gb.at{c4:Type}{R:α→c4→Prop}{w:Y c4}{a:α}(h:gb R o w)(e:o=some a):∃v,w=some v∧R a v:=(an (gb R · w) e).mp h
theorem gb.no{c4:Type}{R:α→c4→Prop}{w:Y c4}(h:gb R o w)(e:o=none):w=none:=(an (gb R · w) e).mp h
theorem gb.mono{c4:Type}{R hJ:α→c4→Prop}(m:∀a v,R a v→hJ a v){w:Y c4}(h:gb R o w):gb hJ o w:=by
 cases o with
 |none=>exact h
 |some a=>exact h.imp λ v h=>⟨h.1,m _ _ h.2⟩
theorem gb.xj{c4:Type}{R:α→c4→Prop}{w:Y c4}(h:gb R o w):w.isSome=o.isSome:=by
 cases o with
 |none=>exact an pY h
 |some a=>exact h.elim λ v h=>an pY h.1
theorem gb.getD{c4:Type}{R:α→c4→Prop}{w:Y c4}{a:α}{b:c4}(h:gb R o w)(d:R a b):R (o.getD a) (w.getD b):=by
 cases o with
 |none=>exact(show w=none from h)▸d
 |some a=>exact h.elim λ v h=>h.1▸h.2
theorem gb.map{c4:Type}{g:α→oG}{R:oG→c4→Prop}{w:Y c4}(h:gb (λ a v=>R (g a) v) o w):gb R (o.map g) w:=by
 cases o<;>exact h
theorem gb.mapR{c4:Type}{g:c4→oG}{R:α→oG→Prop}{w:Y c4}(h:gb (λ a v=>R a (g v)) o w):gb R o (w.map g):=by
 cases o with
 |none=>exact an (qV g) h
 |some a=>exact h.elim λ v h=>⟨g v,an (qV g) h.1,h.2⟩
theorem Aq{c4:Type}{P:α→c4→Prop}{b:av}{x y:α}{u v:c4}(h:P x u)(k:P y v):P (if b=true then x else y) (if b=true then u else v):=by
 cases b
 ·exact k
 ·exact h
structure cV where
 prog:lx
 w:ez
 h₀:dD
 os:h6
 K:kl
 ca:C→a8
 P:iY
noncomputable abbrev cA:=B (a8×a8)
noncomputable def Hy(c:cV)(O:B (am×am))(a:a8):Prop:=
 (a==k0)=false∧∃f,c.h₀.MapOf (gs c.prog c.w) a f∧∀k,gb (λ i v=>∃t,v= .int i t) (O.lookup k) (f k)
noncomputable def tL:B am→B au→Prop
 | [],ar=>ar=[]
 |i::r,ar=>∃t G9,ar= .int i t::G9∧tL r G9
noncomputable def BY(c:cV)(l:B am)(a:a8):Prop:=∃items z,c.h₀.get? a=some {cls:=.type "list",data:=.seq items z}∧tL l items.toList
mutual
noncomputable def bA(c:cV)(G:cA)(h:dD):D→au→Prop
 | .nn,v=>v= .none
 | .cj b,v=>v= .bool b
 | .ii i,v=>∃t,v= .int i t
 | .ss s,v=>∃t,v= .str (st s) t
 | .tup l,v=>∃a items,v= .ref a∧h.IsTuple a items∧cs c G h l items.toList
 | .ew lo ay,v=>∃a t u cB,v= .ref a∧IsRange h a lo ay 1 t u cB
 | .cd O,v=>∃a,v= .ref a∧Hy c O a
 | .ref z,v=>∃p,G[z]? =some p∧v= .ref p.1
 | .fw l,v=>∃a,v= .ref a∧BY c l a
noncomputable def cs(c:cV)(G:cA)(h:dD):B D→B au→Prop
 | [],ar=>ar=[]
 |x::xs,ar=>∃v r,ar=v::r∧bA c G h x v∧cs c G h xs r
end
noncomputable def ik(o:fQ):Prop:=(o.cls= .type "tuple"∧∃items z,o.data= .seq items z)∨(o.cls= .type "range"∧∃ar,o.data= .fields ar)
noncomputable def fX(h H:dD):Prop:=∀b o,h.get? b=some o→ik o→H.get? b=some o
noncomputable def ha(G bv:cA):Prop:=∀(z:C) p,G[z]? =some p→bv[z]? =some p
theorem Ap{h H:dD}{a:a8}{items:gS au}(k:fX h H)(x:h.IsTuple a items):H.IsTuple a items:=by
 obtain⟨o,be,hc,z,a1⟩:=x
 exact⟨o,k _ _ be (.inl ⟨hc,items,z,a1⟩),hc,z,a1⟩
mutual
theorem bA.keep{c:cV}{G bv:cA}{h H:dD}(l:ha G bv)(k:fX h H):∀{a:D} {v:au},bA c G h a v→bA c bv H a v
 | .nn,_,x=>x
 | .cj _,_,x=>x
 | .ii _,_,x=>x
 | .ss _,_,x=>x
 | .tup _,_,x=>x.imp λ _ x=>x.imp λ _ x=>⟨x.1,Ap k x.2.1,cs.keep l k x.2.2⟩
 | .ew _ _,_,x=>x.imp λ _ x=>x.imp λ _ x=>x.imp λ _ x=>x.imp λ _ x=>⟨x.1,k _ _ x.2 (.inr ⟨rfl,_,rfl⟩)⟩
 | .cd _,_,x=>x
 | .ref _,_,x=>x.imp λ p x=>⟨l _ p x.1,x.2⟩
 | .fw _,_,x=>x
theorem cs.keep{c:cV}{G bv:cA}{h H:dD}(l:ha G bv)(k:fX h H):∀{as:B D} {ar:B au},cs c G h as ar→cs c bv H as ar
 | [],_,x=>x
 |_::_,_,x=>x.imp λ _ x=>x.imp λ _ x=>⟨x.1,bA.keep l k x.2.1,cs.keep l k x.2.2⟩
end
section
variable{c:cV}{G:cA}{h:dD}
theorem cs.length:∀{ar:B au},cs c G h as ar→ar.length=as.length:=by
 induction as with
 |nil=>exact λ x=>an f' x
 |cons a as aZ=>exact λ x=>x.elim λ v x=>x.elim λ r x=>(an f' x.1).trans (an l2 (aZ x.2.2))
theorem cs.nil:cs c G h [] []:=rfl
theorem cs.cons(x:bA c G h a v)(y:cs c G h as ar):cs c G h (a::as) (v::ar):=⟨v,ar,rfl,x,y⟩
theorem cs.append{bs:B D}{BJ:B au}:∀{ar:B au},cs c G h as ar→cs c G h bs BJ→cs c G h (as++bs) (ar++BJ):=by
 induction as with
 |nil=>exact λ x y=>(show _=[]from x)▸y
 |cons a as aZ=>exact λ x y=>x.imp λ v x=>x.elim λ r x=>⟨r++BJ,an (· ++BJ) x.1,x.2.1,aZ x.2.2 y⟩
theorem cs.get:∀{ar:B au} {i:C},cs c G h as ar→as[i]? =some a→∃v,ar[i]? =some v∧bA c G h a v:=by
 induction as with
 |nil=>exact λ _ e=>nomatch e
 |cons b as aZ=>exact λ{ar i} x=>x.elim λ v x=>x.elim λ r x=>x.1▸Rl i (λ e=>⟨v,rfl,ej e▸x.2.1⟩) λ i e=>aZ (i:=i) x.2.2 e
theorem cs.none{i:C}(x:cs c G h as ar)(e:as[i]? = .none):ar[i]? = .none:=
 yE.mpr (x.length▸yE.mp e)
theorem cs.drop(z:C):∀{as:B D} {ar:B au},cs c G h as ar→cs c G h (as.drop z) (ar.drop z):=by
 induction z with
 |zero=>exact id
 |succ z aZ=>
  intro as ar x
  cases as with
  |nil=>exact(show ar=[]from x)▸rfl
  |cons a as=>exact x.elim λ v x=>x.elim λ r x=>x.1▸aZ x.2.2
theorem cs.take(z:C):∀{as:B D} {ar:B au},cs c G h as ar→cs c G h (as.take z) (ar.take z):=by
 induction z with
 |zero=>exact λ _=>rfl
 |succ z aZ=>
  intro as ar x
  cases as with
  |nil=>exact(show ar=[]from x)▸rfl
  |cons a as=>exact x.elim λ v x=>x.elim λ r x=>x.1▸⟨v,_,rfl,x.2.1,aZ x.2.2⟩
theorem cs.reverse:∀{ar:B au},cs c G h as ar→cs c G h as.reverse ar.reverse:=by
 induction as with
 |nil=>exact λ x=>(show _=[]from x)▸rfl
 |cons a as aZ=>exact λ x=>x.elim λ v x=>x.elim λ r x=>(by rw[x.1,Rb,Rb];exact cs.append (aZ x.2.2) ⟨v,[],rfl,x.2.1,rfl⟩)
theorem cs.replicate(x:bA c G h a v)(z:C):cs c G h (dx z a) (dx z v):=by
 induction z with
 |zero=>exact rfl
 |succ z aZ=>exact⟨v,_,rfl,x,aZ⟩
end
noncomputable def fq{dn K c4:Type}(f:dn→K)(R:D→c4→Prop):B (dn×D)→B (K×c4)→Prop
 | [],cZ=>cZ=[]
 | (k,a)::r,cZ=>∃v rn,cZ=(f k,v)::rn∧R a v∧fq f R r rn
section
variable{dn K c4:Type}{f:dn→K}{R hJ:D→c4→Prop}
theorem fq.mono(m:∀a v,R a v→hJ a v){O:B (dn×D)}:∀{cZ:B (K×c4)},fq f R O cZ→fq f hJ O cZ:=by
 induction O with
 |nil=>exact id
 |cons e r aZ=>exact λ h=>h.imp λ v h=>h.imp λ rn h=>⟨h.1,m _ _ h.2.1,aZ h.2.2⟩
theorem fq.length{O:B (dn×D)}:∀{cZ:B (K×c4)},fq f R O cZ→cZ.length=O.length:=by
 induction O with
 |nil=>exact λ h=>an f' h
 |cons e r aZ=>exact λ h=>h.elim λ v h=>h.elim λ rn h=>(an f' h.1).trans (an l2 (aZ h.2.2))
theorem fq.snoc{k:dn}{v:c4}(x:R a v){O:B (dn×D)}:∀{cZ:B (K×c4)},fq f R O cZ→fq f R (O++[(k,a)]) (cZ++[(f k,v)]):=by
 induction O with
 |nil=>exact λ{cZ} h=>by cases h;exact⟨v,[],rfl,x,rfl⟩
 |cons e r aZ=>exact λ h=>h.imp λ v h=>h.elim λ rn h=>⟨rn++[_],an (· ++[_]) h.1,h.2.1,aZ h.2.2⟩
theorem fq.find[nA dn][oM dn][jx K](inj:∀a b,f a=f b→a=b)(k:dn){O:B (dn×D)}:∀{cZ:B (K×c4)},fq f R O cZ→gb R (O.lookup k) ((cZ.find? λ e7=>decide (e7.1=f k)).map (·.2)):=by
 induction O with
 |nil=>exact λ{cZ} h=>(show cZ=[]from h)▸rfl
 |cons e r aZ=>
  refine λ h=>h.elim λ v h=>h.elim λ rn h=>h.1▸?_
  by_cases hk:k=e.1
  ·rw[HS (p:=λ e7:K×c4=>decide (e7.1=f k)) (iO (an f hk.symm)),hk]
   exact(H3 (k:=e.1)).symm▸⟨v,rfl,h.2.1⟩
  ·rw[HR (p:=λ e7:K×c4=>decide (e7.1=f k)) (λ q=>hk (inj _ _ (gi q)).symm),l1,ma.mpr hk]
   exact aZ h.2.2
theorem fq.upd[nA dn][oM dn][jx K](inj:∀a b,f a=f b→a=b)(k:dn){w:c4→c4}(x:∀b,R a (w b)){O:B (dn×D)}:∀{cZ:B (K×c4)},fq f R O cZ→
  fq f R (O.map λ e=>if e.1==k then(e.1,a)else e) (cZ.map λ e7=>if e7.1=f k then(e7.1,w e7.2)else e7):=by
 induction O with
 |nil=>exact λ{cZ} h=>(show cZ=[]from h)▸rfl
 |cons e r aZ=>
  refine λ h=>h.elim λ v h=>h.elim λ rn h=>h.1▸?_
  rw[oN,oN]
  by_cases hk:e.1=k
  ·rw[if_pos (jl.mpr hk),if_pos (an f hk)]
   exact⟨_,_,rfl,x v,aZ h.2.2⟩
  ·rw[if_neg λ q=>hk (eq_of_beq q),if_neg λ q=>hk (inj _ _ q)]
   exact⟨_,_,rfl,h.2.1,aZ h.2.2⟩
theorem S0{c4:Type}{p:α→av}(g:α→c4)(l:B α):l.any p=((l.find? p).map g).isSome:=by
 induction l with
 |nil=>rfl
 |cons x r aZ=>
  rw[List.any_cons,aZ]
  cases q:p x with
  |true=>rw[HS q];rfl
  |false=>rw[HR (rX.mp q)];rfl
theorem fq.has[nA dn][oM dn][jx K](inj:∀a b,f a=f b→a=b)(k:dn){O:B (dn×D)}{cZ:B (K×c4)}(h:fq f R O cZ):((cZ.find? λ e7=>decide (e7.1=f k)).map (·.2)).isSome=(O.lookup k).isSome:=(h.find inj k).xj
end
theorem fq.put{dn K:Type}{f:dn→K}{R:D→au→Prop}[nA dn][oM dn][jx K](inj:∀a b,f a=f b→a=b)(k:dn)(x:R a v){O:B (dn×D)}{cZ:B (K×au)}(h:fq f R O cZ):
  fq f R (c8 O k a) (CQ cZ (f k) v):=by
 unfold c8 CQ
 rw[S0 (λ e7=>e7.2),h.has inj k]
 exact Aq (h.upd inj k λ _=>x) (h.snoc x)
end Mine
end
section
open PySem PySem.W PyProof.Rows
namespace Mine
variable{h:dD}{a:a8}{x y:gT}{p:am ⊕ B am}{v:au}{H:dD}{k:gT}{Q:av→a2→Prop}{z:C}{α:Type}{g:α→yT}
section
variable{prog:lx}{w:ez}
noncomputable def p0(prog:lx)(w:ez)(h:dD)(p:am ⊕ B am)(v:au):Prop:=p.elim (λ i=>∃t,v= .int i t) λ l=>∃b,v= .ref b∧IH (gs prog w) h l b
noncomputable def l4(prog:lx)(w:ez)(h:dD):gT→B au→Prop
 | [],ar=>ar=[]
 |p::k,ar=>∃v r,ar=v::r∧p0 prog w h p v∧l4 prog w h k r
noncomputable def FT(prog:lx)(w:ez):am ⊕ B am→am
 | .inl i=>hashInt i
 | .inr l=>tupleKeyHash (gs prog w) l
noncomputable def tc:am ⊕ B am→C
 | .inl _=>1
 | .inr l=>l.length+1
noncomputable def MK(prog:lx)(w:ez)(k:gT):Int:=I5 (Builtin.Tuple.tupleHashOf (k.map (FT prog w)))
noncomputable def MJ(k:gT):Nat:=(k.map tc).sum+1
noncomputable def lX(prog:lx)(w:ez)(h:dD)(k:gT)(a:a8):Prop:=∃items,h.IsTuple a items∧l4 prog w h k items.toList
theorem Y8{x y:gS au}(aA:h.IsTuple a x)(bI:h.IsTuple a y):x=y:=
 aA.elim λ o aA=>bI.elim λ c3 bI=>aA.2.2.elim λ z a1=>bI.2.2.elim λ qr gw=>(Data.seq.inj (a1.symm.trans ((an II (ej (aA.1.symm.trans bI.1))).trans gw))).1
theorem p0.inj{q:am ⊕ B am}(aA:p0 prog w h p v)(bI:p0 prog w h q v):p=q:=by
 cases p<;>cases q
 ·exact aA.elim λ t e=>bI.elim λ cB bC=>an _ (Value.int.inj (e.symm.trans bC)).1
 ·exact aA.elim λ t e=>bI.elim λ b bC=>nomatch e.symm.trans bC.1
 ·exact aA.elim λ t e=>bI.elim λ b bC=>nomatch e.1.symm.trans bC
 ·exact aA.elim λ b e=>bI.elim λ hw bC=>an _ (e.2.inj ((IW (bC.1.symm.trans e.1))▸bC.2))
theorem l4.inj:∀{y:gT} {ar:B au},l4 prog w h x ar→l4 prog w h y ar→x=y:=by
 induction x with
 |nil=>
  intro y ar aA bI
  cases y with
  |nil=>rfl
  |cons q k=>exact bI.elim λ v bI=>bI.elim λ r bI=>nomatch aA.symm.trans bI.1
 |cons p x aZ=>
  refine λ{y ar} aA bI=>aA.elim λ v aA=>aA.elim λ r aA=>?_
  cases y with
  |nil=>exact nomatch bI.symm.trans aA.1
  |cons q k=>exact bI.elim λ ahu bI=>bI.elim λ bw bI=>have e:=B7 (bI.1.symm.trans aA.1);congr (an QT (aA.2.1.inj (e.1▸bI.2.1))) (aZ aA.2.2 (e.2▸bI.2.2))
theorem l4.mono(m:∀l b,IH (gs prog w) h l b→IH (gs prog w) H l b):∀{ar:B au},l4 prog w h k ar→l4 prog w H k ar:=by
 induction k with
 |nil=>exact id
 |cons p k aZ=>exact λ x=>x.imp λ v x=>x.imp λ r x=>⟨x.1,(by cases p<;>first|exact x.2.1|exact x.2.1.imp λ b y=>⟨y.1,m _ _ y.2⟩:p0 prog w H p v),aZ x.2.2⟩
theorem l4.mem:∀{ar:B au},l4 prog w h k ar→v∈ar→∃p,p0 prog w h p v:=by
 induction k with
 |nil=>exact λ x y=>nomatch(show _=[]from x)▸y
 |cons p k aZ=>exact λ x y=>x.elim λ u x=>x.elim λ r x=>(kh.mp (x.1▸y)).elim (λ e=>⟨p,(show u=v from e.symm)▸x.2.1⟩) (aZ x.2.2)
theorem lX.inj(aA:lX prog w h x a)(bI:lX prog w h y a):x=y:=
 aA.elim λ i p=>bI.elim λ jN f4=>p.2.inj (Y8 f4.1 p.1▸f4.2)
theorem Y9{d:a8}{o:fQ}{O hL}{items}(x:h.IsTuple a items)(be:h.get? d=some o)(a1:o.data= .dict O hL)(hs:tY d h H):H.IsTuple a items:=
 x.imp λ c3 x=>⟨(hs.2 a λ e=>x.2.2.elim λ z q=>nomatch a1.symm.trans ((an II (ej (be.symm.trans (e▸x.1)))).trans q)).trans x.1,x.2⟩
theorem lX.nc(d8:fX h H)(x:lX prog w h k a):lX prog w H k a:=
 x.imp λ items x=>⟨Ap d8 x.1,x.2.mono λ l b y=>y.imp λ o y=>y.imp λ items y=>y.imp λ z y=>⟨d8 _ _ y.1 (.inl ⟨y.2.1,items,z,y.2.2.1⟩),y.2⟩⟩
variable{A:eC}{ab:au→a2→Prop}{s:a2}
theorem acv{Q:am→a2→Prop}(dS:A.units<kY)(x:p0 prog w s.heap p v)(h:Q (FT prog w p) {s with toks:=s.toks+tc p}):bg (bc prog w) A (pyHash v) Q ab s:=by
 cases p with
 |inl i=>exact x.elim λ t e=>e▸wpAny_pyHash_int h
 |inr l=>exact x.elim λ b e=>e.1▸wpAny_pyHash_tuple dS e.2 h
noncomputable def QJ(prog:lx)(w:ez)(s:a2)(k:gT)(lQ:B au)(b:gS am)(a9:a2):Prop:=
 ∃done left,k=done++left∧l4 prog w s.heap left lQ∧b.toList=done.map (FT prog w)∧a9={s with toks:=s.toks+(done.map tc).sum}
theorem Zq{Q:am→a2→Prop}(dS:A.units+1<kY)(hk:lX prog w s.heap k a)(h:Q (MK prog w k) {s with toks:=s.toks+MJ k}):
  bg (bc prog w) A (pyHash (.ref a)) Q ab s:=by
 refine hk.elim λ items t=>?_
 have fZ:=t.1.typeIs
 refine t.1.elim λ o a1=>a1.2.2.elim λ z gw=>?_
 unfold pyHash
 unfold pyHashByItsType
 refine cK (wpAny_cRoomFor_or (.inr (mR dS)) (cK (CS fZ F.slot_tuple_hash.lookup ((if_neg (beq_builtin_none _▸mM)).symm▸
  cK (CS fZ F.slot_tuple_hash.lookup (cK (wpAny_callSpecialIfBoundUnlessNone?_slot fZ F.slot_tuple_hash (Sb F.slot_tuple_hash fZ F.entry_tuple_hash ?_ (F.args_tuple_hash_1 _)))))))))
 show bg _ _ (Builtin.Tuple.tupleItemsOf (.ref a)>>=_) _ _ s
 refine cK (wpAny_tupleItemsOf a1.1 gw (cK ?_))
 rw[←Qi]
 refine Sd _ (QJ prog w s k) _ (λ x lQ b a9 hl=>?_) (λ b a9 hl=>?_) _ _ ⟨[],k,rfl,t.2,rfl,rfl⟩
 ·refine hl.elim λ done hl=>hl.elim λ left hl=>hl.2.2.2▸?_
  cases left with
  |nil=>exact nomatch hl.2.1
  |cons p left=>
   refine hl.2.1.elim λ v q=>q.elim λ r q=>cK (acv (show A.in1.units<kY from dS) ((B7 q.1).1▸q.2.1) (eH ⟨done++[p],left,hl.1.trans (mP _ _ _),(B7 q.1).2▸q.2.2,Ht.trans ((an (· ++[_]) hl.2.2.1).trans (nF (l₂:=[p])).symm),?_⟩))
   exact an (λ t=>{s with toks:=t}) (show s.toks+(done.map tc).sum+tc p=s.toks+((done++[p]).map tc).sum from by rw[nF,List.sum_append,←mQ];rfl)
 ·refine hl.elim λ done hl=>hl.elim λ left hl=>hl.2.2.2▸?_
  cases left with
  |cons p left=>exact hl.2.1.elim λ v q=>q.elim λ r q=>nomatch q.1
  |nil=>
   have h:Q (I5 (Builtin.Tuple.tupleHashOf b.toList)) {s with toks:=s.toks+(done.map tc).sum+1}:=by
    have e:=hl.1.trans (eZ done)
    subst e
    exact hl.2.2.1▸h
   refine wpAny_ret_mkInt ?_
   unfold I5 at h
   show bg _ _ (if(decide (-(2:am)^63≤Builtin.Tuple.tupleHashOf b.toList)&&decide (Builtin.Tuple.tupleHashOf b.toList<2^63))=true then _ else _) Q ab _
   by_cases a4:(decide (-(2:am)^63≤Builtin.Tuple.tupleHashOf b.toList)&&decide (Builtin.Tuple.tupleHashOf b.toList<2^63))=true
   ·rw[if_pos a4]at h
    exact(if_pos a4).symm▸eH h
   ·rw[if_neg a4]at h
    exact(if_neg a4).symm▸cK (wpAny_rule (eH h))
theorem PE{items:gS au}(t:s.heap.IsTuple a items)(Xq:∀v∈items.toList,∀km:av→a2→Prop,km true s→bg (bc prog w) A (y2 z v) km ab s)(h:Q true s):bg (bc prog w) A (y2 (z+1) (.ref a)) Q ab s:=by
 have fZ:=t.typeIs
 refine t.elim λ o a1=>a1.2.2.elim λ m gw=>?_
 unfold y2
 refine cK (CS fZ F.slot_tuple_eq.lookup (cK (wpAny_isInstance fZ isSubtype_tuple_tuple (cK (wpAny_seqItems a1.1 gw (cK ?_))))))
 show bg _ _ (forIn items _ _) _ _ s
 rw[←Qi]
 refine Sd _ (λ lQ r a9=>r=(none,())∧a9=s∧∀v∈lQ,v∈items.toList) _ (λ v lQ r a9 q=>?_) (λ r a9 q=>q.1▸q.2.1▸eH h) _ _ ⟨rfl,rfl,λ _=>id⟩
 obtain⟨rfl,rfl,q⟩:=q
 exact cK (Xq v (q v (.head _)) _ (eH ⟨rfl,rfl,λ u dS=>q u (.tail _ dS)⟩))
theorem acz(x:p0 prog w s.heap p v)(h:Q true s):bg (bc prog w) A (y2 (z+1) v) Q ab s:=by
 cases p with
 |inl i=>exact x.elim λ t e=>e▸eH h
 |inr l=>exact x.elim λ b e=>e.1▸e.2.elim λ o y=>y.elim λ items y=>y.elim λ m y=>PE ⟨o,y.1,y.2.1,m,y.2.2.1⟩ (λ v cP km dv=>eqIsQuiet_byValue _ (y.2.2.2.byValue v cP)▸eH dv) h
theorem Zr(hk:lX prog w s.heap k a)(h:Q true s):bg (bc prog w) A (y2 8 (.ref a)) Q ab s:=
 hk.elim λ items t=>PE t.1 (λ v cP km dv=>(t.2.mem cP).elim λ p y=>acz y dv) h
noncomputable def pz:am ⊕ B am→yT
 | .inl i=>.int i
 | .inr l=>.tuple (l.map .int)
theorem Zb{l:B am}{ar:B au}(x:ItemsAre (gs prog w) l ar):yU h ar (l.map .int) []:=by
 induction x with
 |nil=>exact .nil
 |cons ax _ aZ=>exact(Value.isInt_shape ax).elim λ t e=>e▸RW (as:=[]) (.int _ t) aZ
theorem acw(x:p0 prog w h p v):t0 h v (pz p) []:=by
 cases p with
 |inl i=>exact x.elim λ t e=>e▸.int _ _
 |inr l=>exact x.elim λ b e=>e.1▸e.2.elim λ o y=>y.elim λ items y=>y.elim λ m y=>.tuple y.1 y.2.1 y.2.2.1 (Zb y.2.2.2)
theorem acA:∀{ar:B au},l4 prog w h k ar→yU h ar (k.map pz) []:=by
 induction k with
 |nil=>exact λ x=>(show _=[]from x)▸.nil
 |cons p k aZ=>exact λ x=>x.elim λ v x=>x.elim λ r x=>x.1▸RW (as:=[]) (acw x.2.1) (aZ x.2.2)
theorem wI(l:B α):(∀a∈l,(g a).canLay0=true∧(g a).depth≤z)→RT (l.map g)=true∧PyData.depthAll (l.map g)≤z:=by
 induction l with
 |nil=>exact λ _=>⟨rfl,fu _⟩
 |cons x r ihl=>exact λ h=>have ax:=h x (.head _);have aH:=ihl λ y bI=>h y (.tail _ bI);⟨dF.mpr ⟨ax.1,aH.1⟩,Nat.max_le.mpr ⟨ax.2,aH.2⟩⟩
theorem acx(p:am ⊕ B am):(pz p).canLay0=true∧(pz p).depth≤1:=by
 cases p with
 |inl i=>exact⟨rfl,fu _⟩
 |inr l=>have L:=wI (g:=PyData.int) (z:=0) l λ a _=>⟨rfl,cJ _⟩;exact⟨L.1,gq L.2⟩
theorem KV[jx α](e:∀a b,iK (g a) (g b)=decide (a=b))(l:B α):∀cf:B α,IK (l.map g) (cf.map g)=decide (l=cf):=by
 induction l with
 |nil=>exact λ cf=>by cases cf<;>rfl
 |cons a r aZ=>
  intro cf
  cases cf with
  |nil=>rfl
  |cons b t=>exact(congr (an and (e a b)) (aZ t)).trans ((Bool.decide_and _ _).symm.trans (q9.mpr List.cons_eq_cons.symm))
theorem acy(p q:am ⊕ B am):iK (pz p) (pz q)=decide (p=q):=by
 cases p<;>cases q
 ·exact q9.mpr ⟨an _,Sum.inl.inj⟩
 ·rfl
 ·rfl
 ·exact(KV (λ a b=>rfl) _ _).trans (q9.mpr ⟨an _,Sum.inr.inj⟩)
theorem Zp{b:a8}(dS:A.units+8<kY)(aA:lX prog w s.heap x a)(bI:lX prog w s.heap y b)(h:Q (decide (x=y)) s):
  bg (bc prog w) A (eqBool (.ref a) (.ref b)) Q ab s:=by
 have r:∀{k a},lX prog w s.heap k a→t0 s.heap (.ref a) (.tuple (k.map pz)) []:=λ L=>L.elim λ items L=>L.1.elim λ o t=>t.2.2.elim λ z d=>.tuple t.1 t.2.1 d (acA L.2)
 have L:∀k:gT,(RV (k.map pz)).canLay0=true∧(RV (k.map pz)).depth≤2:=λ k=>have L:=wI (g:=pz) k λ p _=>acx p;⟨L.1,gq L.2⟩
 refine SeqAt.eqBoolOverData prog w A ab s _ _ _ _ _ _ Q (r aA) (r bI) (L x).1 (L y).1 ?_ (show Q (IK _ _) s from(KV acy x y).symm▸h)
 have:=(L x).2
 have:=(L y).2
 omega
noncomputable def At(prog:lx)(w:ez):HeapKind prog w gT where
 is:=lX prog w
 hash:=MK prog w
 draws:=MJ
 room:=λ A=>A.units+8<kY
 inj:=λ aA bI=>aA.inj bI
 keeps:=λ x be a1 hs=>x.imp λ items x=>⟨Y9 x.1 be a1 hs,x.2.mono λ _ _ y=>y.keeps be a1 hs⟩
 pyHash:=λ dS hk h=>Zq (by omega) hk h
 eqBool:=λ dS aA bI h=>Zp dS aA bI h
 quiet:=λ hk h=>Zr hk h
end
variable{c:cV}
noncomputable def gK(names:B (B C))(f:C):Str:=st (names.getD f [])
noncomputable def l7(_:cV)(R:D→au→Prop)(O:B (gT×D))(xs:B (gT×a8×au)):Prop:=fq id (λ a (v:a8×au)=>R a v.2) O xs
noncomputable def v3(names:B (B C))(R:D→au→Prop)(aG:B (C×D))(m:aL→Y au):Prop:=
 ∀f,f<names.length→gb R (aG.lookup f) (m (gK names f))
noncomputable def gC(c:cV)(names:B (B C))(G:cA)(h:dD)(p:a8×a8):a0→Prop
 | .li xs=>p.2=p.1∧xs.length≤room∧∃items z,h.get? p.1=some {cls:=.type "list",data:=.seq items z}∧cs c G h xs items.toList
 | .cq O=>p.2=p.1∧∃cZ,h.DictOf (gs c.prog c.w) p.1 cZ∧fq id (bA c G h) O cZ
 | .ds O=>p.2=p.1∧∃cZ,h.DictOf (strKind c.prog c.w) p.1 cZ∧fq st (bA c G h) O cZ
 | .h' O=>p.2=p.1∧∃xs,h.DictOfH (At c.prog c.w) p.1 xs∧l7 c (bA c G h) O xs
 | .bF V aG=>h.get? p.1=some (nL (c.ca V) p.2)∧(c.P.i6 V).isSome=true∧(∀f a,aG.lookup f=some a→c.P.fld V f=true)∧
   ∃O z m,h.get? p.2=some (p2 O z)∧O.length≤aG.length∧h.Ns p.2 m∧v3 names (bA c G h) aG m
end Mine
end
section
open PySem PySem.W PyProof.Rows
namespace Mine
variable{X:a8→Prop}{a:a8}{z:C}{p:a8×a8}{b:a8}{R hJ:D→au→Prop}{o:a0}{t:C}{c3:a0}{q:a8}
noncomputable def eG(G:cA)(b:a8):Prop:=∃p∈G,b=p.1∨b=p.2
noncomputable def cu(X:a8→Prop)(h H:dD):Prop:=∀b o,h.get? b=some o→¬X b→H.get? b=some o
noncomputable def yx(G bv:cA)(h:dD):Prop:=ha G bv∧∀b,eG bv b→eG G b∨h.get? b=none
theorem ha.refl(G:cA):ha G G:=λ _ _ e=>e
theorem ha.trans{G bv Qe:cA}(x:ha G bv)(y:ha bv Qe):ha G Qe:=λ z p e=>y z p (x z p e)
theorem ha.snoc(G:cA)(p:a8×a8):ha G (G++[p]):=λ z q e=>by
 have h:=(jZ.mp e).1
 rw[qR h];exact e
theorem cu.refl(X:a8→Prop)(h:dD):cu X h h:=λ _ _ e _=>e
theorem cu.mono{he:a8→Prop}{h H:dD}(x:cu X h H)(m:∀b,X b→he b):cu he h H:=λ b o e z=>x b o e λ q=>z (m b q)
theorem cu.trans{h H pc:dD}(x:cu X h H)(y:cu X H pc):cu X h pc:=λ b o e z=>y b o (x b o e z) z
theorem cu.push(h:dD)(o:fQ):cu X h (h.push o):=λ _ _ e _=>lv o e
theorem cu.same{h H:dD}(s:tY a h H)(x:X a):cu X h H:=λ b o e z=>(s.2 b λ q=>z (q▸x)).trans e
theorem cu.all{h H:dD}(x:cu (λ _=>False) h H):cu X h H:=x.mono λ _=>HF
theorem lG{G:cA}(e:(G:B (a8×a8))[z]? =some p):eG G p.1∧eG G p.2:=
 ⟨⟨p,h3 e,.inl rfl⟩,⟨p,h3 e,.inr rfl⟩⟩
theorem DQ{G:cA}(x:eG G b):∃(z:C) (p:a8×a8),G[z]? =some p∧(b=p.1∨b=p.2):=by
 obtain⟨p,bM,h⟩:=x
 obtain⟨z,e⟩:=List.mem_iff_getElem?.mp bM
 exact⟨z,p,e,h⟩
theorem uv{G:cA}(x:eG (G++[p]) b):eG G b∨b=p.1∨b=p.2:=by
 obtain⟨q,dv,h⟩:=x
 rcases nG.mp dv with dv|dv
 ·exact .inl ⟨q,dv,h⟩
 ·rw[jA]at dv;subst dv;exact .inr h
theorem ha.foot{G bv:cA}(l:ha G bv)(x:eG G b):eG bv b:=by
 obtain⟨z,p,e,h⟩:=DQ x
 exact⟨p,h3 (l z p e),h⟩
theorem yx.refl(G:cA)(h:dD):yx G G h:=⟨.refl _,λ _=>.inl⟩
structure Step(G:cA)(s:a2)(bv:cA)(a9:a2):Prop where
 ext:yx G bv s.heap
 ch:cu (eG G) s.heap a9.heap
theorem Step.refl(G:cA)(s:a2):Step G s G s:=⟨.refl _ _,.refl _ _⟩
theorem NC{h:dD}{X:Prop}(f:h.get? b=none→X)(g:∀o,h.get? b=some o→X):X:=by
 cases e:h.get? b with
 |none=>exact f e
 |some o=>exact g o e
theorem Step.trans{G bQ dz:cA}{s aJ b':a2}(x:Step G s bQ aJ)(y:Step bQ aJ dz b'):Step G s dz b' where
 ext:=⟨x.ext.1.trans y.ext.1,λ b az=>(y.ext.2 b az).elim (x.ext.2 b) λ h=>r2 .inl λ f=>NC .inr λ o e=>nomatch h.symm.trans (x.ch b o e f)⟩
 ch:=λ b o e z=>y.ch b o (x.ch b o e z) λ f=>(x.ext.2 b f).elim z λ h=>nomatch h.symm.trans e
theorem Step.ni{G:cA}{s a9:a2}(x:cu (eG G) s.heap a9.heap):Step G s G a9:=⟨.refl _ _,x⟩
structure Inv(c:cV)(nm:B (B C))(G:cA)(n:St)(s:a2):Prop where
 base:∀b o,c.h₀.get? b=some o→s.heap.get? b=some o
 out:∀b,eG G b→c.h₀.get? b=none
 len:G.length=n.length
 apart:∀(i j:C) (p q:a8×a8),G[i]? =some p→G[j]? =some q→i≠j→p.1≠q.1∧p.1≠q.2∧p.2≠q.1∧p.2≠q.2
 obj:∀(i:C) (p:a8×a8) o,G[i]? =some p→n[i]? =some o→gC c nm G s.heap p o
 gens:s.gens= #[]
 os:s.os=c.os
 low:∀b,eG G b→k0<b
 two:∃b o,k0<b∧c.h₀.get? b=some o
section
variable{c:cV}{nm:B (B C)}{G bv:cA}{n:St}{s a9:a2}{h H:dD}
theorem v3.mono(m:∀a v,R a v→hJ a v){aG:B (C×D)}{f:aL→Y au}(x:v3 nm R aG f):v3 nm hJ aG f:=λ i ay=>(x i ay).mono m
theorem l7.mono(m:∀a v,R a v→hJ a v){O:B (gT×D)}{xs:B (gT×a8×au)}(x:l7 c R O xs):l7 c hJ O xs:=fq.mono (λ _ _=>m _ _) x
theorem gC.keep(l:ha G bv)(k:fX h H)(ax:∀b,h.get? p.1=some b→H.get? p.1=some b)(aH:∀b,h.get? p.2=some b→H.get? p.2=some b)(x:gC c nm G h p o):gC c nm bv H p o:=by
 have m:∀a v,bA c G h a v→bA c bv H a v:=λ a v=>bA.keep l k
 cases o with
 |li xs=>exact⟨x.1,x.2.1,x.2.2.imp λ items y=>y.imp λ z y=>⟨ax _ y.1,y.2.keep l k⟩⟩
 |cq O=>exact⟨x.1,x.2.imp λ cZ y=>⟨y.1.at ax,y.2.mono m⟩⟩
 |ds O=>exact⟨x.1,x.2.imp λ cZ y=>⟨y.1.at ax,y.2.mono m⟩⟩
 |h' O=>exact⟨x.1,x.2.imp λ cZ y=>⟨y.1.imp λ o L=>L.imp λ jJ L=>L.imp λ hL L=>⟨ax _ L.1,L.2.1,L.2.2.1,L.2.2.2.1,λ x aA=>(L.2.2.2.2.1 x aA).nc k,L.2.2.2.2.2⟩,l7.mono m y.2⟩⟩
 |bF V aG=>exact⟨ax _ x.1,x.2.1,x.2.2.1,x.2.2.2.imp λ O y=>y.imp λ z y=>y.imp λ Fd y=>⟨aH _ y.1,y.2.1,y.2.2.1.imp λ c3 L=>L.imp λ jJ L=>L.imp λ qr L=>⟨aH _ L.1,L.2⟩,y.2.2.2.mono m⟩⟩
theorem AO{b:fQ}(h:(∀i z,b.data≠ .seq i z∨b.cls≠ .type "tuple")∧((∀i,b.data≠ .fields i)∨b.cls≠ .type "range")):¬ik b
 | .inl ⟨c,i,z,f⟩=>(h.1 i z).elim (λ x=>x f) λ x=>x c
 | .inr ⟨c,i,f⟩=>h.2.elim (λ x=>x i f) λ x=>x c
theorem pw{b:fQ}{O z}(e:b.data= .dict O z):¬ik b:=AO ⟨λ _ _=>.inl λ f=>(nomatch e.symm.trans f),.inl λ _ f=>(nomatch e.symm.trans f)⟩
theorem abG{b:fQ}{v}(e:b.data= .cell v):¬ik b:=AO ⟨λ _ _=>.inl λ f=>(nomatch e.symm.trans f),.inl λ _ f=>(nomatch e.symm.trans f)⟩
theorem abI{i z}:¬ik {cls:=.type "list",data:=.seq i z}:=AO ⟨λ _ _=>.inr λ f=>absurd (Value.type.inj f) (by decide),.inl λ _ f=>(nomatch f)⟩
theorem abH{a d}:¬ik (nL a d):=AO ⟨λ _ _=>.inr λ f=>(nomatch f),.inr λ f=>(nomatch f)⟩
theorem gC.objs{X:Prop}(x:gC c nm G h p o)(k:∀gf i2,h.get? p.1=some gf→¬ik gf→h.get? p.2=some i2→¬ik i2→X):X:=by
 have one:p.2=p.1→∀b,h.get? p.1=some b→¬ik b→X:=λ q b e f=>k b b e f (q.symm▸e) f
 cases o with
 |li xs=>exact x.2.2.elim λ items ht=>ht.elim λ z ht=>one x.1 _ ht.1 abI
 |cq O=>exact x.2.elim λ cZ d=>d.1.elim λ o d=>d.elim λ jJ d=>d.elim λ hL d=>one x.1 o d.1 (pw d.2.2.1)
 |ds O=>exact x.2.elim λ cZ d=>d.1.elim λ o d=>d.elim λ jJ d=>d.elim λ hL d=>one x.1 o d.1 (pw d.2.2.1)
 |h' O=>exact x.2.elim λ cZ d=>d.1.elim λ o d=>d.elim λ jJ d=>d.elim λ hL d=>one x.1 o d.1 (pw d.2.2.1)
 |bF V aG=>exact x.2.2.2.elim λ O y=>y.elim λ z y=>y.elim λ m y=>k _ _ x.1 abH y.1 (pw rfl)
theorem gC.abD(x:gC c nm G h p o)(a:a8)(b:fQ)(bO:a=p.1∨a=p.2)(e:h.get? a=some b):¬ik b:=
 x.objs λ _ _ aw it aB gD=>bO.elim (λ q=>ej (aw.symm.trans (q▸e))▸it) λ q=>ej (aB.symm.trans (q▸e))▸gD
theorem Inv.xM(I:Inv c nm G n s)(e:(G:B (a8×a8))[z]? =some p):∃o,n[z]? =some o∧gC c nm G s.heap p o:=by
 have ax:=(jZ.mp e).1
 have aH:z<n.length:=I.len▸ax
 exact⟨_,h2 aH,I.obj z p _ e (h2 aH)⟩
theorem Inv.K9(I:Inv c nm G n s){b:fQ}(f:eG G a)(e:s.heap.get? a=some b):¬ik b:=by
 obtain⟨z,p,bM,bO⟩:=DQ f
 obtain⟨o,_,x⟩:=I.xM bM
 exact x.abD a b bO e
theorem gC.live(x:gC c nm G h p o):(∃b,h.get? p.1=some b)∧∃b,h.get? p.2=some b:=
 x.objs λ _ _ aw _ aB _=>⟨⟨_,aw⟩,⟨_,aB⟩⟩
theorem Inv.wW(I:Inv c nm G n s)(f:eG G a):∃b,s.heap.get? a=some b:=by
 obtain⟨z,p,bM,bO⟩:=DQ f
 obtain⟨o,_,x⟩:=I.xM bM
 rcases bO with rfl|rfl
 ·exact x.live.1
 ·exact x.live.2
theorem Inv.nc(I:Inv c nm G n s){H:dD}(x:cu (eG G) s.heap H):fX s.heap H:=λ b o e f=>x b o e λ q=>I.K9 q e f
theorem Inv.Ug(I:Inv c nm G n s){o:fQ}(e:c.h₀.get? b=some o):¬eG G b:=λ f=>by rw[I.out b f]at e;cases e
theorem Inv.K(I:Inv c nm G n s)(k:c.K.In c.h₀):c.K.In s.heap:=k.keeps I.base
theorem Inv.change(I:Inv c nm G n s){H:dD}(x:cu X s.heap H)(iB:∀b,X b→¬eG G b)(kH:∀b,X b→c.h₀.get? b=none)
  (ol:∀b o,X b→s.heap.get? b=some o→¬ik o):Inv c nm G n {s with heap:=H,toks:=t} where
 base:=λ b o e=>x b o (I.base b o e) λ q=>by rw[kH b q]at e;cases e
 out:=I.out
 len:=I.len
 apart:=I.apart
 obj:=λ i p o aw aB=>(I.obj i p o aw aB).keep (.refl G) (λ b o e f=>x b o e λ q=>ol b o q e f)
  (λ b e=>x _ b e λ q=>iB _ q (lG aw).1) (λ b e=>x _ b e λ q=>iB _ q (lG aw).2)
 gens:=I.gens
 os:=I.os
 low:=I.low
 two:=I.two
theorem Inv.tok(I:Inv c nm G n s)(t:C):Inv c nm G n {s with toks:=t}:=⟨I.base,I.out,I.len,I.apart,I.obj,I.gens,I.os,I.low,I.two⟩
theorem Inv.more(I:Inv c nm G n s){H:dD}(x:cu (λ _=>False) s.heap H):Inv c nm G n {s with heap:=H,toks:=t}:=
 I.change x (λ _=>HF) (λ _=>HF) λ _ _ q=>q.elim
theorem Inv.store(I:Inv c nm G n s){H:dD}(bM:(G:B (a8×a8))[z]? =some p)(x:cu (λ b=>b=p.1∨b=p.2) s.heap H)(r:gC c nm G H p c3):
  Inv c nm G (n.set z c3) {s with heap:=H,toks:=t}:=by
 have P9:cu (eG G) s.heap H:=x.mono λ b az=>az.elim (λ e=>e▸(lG bM).1) λ e=>e▸(lG bM).2
 refine⟨λ b o e=>P9 b o (I.base b o e) (I.Ug e),I.out,I.len.trans (H1 ..).symm,I.apart,λ i q o aw aB=>?_,I.gens,I.os,I.low,I.two⟩
 by_cases ay:z=i
 ·have aB:=(an (λ k=>(n.set z c3)[k]?) ay).trans aB
  exact ej (bM.symm.trans (ay▸aw))▸ej ((yG (jZ.mp bM |>.1 |> λ h=>I.len▸h)).symm.trans aB)▸r
 ·have a:=I.apart i z q p aw bM (Ie ay)
  exact(I.obj i q o aw ((tP ay).symm.trans aB)).keep (.refl G) (I.nc P9) (λ b e=>x _ b e λ L=>L.elim a.1 a.2.1) (λ b e=>x _ b e λ L=>L.elim a.2.2.1 a.2.2.2)
theorem Inv.qm(I:Inv c nm G n s){H:dD}(k:∀b o,s.heap.get? b=some o→H.get? b=some o):k0<H.objs.size:=by
 obtain⟨b,o,h,e⟩:=I.two
 exact fi h (mU (k _ _ (I.base _ _ e)))
theorem vC{α:Type}{l:B α}{p x:α}{k:C}{X:Prop}(h:(l++[p])[k]? =some x)(f:l[k]? =some x→X)(g:k=l.length→p=x→X):X:=
 (Co k l.length).elim (λ q=>f ((qR q).symm.trans h)) λ q=>by
  have e:=(yC q).symm.trans h
  have L:=(jZ.mp e).1
  have L:k-l.length=0:=Nat.lt_one_iff.mp L
  exact g (Rn (Nat.sub_eq_zero_iff_le.mp L) q) (ej ((an (λ k=>[p][k]?) L).symm.trans e))
theorem Inv.adopt(I:Inv c nm G n s)(d':k0<p.1)(cO:k0<p.2)(gk:¬eG G p.1∧c.h₀.get? p.1=none)(fU:¬eG G p.2∧c.h₀.get? p.2=none)
  (r:gC c nm (G++[p]) s.heap p c3):Inv c nm (G++[p]) (n++[c3]) s:=by
 have old:∀{k:C} {w:a8×a8},G[k]? =some w→∀a,¬eG G a→w.1≠a∧w.2≠a:=λ e a bO=>⟨λ L=>bO (L▸(lG e).1),λ L=>bO (L▸(lG e).2)⟩
 refine⟨I.base,λ b f=>(uv f).elim (I.out b) λ e=>e.elim (λ e=>e▸gk.2) λ e=>e▸fU.2,(fh).trans ((an (· +1) I.len).trans (fh (as:=n) (bs:=[c3])).symm),λ i j u v aw aB LL=>?_,λ i q o aw aB=>?_,I.gens,I.os,
  λ b f=>(uv f).elim (I.low b) λ e=>e.elim (λ e=>e▸d') λ e=>e▸cO,I.two⟩
 ·exact vC aw (λ g1=>vC aB (λ g2=>I.apart i j u v g1 g2 LL) λ _ w=>have a:=old g1 _ gk.1;have b:=old g1 _ fU.1;w▸⟨a.1,b.1,a.2,b.2⟩)
   λ c2 w=>vC aB (λ g2=>have a:=old g2 _ gk.1;have b:=old g2 _ fU.1;w▸⟨a.1.symm,a.2.symm,b.1.symm,b.2.symm⟩) λ dW _=>absurd (c2.trans dW.symm) LL
 ·exact vC aw (λ g1=>vC aB (λ g2=>(I.obj i q o g1 g2).keep (ha.snoc G p) (λ _ _ e _=>e) (λ _ e=>e) (λ _ e=>e)) λ k _=>absurd (jZ.mp g1).1 (r7.mpr (dh (I.len.trans k.symm))))
   λ c2 w=>vC aB (λ g2=>absurd (jZ.mp g2).1 (r7.mpr (dh (I.len.symm.trans c2.symm)))) λ _ kQ=>w▸kQ▸r
theorem Inv.vd(I:Inv c nm G n s)(h:s.heap.get? a=none):¬eG G a∧c.h₀.get? a=none:=
 ⟨λ q=>(I.wW q).elim λ o e=>(nomatch h.symm.trans e),we.mpr λ o e=>nomatch h.symm.trans (I.base _ _ e)⟩
theorem Inv.alloc(I:Inv c nm G n s){H:dD}(x:cu (λ _=>False) s.heap H)(d':k0<p.1)(cO:k0<p.2)(gk:s.heap.get? p.1=none)(fU:s.heap.get? p.2=none)
  (r:gC c nm (G++[p]) H p c3):Inv c nm (G++[p]) (n++[c3]) {s with heap:=H,toks:=t}:=
 (I.more x).adopt d' cO (I.vd gk) (I.vd fU) r
theorem Step.alloc{H:dD}(x:cu (λ _=>False) s.heap H)(gk:s.heap.get? p.1=none)(fU:s.heap.get? p.2=none):Step G s (G++[p]) {s with heap:=H,toks:=t} where
 ext:=⟨ha.snoc G p,λ b f=>(uv f).imp id λ e=>e.elim (λ e=>e▸gk) λ e=>e▸fU⟩
 ch:=x.all
theorem Step.store{H:dD}(bM:(G:B (a8×a8))[z]? =some p)(x:cu (λ b=>b=p.1∨b=p.2) s.heap H):Step G s G {s with heap:=H,toks:=t}:=
 .ni (x.mono λ b az=>az.elim (λ e=>e▸(lG bM).1) λ e=>e▸(lG bM).2)
theorem Step.more{H:dD}(x:cu (λ _=>False) s.heap H):Step G s G {s with heap:=H,toks:=t}:=.ni x.all
theorem Step.f7(S:Step G s bv a9)(I:Inv c nm G n s){a:D}{v:au}(x:bA c G s.heap a v):bA c bv a9.heap a v:=x.keep S.ext.1 (I.nc S.ch)
theorem Step.vO(S:Step G s bv a9)(I:Inv c nm G n s){a:B D}{v:B au}(x:cs c G s.heap a v):cs c bv a9.heap a v:=x.keep S.ext.1 (I.nc S.ch)
end
noncomputable def sk(c:cV)(G:cA)(h:dD)(ai:eg)(m:aL→Y au)(x:aL)(a:D):Prop:=
 ∃v,bA c G h a v∧(ai.kindOf x=some .local∧m x=some v∨(ai.kindOf x=some .cell∨ai.kindOf x=some .free)∧∃q,ai.cells.lookup x=some q∧h.IsCell q (some v))
noncomputable def e3(ai:eg)(b:a8):Prop:=b=ai.locals∨∃x,ai.cells.lookup x=some b
structure c'(c:cV)(aj:B (Y aL))(G:cA)(env:aX)(ai:eg)(h:dD)(m:aL→Y au):Prop where
 kind:ai.scope.kind= .function
 rd:ai.globals=kZ
 blt:ai.builtins=yZ
 len:env.length=aj.length
 ns:h.Ns ai.locals m
 cells:∀x q,ai.cells.lookup x=some q→∃v,h.IsCell q v
 apart:∀x y q,ai.cells.lookup x=some q→ai.cells.lookup y=some q→x=y
 foot:∀b,e3 ai b→¬eG G b
 out:∀b,e3 ai b→c.h₀.get? b=none
 uniq:∀(i j:C) x,(aj:B (Y aL))[i]? =some (some x)→(aj:B (Y aL))[j]? =some (some x)→i=j
 has:∀x,ai.kindOf x=some .cell→(ai.cells.lookup x).isSome=true
 vars:∀(i:C) x a,(aj:B (Y aL))[i]? =some (some x)→(env:B (Y D))[i]? =some (some a)→sk c G h ai m x a
section
variable{c:cV}{nm:B (B C)}{G bv:cA}{n:St}{s a9:a2}{h H:dD}{aj:B (Y aL)}{env:aX}{ai:eg}{m:aL→Y au}
theorem sk.keep{c0:aL→Y au}{x:aL}{a:D}(v:sk c G h ai m x a)(l:ha G bv)(k:fX h H)(hm:∀v,m x=some v→c0 x=some v)(hc:∀q v,ai.cells.lookup x=some q→h.IsCell q v→H.IsCell q v):sk c bv H ai c0 x a:=
 v.imp λ u v=>⟨v.1.keep l k,v.2.imp (λ w=>⟨w.1,hm u w.2⟩) λ w=>⟨w.1,w.2.imp λ q w=>⟨w.1,hc q _ w.1 w.2⟩⟩⟩
theorem tM.ch(x:cu X h H)(z:¬X q){v:Y au}(y:h.IsCell q v):H.IsCell q v:=y.imp λ _ d=>⟨x _ _ d.1 z,d.2⟩
theorem tW.ch(x:cu X h H)(z:¬X q){m:aL→Y au}(y:h.Ns q m):H.Ns q m:=y.imp λ _ y=>y.imp λ _ y=>y.imp λ _ d=>⟨x _ _ d.1 z,d.2⟩
theorem e3.old(F:c' c aj G env ai h m)(o:e3 ai b):∃x,h.get? b=some x∧¬ik x:=by
 exact o.elim (λ q=>F.ns.imp λ o y=>y.elim λ O y=>y.elim λ hL d=>⟨q▸d.1,pw d.2.1⟩) λ y=>y.elim λ x e=>(F.cells x b e).elim λ v y=>y.imp λ o d=>⟨d.1,abG d.2⟩
theorem c'.step(F:c' c aj G env ai s.heap m)(I:Inv c nm G n s)(S:Step G s bv a9):c' c aj bv env ai a9.heap m where
 kind:=F.kind
 rd:=F.rd
 blt:=F.blt
 len:=F.len
 ns:=tW.ch S.ch (F.foot _ (.inl rfl)) F.ns
 cells:=λ x q e=>(F.cells x q e).imp λ _=>tM.ch S.ch (F.foot _ (.inr ⟨x,e⟩))
 apart:=F.apart
 foot:=λ b o f=>(S.ext.2 b f).elim (F.foot b o) λ g=>(e3.old F o).elim λ _ e=>nomatch e.1.symm.trans g
 out:=F.out
 uniq:=F.uniq
 has:=F.has
 vars:=λ i x a ax aH=>(F.vars i x a ax aH).keep S.ext.1 (I.nc S.ch) (λ _=>id) λ q v e cP=>tM.ch S.ch (F.foot _ (.inr ⟨x,e⟩)) cP
end
end Mine
end
section
open PySem PySem.W PyProof.Rows
namespace Mine
variable{Q:dC}{a:D}{v:au}{a9:a2}{i:am}{f:C→C→am}{b:am}{α:Type}{r:α}{ak:D→Prop}{u:au}{op:iU}{z m:C}{xs:B D}
noncomputable def Back(c:cV)(nm:B (B C))(G:cA)(s:a2)(Q:dC)(v:au)(a9:a2):Prop:=
 ∃a bv J,Q a J∧bA c bv a9.heap a v∧Inv c nm bv J a9∧Step G s bv a9
noncomputable def kT(c:cV)(nm:B (B C))(G:cA)(s:a2)(Q:av→St→Prop)(b:av)(a9:a2):Prop:=
 ∃bv J,Q b J∧Inv c nm bv J a9∧Step G s bv a9
noncomputable def vX(c:cV)(nm:B (B C))(G:cA)(s:a2)(Q:St→Prop)(_:p6)(a9:a2):Prop:=
 ∃bv J,Q J∧Inv c nm bv J a9∧Step G s bv a9
section
variable{c:cV}{nm:B (B C)}{G bQ:cA}{n:St}{s aJ:a2}
theorem Back.here(h:Q a n)(x:bA c G s.heap a v)(I:Inv c nm G n s)(t:C):Back c nm G s Q v {s with toks:=t}:=
 ⟨a,G,n,h,x,I.tok t,.ni (.refl _ _)⟩
theorem Back.after(S:Step G s bQ aJ)(b:Back c nm bQ aJ Q v a9):Back c nm G s Q v a9:=
 let⟨a,bv,J,h,x,I,fC⟩:=b;⟨a,bv,J,h,x,I,S.trans fC⟩
theorem kT.after{Q:av→St→Prop}{v:av}(S:Step G s bQ aJ)(b:kT c nm bQ aJ Q v a9):kT c nm G s Q v a9:=
 let⟨bv,J,h,I,fC⟩:=b;⟨bv,J,h,I,S.trans fC⟩
theorem Back.more{H:dD}{t:C}(h:Q a n)(I:Inv c nm G n s)(x:cu (λ _=>False) s.heap H)(r:bA c G H a v):Back c nm G s Q v {s with heap:=H,toks:=t}:=
 ⟨a,G,n,h,r,I.more x,.more x⟩
theorem aeE(a b:B C):st a++st b=st (a++b):=by
 show RX _ _=_
 simp[RX,st]
theorem yf(a:B C):(st a).length=a.length:=by simp[st,PySem.Str.length]
theorem x3:room=1000000:=rfl
end
noncomputable def ta:iU→yS
 | .add=>.Add| .sub=>.Sub| .mul=>.Mult| .mod=>.Mod| .band=>.BitAnd| .bor=>.BitOr| .bxor=>.BitXor
theorem Gs:small i=true↔ -(2:am)^62<i∧i< (2:am)^62:=by simp[small]
theorem Ur{a r:am}(h:su f a b=some r):0≤a∧0≤b∧r=f a.toNat b.toNat:=by
 unfold su at h
 split at h
 ·rename_i q;cases h;exact⟨q.1,q.2,rfl⟩
 ·cases h
theorem bitAnd_nn{a:am}(bO:0≤a)(az:0≤b):Builtin.bitAnd a b=((a.toNat&&& b.toNat:C):am):=by
 unfold Builtin.bitAnd;rw[iO bO,iO az]
theorem Di(a:am):Builtin.bitNot a= -a-1:=by unfold Builtin.bitNot;omega
theorem Dj{a:am}(bO:0≤a)(az:0≤b):Builtin.bitOr a b=((a.toNat|||b.toNat:C):am):=by
 unfold Builtin.bitOr Builtin.bitAnd
 have ax:¬0≤Builtin.bitNot a:=by rw[Di];omega
 have aH:¬0≤Builtin.bitNot b:=by rw[Di];omega
 rw[j3 ax,j3 aH]
 simp only[Di]
 have e:∀x:am,- (-x-1)-1=x:=by intro x;omega
 rw[e,e,e]
theorem Us{a:am}(bO:0≤a)(az:0≤b):Builtin.bitXor a b=((a.toNat|||b.toNat:C):am)- ((a.toNat&&& b.toNat:C):am):=by
 unfold Builtin.bitXor;rw[Dj bO az,bitAnd_nn bO az]
theorem aa1{a:am}(bO:small a=true):IntMulOk a b:=by
 rw[Gs]at bO
 exact IntMulOk.of_left (intBits_le_64 (by omega) (by omega))
section
variable{c:cV}{nm:B (B C)}{G:cA}{n:St}{s:a2}{A:eC}{ab:au→a2→Prop}
@[elab_as_elim] theorem ED{f:am→Y α}(h:jO f a=some r)(k:∀i,f i=some r→ak (.ii i)):ak a:=by
 cases a<;>first|exact k _ h|exact nomatch h
@[elab_as_elim] theorem aeu{f:B C→Y α}(h:yc f a=some r)(k:∀i,f i=some r→ak (.ss i)):ak a:=by
 cases a<;>first|exact k _ h|exact nomatch h
@[elab_as_elim] theorem mj{f:am→am→Y α}{b:D}{h:dD}{M:au→au→Prop}(e:kC f a b=some r)(x:bA c G h a v)(y:bA c G h b u)(k:∀i j t cB,f i j=some r→M (.int i t) (.int j cB)):M v u:=by
 revert x y
 exact ED e λ i e=>ED e λ j e ⟨t,x⟩ ⟨cB,y⟩=>x▸y▸k i j t cB e
theorem zr{j:am}{r:D}{M:Prop}(e:(su f i j).map D.ii=some r)(k:0≤i→0≤j→r= .ii (f i.toNat j.toNat)→M):M:=by
 obtain⟨x,bC,rfl⟩:=l3.mp e
 obtain⟨ax,aH,rfl⟩:=Ur bC
 exact k ax aH rfl
theorem Un{b r:D}(h:fH op a b=some r)(x:bA c G s.heap a v)(y:bA c G s.heap b u)(bz:Q r n)(I:Inv c nm G n s):
  bg (bc c.prog c.w) A (I2 (ta op) v u) (Back c nm G s Q) ab s:=by
 cases op with
 |add=>
  have h:Jp a b=some r:=h
  cases b with
  |ii j=>
   obtain⟨cB,rfl⟩:=y
   revert x
   exact ED h λ i h ⟨t,x⟩=>by cases x;cases h;exact add_int (Back.here bz ⟨_,rfl⟩ I _)
  |ss l=>
   obtain⟨cB,rfl⟩:=y
   revert x
   refine aeu h λ i h ⟨t,x⟩=>x▸?_
   split at h
   ·rename_i q
    cases h
    refine add_str (λ cB oy=>?_) (by simp only[yf];rw[lz];omega)
    rw[aeE]
    exact Back.here bz ⟨_,rfl⟩ I _
   ·cases h
  |_=>exact nomatch h
 |sub=>exact mj h x y λ i j t cB e=>by cases e;exact sub_int (Back.here bz ⟨_,rfl⟩ I _)
 |mul=>
  refine mj h x y λ i j t cB e=>?_
  unfold AH at e
  split at e
  ·rename_i q
   cases e
   rw[jX]at q
   exact mul_int (Back.here bz ⟨_,rfl⟩ I _) (aa1 q.1)
  ·cases e
 |mod=>
  refine mj h x y λ i j t cB e=>?_
  split at e
  ·cases e
  ·rename_i q
   cases e
   exact mod_int q (Back.here bz ⟨_,rfl⟩ I _)
 |band=>exact mj h x y λ i j t cB e=>zr e λ ax aH e=>by cases e;exact and_int (Back.here bz ⟨_,an (qX · _) (bitAnd_nn ax aH)⟩ I _)
 |bor=>exact mj h x y λ i j t cB e=>zr e λ ax aH e=>by cases e;exact or_int (Back.here bz ⟨_,an (qX · _) (Dj ax aH)⟩ I _)
 |bxor=>exact mj h x y λ i j t cB e=>zr e λ ax aH e=>by cases e;exact xor_int (Back.here bz ⟨_,an (qX · _) (Us ax aH)⟩ I _)
theorem Y3{b r:D}(h:kD op a b=some r)(x:bA c G s.heap a v)(y:bA c G s.heap b u)(bz:Q r n)(I:Inv c nm G n s):
  bg (bc c.prog c.w) A (inplaceOp (ta op) v u) (Back c nm G s Q) ab s:=by
 cases op with
 |add=>exact mj h x y λ i j t cB e=>by cases e;exact iadd_int (Back.here bz ⟨_,rfl⟩ I _)
 |sub=>exact mj h x y λ i j t cB e=>by cases e;exact isub_int (Back.here bz ⟨_,rfl⟩ I _)
 |bor=>exact mj h x y λ i j t cB e=>zr e λ ax aH e=>by cases e;exact ior_int (Back.here bz ⟨_,an (qX · _) (Dj ax aH)⟩ I _)
 |_=>exact nomatch h
theorem Ns(x:bA c G s.heap (.ii i) v)(bz:Q (.ii (-i)) n)(I:Inv c nm G n s):
  bg (bc c.prog c.w) A (unaryOp .USub v) (Back c nm G s Q) ab s:=by
 obtain⟨t,rfl⟩:=x
 exact neg_int (Back.here bz (by first|exact⟨_,rfl⟩|exact rfl|simp[bA]) I _)
noncomputable def eu(n:St):C→D→yT
 |_,.ii i=>.int i
 |_,.ss s=>.str (st s)
 |z+1,.tup l=>.tuple (l.map (eu n z))
 |z+1,.ref a=>match n[a]? with
  |some (.li xs)=>.list (xs.map (eu n z))
  |_=>.none
 |_,_=>.none
theorem NS{s:B C}(h:vf s=true):RU (st s)=true:=by
 unfold vf at h
 simp only[jX,g',zF]at h
 unfold RU st
 rw[QR,g']
 intro x aA
 have:=h.2 x aA
 exact iO (by omega)
theorem xN(h:eL n 0 a=true)(ay:∀i,ak (.ii i))(hs:∀s,vf s=true→ak (.ss s)):ak a:=by
 cases a<;>first|exact ay _|exact hs _ h|exact jw h
theorem NQ{z m:C}{o:Y a0}(e:n[m]? =o):eL n (z+1) (.ref m)=(λ o:Y a0=>match o with|some (.li xs)=>xs.all (eL n z)|_=>false) o:=an (λ o:Y a0=>match o with|some (.li xs)=>xs.all (eL n z)|_=>false) e
theorem ab2(h:eL n (z+1) (.ref m)=true):∃xs,n[m]? =some (.li xs)∧∀x∈xs,eL n z x=true:=by
 cases e:n[m]? with
 |none=>exact jw ((NQ e).symm.trans h)
 |some o=>
  have h:=(NQ e).symm.trans h
  cases o<;>first|exact⟨_,rfl,g'.mp h⟩|exact jw h
theorem s8(h:eL n (z+1) a=true)(ay:∀i,ak (.ii i))(hs:∀s,vf s=true→ak (.ss s))(bD:∀l,(∀x∈l,eL n z x=true)→ak (.tup l))(a4:∀m xs,n[m]? =some (.li xs)→(∀x∈xs,eL n z x=true)→ak (.ref m)):ak a:=by
 cases a<;>first|exact ay _|exact hs _ h|exact bD _ (g'.mp h)|exact(ab2 h).elim λ xs q=>a4 _ xs q.1 q.2|exact jw h
theorem A0(e:n[m]? =some (.li xs)):eu n (z+1) (.ref m)= .list (xs.map (eu n z)):=an (λ o:Y a0=>match o with|some (.li xs)=>PyData.list (xs.map (eu n z))|_=>.none) e
theorem vp(n:St)(z:C):∀a:D,eL n z a=true→(eu n z a).canLay0=true∧(eu n z a).depth≤z:=by
 induction z with
 |zero=>exact λ a h=>xN (ak:=λ a=>(eu n 0 a).canLay0=true∧(eu n 0 a).depth≤0) h (λ i=>⟨rfl,cJ _⟩) λ s h=>⟨NS h,cJ _⟩
 |succ z aZ=>
  exact λ a h=>s8 (ak:=λ a=>(eu n (z+1) a).canLay0=true∧(eu n (z+1) a).depth≤z+1) h (λ i=>⟨rfl,fu _⟩) (λ s h=>⟨NS h,fu _⟩) (λ l h=>have L:=wI l λ x aA=>aZ x (h x aA);⟨L.1,gq L.2⟩)
   λ m xs e h=>(an (λ p:yT=>p.canLay0=true∧p.depth≤z+1) (A0 e)).mpr (have L:=wI xs λ x aA=>aZ x (h x aA);⟨L.1,gq L.2⟩)
theorem F7(aZ:∀(a:D) (v:au),eL n z a=true→bA c G s.heap a v→∃as,t0 s.heap v (eu n z a) as)(l:B D):∀ar:B au,(∀x∈l,eL n z x=true)→cs c G s.heap l ar→∃as,yU s.heap ar (l.map (eu n z)) as:=by
 induction l with
 |nil=>exact λ ar _ x=>x▸⟨_,.nil⟩
 |cons a r ihl=>exact λ ar h x=>x.elim λ v x=>x.elim λ f7 x=>(aZ a v (h a (.head _)) x.2.1).elim λ as fV=>(ihl f7 (λ y bI=>h y (.tail _ bI)) x.2.2).elim λ bs gP=>x.1▸⟨_,.cons fV gP⟩
theorem vu(I:Inv c nm G n s)(z:C):∀(a:D) (v:au),eL n z a=true→bA c G s.heap a v→∃as,t0 s.heap v (eu n z a) as:=by
 induction z with
 |zero=>exact λ a v h=>xN (ak:=λ a=>bA c G s.heap a v→∃as,t0 s.heap v (eu n 0 a) as) h (λ i x=>x.elim λ t e=>e▸⟨_,.int _ _⟩) λ s _ x=>x.elim λ t e=>e▸⟨_,.str _ _⟩
 |succ z aZ=>
  refine λ a v h=>s8 (ak:=λ a=>bA c G s.heap a v→∃as,t0 s.heap v (eu n (z+1) a) as) h (λ i x=>x.elim λ t e=>e▸⟨_,.int _ _⟩) (λ s _ x=>x.elim λ t e=>e▸⟨_,.str _ _⟩) (λ l h x=>?_) λ m xs e h x=>?_
  ·obtain⟨a,items,rfl,⟨o,be,hc,k,a1⟩,a4⟩:=x
   exact(F7 aZ l _ h a4).elim λ as r=>⟨_,.tuple be hc a1 r⟩
  ·obtain⟨p,bM,rfl⟩:=x
   obtain⟨o,be,ee⟩:=I.xM bM
   cases ej (e.symm.trans be)
   obtain⟨_,_,items,k,bC,a4⟩:=ee
   exact(F7 aZ xs _ h a4).elim λ as r=>A0 e▸⟨_,.list bC rfl rfl r⟩
theorem O6(i j:B C):iK (.str (st i)) (.str (st j))=decide (i=j):=by
 rw[iK]
 by_cases q:i=j
 ·rw[q];simp
 ·have:st i≠st j:=λ e=>q (ye e)
  simp[q,this]
theorem L7(i j:am):iK (.int i) (.int j)=decide (i=j):=by
 rw[iK]
 by_cases q:i=j<;>simp[q]
theorem KW(aZ:∀(a b:D),eL n z a=true→eL n z b=true→iK (eu n z a) (eu n z b)=fJ n z a b)(l:B D):
  ∀cf:B D,(∀x∈l,eL n z x=true)→(∀x∈cf,eL n z x=true)→IK (l.map (eu n z)) (cf.map (eu n z))=k6 (fJ n z) l cf:=by
 induction l with
 |nil=>exact λ cf _ _=>match cf with
  | []=>rfl
  |_::_=>rfl
 |cons a r ihl=>exact λ cf h k=>match cf,k with
  | [],_=>rfl
  |b::t,k=>congr (an and (aZ a b (h a (.head _)) (k b (.head _)))) (ihl t (λ y bI=>h y (.tail _ bI)) λ y bI=>k y (.tail _ bI))
theorem VK{c0:C}{bf:B D}(e:n[m]? =some (.li xs))(bC:n[c0]? =some (.li bf)):fJ n (z+1) (.ref m) (.ref c0)=k6 (fJ n z) xs bf:=
 (an (λ o:Y a0=>match o,n[c0]? with|some (.li xs),some (.li bf)=>k6 (fJ n z) xs bf|_,_=>false) e).trans (an (λ o:Y a0=>match some (a0.li xs),o with|some (.li xs),some (.li bf)=>k6 (fJ n z) xs bf|_,_=>false) bC)
theorem F1(z:C):∀(a b:D),eL n z a=true→eL n z b=true→iK (eu n z a) (eu n z b)=fJ n z a b:=by
 induction z with
 |zero=>exact λ a b h k=>xN (ak:=λ a=>iK (eu n 0 a) (eu n 0 b)=fJ n 0 a b) h (λ i=>xN (ak:=λ b=>iK (.int i) (eu n 0 b)=fJ n 0 (.ii i) b) k (λ j=>L7 i j) λ j _=>rfl) λ i _=>xN (ak:=λ b=>iK (.str (st i)) (eu n 0 b)=fJ n 0 (.ss i) b) k (λ j=>rfl) λ j _=>O6 i j
 |succ z aZ=>
  have r:∀{x:yT} {m:C} {xs:B D} {b:av},n[m]? =some (.li xs)→iK x (.list (xs.map (eu n z)))=b→iK x (eu n (z+1) (.ref m))=b:=λ e h=>(an (iK _) (A0 e)).trans h
  exact λ a b h k=>s8 (ak:=λ a=>iK (eu n (z+1) a) (eu n (z+1) b)=fJ n (z+1) a b) h
   (λ i=>s8 (ak:=λ b=>iK (.int i) (eu n (z+1) b)=fJ n (z+1) (.ii i) b) k (λ j=>L7 i j) (λ j _=>rfl) (λ l _=>rfl) λ m xs e _=>r e rfl)
   (λ i _=>s8 (ak:=λ b=>iK (.str (st i)) (eu n (z+1) b)=fJ n (z+1) (.ss i) b) k (λ j=>rfl) (λ j _=>O6 i j) (λ l _=>rfl) λ m xs e _=>r e rfl)
   (λ l hl=>s8 (ak:=λ b=>iK (.tuple (l.map (eu n z))) (eu n (z+1) b)=fJ n (z+1) (.tup l) b) k (λ j=>rfl) (λ j _=>rfl) (λ cf uI=>KW aZ l cf hl uI) λ m xs e _=>r e rfl)
   λ m xs e aA=>(an (iK · (eu n (z+1) b)) (A0 e)).trans (s8 (ak:=λ b=>iK (.list (xs.map (eu n z))) (eu n (z+1) b)=fJ n (z+1) (.ref m) b) k (λ j=>rfl) (λ j _=>rfl) (λ cf uI=>rfl) λ c0 bf bC bI=>r (x:=.list (xs.map (eu n z))) bC ((KW aZ xs bf aA bI).trans (VK e bC).symm))
theorem VJ{b:D}{r:av}(cy:z≤20)(dS:A.units+100<kY)(h:m5 z n a b=some r)(x:bA c G s.heap a v)(y:bA c G s.heap b u)(bz:Q (.cj r) n)(I:Inv c nm G n s):
  bg (bc c.prog c.w) A (t5 .Eq v u) (Back c nm G s Q) ab s:=by
 unfold m5 at h
 split at h
 ·rename_i q
  cases h
  rw[jX]at q
  obtain⟨as,lP⟩:=vu I z a v q.1 x
  obtain⟨bs,F4⟩:=vu I z b u q.2 y
  have bO:=vp n z a q.1
  have az:=vp n z b q.2
  refine SeqAt.compareEq_reads lP F4 bO.1 az.1 (by omega) ?_
  rw[F1 z a b q.1 q.2]
  exact⟨_,G,n,bz,by simp[bA],I,.refl _ _⟩
 ·cases h
theorem abh{b:D}{r:av}(cy:z≤20)(dS:A.units+100<kY)(h:m5 z n a b=some r)(x:bA c G s.heap a v)(y:bA c G s.heap b u)(bz:Q (.cj (!r)) n)(I:Inv c nm G n s):
  bg (bc c.prog c.w) A (t5 .NotEq v u) (Back c nm G s Q) ab s:=by
 unfold m5 at h
 split at h
 ·rename_i q
  cases h
  rw[jX]at q
  obtain⟨as,lP⟩:=vu I z a v q.1 x
  obtain⟨bs,F4⟩:=vu I z b u q.2 y
  have bO:=vp n z a q.1
  have az:=vp n z b q.2
  refine SeqAt.compareNe_reads lP F4 bO.1 az.1 (by omega) ?_
  rw[F1 z a b q.1 q.2]
  exact⟨_,G,n,bz,by simp[bA],I,.refl _ _⟩
 ·cases h
end
end Mine
end
section
open PySem PySem.W PyProof.Rows
namespace Mine
variable{b:D}{Q:dC}{a:D}{v:au}{h:dD}{ak:au→Prop}{z:C}{l:B D}{i:am}{α:Type}{f:am→Y au}{r:av}{X:Prop}{k:D}{ar:B au}{M:Prop}{u:au}
noncomputable def Dv(K:kl)(V:a8):Bool:=
 plainGet K V (PySem.Str.mk #[])&&hasDictIn K V&&plainOver K V&&makesIn K V&&(oU K (.ref V) "__setattr__"==some (some (.builtin "object.__setattr__")))
structure jC(c:cV)(nm:B (B C)):Prop where
 K:c.K.In c.h₀
 lim:c.h₀.NoLimit
 cls:∀V,(c.P.i6 V).isSome=true→Dv c.K (c.ca V)=true
 fld:∀V f,c.P.fld V f=true→f<nm.length∧oU c.K (.ref (c.ca V)) (gK nm f)=some none
 names:∀f g,f<nm.length→g<nm.length→gK nm f=gK nm g→f=g
section
variable{c:cV}{nm:B (B C)}{G:cA}{n:St}{s:a2}{A:eC}{ab:au→a2→Prop}
theorem Inv.NF(I:Inv c nm G n s)(bL:jC c nm){b:a8}(f:eG G b):(b==k0)=false:=
 ma.mpr λ e=>absurd (I.low b f) (by rw[e];exact oR _)
theorem Back.now(h:Q a n)(x:bA c G s.heap a v)(I:Inv c nm G n s):Back c nm G s Q v s:=⟨a,G,n,h,x,I,.refl _ _⟩
theorem ln{b:av}:bA c G h (.cj b) (.bool b):=rfl
@[elab_as_elim] theorem lh(x:bA c G s.heap (.ref z) v)(I:Inv c nm G n s)(k:∀p o,(G:B (a8×a8))[z]? =some p→n[z]? =some o→gC c nm G s.heap p o→ak (.ref p.1)):ak v:=
 x.elim λ p x=>(I.xM x.1).elim λ o y=>x.2▸k p o x.1 y.1 y.2
@[elab_as_elim] theorem tp(x:bA c G h (.tup l) v)(k:∀a items,h.IsTuple a items→cs c G h l items.toList→items.size=l.length→ak (.ref a)):ak v:=
 x.elim λ a x=>x.elim λ items x=>x.1▸k a items x.2.1 x.2.2 (yv.symm.trans x.2.2.length)
@[elab_as_elim] theorem YR(x:bA c G h (.ii i) v)(k:∀t,ak (.int i t)):ak v:=x.elim λ t e=>e▸k t
@[elab_as_elim] theorem aew{i:B C}(x:bA c G h (.ss i) v)(k:∀t,ak (.str (st i) t)):ak v:=x.elim λ t e=>e▸k t
@[elab_as_elim] theorem pj{f:am→Y α}{r:α}{ak:D→au→Prop}(e:jO f a=some r)(x:bA c G h a v)(k:∀i t,f i=some r→ak (.ii i) (.int i t)):ak a v:=by
 cases a<;>first|exact x.elim λ t q=>q▸k _ t e|exact nomatch e
@[elab_as_elim] theorem O5{f:B C→Y α}{r:α}{ak:D→au→Prop}(e:yc f a=some r)(x:bA c G h a v)(k:∀i t,f i=some r→ak (.ss i) (.str (st i) t)):ak a v:=by
 cases a<;>first|exact x.elim λ t q=>q▸k _ t e|exact nomatch e
theorem po{p:a8×a8}{xs:B D}(x:gC c nm G h p (.li xs))(k:∀items z,h.get? p.1=some {cls:=.type "list",data:=.seq items z}→h.IsList p.1 items→cs c G h xs items.toList→items.size=xs.length→X):X:=
 x.2.2.elim λ items y=>y.elim λ z y=>k items z y.1 ⟨_,y.1,rfl,z,rfl⟩ y.2 (yv.symm.trans y.2.length)
theorem Nd{a:a8}(I:Inv c nm G n s)(h:c.h₀.MapOf (gs c.prog c.w) a f):s.heap.MapOf (gs c.prog c.w) a f:=h.imp λ o h=>h.imp λ O h=>h.imp λ hL h=>⟨I.base _ _ h.1,h.2⟩
@[elab_as_elim] theorem Dq{O:B (am×am)}(x:bA c G s.heap (.cd O) v)(I:Inv c nm G n s)(k:∀a f,(a==k0)=false→s.heap.MapOf (gs c.prog c.w) a f→(∀k,gb (λ i v=>∃t,v= .int i t) (O.lookup k) (f k))→ak (.ref a)):ak v:=
 x.elim λ a x=>x.2.2.elim λ f y=>x.1▸k a f x.2.1 (Nd I y.1) y.2
theorem Br{a b:C}(h:a=b)(q:b≤room):(a:am)<2^63:=by
 have q:b≤1000000:=q
 omega
theorem GD{a b:C}(h:a=b)(q:b≤room):a≤sizeLine:=by
 have q:b≤1000000:=q
 rw[lz];omega
theorem SY(n:St)(hk:eL n z k=true)(l:B D):l.all (eL n z)=true→((l.map (eu n z)).any λ y=>iK y (eu n z k))=l.any λ x=>fJ n z x k:=by
 induction l with
 |nil=>exact λ _=>rfl
 |cons a r aZ=>exact λ h=>have h:=dF.mp h;congr (an or (F1 z a k h.1 hk)) (aZ h.2)
theorem adi(I:Inv c nm G n s)(h:l.all (eL n z)=true)(x:cs c G s.heap l ar):∃as,yU s.heap ar (l.map (eu n z)) as:=F7 (vu I z) l ar (g'.mp h) x
theorem lK{p:Prop}{d:v1 p}{x r:α}(h:(if p then some x else none)=some r)(k:p→x=r→M):M:=
 r2 (λ q:p=>k q (ej ((if_pos q).symm.trans h))) λ q=>nomatch(if_neg q).symm.trans h
theorem Ma(I:Inv c nm G n s)(h:xg n k l=some r)(x:bA c G s.heap k v)(a4:cs c G s.heap l ar)
  (g:∀as bs,yU s.heap ar (l.map (eu n 2)) as→t0 s.heap v (eu n 2 k) bs→RT (l.map (eu n 2))=true→(eu n 2 k).canLay0=true→(eu n 2 k).depth≤2→((l.map (eu n 2)).any λ y=>iK y (eu n 2 k))=r→M):M:=
 lK h λ q e=>have q:=dF.mp q;(adi I q.1 a4).elim λ as fV=>(vu I 2 k v q.2 x).elim λ bs gP=>have L:=vp n 2 k q.2
  g as bs fV gP (wI (z:=2) l λ a bO=>vp n 2 a (g'.mp q.1 a bO)).1 L.1 L.2 ((SY n q.2 l q.1).trans e)
noncomputable def HJ(c:cV)(nm:B (B C))(G:cA)(n:St)(s:a2)(A:eC)(ab:au→a2→Prop)(Q:dC)(r:av)(v u:au):Prop:=
 (Q (.cj r) n→bg (bc c.prog c.w) A (t5 .In v u) (Back c nm G s Q) ab s)∧(Q (.cj (!r)) n→bg (bc c.prog c.w) A (t5 .NotIn v u) (Back c nm G s Q) ab s)
theorem L'{a:a8}{t:i0}{b:av}(I:Inv c nm G n s)(hs:(a==k0)=false)(hm:s.heap.MapOf (gs c.prog c.w) a f)(e:(f i).isSome=b):HJ c nm G n s A ab Q b (.int i t) (.ref a):=by
 subst e
 exact⟨λ bz=>wpAny_in_of (knd:=gs c.prog c.w) (k:=i) (p4 _ _ _ _) hs hm (Back.here bz ln I _),λ bz=>wpAny_notIn_of (knd:=gs c.prog c.w) (k:=i) (p4 _ _ _ _) hs hm (Back.here bz ln I _)⟩
noncomputable def Mb(n:St)(k:D):Y a0→Y av
 |some (.li xs)=>xg n k xs
 |some (.cq O)=>jO (λ i=>some (O.lookup i).isSome) k
 |_=>none
theorem Mc(bL:jC c nm)(dS:A.units+100<kY)(h:Al n k a=some r)(x:bA c G s.heap k v)(y:bA c G s.heap a u)(I:Inv c nm G n s):HJ c nm G n s A ab Q r v u:=by
 have b:∀{z:C},z≤2→A.units+z+20<cLine:=λ q=>cn (fB (hb (a' q (aE rfl)) 20 |> λ L=>a' L (aE rfl:2+20≤100)) A.units |> λ L=>(mQ A.units _ 20).symm▸L) dS
 cases a with
 |tup l=>exact tp y λ a items bD a4 _=>Ma I h x a4 λ as bs fV gP cz cD hk e=>bD.elim λ o t=>t.2.2.elim λ z a1=>e▸⟨λ bz=>SeqAt.in_tuple_reads (.tuple t.1 t.2.1 a1 fV) gP cz cD (by omega) (Back.now bz ln I),λ bz=>SeqAt.notIn_tuple_reads (.tuple t.1 t.2.1 a1 fV) gP cz cD (by omega) (Back.now bz ln I)⟩
 |cd O=>exact Dq y I λ a f hs hm hl=>pj h x λ i t h=>L' I hs hm ((hl i).xj.trans (ej h))
 |ref z=>
  refine lh y I λ p o bM be ee=>?_
  have h:Mb n k (some o)=some r:=be▸(show Mb n k n[z]? =some r from h)
  cases o with
  |li xs=>exact po ee λ items z aw _ a4 _=>Ma I h x a4 λ as bs fV gP cz cD hk e=>e▸⟨λ bz=>SeqAt.in_list_reads (.list aw rfl rfl fV) gP cz cD (by omega) (Back.now bz ln I),λ bz=>SeqAt.notIn_list_reads (.list aw rfl rfl fV) gP cz cD (by omega) (Back.now bz ln I)⟩
  |cq O=>exact ee.2.elim λ cZ d=>pj h x λ i t h=>L' I (I.NF bL (lG bM).1) d.1.mapOf (((fq.find (λ a b e=>e) i d.2).xj).trans (ej h))
  |_=>exact nomatch h
 |_=>exact nomatch h
noncomputable def Nu:Y a0→Y a0→Y av
 |some (.li xs),some (.li [])=>some (!xs.isEmpty)
 |_,_=>none
theorem abt{o c3:a0}(h:Nu (some o) (some c3)=some r)(k:∀xs,o= .li xs→c3= .li []→(!xs.isEmpty)=r→X):X:=by
 cases o with
 |li xs=>cases c3 with
  |li bf=>cases bf with
   |nil=>exact k _ rfl rfl (ej h)
   |cons _ _=>exact nomatch h
  |_=>exact nomatch h
 |_=>exact nomatch h
@[elab_as_elim] theorem abr{ak:D→D→Prop}(h:s1 n a b=some r)(k:∀m z,Nu n[m]? n[z]? =some r→ak (.ref m) (.ref z)):ak a b:=by
 cases a with
 |ref m=>cases b<;>first|exact k _ _ h|exact nomatch h
 |_=>exact nomatch h
theorem abs(dS:A.units+100<kY)(h:s1 n a b=some r)(x:bA c G s.heap a v)(y:bA c G s.heap b u)(bz:Q (.cj r) n)(I:Inv c nm G n s):
  bg (bc c.prog c.w) A (t5 .NotEq v u) (Back c nm G s Q) ab s:=by
 revert x y
 refine abr h λ m z h x y=>lh x I λ p o bM be ee=>lh y I λ f4 c3 rg lJ Xi=>abt (be▸lJ▸h) λ xs e bC g=>?_
 have ag9:A.units+10<cLine:=cn (fB (aE rfl) _) dS
 refine po (e▸ee) λ items k _ dy _ eF=>po (bC▸Xi) λ Mo ct _ eE _ jU=>?_
 have kH:Mo.size=0:=jU
 have hM:Back c nm G s Q (.bool r) s:=Back.now bz ln I
 cases xs with
 |nil=>
  have iB:items.size=0:=eF
  have adg:=agA (A:=A) (e:=λ _=>true) dy eE (iB.trans kH.symm) (by omega) (λ j Zg=>absurd (iB▸Zg) (yO _))
  have gM:(!(ck items.size).all λ _=>true)=false:=iB▸rfl
  exact(gM▸adg) c.prog c.w ab _ ((show r=false from g.symm)▸hM)
 |cons L bR=>
  have iB:items.size≠Mo.size:=λ q=>Nat.noConfusion (eF.symm.trans (q.trans kH))
  exact agB (A:=A) dy eE (p8.mpr iB) (by omega) c.prog c.w ab _ ((show r=true from g.symm)▸hM)
noncomputable def Dx:jg→CmpOp
 | .eq=>.Eq| .ne=>.NotEq| .lt=>.Lt| .le=>.LtE| .gt=>.Gt| .ge=>.GtE| .is=>.Is| .pk=>.In| .my=>.NotIn
noncomputable def Fk(o e:Y av):Y Bool:=match o with
 |some r=>some r
 |none=>e.map (!·)
theorem Kr{op:jg}(bL:jC c nm)(dS:A.units+200<kY)(h:cY op a b n=some r)(x:bA c G s.heap a v)(y:bA c G s.heap b u)(bz:Q (.cj r) n)(I:Inv c nm G n s):
  bg (bc c.prog c.w) A (t5 (Dx op) v u) (Back c nm G s Q) ab s:=by
 cases op with
 |eq=>exact VJ (by decide:4≤20) (by omega) h x y bz I
 |ne=>
  have h:Fk (s1 n a b) (m5 4 n a b)=some r:=h
  cases q:s1 n a b with
  |none=>exact(l3.mp (show(m5 4 n a b).map (!·)=some r from(an (λ o=>Fk o (m5 4 n a b)) q).symm.trans h)).elim λ bw e=>abh (by decide:4≤20) (by omega) e.1 x y (e.2.symm▸bz) I
  |some bw=>exact abs (by omega) q x y ((ej ((an (λ o=>Fk o (m5 4 n a b)) q).symm.trans h):bw=r)▸bz) I
 |pk=>exact(Mc bL (by omega) h x y I).1 bz
 |my=>exact(l3.mp h).elim λ bw e=>(Mc bL (by omega) e.1 x y I).2 (e.2.symm▸bz)
 |is=>
  have h:Mh a b=some r:=h
  cases b with
  |nn=>
   have e:u= .none:=y
   subst e
   cases a with
   |nn=>cases x;cases h;exact is_none (Back.now bz ln I)
   |tup l=>exact tp x λ a items _ _ _=>by cases h;exact is_none (Back.now bz ln I)
   |ref z=>exact lh x I λ p o _ _ _=>by cases h;exact is_none (Back.now bz ln I)
   |_=>exact nomatch h
  |_=>exact nomatch h
 |lt=>exact mj h x y λ i j t cB e=>by cases e;exact lt_int (Back.now bz ln I)
 |le=>exact mj h x y λ i j t cB e=>by cases e;exact le_int (Back.now bz ln I)
 |gt=>exact mj h x y λ i j t cB e=>by cases e;exact gt_int (Back.now bz ln I)
 |ge=>exact mj h x y λ i j t cB e=>by cases e;exact ge_int (Back.now bz ln I)
noncomputable def PA:Y a0→Y av
 |some (.li xs)=>some (!xs.isEmpty)
 |_=>none
theorem GL{Q:av→St→Prop}(h:ig n a=some r)(x:bA c G s.heap a v)(bz:Q r n)(I:Inv c nm G n s):
  bg (bc c.prog c.w) A (y5 v) (kT c nm G s Q) ab s:=by
 cases a with
 |cj b=>exact(show v= .bool b from x)▸Sk ⟨G,n,(ej h:b=r)▸bz,I,.refl _ _⟩
 |ii i=>exact YR x λ t=>truthy_int ⟨G,n,(show(i != 0)=r from(decide_not (p:=i=0)).symm.trans (ej h))▸bz,I,.refl _ _⟩
 |ref z=>
  refine lh x I λ p o bM be ee=>?_
  have h:PA (some o)=some r:=be▸(show PA n[z]? =some r from h)
  cases o with
  |li xs=>exact po ee λ items k _ hl _ hs=>wpAny_truthy_list hl (Br hs ee.2.1) ⟨G,n,(show(!items.isEmpty)=r from(an (λ z=>!decide (z=0)) hs).trans ((by cases xs<;>rfl:(!decide (xs.length=0))= !xs.isEmpty).trans (ej h)))▸bz,I.tok _,.ni (.refl _ _)⟩
  |_=>exact nomatch h
 |_=>exact nomatch h
end
end Mine
end
section
open PySem PySem.W PyProof.Rows
namespace Mine
variable{h H:dD}{i:am}{z:C}{xs:B D}{r:D}{l:B D}{a:D}{items:gS au}{t:C}{Q:dC}{k:C}{v:au}{ar:B au}{aI:dD}{dQ:a8}{gp:i0}
theorem cu.of_keep(k:∀b o,h.get? b=some o→H.get? b=some o):cu (λ _=>False) h H:=λ b o e _=>k b o e
theorem OT(ec:0≤i)(ax:i<z):wq i z=some i.toNat:=by
 unfold wq
 simp only[show¬i<0 from by omega,EB]
 rw[if_pos (by simp only[jX,zF];omega)]
theorem ad1(ec:i<0)(ax:0≤i+z):wq i z=some (i+z).toNat:=by
 unfold wq
 simp only[ec,if_true]
 rw[if_pos (by simp only[jX,zF];omega)]
section
variable{c:cV}{nm:B (B C)}{G:cA}{n:St}{s:a2}{A:eC}{ab:au→a2→Prop}
theorem rq(I:Inv c nm G n s){p:a8×a8}(bM:(G:B (a8×a8))[z]? =some p)(e:n[z]? =some (.li xs)):
  xs.length≤1000000∧p.2=p.1∧∃items k,s.heap.get? p.1=some {cls:=.type "list",data:=.seq items k}∧s.heap.IsList p.1 items∧cs c G s.heap xs items.toList∧items.size=xs.length:=
 have x:=I.obj z p _ bM e
 ⟨x.2.1,x.1,po x λ items k a b d g=>⟨items,k,a,b,d,g⟩⟩
theorem zB{p:Prop}{d:v1 p}{α:Type}{x:Y α}{r:α}{M:Prop}(h:(if p then x else none)=some r)(k:p→x=some r→M):M:=
 r2 (λ q:p=>k q ((if_pos q).symm.trans h)) λ q=>nomatch(if_neg q).symm.trans h
theorem zZ(h:n4 l i=some a):(-(l.length:am)≤i∧i<l.length)∧∃j,wq i l.length=some j∧l[j]? =some a∧j=(if i<0 then i+l.length else i).toNat:=by
 unfold n4 at h
 by_cases q:0≤i
 ·have h:=(if_pos q).symm.trans h
  have n7:=(jZ.mp h).1
  exact⟨⟨by omega,by omega⟩,i.toNat,OT q (by omega),h,by rw[if_neg (by omega)]⟩
 ·refine zB ((if_neg q).symm.trans h) λ cO h=>?_
  have n7:=(jZ.mp h).1
  exact⟨⟨by omega,by omega⟩,(i+l.length).toNat,ad1 (by omega) cO,h,by rw[if_pos (by omega)]⟩
theorem aao{O:B (am×D)}{cZ:B (am×au)}{R:D→au→Prop}(r:fq id R O cZ)(e:O.lookup i=some a):∃v,valueAt cZ i=some v∧R a v:=(r.find (λ _ _=>id) i).at e
theorem ahp{m:C}(h:z=m)(q:m≤room):(z:am)<2^63:=Br h q
theorem YI{a:a8}{t:i0}(I:Inv c nm G n s)(hl:s.heap.IsList a items)(a4:cs c G s.heap l items.toList)(hs:items.size=l.length)(a3:l.length≤room)(h:n4 l i=some r)(bz:Q r n):
  bg (bc c.prog c.w) A (t6 (.ref a) (.int i t)) (Back c nm G s Q) ab s:=by
 have a3:l.length≤1000000:=a3
 refine(zZ h).2.elim λ j g=>(a4.get g.2.1).elim λ w cS=>?_
 have b:=(zZ h).1
 have xb:items[j]? =some w:=vW.symm.trans cS.1
 have zK:=g.2.2
 by_cases ec:i<0
 ·rw[if_pos ec]at zK
  exact wpAny_getItem_list_neg hl ec (by omega) (by omega) (x:=w) (hs.symm▸zK▸xb) (Back.now bz cS.2 I)
 ·rw[if_neg ec]at zK
  exact wpAny_getItem_list hl (by omega) (by omega) (x:=w) (zK▸xb) (Back.now bz cS.2 I)
theorem L5{k:D}{u:au}(h:de n a k=some r)(x:bA c G s.heap a v)(y:bA c G s.heap k u)(bz:Q r n)(I:Inv c nm G n s):
  bg (bc c.prog c.w) A (t6 v u) (Back c nm G s Q) ab s:=by
 cases a with
 |tup l=>
  refine tp x λ a items bD a4 hs=>pj h y λ i t h=>zB h λ a3 h=>(zZ h).2.elim λ j g=>(a4.get g.2.1).elim λ w cS=>?_
  have b:=(zZ h).1
  have a3:l.length≤1000000:=a3
  exact getItem_tuple (t:=a) (items:=items) (j:=j) bD (by omega) (by omega) (hs.symm▸g.1) (vW.symm.trans cS.1) (Back.now bz cS.2 I)
 |ss l=>
  refine aew x λ t=>pj h y λ i cB h=>zB h λ a3 h=>(l3.mp h).elim λ Dy hc=>?_
  have LC:l[i.toNat]? =some Dy:=(if_pos a3.2).symm.trans hc.1
  have n7:=(jZ.mp LC).1
  have uO:l.length≤1000000:=a3.1
  have uP:=a3.2
  refine PySem.P.getItem_str (c:=Dy) ?_ ((an (λ o=>o.bind λ j=>(st l).cps[j]?) (OT a3.2 (by rw[yf];omega):wq i (st l).length=some i.toNat)).trans (HX.trans LC)) (Back.here (a:=.ss [Dy]) (hc.2.symm▸bz) ⟨_,rfl⟩ I _)
  simp only[Qs,decide_eq_false_iff_not];omega
 |cd O=>exact Dq x I λ a f _ hm hl=>pj h y λ i t h=>(l3.mp h).elim λ j bt=>((hl i).at bt.1).elim λ v cP=>cP.2.elim λ cB e=>Jc (knd:=gs c.prog c.w) (k:=i) (p4 _ _ _ _) hm (cP.1.trans (an some e)) (Back.here (a:=.ii j) (bt.2.symm▸bz) ⟨_,rfl⟩ I _)
 |ref z=>
  refine lh x I λ p o bM be ee=>?_
  have h:rj k (some o)=some r:=be▸(show rj k n[z]? =some r from h)
  cases o with
  |li xs=>exact po ee λ items z _ hl a4 hs=>pj h y λ i t h=>YI I hl a4 hs ee.2.1 h bz
  |ds O=>exact ee.2.elim λ cZ d=>O5 h y λ i t h=>((d.2.find (λ _ _=>ye) i).at h).elim λ w cS=>Jc (knd:=strKind c.prog c.w) (k:=st i) (I7 c.prog c.w _ _) d.1.mapOf cS.1 (Back.here bz cS.2 I _)
  |cq O=>exact ee.2.elim λ cZ d=>pj h y λ i t h=>(aao d.2 h).elim λ w cS=>Jc (knd:=gs c.prog c.w) (k:=i) (p4 _ _ _ _) d.1.mapOf cS.1 (Back.here bz cS.2 I _)
  |_=>exact nomatch h
 |_=>exact nomatch h
noncomputable def MW:Y a0→Y am
 |some (.li xs)=>some xs.length
 |_=>none
theorem ZT{z:am}(h:lb n a=some z)(x:bA c G s.heap a v)(bz:Q (.ii z) n)(I:Inv c nm G n s):
  bg (bc c.prog c.w) A (call (.builtin "len") [v]) (Back c nm G s Q) ab s:=by
 have b:∀{k l:C} {t u:C},k=l→(l:am)=z→Back c nm G s Q (.int (k:am) t) {s with toks:=u}:=λ e q=>Back.here bz ⟨_,an (qX · _) ((an Int.ofNat e).trans q)⟩ I _
 cases a with
 |tup l=>exact zB h λ a3 h=>tp x λ a items bD _ hs=>agy bD (Br hs a3) (b hs (ej h))
 |ref m=>
  refine lh x I λ p o bM be ee=>?_
  have h:MW (some o)=some z:=be▸(show MW n[m]? =some z from h)
  cases o with
  |li xs=>exact po ee λ items k _ hl _ hs=>agx hl (Br hs ee.2.1) (b hs (ej h))
  |_=>exact nomatch h
 |_=>exact nomatch h
theorem Nt(I:Inv c nm G n s)(x:cu (λ _=>False) s.heap H)(r:cs c G s.heap l ar)(bz:Q (.tup l) n):
  Back c nm G s Q (.ref H.objs.size) {s with heap:=H.push {cls:=.type "tuple",data:=.seq ar.toArray k},toks:=t}:=
 have ht:cu (λ _=>False) s.heap (H.push {cls:=.type "tuple",data:=.seq ar.toArray k}):=x.trans (cu.push _ _)
 Back.more bz I ht ⟨_,_,rfl,⟨_,nK _ rfl,rfl,k,rfl⟩,r.keep (.refl G) λ b o e _=>ht b o e id⟩
theorem afv(h:n[z]? =some (.li xs))(x:bA c G s.heap (.ref z) v)(bz:Q (.tup xs) n)(I:Inv c nm G n s):
  bg (bc c.prog c.w) A (call (.type "tuple") [v]) (Back c nm G s Q) ab s:=
 lh x I λ p o bM be ee=>po (ej (be.symm.trans h)▸ee) λ items d9 _ hl a4 hs=>call_tuple_list hl (λ H k=>Nt (ar:=items.toList) I (cu.of_keep k) a4 bz) (GD hs (ej (be.symm.trans h)▸ee).2.1)
theorem afw(x:bA c G s.heap (.tup l) v)(bz:Q (.tup l) n)(I:Inv c nm G n s):
  bg (bc c.prog c.w) A (call (.type "tuple") [v]) (Back c nm G s Q) ab s:=
 tp (ak:=λ v=>bA c G s.heap (.tup l) v→bg (bc c.prog c.w) A (call (.type "tuple") [v]) (Back c nm G s Q) ab s) x (λ a items bD _ _ x=>call_tuple_same bD (Back.now bz x I)) x
theorem AL(I:Inv c nm G n s)(x:cu (λ _=>False) s.heap H)(r:cs c G s.heap l ar)(L:l.length≤room)(bz:Q (.ref n.length) (n++[.li l]))
  (cl:s.heap.get? H.objs.size=none):Back c nm G s Q (.ref H.objs.size) {s with heap:=H.push {cls:=.type "list",data:=.seq ar.toArray k},toks:=t}:=
 have ht:cu (λ _=>False) s.heap (H.push {cls:=.type "list",data:=.seq ar.toArray k}):=x.trans (cu.push _ _)
 have w:=I.qm λ b o e=>x b o e id
 ⟨.ref n.length,G++[(H.objs.size,H.objs.size)],n++[.li l],bz,⟨(H.objs.size,H.objs.size),I.len▸HV,rfl⟩,
  I.alloc ht w w cl cl (show gC c nm _ _ _ (.li l)from⟨rfl,L,_,k,nK _ rfl,r.keep (ha.snoc _ _) λ b o e _=>ht b o e id⟩),.alloc ht cl cl⟩
theorem n1(k:∀b o,h.get? b=some o→H.get? b=some o):h.get? H.objs.size=none:=
 we.mpr λ o e=>absurd (mU (k _ _ e)) (oR _)
theorem aei{rT vP ar:au}{lo ay ea:Y am}{bf:B D}(h:n[z]? =some (.li xs))(x:bA c G s.heap (.ref z) v)(lO:wh rT lo)(F0:wh vP ay)(cp:wh ar ea)(ec:ea≠some 0)
  (bI:∀items:gS au,cs c G s.heap xs items.toList→cs c G s.heap bf (sc items lo ay ea).toList)(a3:bf.length≤xs.length)
  (bz:Q (.ref n.length) (n++[.li bf]))(I:Inv c nm G n s)(hs:aI.IsSliceOf dQ rT vP ar)(k:∀b o,s.heap.get? b=some o→aI.get? b=some o):
  bg (bc c.prog c.w) A (t6 v (.ref dQ)) (Back c nm G s Q) ab {s with heap:=aI,toks:=t}:=by
 exact lh x I λ p o bM be ee=>have ee:=ej (be.symm.trans h)▸ee;po ee λ items d9 aw hl a4 jM=>Se (s:={s with heap:=aI,toks:=t}) (hl:=⟨_,k _ _ aw,rfl,d9,rfl⟩) hs lO F0 cp ec
  (AL (H:=aI) (ar:=(sc items lo ay ea).toList) I (cu.of_keep k) (bI items a4) (a' a3 ee.2.1) bz (n1 k)) (GD jM ee.2.1)
theorem pick_from{z:am}(cy:0≤z)(r:cs c G s.heap xs items.toList):cs c G s.heap (xs.drop z.toNat) (sc items (some z) none none).toList:=by
 obtain⟨k,rfl⟩:=B3 cy
 rw[slicePick_from']
 simpa using r.drop k
theorem N3{z:am}(cy:0≤z)(r:cs c G s.heap xs items.toList):cs c G s.heap (xs.take z.toNat) (sc items none (some z) none).toList:=by
 obtain⟨k,rfl⟩:=B3 cy
 rw[slicePick_upto']
 simpa using r.take k
theorem acL(r:cs c G s.heap xs items.toList):cs c G s.heap xs.reverse (sc items none none (some (-1))).toList:=by
 rw[krv_pick]
 simpa using r.reverse
theorem acM{l:B C}{z:am}(cy:0≤z):∃m,I6 (st l) none (some (z,gp)) none=(ck m).map (0+·)∧l.take m=l.take z.toNat:=by
 obtain⟨k,rfl⟩:=B3 cy
 have e:(st l).length=l.length:=yf l
 rcases Nat.le_total k l.length with q|q
 ·exact⟨k,(RY _ _).trans (RZ (a:=0) (fu _) (e.symm▸q)),rfl⟩
 ·exact⟨l.length,((sliceIdx_hi_beyond _ (QO.mpr (e.symm▸q))).trans (RY _ _)).trans ((RZ (a:=0) (fu _) (cJ _)).trans (e▸rfl)),(Rc).trans (Rd q).symm⟩
theorem ae3{l:B C}{t:i0}{z:am}(cy:0≤z)(hl:l.length≤1000)(bz:Q (.ss (l.take z.toNat)) n)(I:Inv c nm G n s)(hs:aI.IsSliceOf dQ .none (.int z gp) .none)
  (k:∀b o,s.heap.get? b=some o→aI.get? b=some o){cB:C}:bg (bc c.prog c.w) A (t6 (.str (st l) t) (.ref dQ)) (Back c nm G s Q) ab {s with heap:=aI,toks:=cB}:=by
 refine wpAny_getItem_str_slice (s:={s with heap:=aI,toks:=cB}) (l:=none) (u:=some (z,gp)) (st:=none) hs rfl ?_
 obtain⟨m,dk,hm⟩:=acM (l:=l) (gp:=gp) cy
 have hM:∀(x:aL) (eO:i0) (dW:C),x=st (l.take z.toNat)→Back c nm G s Q (.str x eO) {s with heap:=aI,toks:=dW}:=λ x eO dW e=>Back.more bz I (cu.of_keep k) ⟨_,an (Value.str · _) e⟩
 have cl:(⟨((I6 (st l) none (some (z,gp)) none).filterMap ((st l).cps[·]?)).toArray⟩:aL)=st (l.take z.toNat):=an (λ l:B C=>(⟨l.toArray⟩:aL)) ((an (QX _) dk).trans ((pick_run l.toArray 0 m).trans hm))
 unfold sliceMade
 by_cases q:(((none:Y (am×i0)).map (·.1)).getD 1==1&&(I6 (st l) none (some (z,gp)) none).length==(st l).length)=true
 ·rw[if_pos q]
  have e:m=l.length:=(by rw[dk,cG,gB,yf]at q;exact eq_of_beq (dF.mp q).2)
  exact hM _ _ _ (an st ((Rc).symm.trans (e▸hm)))
 ·rw[if_neg q]
  exact⟨by rw[cl,yf,lz,H2];omega,hM _ _ _ cl⟩
end
end Mine
end
section
open PySem PySem.W PyProof.Rows
namespace Mine
variable{a:D}{v:au}{h:dD}{O:B mT}{z:C}{m:aL→Y au}{x:aL}{p:a8×a8}{V:C}{aG:B (C×D)}{r:D}{f:C}{Q:dC}{R:D→au→Prop}{dn:Type}{ct q k:dn}{H:dD}{u:au}{J:St}{xs:B (gT×a8×au)}{w:au}
section
variable{c:cV}{nm:B (B C)}{G:cA}{n:St}{s:a2}{A:eC}{ab:au→a2→Prop}
theorem bA.handed(x:bA c G h a v):handedIn v=true:=by
 cases a with
 |nn=>exact(show v=_ from x)▸rfl
 |cj b=>exact(show v=_ from x)▸rfl
 |ii _=>exact x.elim λ _ e=>e▸rfl
 |ss _=>exact x.elim λ _ e=>e▸rfl
 |tup _=>exact x.elim λ _ x=>x.elim λ _ e=>e.1▸rfl
 |ew _ _=>exact x.elim λ _ x=>x.elim λ _ x=>x.elim λ _ x=>x.elim λ _ e=>e.1▸rfl
 |cd _=>exact x.elim λ _ e=>e.1▸rfl
 |ref _=>exact x.elim λ _ e=>e.2▸rfl
 |fw _=>exact x.elim λ _ e=>e.1▸rfl
theorem NB(g:∀e∈O,∃k t,e.key= .str k t):O.any (·.refKey)=false:=
 QS.mpr λ e b3=>(g e b3).elim λ k q=>q.elim λ t q=>by rw[DictEntry.refKey,q];exact mM
theorem Fz{a:a8}(be:h.get? a=some (p2 O z))(N:h.Ns a m):getL x O=some (m x)∧∀e∈O,∃k t,e.key= .str k t:=by
 obtain⟨o,jJ,hL,lJ,a1,hk,hm⟩:=N
 cases ej (be.symm.trans lJ)
 cases a1
 have g:∀e∈O,∃k t,e.key= .str k t:=λ e b3=>hk e (Qj.mp b3)
 refine⟨?_,g⟩
 rw[←hm x]
 unfold getL nsFind CK
 rw[←Qh]
 cases cl:O.find? (·.key.isStr x)with
 |some e=>rfl
 |none=>exact(an (λ b:av=>if b=true then(none:Y (Y au))else some none) (NB g)).trans rfl
structure Cv(c:cV)(nm:B (B C))(G:cA)(h:dD)(p:a8×a8)(V:C)(aG:B (C×D))(O:B mT)(z:C)(m:aL→Y au):Prop where
 inst:InstAt h p.1 (nL (c.ca V) p.2) (c.ca V) (some (p2 O z))
 i6:(c.P.i6 V).isSome=true
 fld:∀f a,aG.lookup f=some a→c.P.fld V f=true
 at2:h.get? p.2=some (p2 O z)
 size:O.length≤aG.length
 ns:h.Ns p.2 m
 wY:v3 nm (bA c G h) aG m
theorem FH{X:Prop}(x:gC c nm G h p (.bF V aG))(k:∀O z m,Cv c nm G h p V aG O z m→X):X:=
 x.2.2.2.elim λ O y=>y.elim λ z y=>y.elim λ m y=>k O z m ⟨⟨x.1,rfl,rfl,y.1⟩,x.2.1,x.2.2.1,y.1,y.2.1,y.2.2.1,y.2.2.2⟩
theorem wM{K:kl}{V:a8}(h:Dv K V=true):(∀x,plainGet K V x=true)∧hasDictIn K V=true∧plainOver K V=true∧makesIn K V=true∧oU K (.ref V) "__setattr__"=some (some (.builtin "object.__setattr__")):=
 have h:=dF.mp h;have gh:=dF.mp h.1;have cI:=dF.mp gh.1;have aH:=dF.mp cI.1
 ⟨λ _=>aH.1,aH.2,cI.2,gh.2,eq_of_beq h.2⟩
theorem JK{b:av}(bL:jC c nm)(h:d7 n a f=some r)(x:bA c G s.heap a v)(bz:Q r n)(I:Inv c nm G n s):
  bg (bc c.prog c.w) A (getAttr v (gK nm f) b) (Back c nm G s Q) ab s:=by
 cases a with
 |ref z=>
  refine lh x I λ p o bM be ee=>?_
  have h:sp f (some o)=some r:=be▸(show sp f n[z]? =some r from h)
  cases o with
  |bF V aG=>
   refine FH ee λ O k m al=>?_
   have cl:=bL.fld V f (al.fld f r h)
   have e5:=wM (bL.cls V al.i6)
   exact((al.wY f cl.1).at h).elim λ v cP=>get_value (I.K bL.K) al.inst (IZ (e5.1 (gK nm f))).1 (findObj_own e5.2.1 cl.2 rfl ((lookIn_dict _ _ _).trans ((Fz al.at2 al.ns).1.trans (an some cP.1)))) cP.2.handed (Back.here bz cP.2 I _)
  |_=>exact nomatch h
 |_=>exact nomatch h
theorem acW(name:aL)(w':am)(iA v:au)(O:B mT):(putL name w' iA v O).length≤O.length+1∧(O.any (·.key.isStr name)=true→(putL name w' iA v O).length=O.length):=by
 induction O with
 |nil=>exact⟨cJ _,λ h=>nomatch h⟩
 |cons e r aZ=>
  unfold putL
  by_cases q:e.key.isStr name=true
  ·rw[if_pos q];exact⟨h5 _,λ _=>rfl⟩
  ·rw[if_neg q];exact⟨gq aZ.1,λ h=>an l2 (aZ.2 ((BZ.mp h).resolve_left q))⟩
theorem acX{a:a8}{w':am}{t:i0}(be:h.get? a=some (p2 O z))(N:h.Ns a m):
  (h.update a (IJ x w' (.str x t) v)).Ns a (λ y=>if y=x then some v else m y):=by
 obtain⟨o,jJ,hL,lJ,a1,hk,hm⟩:=N
 rw[be]at lJ;cases lJ
 cases a1
 cases ay:O.toArray.findIdx? (·.key.isStr x)with
 |some i=>
  refine⟨_,_,z,IG _ be (by simp only[CF,CE,ay];rfl),by simp only[CF,CE,ay];rfl,hk.modify _ _,λ y=>?_⟩
  show _=if y=x then some v else m y
  rw[←hm];exact findBy_modify (λ z v=>v.isStr z) Value.isStr_inj O.toArray x y v i ay
 |none=>
  refine⟨_,_,z+1,IG _ be (by simp only[CF,CE,ay];rfl),by simp only[CF,CE,ay];rfl,hk.push _ _ _ _,λ y=>?_⟩
  show _=if y=x then some v else m y
  rw[←hm]
  exact findBy_push (λ z v=>v.isStr z) O.toArray x y _ _ v (λ L=>by
   show(x==L)=decide (L=x)
   by_cases h:L=x
   ·subst h;simp
   ·have:¬x=L:=λ e=>h e.symm
    simp[h,this]) ay
theorem acd{oy:i0}{R:yV→a2→Prop}(bL:jC c nm)(X:c.K.In s.heap)(al:Cv c nm G s.heap p V aG O z m)
  (aA:oU c.K (.ref (c.ca V)) x=some none)(a3:O.length≤1000)
  (h:∀H jJ qr,tY p.2 s.heap H→H.get? p.2=some (p2 jJ qr)→H.Ns p.2 (λ y=>if y=x then some v else m y)→jJ.length≤O.length+1→((m x).isSome=true→jJ.length=O.length)→
   R (.ok (.ret .none)) {s with heap:=H,toks:=s.toks+1}):
  t4 (bc c.prog c.w) A (.call (.builtin "object.__setattr__") ⟨[.ref p.1,.str x oy,v],[]⟩) R s:=by
 have e5:=wM (bL.cls V al.i6)
 refine osa_open X al.inst e5.2.2.1 (r:=none) (by unfold takerIn;rw[aA];rfl) λ b=>?_
 obtain⟨cd,hc,gw⟩:=any_some e5.2.1
 have ag:=al.at2
 obtain⟨sP,ag5,cy,-⟩:=al.inst
 obtain⟨g1,g2⟩:=Fz (x:=x) ag al.ns
 have Sv:=IF s.heap p.2 (IJ x (wi c.w.params x) (.str x s.toks) v)
 have Jm:(s.heap.update p.2 (IJ x (wi c.w.params x) (.str x s.toks) v)).get? p.2=some (p2 (putL x (wi c.w.params x) (.str x s.toks) v O) (putN x O z)):=by
  rw[←putName_dict]
  exact IG _ ag (by rw[putName_dict];rfl)
 have Sw:=acX (x:=x) (w':=wi c.w.params x) (t:=s.toks) (v:=v) ag al.ns
 have ae:=acW x (wi c.w.params x) (.str x s.toks) v O
 refine cK (eH (cK (cK (Si sP (cK ((looks_clsIn X hc).here ?_))))))
 rw[gw]
 refine eH (a:=some p.2) (cK (eH (cK ?_)))
 unfold nsSet
 refine cK (cK (wpAny_askSetting (eH (cK (wpAny_mkText (cK (Si ag ?_)))))))
 dsimp only
 have LA:O.any (·.refKey)=false:=NB g2
 have ui:(!O.toArray.any (·.key.isStr x)&&O.toArray.any (·.refKey))=false:=by
  rw[←Qg,←Qg,LA,Qp]
 rw[aRefKeyMayBeTheName_at,ui]
 refine wpAny_updatePart ag ?_
 refine cK (wpAny_lookBehind Jm (pastItsLine_dict (by rw[yL,lz];omega)) ?_)
 refine eH (h _ _ _ Sv Jm Sw ae.1 λ hm=>ae.2 (Bool.not_eq_false _▸λ q=>?_))
 have L:getL x O=some none:=by
  unfold getL
  rw[List.find?_eq_none.mpr (QS.mp q),LA];rfl
 exact nomatch(an pY (ej (g1.symm.trans L))).symm.trans hm
theorem rr[nA dn][oM dn]{r:B (dn×D)}(h:ct≠q):((q,a)::r).lookup ct=r.lookup ct:=by rw[l1,ma.mpr h]
theorem u2[nA dn][oM dn]{r:B (dn×D)}(h:ct=q):((q,a)::r).lookup ct=some a:=h▸H3
theorem acU[nA dn][oM dn][jx dn]{O:B (dn×D)}{v:D}:(c8 O k v).lookup k=some v:=by
 have map:(O.lookup k).isSome=true→(O.map λ e=>if e.1==k then(e.1,v)else e).lookup k=some v:=by
  induction O with
  |nil=>exact λ h=>nomatch h
  |cons e r aZ=>
   intro h
   rw[oN]
   by_cases q:k=e.1
   ·rw[if_pos (jl.mpr q.symm)];exact u2 q
   ·rw[if_neg λ L=>q (eq_of_beq L).symm];exact(rr q).trans (aZ ((an pY (rr (a:=e.2) q)).symm.trans h))
 unfold c8
 by_cases h:(O.lookup k).isSome=true
 ·rw[if_pos h];exact map h
 ·rw[if_neg h,yJ,Option.not_isSome_iff_eq_none.mp h];exact u2 rfl
theorem N'[nA dn][oM dn][jx dn]{O:B (dn×D)}{v:D}(hk:ct≠k):(c8 O k v).lookup ct=O.lookup ct:=by
 have map:(O.map λ e=>if e.1==k then(e.1,v)else e).lookup ct=O.lookup ct:=by
  induction O with
  |nil=>rfl
  |cons e r aZ=>
   rw[oN]
   by_cases q:ct=e.1
   ·rw[if_neg λ L=>hk (q.trans (eq_of_beq L))];exact(u2 (a:=e.2) q).trans (u2 q).symm
   ·exact(Aq (P:=λ x (_:p6)=>(x::r.map λ e=>if e.1==k then(e.1,v)else e).lookup ct=(r.map λ e=>if e.1==k then(e.1,v)else e).lookup ct) (u:=()) (v:=()) (rr q) (rr (a:=e.2) q)).trans (aZ.trans (rr (a:=e.2) q).symm)
 unfold c8
 by_cases h:(O.lookup k).isSome=true
 ·rw[if_pos h];exact map
 ·rw[if_neg h,yJ];exact(an (Option.or _) (rr (r:=[]) hk)).trans RC
theorem acV[nA dn](O:B (dn×D))(k:dn)(v:D):(c8 O k v).length=if(O.lookup k).isSome=true then O.length else O.length+1:=by
 unfold c8
 exact Aq (P:=λ(l:B (dn×D)) z=>l.length=z) (cG _) (fh)
noncomputable def OM(P:iY)(n:St)(z f:C)(x:D):Y a0→Y St
 |some (.bF c aG)=>if P.fld c f=true∧aG.length<200 then some (n.set z (.bF c (c8 aG f x)))else none
 |_=>none
theorem abW{jJ:B mT}{qr:C}{x:D}(bL:jC c nm)(al:Cv c nm G h p V aG O z m)(cr:c.P.fld V f=true)(qC:bA c G h x u)(d8:fX h H)(aw:H.get? p.1=some (nL (c.ca V) p.2))
  (j6:H.get? p.2=some (p2 jJ qr))(uL:H.Ns p.2 (λ y=>if y=gK nm f then some u else m y))(dy:jJ.length≤O.length+1)(eE:(m (gK nm f)).isSome=true→jJ.length=O.length):gC c nm G H p (.bF V (c8 aG f x)):=by
 refine⟨aw,al.i6,λ g b i3=>r2 (λ q:g=f=>q▸cr) λ q=>al.fld g b ((N' q).symm.trans i3),jJ,qr,_,j6,?_,uL,λ g i3=>r2 (λ q:g=f=>?_) λ q=>?_⟩
 ·rw[acV]
  by_cases q:(aG.lookup f).isSome=true
  ·rw[if_pos q,eE ((al.wY f (bL.fld V f cr).1).xj.trans q)];exact al.size
  ·rw[if_neg q];exact a' dy (gq al.size)
 ·subst q
  exact acU (O:=aG)▸⟨u,if_pos rfl,qC.keep (.refl G) d8⟩
 ·rw[N' q,if_neg λ e=>q (bL.names g f i3 (bL.fld V f cr).1 e)]
  exact(al.wY g i3).mono λ _ _ y=>y.keep (.refl G) d8
theorem xV{c3:a0}{t:C}{Q:St→Prop}(I:Inv c nm G n s)(bM:(G:B (a8×a8))[z]? =some p)(ny:cu (λ b=>b=p.1∨b=p.2) s.heap H)(r:fX s.heap H→gC c nm G H p c3)(bz:Q (n.set z c3)):vX c nm G s Q () {s with heap:=H,toks:=t}:=
 ⟨G,_,bz,I.store bM ny (r (I.nc (ny.mono λ b az=>az.elim (λ e=>e▸(lG bM).1) λ e=>e▸(lG bM).2))),.store bM ny⟩
theorem OV{x:D}{Q:St→Prop}(bL:jC c nm)(h:lj c.P n a f x=some J)(lP:bA c G s.heap a v)(qC:bA c G s.heap x u)(bz:Q J)(I:Inv c nm G n s):
  bg (bc c.prog c.w) A (setAttr v (gK nm f) u) (vX c nm G s Q) ab s:=by
 cases a with
 |ref z=>
  refine lh lP I λ p o bM be ee=>?_
  have h:OM c.P n z f x (some o)=some J:=be▸(show OM c.P n z f x n[z]? =some J from h)
  cases o with
  |bF V aG=>
   refine lK h λ a3 e=>FH ee λ O k m al=>?_
   have X:=I.K bL.K
   refine set_plain X al.inst (wM (bL.cls V al.i6)).2.2.2.2 (acd (s:={s with toks:=s.toks+1}) (G:=G) (aG:=aG) (O:=O) (z:=k) (m:=m) bL X ⟨al.inst,al.i6,al.fld,al.at2,al.size,al.ns,al.wY⟩ (bL.fld V f a3.1).2 (a' al.size (a' (h4 a3.2) (aE rfl))) λ H jJ qr hs j6 uL XW XX=>?_)
   have Yb:p.1≠p.2:=λ q=>nomatch an (λ o:Y fQ=>o.map (·.cls)) ((q▸al.inst.at_).symm.trans al.at2)
   exact xV I bM (λ b o e z=>(hs.2 b λ q=>z (.inr q)).trans e) (λ d8=>abW bL al a3.1 qC d8 ((hs.2 _ Yb).trans al.inst.at_) j6 uL XW XX) (e.symm▸bz)
  |_=>exact nomatch h
 |_=>exact nomatch h
theorem Bh(I:Inv c nm G n s)(bM:(G:B (a8×a8))[z]? =some p)(hs:tY p.1 s.heap H):cu (λ b=>b=p.1∨b=p.2) s.heap H∧fX s.heap H:=by
 have ny:cu (λ b=>b=p.1∨b=p.2) s.heap H:=λ b o e z=>(hs.2 b λ q=>z (.inl q)).trans e
 exact⟨ny,I.nc (ny.mono λ b az=>az.elim (λ e=>e▸(lG bM).1) λ e=>e▸(lG bM).2)⟩
theorem l7.find(k:gT){O:B (gT×D)}(h:l7 c R O xs):gb (λ a (v:a8×au)=>R a v.2) (O.lookup k) (atKey xs k):=have:=Aw;fq.find (λ _ _=>id) k h
theorem aeY{O:B (gT×D)}{k:gT}{b:a8}(x:R a v)(h:l7 c R O xs):l7 c R (c8 O k a) (storedH xs k b v):=by
 have:=Aw
 unfold c8 storedH
 rw[(h.find k).xj]
 exact Aq (P:=λ a b=>l7 c R a b) (fq.upd (f:=id) (λ _ _=>id) k (w:=λ b=>(b.1,v)) (λ _=>x) h) (fq.snoc (f:=id) (R:=λ a (v:a8×au)=>R a v.2) x h)
theorem l7.length{O:B (gT×D)}(h:l7 c R O xs):xs.length=O.length:=fq.length h
theorem afl(l:B D):∀{is:B am} {ar:B au},vJ l=some is→cs c G s.heap l ar→ItemsAre (gs c.prog c.w) is ar:=by
 induction l with
 |nil=>exact λ h x=>(show _=[]from x)▸ej h▸.nil
 |cons a r aZ=>
  refine λ h x=>x.elim λ v x=>x.elim λ f7 x=>?_
  cases a with
  |ii i=>exact(l3.mp h).elim λ is e=>x.2.1.elim λ t q=>x.1▸e.2▸q▸.cons (p4 _ _ _ _) (aZ e.1 x.2.2)
  |_=>exact nomatch h
theorem afm(l:B D):∀{k:gT} {ar:B au},vK l=some k→cs c G s.heap l ar→l4 c.prog c.w s.heap k ar:=by
 induction l with
 |nil=>exact λ h x=>ej h▸x
 |cons a r aZ=>
  refine λ h x=>x.elim λ v x=>x.elim λ f7 x=>?_
  cases a with
  |ii i=>exact(l3.mp h).elim λ is e=>e.2▸⟨v,f7,x.1,x.2.1,aZ e.1 x.2.2⟩
  |tup l=>exact(yP.mp h).elim λ is g=>(l3.mp g.2).elim λ k e=>e.2▸⟨v,f7,x.1,tp x.2.1 λ a items t a4 _=>⟨a,rfl,t.imp λ o t=>⟨items,t.2.2.imp λ z d=>⟨t.1,t.2.1,d,afl l g.1 a4⟩⟩⟩,aZ e.1 x.2.2⟩
  |_=>exact nomatch h
@[elab_as_elim] theorem ML{ak:au→Prop}{k:gT}(h:Bw a=some k)(x:bA c G s.heap a v)(g:∀b,lX c.prog c.w s.heap k b→ak (.ref b)):ak v:=by
 cases a with
 |tup l=>exact tp x λ a items bD a4 _=>g a ⟨items,bD,afm l h a4⟩
 |_=>exact nomatch h
theorem Bs{m:C}(h:z=m)(q:m<room):z≤sizeLine:=GD h (h4 q)
theorem OU{k:D}{Q:St→Prop}(dS:A.units+200<kY)(h:Go n z k a=some J)(Ga:bA c G s.heap (.ref z) v)(hW:bA c G s.heap k u)(lP:bA c G s.heap a w)(bz:Q J)(I:Inv c nm G n s):
  bg (bc c.prog c.w) A (setItem v u w) (vX c nm G s Q) ab s:=by
 refine lh Ga I λ p o bM be ee=>?_
 have h:rL n z k a (some o)=some J:=be▸(show rL n z k a n[z]? =some J from h)
 have m:∀{H},fX s.heap H→∀a v,bA c G s.heap a v→bA c G H a v:=λ d8 a v=>bA.keep (.refl G) d8
 cases o with
 |ds O=>exact ee.2.elim λ cZ d=>O5 h hW λ ss t h=>lK h λ a3 e=>Sj (knd:=strKind c.prog c.w) (k:=st ss) (I7 c.prog c.w _ _) d.1 (λ H gw hs=>xV I bM (Bh I bM hs).1 (λ d8=>(show gC c nm G H p (.ds (c8 O ss a))from⟨ee.1,_,gw,fq.mono (m d8) (fq.put (λ _ _=>ye) ss lP d.2)⟩)) (e.symm▸bz)) (Bs d.2.length a3)
 |cq O=>exact ee.2.elim λ cZ d=>pj h hW λ i t h=>lK h λ a3 e=>Sj (knd:=gs c.prog c.w) (k:=i) (p4 _ _ _ _) d.1 (λ H gw hs=>xV I bM (Bh I bM hs).1 (λ d8=>(show gC c nm G H p (.cq (c8 O i a))from⟨ee.1,_,gw,fq.mono (m d8) (fq.put (f:=id) (λ _ _=>id) i lP d.2)⟩)) (e.symm▸bz)) (Bs d.2.length a3)
 |h' O=>exact ee.2.elim λ xs d=>(yP.mp h).elim λ d9 g=>lK g.2 λ a3 e=>ML g.1 hW λ b az=>wpAny_setItem_heap (knd:=At c.prog c.w) (k:=d9) (show A.units+1+8<kY from cn (fB (aE rfl:9≤200) _) dS) az d.1 (λ H gw hs=>xV I bM (Bh I bM hs).1 (λ d8=>(show gC c nm G H p (.h' (c8 O d9 a))from⟨ee.1,_,gw,l7.mono (m d8) (aeY lP d.2)⟩)) (e.symm▸bz)) (Bs d.2.length a3)
 |_=>exact nomatch h
theorem WW{k d:D}(bL:jC c nm)(dS:A.units+200<kY)(h:uD n a k d=some r)(lP:bA c G s.heap a v)(hW:bA c G s.heap k u)(F5:bA c G s.heap d w)(bz:Q r n)(I:Inv c nm G n s):
  bg (bc c.prog c.w) A (call (.builtin "dict.get") [v,u,w]) (Back c nm G s Q) ab s:=by
 have hM:∀{b:a8} {i:am} {t:i0} {f:am→Y au},(b==k0)=false→s.heap.MapOf (gs c.prog c.w) b f→bA c G s.heap r ((f i).getD w)→bg (bc c.prog c.w) A (call (.builtin "dict.get") [.ref b,.int i t,w]) (Back c nm G s Q) ab s:=λ hs hm a4=>
  call_meetsIn IA hm.typeIs RL (RJ _ _ _) (meets_dict_get_default (gs c.prog c.w) _ (p4 _ _ _ _) hs w) ⟨_,hm,Back.here bz a4 I _⟩
 cases a with
 |cd O=>exact Dq lP I λ a f hs hm hl=>pj h hW λ i t h=>hM hs hm (ej h▸gb.getD (gb.map (R:=bA c G s.heap) (hl i)) F5)
 |ref z=>
  refine lh lP I λ p o bM be ee=>?_
  have h:w1 k d (some o)=some r:=be▸(show w1 k d n[z]? =some r from h)
  have ns:=I.NF bL (lG bM).1
  cases o with
  |cq O=>exact ee.2.elim λ cZ g=>pj h hW λ i t h=>hM ns g.1.mapOf (ej h▸gb.getD (fq.find (λ _ _=>id) i g.2) F5)
  |h' O=>exact ee.2.elim λ xs g=>(yP.mp h).elim λ d9 q=>ML q.1 hW λ b az=>call_meetsIn IA g.1.typeIs RL (RJ _ _ _) (meetsH_dict_get_default (At c.prog c.w) p.1 b ns w) ⟨cn (fB (aE rfl:9≤200) A.units) dS,d9,xs,az,g.1,Back.here bz (ej q.2▸gb.getD (gb.mapR (g:=λ v:a8×au=>v.2) (g.2.find d9)) F5) I _⟩
  |_=>exact nomatch h
 |_=>exact nomatch h
theorem S2{xs:B D}(h:n[z]? =some (.li xs))(a3:xs.length<room)(Ga:bA c G s.heap (.ref z) v)(lP:bA c G s.heap a u)(bz:Q .nn (n.set z (.li (xs++[a]))))(I:Inv c nm G n s):
  bg (bc c.prog c.w) A (call (.builtin "list.append") [v,u]) (Back c nm G s Q) ab s:=by
 refine lh Ga I λ p o bM be ee=>?_
 have ee:gC c nm G s.heap p (.li xs):=ej (be.symm.trans h)▸ee
 refine po ee λ items k aw _ a4 hs=>append_at aw (λ H Ab j6=>?_) (Bs hs a3)
 have b:vX c nm G s (λ J=>Q .nn J) () {s with heap:=H,toks:=s.toks}:=xV I bM (Bh I bM Ab).1 (λ d8=>(show gC c nm G H p (.li (xs++[a]))from⟨ee.1,fh▸a3,_,k+1,j6,Ht.symm▸cs.append (a4.keep (.refl G) d8) (cs.cons (lP.keep (.refl G) d8) cs.nil)⟩)) bz
 exact b.elim λ bv b=>b.elim λ J b=>⟨.nn,bv,J,b.1,rfl,b.2⟩
end
end Mine
end
section
open PySem PySem.W PyProof.Rows
namespace Mine
variable{h:dD}{a:D}{v:au}{z:C}{ar:B au}{xs:B D}
section
variable{c:cV}{nm:B (B C)}{G:cA}{n:St}{s:a2}{A:eC}{ab:au→a2→Prop}
theorem MH{α:Type}{cmp:C→C→(av→a2→Prop)→a2→Prop}{f:C→C→av}{z:C}{Q:α→a2→Prop}(hc:∀i j V,i<z→j<z→V (f i j) s→cmp i j V s):
  ∀{t:IX α} {p:α},oc f z t=some p→Q p s→t.kasWp cmp Q s
 | .ret a,p,h,q=>by
  simp only[oc]at h
  cases h;exact q
 | .ask i j k,p,h,q=>by
  simp only[oc]at h
  split at h
  ·rename_i az
   exact hc i j _ az.1 az.2 (MH hc h q)
  ·cases h
noncomputable def r'(h:dD)(v:au)(a b:am):Prop:=∃x t u,v= .ref x∧h.IsTuple x #[.int a t,.int b u]
theorem Y7(bO:m' a=true)(x:bA c G h a v):∃m z,a= .tup [.ii m,.ii z]∧r' h v m z:=by
 unfold m' at bO
 split at bO
 ·rename_i m z
  simp only[bA,cs]at x
  obtain⟨y,items,rfl,bD,PT,fV,aw,⟨t,rfl⟩,PU,gP,rfl,⟨u,rfl⟩,rfl⟩:=x
  refine⟨m,z,rfl,y,t,u,rfl,?_⟩
  have:items= #[.int m t,.int z u]:=by
   apply BW.mp
   rw[aw]
  rw[←this];exact bD
 ·cases bO
theorem acs{u:au}{a b x y:am}{Q:av→a2→Prop}(p:r' s.heap v a b)(q:r' s.heap u x y)(h:Q (decide (a<x)||(decide (a=x)&&decide (b<y))) s):
  bg (bc c.prog c.w) A (keyLt' (tuples' true) v u) Q ab s:=by
 obtain⟨i,t,cB,rfl,o,be,_,z,a1⟩:=p
 obtain⟨j,w,vQ,rfl,c3,lJ,_,qr,gw⟩:=q
 refine kat_lt be a1 lJ gw ?_
 show KatLex _ _ _ _ _ _ [(.int a t,.int x w),(.int b cB,.int y vQ)] 0 s
 refine kat_cons (Sc ?_)
 by_cases e:a=x
 ·subst e
  rw[lE]
  refine kat_yes (kat_cons (Sc ?_))
  simp only[Int.lt_irrefl,decide_false,Qq,decide_true,Bool.true_and]at h
  by_cases e:b=y
  ·subst e
   rw[lE]
   refine kat_yes (kat_nil ?_)
   simpa using h
  ·rw[ma.mpr e]
   refine kat_no (kat_one _ _ (lt_int ?_))
   exact h
 ·rw[ma.mpr e]
  refine kat_no ?_
  simp only[j3 e,Bool.false_and,Bool.or_false]at h
  exact oneLt_int h
theorem aek{ak:Model}(rc:ak=bc c.prog c.w){a:a8}{cp:B (am×am)}{p:gS C}{P:Fin→a2→Prop}(be:s.heap.get? a=some (iZ "list" ar.toArray z))(Lu:ar.length<64)
  (bM:∀(i:C),i<ar.length→r' s.heap (ar.getD i .none) (cp.getD i (0,0)).1 (cp.getD i (0,0)).2)
  (a4:ar.length<2∧p=(ck ar.length).toArray∨oc (λ i j=>let x:=cp.getD i (0,0);let y:=cp.getD j (0,0);decide (x.1<y.1)||(decide (x.1=y.1)&&decide (x.2<y.2))) ar.length (CI ar.length)=some p∧2≤ar.length)
  (h:∀H k,(∀b o,b≠a→s.heap.get? b=some o→H.get? b=some o)→H.get? a=some (iZ "list" (p.toList.map λ i=>ar.getD i .none).toArray k)→P (.done (.ret .none)) {s with heap:=H}):
  bg ak A (Builtin.«list.sort» ⟨[.ref a],[]⟩) P ab s:=by
 subst rc
 have bO:a<s.heap.objs.size:=mU be
 have eF:=IF s.heap a (mW λ _=>(#[]:gS au))
 obtain⟨aw,w7⟩:∃aw,(s.heap.update a (mW λ _=>(#[]:gS au))).get? a=some (iZ "list" #[] aw):=⟨_,RF be λ _=>#[]⟩
 rw[list_sort_plain]
 refine cK (listItems_at be rfl ?_)
 refine cK (Ig be rfl ?_ (by rw[yL,lz];omega) (fu _))
 refine cK (Ih w7 rfl ?_)
 refine cK (wpAny_newTuple ?_ (by show ar.length≤_;rw[lz];omega))
 refine cK (Je ?_ (fu _))
 refine sf ?_
 have keep:∀b o,b≠a→s.heap.get? b=some o→(((s.heap.update a (mW λ _=>(#[]:gS au))).push (iZ "tuple" ar.toArray 0)).push (iZ "list" #[] 0)).get? b=some o:=λ b o az e=>
  lv _ (lv _ ((eF.2 b az).trans e))
 have uc:(((s.heap.update a (mW λ _=>(#[]:gS au))).push (iZ "tuple" ar.toArray 0)).push (iZ "list" #[] 0)).get? a=some (iZ "list" #[] aw):=lv _ (lv _ w7)
 show bg (bc c.prog c.w) A _ P ab {s with heap:=((s.heap.update a (mW λ _=>(#[]:gS au))).push (iZ "tuple" ar.toArray 0)).push (iZ "list" #[] 0)}
 dsimp only
 generalize((s.heap.update a (mW λ _=>(#[]:gS au))).push (iZ "tuple" ar.toArray 0)).push (iZ "list" #[] 0)=ax at keep uc
 have hM:∀out:gS au,out=(p.toList.map λ i=>ar.getD i .none).toArray→P (.done (.ret .none)) {s with heap:=ax.update a (mW λ _=>out)}:=λ out uq=>by
  have jU:=IF ax a (mW λ _=>out)
  obtain⟨cD,Xz⟩:∃cD,(ax.update a (mW λ _=>out)).get? a=some (iZ "list" out cD):=⟨_,RF uc λ _=>out⟩
  exact h _ cD (λ b o az e=>(jU.2 b az).trans (keep b o az e)) (by rw[←uq];exact Xz)
 have FS:∀(i:C),i<ar.length→r' ax (ar.getD i .none) (cp.getD i (0,0)).1 (cp.getD i (0,0)).2:=λ i ay=>by
  obtain⟨x,t,u,e,o,lJ,hc,a1⟩:=bM i ay
  refine⟨x,t,u,e,o,keep x o (λ q=>?_) lJ,hc,a1⟩
  rw[q,be]at lJ
  cases lJ
  exact absurd (show CG "list"=CG "tuple" from hc) (by decide)
 rcases a4 with⟨aH,hpe⟩| ⟨sL,aH⟩
 ·have w6:ar.toArray.size<2:=by rw[yL];omega
  rw[if_pos w6,if_pos w6]
  refine cK (eH ?_)
  rw[StateT.run_pure]
  refine cK (eH ?_)
  dsimp only
  refine cK (Ih uc rfl ?_)
  refine cK (Ig uc rfl ?_ (hsz2:=by rw[Array.size_map];show(pairsOf ar).size≤_;rw[pairsOf_size,lz];omega))
  simp only[J1,Hv,EB]
  refine eH (hM _ ?_)
  refine kat_snds rfl (st:=SortSt.mk' general' (ar.toArray.zip ar.toArray) #[] 7 none) ?_
  have e:=kas_range (ar.toArray.zip ar.toArray)
  rw[show(ar.toArray.zip ar.toArray).size=ar.length by simp]at e
  rw[hpe,e]
 ·have w6:¬ar.toArray.size<2:=by rw[yL];omega
  rw[if_neg w6,if_neg w6]
  have Wu:∃aG,KatTups ax ar aG∧0<aG.length∧∀v∈aG,∃i t,v= .int i t:=by
   have:∀(dg:B au),(∀u∈dg,∃i j,r' ax u i j)→∃aG,KatTups ax dg aG∧aG.length=dg.length∧∀v∈aG,∃i t,v= .int i t:=by
    intro dg
    induction dg with
    |nil=>intro _;exact⟨[],.nil,rfl,λ _ h=>by cases h⟩
    |cons u dg aZ=>
     intro dS
     obtain⟨aG,er,eO,hr⟩:=aZ λ v cP=>dS v (.tail _ cP)
     obtain⟨i,j,x,t,GS,rfl,o,lJ,hc,qr,a1⟩:=dS u (.head _)
     refine⟨.int i t::aG,KatTups.cons lJ hc a1 rfl er,by simp[eO],λ v cP=>?_⟩
     rcases kh.mp cP with rfl|cP
     ·exact⟨_,_,rfl⟩
     ·exact hr v cP
   obtain⟨aG,er,eO,hr⟩:=this ar λ u dS=>by
    obtain⟨i,ay,e⟩:=H4.mp dS
    have:=FS i ay
    rw[show ar.getD i .none=u by simp[ay,e]]at this
    exact⟨_,_,this⟩
   exact⟨aG,er,by omega,hr⟩
  obtain⟨aG,er,eO,hr⟩:=Wu
  refine cK (kat_kind (s:={s with heap:=ax}) (T:=.type "int") er eO (λ v cP=>?_) (by decide) ?_)
  ·obtain⟨i,t,rfl⟩:=hr v cP
   exact .now
  rw[show(CG "int" != CG "tuple")=true by decide]
  refine cK (fb (kat_run (ks:=ar) (Q:=λ Bm a9=>∃f4:gS C,f4.size=ar.length∧arrOf Bm=f4.map (kas_item (ar.toArray.zip ar.toArray))∧failedOf Bm=none∧(f4=p∧a9={s with heap:=ax}))
   rfl aH Lu (λ f4 Bm a9 hf ir k3 nS=>⟨f4,hf,ir,k3,nS⟩) (MH (s:={s with heap:=ax}) (λ i j V ay bt bV=>?_) sL ⟨rfl,rfl⟩)) ?_ λ _ _ e=>e)
  ·exact acs (s:={s with heap:=ax}) (FS i ay) (FS j bt) bV
  rintro⟨⟨⟩,Bm⟩ a9 ⟨f4,rg,Xs,cl,rfl,rfl⟩
  dsimp only
  have LQ:=kat_snds rfl Xs
  refine cK (Ih uc rfl ?_)
  refine cK (Ig uc rfl ?_ (fu _) ?_)
  ·rw[cl]
   simp only[J1,Hv,EB]
   exact eH (hM _ LQ)
  ·rw[LQ,yL,cG,yv,rg,lz];omega
noncomputable def mk:D→am×am
 | .tup [.ii a,.ii b]=>(a,b)
 |_=>(0,0)
theorem pairs_at(aA:xs.all m'=true)(r:cs c G h xs ar):∀(i:C),i<ar.length→r' h (ar.getD i .none) ((xs.map mk).getD i (0,0)).1 ((xs.map mk).getD i (0,0)).2:=by
 intro i ay
 have ia:i<xs.length:=by rw[←r.length];exact ay
 obtain⟨v,aw,x⟩:=r.get (h2 ia)
 obtain⟨m,z,aB,acr⟩:=Y7 (g'.mp aA _ (yH ia)) x
 have ax:ar.getD i .none=v:=by rw[jz,aw];rfl
 have aH:(xs.map mk).getD i (0,0)=(m,z):=by rw[jz,qS,h2 ia,aB];rfl
 rw[ax,aH];exact acr
theorem cs.getD(r:cs c G h xs ar)(i:C):bA c G h (xs.getD i .nn) (ar.getD i .none):=by
 rw[jz,jz]
 cases e:xs[i]? with
 |none=>rw[r.none e];simp[bA]
 |some a=>obtain⟨v,aw,x⟩:=r.get e;rw[aw];exact x
theorem cs.picks{h:dD}{xs:B D}{ar:B au}(r:cs c G h xs ar):∀p:B C,cs c G h (p.map λ i=>xs.getD i .nn) (p.map λ i=>ar.getD i .none)
 | []=>cs.nil
 |i::p=>cs.cons (r.getD i) (cs.picks r p)
theorem aat{b:D}(bO:m' a=true)(az:m' b=true):E3 a b=(decide ((mk a).1< (mk b).1)||(decide ((mk a).1=(mk b).1)&&decide ((mk a).2< (mk b).2))):=by
 unfold m' at bO az
 split at bO
 ·split at az
  ·rfl
  ·cases az
 ·cases bO
theorem MG{α:Type}{f g:C→C→av}{z:C}(h:∀i j,i<z→j<z→f i j=g i j):∀t:IX α,oc f z t=oc g z t
 | .ret a=>rfl
 | .ask i j k=>by
  simp only[oc]
  split
  ·rename_i q;rw[h i j q.1 q.2];exact MG h _
  ·rfl
theorem Lh(aA:xs.all m'=true){i:C}(ay:i<xs.length):m' (xs.getD i .nn)=true∧(xs.map mk).getD i (0,0)=mk (xs.getD i .nn):=by
 rw[jz,jz,qS,h2 ay]
 exact⟨g'.mp aA _ (yH ay),rfl⟩
theorem ad':∀{xs:B D},xs.length<2→xs=((ck xs.length).toArray.toList.map λ i=>xs.getD i .nn)
 | [],_=>rfl
 | [_],_=>rfl
 |_::_::_,h=>absurd (Rq (Rq h)) (yO _)
theorem aeq{bf:B D}{Q:dC}(h:n[z]? =some (.li xs))(Lu:xs.length<64)(aA:xs.all m'=true)(bI:pJ xs=some bf)(uO:bf.length≤room)(x:bA c G s.heap (.ref z) v)(bz:Q (.ref n.length) (n++[.li bf]))(I:Inv c nm G n s):
  bg (bc c.prog c.w) A (call (.builtin "sorted") [v]) (Back c nm G s Q) ab s:=by
 obtain⟨q,dv,rfl⟩:=x
 obtain⟨a3,_,items,d9,aw,hl,a4,hs⟩:=rq I dv h
 have i4:=a4.length
 have b7:s.heap.IsList q.1 items.toList.toArray:=by rw[Array.toArray_toList];exact hl
 generalize items.toList=ar at a4 i4 b7
 clear hl hs aw
 have sL:∃p:gS C,bf=(p.toList.map λ i=>xs.getD i .nn)∧(ar.length<2∧p=(ck ar.length).toArray∨
   oc (λ i j=>let x:=(xs.map mk).getD i (0,0);let y:=(xs.map mk).getD j (0,0);decide (x.1<y.1)||(decide (x.1=y.1)&&decide (x.2<y.2))) ar.length (CI ar.length)=some p∧2≤ar.length):=by
  unfold pJ at bI
  split at bI
  ·rename_i aH
   cases bI
   refine⟨(ck ar.length).toArray,?_,.inl ⟨by omega,rfl⟩⟩
   rw[i4]
   exact ad' aH
  ·rename_i aH
   obtain⟨p,bM,rfl⟩:=l3.mp bI
   refine⟨p,rfl,.inr ⟨?_,by omega⟩⟩
   rw[i4,←bM]
   refine MG (λ i j ay bt=>?_) _
   obtain⟨hf,ir⟩:=Lh aA ay
   obtain⟨gf,i2⟩:=Lh aA bt
   rw[aat hf gf]
   dsimp only
   rw[ir,i2]
 obtain⟨p,Yi,sL⟩:=sL
 refine Calls.call_function_entry kind_sorted plain_sorted entry_sorted (args_sorted1 _) ?_
 unfold Builtin.«sorted»
 refine cK (m:=checkCount "sorted" 1 1 _) (eH ?_)
 refine cK (collect_list b7 ?_ (by rw[lz];omega))
 refine cK (Je ?_ (by rw[lz];omega))
 have uN:((s.heap.push (iZ "list" #[] 0)).update s.heap.objs.size (mW (· ++ar.toArray))).objs.size=s.heap.objs.size+1:=by
  rw[Heap.size_update,size_push']
 have keep:∀b o,s.heap.get? b=some o→((s.heap.push (iZ "list" #[] 0)).update s.heap.objs.size (mW (· ++ar.toArray))).get? b=some o:=λ b o q=>by
  have n7:b<s.heap.objs.size:=mU q
  rw[Heap.get?_update_ne _ _ _ _ (mS n7),Heap.get?_push_ne _ _ _ (mS n7)]
  exact q
 show bg _ _ _ _ _ {s with heap:=((s.heap.push (iZ "list" #[] 0)).update s.heap.objs.size (mW (· ++ar.toArray))).push (iZ "list" ar.toArray 0)}
 generalize(s.heap.push (iZ "list" #[] 0)).update s.heap.objs.size (mW (· ++ar.toArray))=ax at keep uN
 have LP:(ax.push (iZ "list" ar.toArray 0)).get? ax.objs.size=some (iZ "list" ar.toArray 0):=nK _ rfl
 refine cK (sf (Sb slot_list_sort ⟨_,LP,rfl⟩ entry_list_sort
  (aek (s:={s with heap:=ax.push (iZ "list" ar.toArray 0)}) rfl LP (by omega) (pairs_at aA (a4.keep (.refl G) λ b o e _=>lv _ (keep b o e))) sL λ H k hk j6=>⟨_,rfl,?_⟩) (args_list_sort _)))
 refine eH ⟨_,rfl,?_⟩
 have ht:cu (λ _=>False) s.heap H:=λ b o e _=>hk b o (λ q=>by
  have:=mU e
  rw[q,uN]at this
  exact Rs (h5 _) this) (lv _ (keep b o e))
 have cl:s.heap.get? ax.objs.size=none:=n1 keep
 have uM:cs c (G++[(ax.objs.size,ax.objs.size)]) H bf (p.toList.map λ i=>ar.getD i .none):=by
  rw[Yi];exact(a4.picks p.toList).keep (ha.snoc _ _) λ b o e _=>ht b o e id
 have be:gC c nm (G++[(ax.objs.size,ax.objs.size)]) H (ax.objs.size,ax.objs.size) (.li bf):=⟨rfl,uO,_,k,j6,by simpa using uM⟩
 refine⟨.ref n.length,G++[(ax.objs.size,ax.objs.size)],n++[.li bf],bz,?_,I.alloc (t:=s.toks) ht (I.qm keep) (I.qm keep) cl cl be,.alloc ht cl cl⟩
 exact⟨(ax.objs.size,ax.objs.size),by rw[←I.len];simp,rfl⟩
end
end Mine
end
section
open PySem PySem.W PyProof.Rows
namespace Mine
variable{z:am}{v u:au}{Q:dC}
section
variable{c:cV}{nm:B (B C)}{G:cA}{n:St}{s:a2}{A:eC}{ab:au→a2→Prop}
theorem adn{m:C}{a:D}(h:n[m]? =some (.li [a]))(ec:0≤z)(ax:z<1000)(x:bA c G s.heap (.ref m) v)(y:bA c G s.heap (.ii z) u)
  (bz:Q (.ref n.length) (n++[.li (dx z.toNat a)]))(I:Inv c nm G n s):bg (bc c.prog c.w) A (I2 .Mult v u) (Back c nm G s Q) ab s:=by
 obtain⟨p,bM,rfl⟩:=x
 obtain⟨t,rfl⟩:=y
 obtain⟨a3,_,items,d9,aw,hl,a4,hs⟩:=rq I bM h
 have uM:=a4
 obtain⟨w,r,aB,cP,rfl⟩:=uM
 have un:items= #[w]:=by apply BW.mp;rw[aB]
 subst un
 refine Sa (T:="list") (U:="int") (by decide) ⟨_,aw,rfl⟩ (λ a9=>CR a9 z t) noFill_list_mul RN CD repeat_list RO.lookup
  (CJ CD (CR s z t) RM (RK _ _) (int___rmul___int_list z t p.1 #[w] d9)
   ⟨aw,rfl,⟨_,aw,rfl⟩,CJ PySem.F.slot_list_mul ⟨_,aw,rfl⟩ PySem.F.entry_list_mul (PySem.F.args_list_mul_2 _ _)
    (AutoListH.list___mul___list_int_3 p.1 #[w] d9 z t (by simp[Builtin.List.listFitsIndex];omega) (by simp;omega) (by simp[Builtin.List.listTooLong,lz];omega))
    ⟨aw,?_⟩⟩)
 have e:HT (λ aV aQ=>aV++aQ) #[] (dx (if(#[w]:gS au).isEmpty=true then 0 else z.toNat) #[w])=(dx z.toNat w).toArray:=by
  have:∀(k:C) (acc:gS au),HT (λ aV aQ=>aV++aQ) acc (dx k #[w])=acc++(dx k w).toArray:=by
   intro k
   induction k with
   |zero=>intro acc;simp
   |succ k aZ=>
    intro acc
    rw[Q',List.foldl_cons,aZ,Q']
    apply BW.mp
    simp
  rw[if_neg (by simp),this]
  simp
 rw[e]
 exact AL (k:=0) (H:=s.heap) (t:=s.toks) I (.refl _ _) (cs.replicate cP z.toNat) (by rw[Cd,x3];omega) bz (n1 λ _ _ e=>e)
theorem abB:fillsNumberSlot (.type "tuple") "mul"=pure false:=
 PySem.fillsNumberSlot_seq (id:="tuple.__mul__") (r:=some (.builtin "tuple.__rmul__")) IC.lookup (by decide+kernel) RQ.lookup (by decide+kernel)
theorem adp:seqRepeat? (.type "tuple")=pure (some (.builtin "tuple.__mul__")):=by
 unfold seqRepeat?
 rw[R7 (T:="tuple") (name:="__mul__") (id:="tuple.__mul__") IC.lookup (by decide+kernel),R7 (T:="tuple") (name:="__rmul__") (id:="tuple.__rmul__") RQ.lookup (by decide+kernel)]
 rfl
theorem YZ(a:am)(t:i0)(l:a8)(items:gS au)(z:C)(d:Y a8)(dQ:gS (Y au)):
  Meets (Builtin.«int.__rmul__» ⟨[.int a t,.ref l],[]⟩) (λ _ R s=>s.heap.get? l=some {cls:=.type "tuple",dict:=d,data:=.seq items z,slots:=dQ}∧R (.ok (.ret Value.notImplemented)) s):=
 .of_wp λ prog w A R s h=>by obtain⟨bM,g,d,oy,os⟩:=s;obtain⟨hl,h⟩:=h;wp_walk;exact⟨_,rfl,h⟩
theorem afx(l:a8)(u:i0)(items:gS au)(z:C)(d:Y a8)(dQ:gS (Y au)):
  Meets (Builtin.«tuple.__mul__» ⟨[.ref l,.int 1 u],[]⟩) (λ _ R s=>s.heap.get? l=some {cls:=.type "tuple",dict:=d,data:=.seq items z,slots:=dQ}∧R (.ok (.ret (.ref l))) s):=
 .of_wp λ prog w A R s h=>by obtain⟨bM,g,d,oy,os⟩:=s;obtain⟨hl,h⟩:=h;wp_walk;exact⟨_,rfl,h⟩
theorem ado{l:B D}(x:bA c G s.heap (.tup l) v)(y:bA c G s.heap (.ii 1) u)(bz:Q (.tup l) n)(I:Inv c nm G n s):bg (bc c.prog c.w) A (I2 .Mult v u) (Back c nm G s Q) ab s:=by
 have ht:=x
 obtain⟨a,items,rfl,⟨o,be,hc,z,a1⟩,a4⟩:=x
 obtain⟨t,rfl⟩:=y
 obtain⟨cls,d,data,dQ⟩:=o
 simp only at hc a1
 subst hc a1
 exact Sa (T:="tuple") (U:="int") (by decide) ⟨_,be,rfl⟩ (λ a9=>CR a9 1 t) abB RN CD adp RO.lookup
  (CJ CD (CR s 1 t) RM (RK _ _) (YZ 1 t a items z d dQ)
   ⟨be,rfl,⟨_,be,rfl⟩,CJ IC ⟨_,be,rfl⟩ PySem.F.entry_tuple_mul (PySem.F.args_tuple_mul_2 _ _) (afx a t items z d dQ) ⟨be,Back.now bz ht I⟩⟩)
theorem adu(y:bA c G s.heap (.ii z) u)(bz:Q (.ew 0 z) n)(I:Inv c nm G n s):bg (bc c.prog c.w) A (call (.type "range") [u]) (Back c nm G s Q) ab s:=by
 obtain⟨t,rfl⟩:=y
 refine call_range_1 (Back.more bz I (cu.push _ _) ?_)
 exact⟨_,_,_,_,rfl,RS ..⟩
theorem adw{m:am}(x:bA c G s.heap (.ii m) v)(y:bA c G s.heap (.ii z) u)(bz:Q (.ew m z) n)(I:Inv c nm G n s):bg (bc c.prog c.w) A (call (.type "range") [v,u]) (Back c nm G s Q) ab s:=by
 obtain⟨t,rfl⟩:=x
 obtain⟨cB,rfl⟩:=y
 refine call_range_2 (Back.more bz I (cu.push _ _) ?_)
 exact⟨_,_,_,_,rfl,RS ..⟩
theorem ae2{i:am}{d:B C}(a1:zG i=some d)(x:bA c G s.heap (.ii i) v)(bz:Q (.ss d) n)(I:Inv c nm G n s):bg (bc c.prog c.w) A (call (.type "str") [v]) (Back c nm G s Q) ab s:=by
 obtain⟨t,rfl⟩:=x
 unfold zG at a1
 split at a1
 ·rename_i az
  cases a1
  have iA:(IT (toString i))=st [48+i.toNat]∧i.natAbs.log2<1920:=by
   obtain⟨k,rfl⟩:=B3 az.1
   have hk:k<10:=by omega
   revert hk bz az
   intro _ az hk
   match k,hk with
   |0,_|1,_|2,_|3,_|4,_|5,_|6,_|7,_|8,_|9,_=>exact⟨by decide+kernel,by decide+kernel⟩
  refine PySem.P.str_of_int iA.2 ?_
  show Back c nm G s Q (.str (IT (toString i)) s.toks) _
  rw[iA.1]
  exact Back.here bz (by first|exact⟨_,rfl⟩|exact rfl|simp[bA]) I _
 ·cases a1
end
end Mine
end
section
open PySem PySem.W PyProof.Rows
namespace Mine
variable{l:B D}{k:C}{a:D}{Q:Y au→a2→Prop}
section
variable{c:cV}{nm:B (B C)}{G bv:cA}{n:St}{s:a2}{A:eC}{ab:au→a2→Prop}{h H:dD}
noncomputable def lq(c:cV)(G:cA)(h:dD)(bb:a8)(l:B D)(k:C):D→Prop
 | .tup _=>∃t items,h.IsTuple t items∧cs c G h l items.toList∧h.IsTupleIter bb t k
 | .ss s=>∃t,l=s.map (λ x=>.ss [x])∧h.IsStrIter bb "str_ascii_iterator" (st s) t k
 | .ew lo ay=>l=upTo lo (ay-lo).toNat∧IsRangeIter h bb (lo+(k:am)) (((ay-lo).toNat:am)- (k:am)) 1
 | .ref z=>∃p,(G:B (a8×a8))[z]? =some p∧h.IsListIter bb p.1 k
 |_=>False
theorem lq.live{bb:a8}(T:lq c G h bb l k a):∃o,h.get? bb=some o∧¬ik o:=by
 cases a with
 |tup _=>
  obtain⟨t,items,_,_,o,be,hc,a1⟩:=T
  exact⟨o,be,by rintro(⟨q,_⟩| ⟨q,_⟩)<;>rw[hc]at q<;>exact absurd q (by decide)⟩
 |ss _=>
  obtain⟨t,_,o,be,hc,a1⟩:=T
  exact⟨o,be,by rintro(⟨q,_⟩| ⟨q,_⟩)<;>rw[hc]at q<;>exact absurd q (by decide)⟩
 |ew _ _=>
  obtain⟨_,be⟩:=T
  exact⟨_,be,by rintro(⟨q,_⟩| ⟨q,_⟩)<;>exact absurd q (by simp)⟩
 |ref _=>
  obtain⟨p,_,o,be,hc,a1⟩:=T
  exact⟨o,be,by rintro(⟨q,_⟩| ⟨q,_⟩)<;>rw[hc]at q<;>exact absurd q (by decide)⟩
 |_=>exact T.elim
theorem lq.keep{bb:a8}(T:lq c G h bb l k a)(lo:ha G bv)(d8:fX h H)(e:∀o,h.get? bb=some o→H.get? bb=some o):lq c bv H bb l k a:=by
 cases a with
 |tup _=>
  obtain⟨t,items,bD,a4,o,be,hc,a1⟩:=T
  exact⟨t,items,Ap d8 bD,a4.keep lo d8,o,e _ be,hc,a1⟩
 |ss _=>
  obtain⟨t,hl,o,be,hc⟩:=T
  exact⟨t,hl,o,e _ be,hc⟩
 |ew _ _=>
  obtain⟨hl,be⟩:=T
  exact⟨hl,e _ be⟩
 |ref _=>
  obtain⟨p,bM,o,be,hc⟩:=T
  exact⟨p,lo _ _ bM,o,e _ be,hc⟩
 |_=>exact T.elim
theorem fX.same{bb:a8}{o:fQ}(be:h.get? bb=some o)(cy:¬ik o)(hs:tY bb h H):fX h H:=λ b x e f=>by
 by_cases az:b=bb
 ·subst az;rw[be]at e;cases e;exact absurd f cy
 ·exact(hs.2 b az).trans e
theorem G2:∀(lo:am) (z:C),(upTo lo z).length=z
 |_,0=>rfl
 |lo,z+1=>by simp[upTo,G2]
theorem PS:∀(lo:am) (z k:C),k<z→(upTo lo z)[k]? =some (.ii (lo+k))
 |lo,0,k,h=>absurd h (yO _)
 |lo,z+1,0,_=>by simp[upTo]
 |lo,z+1,k+1,h=>by
  rw[upTo,Q0,PS (lo+1) z k (by omega)]
  congr 2
  push_cast
  omega
theorem Ml{v:au}{Q:au→a2→Prop}(I:Inv c nm G n s)(ay:hR n a=some l)(x:bA c G s.heap a v)
  (bz:∀bb H,cu (λ _=>False) s.heap H→s.heap.get? bb=none→lq c G H bb l 0 a→Q (.ref bb) {s with heap:=H}):bg (bc c.prog c.w) A (pyIter v) Q ab s:=by
 have fresh:s.heap.get? s.heap.objs.size=none:=n1 λ _ _ e=>e
 cases a with
 |tup cf=>
  cases ay
  obtain⟨b,items,rfl,bD,a4⟩:=x
  refine wpAny_pyIter_tuple bD (bz _ _ (cu.push _ _) fresh ⟨b,items,bD.push _,a4.keep (.refl G) λ b o e _=>lv _ e,⟨_,nK _ rfl,rfl,rfl⟩⟩)
 |ss w=>
  simp only[hR]at ay
  split at ay
  ·rename_i bO
   cases ay
   obtain⟨t,rfl⟩:=x
   refine wpAny_pyIter_ascii ?_ (bz _ _ (cu.push _ _) fresh ⟨t,rfl,⟨_,nK _ rfl,rfl,rfl⟩⟩)
   show(w.toArray).all _=true
   rw[QR]
   exact bO
  ·cases ay
 |ew lo ia=>
  simp only[hR]at ay
  split at ay
  ·rename_i bO
   cases ay
   rw[jX,Gs,Gs]at bO
   obtain⟨b,t,u,cB,rfl,a4⟩:=x
   refine wpAny_pyIter_range a4 (small_one (by omega) (by omega) (by omega) (by omega)) (bz _ _ (cu.push _ _) fresh ⟨rfl,?_⟩)
   have uN:Builtin.Range.rangeSize lo ia 1=((ia-lo).toNat:am)- ((0:C):am):=by rw[rangeSize_one];split<;>omega
   rw[←uN]
   have e:lo+((0:C):am)=lo:=by simp
   rw[e]
   exact nK _ rfl
  ·cases ay
 |ref z=>
  simp only[hR]at ay
  split at ay
  ·rename_i xs e
   cases ay
   obtain⟨p,bM,rfl⟩:=x
   obtain⟨a3,_,items,d9,aw,hl,a4,hs⟩:=rq I bM e
   refine wpAny_pyIter_list hl (bz _ _ (cu.push _ _) fresh ⟨p,bM,⟨_,nK _ rfl,rfl,rfl⟩⟩)
  ·cases ay
 |_=>cases ay
theorem Mm{x:D}{bb:a8}(I:Inv c nm G n s)(ae:live a l n)(T:lq c G s.heap bb l k a)(aA:l[k]? =some x)
  (bz:∀H t v,tY bb s.heap H→lq c G H bb l (k+1) a→bA c G H x v→Q (some v) {s with heap:=H,toks:=t}):bg (bc c.prog c.w) A (pyNext (.ref bb)) Q ab s:=by
 obtain⟨o,be,cy⟩:=T.live
 cases a with
 |tup _=>
  obtain⟨t,items,bD,a4,ay⟩:=T
  obtain⟨v,cP,r⟩:=a4.get aA
  refine wpAny_pyNext_tuple_item ay bD (by rw[←vW];exact cP) λ H ia hs=>?_
  have d8:=fX.same be cy hs
  exact bz H s.toks v hs ⟨t,items,Ap d8 bD,a4.keep (.refl G) d8,ia⟩ (r.keep (.refl G) d8)
 |ss w=>
  obtain⟨t,hl,ay⟩:=T
  subst hl
  rw[qS]at aA
  obtain⟨y,bI,rfl⟩:=l3.mp aA
  refine wpAny_pyNext_ascii_item (c:=y) ay (by show w.toArray[k]? =_;rw[HX];exact bI) λ H ia hs=>?_
  exact bz H (s.toks+1) _ hs ⟨t,rfl,ia⟩ ⟨_,rfl⟩
 |ew lo ay=>
  obtain⟨hl,ia⟩:=T
  subst hl
  have hk:k< (ay-lo).toNat:=by
   have:=(jZ.mp aA).1
   rwa [G2]at this
  rw[PS _ _ _ hk]at aA
  cases aA
  refine wpAny_pyNext_range_item ia (by omega) λ H XN hs=>?_
  refine bz H (s.toks+1) _ hs ⟨rfl,?_⟩ ⟨_,rfl⟩
  have aw:lo+((k+1:C):am)=lo+(k:am)+1:=by push_cast;omega
  have aB:((ay-lo).toNat:am)- ((k+1:C):am)=((ay-lo).toNat:am)- (k:am)-1:=by push_cast;omega
  rw[aw,aB]
  exact XN
 |ref z=>
  obtain⟨p,bM,ay⟩:=T
  obtain⟨a3,_,items,d9,aw,hl,a4,hs⟩:=rq I bM ae
  obtain⟨v,cP,r⟩:=a4.get aA
  refine wpAny_pyNext_list_item ay hl (by rw[←vW];exact cP) λ H ia hs=>?_
  have d8:=fX.same be cy hs
  exact bz H s.toks v hs ⟨p,bM,ia⟩ (r.keep (.refl G) d8)
 |_=>exact T.elim
theorem Mk{bb:a8}(gM:A.handled=none)(I:Inv c nm G n s)(ae:live a l n)(T:lq c G s.heap bb l k a)(aA:l[k]? =none)
  (bz:∀H,Heap.ExtBut bb s.heap H→Q none {s with heap:=H}):bg (bc c.prog c.w) A (pyNext (.ref bb)) Q ab s:=by
 cases a with
 |tup _=>
  obtain⟨t,items,bD,a4,ay⟩:=T
  exact wpAny_pyNext_tuple_end gM ay bD (by rw[←vW];exact a4.none aA) bz
 |ss w=>
  obtain⟨t,hl,ay⟩:=T
  subst hl
  rw[qS,Option.map_eq_none_iff]at aA
  exact wpAny_pyNext_ascii_end gM ay (by show w.toArray[k]? =_;rw[HX];exact aA) bz
 |ew lo ay=>
  obtain⟨hl,ia⟩:=T
  subst hl
  have hk:=yE.mp aA
  rw[G2]at hk
  exact wpAny_pyNext_range_end gM ia (by omega) bz
 |ref z=>
  obtain⟨p,bM,ay⟩:=T
  obtain⟨a3,_,items,d9,aw,hl,a4,hs⟩:=rq I bM ae
  exact wpAny_pyNext_list_end gM ay hl (by rw[←vW];exact a4.none aA) bz
 |_=>exact T.elim
end
end Mine
end
section
open PySem PySem.W PyProof.Rows
namespace Mine
variable{H:dD}{t i:C}{x:aL}{a:D}{Q:dC}
structure fj(X:a8→Prop)(G:cA)(s:a2)(bv:cA)(a9:a2):Prop where
 ext:yx G bv s.heap
 ch:cu (λ b=>eG G b∨X b) s.heap a9.heap
 off:∀b,X b→¬eG bv b
section
variable{c:cV}{nm:B (B C)}{X he:a8→Prop}{G bQ dz:cA}{n:St}{s aJ b':a2}
theorem fj.refl(s:a2)(h:∀b,X b→¬eG G b):fj X G s G s:=⟨.refl _ _,.refl _ _,h⟩
theorem fj.trans(x:fj X G s bQ aJ)(y:fj X bQ aJ dz b'):fj X G s dz b' where
 ext:=⟨x.ext.1.trans y.ext.1,λ b az=>(y.ext.2 b az).elim (x.ext.2 b) λ h=>by
  exact r2 .inl λ f=>NC .inr λ o e=>nomatch h.symm.trans (x.ch b o e λ L=>L.elim f λ q=>y.off b q az)⟩
 ch:=λ b o e z=>y.ch b o (x.ch b o e z) λ f=>f.elim (λ f=>(x.ext.2 b f).elim (λ f=>z (.inl f)) λ h=>nomatch h.symm.trans e) λ q=>z (.inr q)
 off:=y.off
theorem fj.FJ(S:Step G s bQ aJ)(h:∀b,X b→¬eG G b∧∃o,s.heap.get? b=some o):fj X G s bQ aJ where
 ext:=S.ext
 ch:=S.ch.mono λ _=>.inl
 off:=λ b q f=>(S.ext.2 b f).elim (h b q).1 λ g=>(h b q).2.elim λ o e=>nomatch e.symm.trans g
theorem fj.toStep(S:fj X G s bQ aJ)(h:∀b,X b→s.heap.get? b=none):Step G s bQ aJ where
 ext:=S.ext
 ch:=λ b o e z=>S.ch b o e λ q=>q.elim z λ x=>nomatch e.symm.trans (h b x)
theorem fj.mono(S:fj X G s bQ aJ)(h:∀b,X b→he b)(off:∀b,he b→¬eG bQ b):fj he G s bQ aJ:=⟨S.ext,S.ch.mono λ _ q=>q.imp id (h _),off⟩
theorem fj.drop(S:fj he G s bQ aJ)(h:∀b,he b→X b∨s.heap.get? b=none)(off:∀b,X b→¬eG bQ b):fj X G s bQ aJ where
 ext:=S.ext
 ch:=λ b o e z=>S.ch b o e λ q=>q.elim (λ f=>z (.inl f)) λ y=>(h b y).elim (λ x=>z (.inr x)) λ g=>nomatch e.symm.trans g
 off:=off
theorem fj.ni(x:cu X s.heap H)(off:∀b,X b→¬eG G b):fj X G s G {s with heap:=H,toks:=t}:=⟨.refl _ _,x.mono λ _=>.inr,off⟩
theorem fj.nc(S:fj X G s bQ aJ)(I:Inv c nm G n s)(h:∀b o,X b→s.heap.get? b=some o→¬ik o):fX s.heap aJ.heap:=λ b o e f=>
 S.ch b o e λ q=>q.elim (λ q=>I.K9 q e f) λ q=>h b o q e f
end
section
variable{c:cV}{nm:B (B C)}{aj:B (Y aL)}{G bQ:cA}{n:St}{s aJ:a2}{A:eC}{ab:au→a2→Prop}{env:aX}{ai:eg}{m:aL→Y au}
noncomputable def pA(x:aL):Bool:=!(x==("__debug__":aL))&& !(x==("__classdict__":aL))
theorem M4(F:c' c aj G env ai s.heap m)(I:Inv c nm G n s)(aA:(aj:B (Y aL))[i]? =some (some x))(bM:pA x=true)(bO:(env[i]?).join=some a)(bz:Q a n):
  bg (bc c.prog c.w) A (loadName ai x) (Back c nm G s Q) ab s:=
 (F.vars i x a aA (Option.join_eq_some_iff.mp bO)).elim λ v kp=>kp.2.elim (λ h=>wpAny_loadName_local F.kind h.1 F.ns h.2 (Back.now bz kp.1 I)) λ h=>h.2.elim λ q w=>
  h.1.elim (λ k=>wpAny_loadName_cell F.kind k w.1 w.2 (Back.now bz kp.1 I)) λ k=>wpAny_loadName_free F.kind k w.1 w.2 (Back.now bz kp.1 I) (Qr (y:=false) (dF.mp bM).2)
theorem aal{cg:hd}(F:c' c aj G env ai s.heap m)(I:Inv c nm G n s)(aA:(aj:B (Y aL))[i]? =some (some x))(bM:pA x=true)(bO:(env[i]?).join=some a)(bz:Q a n):
  bg (bc c.prog c.w) A (eval (.Name x cg) ai) (Back c nm G s Q) ab s:=
 wpAny_Name (M4 F I aA bM bO bz) (Qr (y:=false) (dF.mp bM).1)
theorem c'.vj(F:c' c aj G env ai s.heap m){q:a8}(h:ai.cells.lookup x=some q):ai.locals≠q:=λ L=>
 F.ns.elim λ o y=>y.elim λ O y=>y.elim λ hL d=>(F.cells x _ h).elim λ v y=>y.elim λ c3 ku=>nomatch d.2.1.symm.trans ((an II (ej (d.1.symm.trans (L▸ku.1)))).trans ku.2)
theorem ad4{env:aX}{j:C}{o:Y D}(h:(iR env i a:B (Y D))[j]? =some o):(i=j∧o=some a)∨(i≠j∧(env:B (Y D))[j]? =some o):=
 have hl:j<f' (env:B (Y D)):=Rp (jZ.mp h).1 H1
 r2 (λ q:i=j=>.inl ⟨q,by subst q;exact ej (h.symm.trans (yG hl))⟩) λ q=>.inr ⟨q,(tP q).symm.trans h⟩
theorem c'.wK(F:c' c aj G env ai s.heap m)(I:Inv c nm G n s)(x:cu (e3 ai) s.heap H):Inv c nm G n {s with heap:=H,toks:=t}∧fX s.heap H:=
 have rz:∀b o,e3 ai b→s.heap.get? b=some o→¬ik o:=λ b o q e=>(e3.old F q).elim λ y bC=>ej (bC.1.symm.trans e)▸bC.2
 ⟨I.change x (λ b=>F.foot b) (λ b=>F.out b) rz,λ b o e f=>x b o e λ q=>rz b o q e f⟩
theorem c'.stored{c0:aL→Y au}(F:c' c aj G env ai s.heap m)(aA:(aj:B (Y aL))[i]? =some (some x))(cy:H.Ns ai.locals c0)(hc:∀y p,ai.cells.lookup y=some p→∃u,H.IsCell p u)(cP:sk c G H ai c0 x a)
  (be:∀y,y≠x→∀b,sk c G s.heap ai m y b→sk c G H ai c0 y b):c' c aj G (iR env i a) ai H c0:=
 ⟨F.kind,F.rd,F.blt,H1.trans F.len,cy,hc,F.apart,F.foot,F.out,F.uniq,F.has,λ j y b bI az=>(ad4 az).elim (λ e=>ej (ej (aA.symm.trans (e.1▸bI)))▸ej e.2▸cP)
  λ e=>be y (λ q=>e.1 (F.uniq _ _ _ aA (q▸bI))) b (F.vars j y b bI e.2)⟩
theorem Gy{v:au}{Q:p6→a2→Prop}(F:c' c aj G env ai s.heap m)(I:Inv c nm G n s)(aA:(aj:B (Y aL))[i]? =some (some x))
  (hk:ai.kindOf x=some .local∨ai.kindOf x=some .cell∧(ai.cells.lookup x).isSome=true)(r:bA c G s.heap a v)
  (h:∀H t c0,cu (e3 ai) s.heap H→(ai.kindOf x=some .local→cu (λ b=>b=ai.locals) s.heap H)→c' c aj G (iR env i a) ai H c0→Inv c nm G n {s with heap:=H,toks:=t}→Q () {s with heap:=H,toks:=t}):
  bg (bc c.prog c.w) A (storeName ai x v) Q ab s:=by
 refine hk.elim (λ hk=>?_) λ hk=>(oT.mp hk.2).elim λ q dv=>(F.cells x q dv).elim λ ahv Yx=>?_
 ·refine wpAny_storeName_local hk F.ns (λ H cy hs=>?_) (by rw[F.kind];rfl)
  have ny:cu (e3 ai) s.heap H:=cu.same hs (.inl rfl)
  have b9:=F.wK (t:=s.toks+1) I ny
  exact h H (s.toks+1) _ ny (λ _=>cu.same hs rfl) (F.stored aA cy (λ y q e=>(F.cells y q e).imp λ _ hc=>hc.sameBut hs (F.vj e).symm) ⟨v,r.keep (.refl G) b9.2,.inl ⟨hk,if_pos rfl⟩⟩
   λ y bI b kp=>kp.keep (.refl G) b9.2 (λ _ e=>(if_neg bI).trans e) λ q _ e hc=>hc.sameBut hs (F.vj e).symm) b9.1
 ·refine wpAny_storeName_cell F.kind hk.1 dv Yx λ H hc hs=>?_
  have ny:cu (e3 ai) s.heap H:=cu.same hs (.inr ⟨x,dv⟩)
  have b9:=F.wK (t:=s.toks) I ny
  have e5:∀y p u,ai.cells.lookup y=some p→s.heap.IsCell p u→y≠x→H.IsCell p u:=λ y p u e z7 YB=>z7.sameBut hs λ L=>YB (F.apart y x q (L▸e) dv)
  exact h H s.toks m ny (λ q=>nomatch hk.1.symm.trans q) (F.stored aA (F.ns.sameBut hs (F.vj dv)) (λ y p e=>r2 (λ g:y=x=>⟨_,ej (dv.symm.trans (g▸e))▸hc⟩) λ g=>(F.cells y p e).imp λ u dS=>e5 y p u e dS g)
   ⟨v,r.keep (.refl G) b9.2,.inr ⟨.inl hk.1,q,dv,hc⟩⟩ λ y bI b kp=>kp.keep (.refl G) b9.2 (λ _=>id) λ p u e dS=>e5 y p u e dS bI) b9.1
end
end Mine
end
section
open PySem PySem.W PyProof.Rows
namespace Mine
variable{gR:B au}{cr:ID}{aJ:a2}{a:a8}{jb:B fv}{np:C}{b6:B D}
noncomputable def xT(cr:ID):Bool:=
 cr.params.posonlyargs.isEmpty&&cr.params.kwonlyargs.isEmpty&&cr.params.vararg.isNone&&cr.params.kwarg.isNone&&(cr.defaults== .none)&&cr.closure.isEmpty&&(cr.globals==kZ)&&(cr.builtins==yZ)
  && !cr.scope.isCoroutine&& !cr.scope.isGenerator&&(cr.scope.kind== .function)
theorem Qb{α:Type}:∀(ns:B aL) (ar:B α) (xU:B (aL×α)),ns.Nodup→ns.length=ar.length→(∀z∈ns,xU.lookup z=none)→
  ns.filterMap (λ z=>((xU++ns.zip ar).lookup z).map (z,·))=ns.zip ar
 | [],_,_,_,_,_=>rfl
 |z::ns,[],_,_,h,_=>by cases h
 |z::ns,v::ar,xU,a1,hl,bM=>by
  obtain⟨ax,aH⟩:=nH.mp a1
  have aw:(xU++(z::ns).zip (v::ar)).lookup z=some v:=by
   rw[yJ,bM z (.head _)]
   simp
  rw[List.filterMap_cons]
  simp only[aw,Option.map_some]
  rw[yM]
  congr 1
  have:=Qb ns ar (xU++[(z,v)]) aH (by simpa using hl) λ m hm=>by
   rw[yJ,bM m (.tail _ hm)]
   have:(m==z)=false:=by
    rw[ma]
    rintro rfl
    exact ax hm
   simp[l1,this]
  refine v2 ?_ this
  simp
theorem UB{l:B aL}(hl:l.length=gR.length)(k:C):((l.take k).filter λ z=>(yI z (l.zip gR)).isNone)=[]:=
 tO.mpr λ z hm az=>(H4.mp (List.mem_of_mem_take hm)).elim λ i b3=>b3.elim λ ay e=>
  absurd (List.lookup_eq_none_iff.mp (Cx.mp az) (z,gR[i]'(hl▸ay)) (H4.mpr ⟨i,Q5▸Nat.lt_min.mpr ⟨ay,hl▸ay⟩,e▸List.getElem_zip⟩)) λ q=>mM ((J1 z).symm.trans q)
theorem WN{α c4 oG Qd:Type}{l:B α}{k:C}{s:oG}{f:α×c4→oG→il (ForInStep oG)}{r:oG→il Qd}{M:il Qd}(h:r s=M):(forIn (List.zip l (List.drop k ([]:B c4))) s f>>=r)=M:=by
 rw[List.drop_nil,List.zip_nil_right];exact h
theorem UC{mZ:B Arg}{q:aL}{xn wP nm body aS gl e5 eT fS FW wz co Dz aR}(cy:(mZ.map (·.arg)).Nodup)(hl:(mZ.map (·.arg)).length=gR.length):
  I3 ⟨nm,q,⟨[],mZ,none,[],xn,none,wP⟩,body,aS,gl,e5,.none,eT,fS,FW,wz,co,Dz,aR⟩ ⟨gR,[]⟩=pure ((mZ.map (·.arg)).zip gR):=
 (if_neg λ h=>absurd (gi ((dF.mp h).1)) (r7.mpr (dh hl.symm))).trans
  ((if_neg λ h=>mM ((an (λ l=>!List.isEmpty l) (UB hl _)).symm.trans h)).trans (WN (an (Pure.pure:B (aL×au)→il (B (aL×au))) ((an (QX _) (eZ _)).trans (Qb _ _ [] cy hl λ _ _=>rfl)))))
theorem acq{P:Arguments→Prop}(h:∀mZ xn wP,P ⟨[],mZ,none,[],xn,none,wP⟩):∀p:Arguments,p.posonlyargs=[]→p.kwonlyargs=[]→p.vararg=none→p.kwarg=none→P p
 | ⟨_,_,_,_,_,_,_⟩,rfl,rfl,rfl,rfl=>h _ _ _
theorem Uq(bM:xT cr=true)(cy:(cr.params.args.map (·.arg)).Nodup)(hl:(cr.params.args.map (·.arg)).length=gR.length):
  I3 cr ⟨gR,[]⟩=pure ((cr.params.args.map (·.arg)).zip gR):=
 have kz:=dF.mp (dF.mp (dF.mp (dF.mp (dF.mp (dF.mp (dF.mp (bM)).1).1).1).1).1).1
 have gh:=dF.mp kz.1
 have cI:=dF.mp gh.1
 have aH:=dF.mp cI.1
 acq (P:=λ p=>(p.args.map (·.arg)).Nodup→(p.args.map (·.arg)).length=gR.length→∀d,d= .none→I3 ⟨cr.name,cr.qualname,p,cr.body,cr.scope,cr.globals,cr.closure,d,cr.kwdefaults,cr.doc,cr.pyModule,cr.annotations,cr.code,cr.closureTuple,cr.builtins⟩ ⟨gR,[]⟩=pure ((p.args.map (·.arg)).zip gR))
  (λ _ _ _ cy hl _ e=>e▸UC cy hl) cr.params (Cc.mp aH.1) (Cc.mp aH.2) (Cx.mp cI.2) (Cx.mp gh.2) cy hl _ (eq_of_beq kz.2)
noncomputable def mY(c:cV)(nm:B (B C))(aj:B (Y aL))(ai:eg)(G:cA)(s:a2)(cb:iX)(cF:dC)(f:Flow)(a9:a2):Prop:=match f with
 | .next=>∃aF bv J c0,cb aF J∧c' c aj bv aF ai a9.heap c0∧Inv c nm bv J a9∧fj (e3 ai) G s bv a9
 | .ret v=>∃a bv J,cF a J∧bA c bv a9.heap a v∧Inv c nm bv J a9∧fj (e3 ai) G s bv a9
 |_=>False
theorem mY.after{c:cV}{nm:B (B C)}{aj:B (Y aL)}{ai:eg}{G bQ:cA}{s a9:a2}{cb:iX}{cF:dC}{f:Flow}(S:fj (e3 ai) G s bQ aJ)(b:mY c nm aj ai bQ aJ cb cF f a9):mY c nm aj ai G s cb cF f a9:=by
 cases f with
 |next=>obtain⟨e,p,g,m,ax,aH,cI,gh⟩:=b;exact⟨e,p,g,m,ax,aH,cI,S.trans gh⟩
 |ret v=>obtain⟨e,p,g,ax,aH,cI,gh⟩:=b;exact⟨e,p,g,ax,aH,cI,S.trans gh⟩
 |_=>exact b.elim
theorem Dg(k:aL→Y mV)(z:aL)(v:au)(r:B (aL×au))(m:aL→Y au):wn k ((z,v)::r) m=wn k r (if k z=some .local then λ y=>if y=z then some v else m y else m):=rfl
theorem Df(k:aL→Y mV)(z:aL)(v:au)(r:B (aL×au))(m:aL→Y au):yX k ((z,v)::r) m=yX k r (if k z=some .local then m else λ y=>if y=z then some v else m y):=rfl
theorem JW{k:aL→Y mV}{x:aL}:∀{bs:B (aL×au)} {m:aL→Y au},(∀b∈bs,b.1≠x)→wn k bs m x=m x
 | [],_,_=>rfl
 | (z,v)::r,m,h=>by
  have ax:=h (z,v) (.head _)
  rw[Dg,JW λ b az=>h b (.tail _ az)]
  split
  ·exact if_neg (Ie ax)
  ·rfl
theorem JU{k:aL→Y mV}{x:aL}:∀{bs:B (aL×au)} {m:aL→Y au},(∀b∈bs,b.1≠x)→yX k bs m x=m x
 | [],_,_=>rfl
 | (z,v)::r,m,h=>by
  have ax:=h (z,v) (.head _)
  rw[Df,JU λ b az=>h b (.tail _ az)]
  split
  ·rfl
  ·exact if_neg (Ie ax)
theorem JV{k:aL→Y mV}{x:aL}{v:au}(hk:k x=some .local):∀{ns:B aL} {ar:B au} {i:C} {m:aL→Y au},ns.Nodup→ns[i]? =some x→ar[i]? =some v→wn k (ns.zip ar) m x=some v
 | [],_,_,_,_,h,_=>by simp at h
 |_::_,[],_,_,_,_,h=>by simp at h
 |z::ns,u::ar,0,m,a1,h,cP=>by
  obtain⟨ax,aH⟩:=nH.mp a1
  simp only[yD,yQ]at h cP
  subst h cP
  rw[yM,Dg,JW λ b az=>?_,if_pos hk,if_pos rfl]
  rintro rfl
  exact ax (H6 az).1
 |z::ns,u::ar,i+1,m,a1,h,cP=>by
  obtain⟨ax,aH⟩:=nH.mp a1
  rw[yM,Dg]
  exact JV hk aH (by simpa using h) (by simpa using cP)
theorem JT{k:aL→Y mV}{x:aL}{v:au}(hk:¬k x=some .local):∀{ns:B aL} {ar:B au} {i:C} {m:aL→Y au},ns.Nodup→ns[i]? =some x→ar[i]? =some v→yX k (ns.zip ar) m x=some v
 | [],_,_,_,_,h,_=>by simp at h
 |_::_,[],_,_,_,_,h=>by simp at h
 |z::ns,u::ar,0,m,a1,h,cP=>by
  obtain⟨ax,aH⟩:=nH.mp a1
  simp only[yD,yQ]at h cP
  subst h cP
  rw[yM,Df,JU λ b az=>?_,if_neg hk,if_pos rfl]
  rintro rfl
  exact ax (H6 az).1
 |z::ns,u::ar,i+1,m,a1,h,cP=>by
  obtain⟨ax,aH⟩:=nH.mp a1
  rw[yM,Df]
  exact JT hk aH (by simpa using h) (by simpa using cP)
section
variable{c:cV}{nm:B (B C)}{aj:B (Y aL)}{G:cA}{n:St}{s:a2}{A:eC}{ab:au→a2→Prop}
structure FnAt(c:cV)(aj:B (Y aL))(np:C)(a:a8)(cr:ID)(jb:B fv):Prop where
 at_:∃xL FI NY,c.K.lookup a=some ⟨xL,FI,.func cr,NY⟩
 plain:xT cr=true
 body:cr.body= .stmts jb
 code:codeIn c.K cr.code cr.qualname=true
 np:(cr.params.args.map (·.arg)).length=np
 names:(cr.params.args.map (·.arg)).Nodup
 kinds:((cr.params.args.map (·.arg)).all λ x=>cr.scope.names.lookup x==some .local||cr.scope.names.lookup x==some .cell)=true
 abO:∀(i:C) x,(cr.params.args.map (·.arg))[i]? =some x→(aj:B (Y aL))[i]? =some (some x)
 uniq:∀(i j:C) x,(aj:B (Y aL))[i]? =some (some x)→(aj:B (Y aL))[j]? =some (some x)→i=j
theorem InCallC.mf(bL:jC c nm)(M:FnAt c aj np a cr jb)(I:Inv c nm G n s)(r:cs c G s.heap b6 gR)(hl:b6.length=np)(Ep:np≤aj.length)
  (x:InCallC s (nM cr s.heap.objs.size a).locals (wn (nM cr s.heap.objs.size a).kindOf ((cr.params.args.map (·.arg)).zip gR) λ _=>none) (nM cr s.heap.objs.size a).cells
    (yX (nM cr s.heap.objs.size a).kindOf ((cr.params.args.map (·.arg)).zip gR) λ _=>none) aJ):
  c' c aj G (b6.map some++dx (aj.length-np) none) (nM cr s.heap.objs.size a) aJ.heap (wn (nM cr s.heap.objs.size a).kindOf ((cr.params.args.map (·.arg)).zip gR) λ _=>none)∧Inv c nm G n aJ:=by
 have bM:=M.plain
 simp only[xT,jX,jl]at bM
 obtain⟨⟨⟨⟨⟨⟨⟨⟨⟨⟨ax,aH⟩,cI⟩,gh⟩,kz⟩,z2⟩,pd⟩,z3⟩,z4⟩,z1⟩,D6⟩:=bM
 obtain⟨H,oy,rfl⟩:=x.toInCall.same
 have ch:cu (λ _=>False) s.heap H:=λ b o e _=>x.toInCall.keep b o e
 have ey:Inv c nm G n {s with heap:=H,toks:=oy}:=I.more ch
 have d8:fX s.heap H:=λ b o e _=>x.toInCall.keep b o e
 have Ul:∀b,e3 (nM cr s.heap.objs.size a) b→s.heap.objs.size≤b:=by
  rintro b (rfl| ⟨y,e⟩)
  ·exact cJ _
  ·exact h4 (x.above y b (mem_of_lookup e))
 have fresh:∀b,e3 (nM cr s.heap.objs.size a) b→s.heap.get? b=none:=λ b q=>by
  cases e:s.heap.get? b with
  |none=>rfl
  |some o=>exact absurd (mU e) (r7.mpr (Ul b q))
 refine⟨⟨D6,pd,z3,?_,x.toInCall.ns,λ y q e=>⟨_,x.cell y q e⟩,λ y L q aw aB=>name_of_addr x.apart (mem_of_lookup aw) (mem_of_lookup aB),λ b q f=>?_,λ b q=>?_,M.uniq,λ y q=>IY cr.scope.names (s.heap.objs.size+1) [] (.inl q),λ i y b bI az=>?_⟩,ey⟩
 ·simp only[fh,cG,Cd,hl];omega
 ·obtain⟨o,e⟩:=I.wW f
  rw[fresh b q]at e;cases e
 ·cases e:c.h₀.get? b with
  |none=>rfl
  |some o=>have:=I.base b o e;rw[fresh b q]at this;cases this
 ·have ay:i<np:=by
   rcases Co i np with h|h
   ·exact h
   ·rw[yC (by simp[hl];exact h),HW]at az
    split at az<;>cases az
  have bO:b6[i]? =some b:=by
   rw[qR (by simp[hl];exact ay),qS]at az
   obtain⟨hw,e,q⟩:=l3.mp az
   cases q;exact e
  obtain⟨v,cP,hG⟩:=r.get bO
  have Es:(cr.params.args.map (·.arg))[i]? =some y:=by
   have:i< (cr.params.args.map (·.arg)).length:=by rw[M.np];exact ay
   have e:=M.abO i _ (h2 this)
   rw[bI]at e;cases e
   exact h2 this
  have adJ:=hG.keep (.refl G) d8
  refine⟨v,adJ,(BZ.mp (g'.mp M.kinds y (h3 Es))).imp (λ hk=>?_) λ hk=>?_⟩
  ·have n6:(nM cr s.heap.objs.size a).kindOf y=some .local:=eq_of_beq hk
   exact⟨n6,JV n6 M.names Es cP⟩
  ·have n6:(nM cr s.heap.objs.size a).kindOf y=some .cell:=eq_of_beq hk
   refine⟨.inl n6,(oT.mp (IY cr.scope.names (s.heap.objs.size+1) [] (.inl n6))).imp λ q dv=>⟨dv,?_⟩⟩
   exact JT (λ L=>nomatch n6.symm.trans L) M.names Es cP▸x.cell y q dv
theorem UN{R:yV→a2→Prop}{Q:dC}(bL:jC c nm)(M:FnAt c aj np a cr jb)(I:Inv c nm G n s)(r:cs c G s.heap b6 gR)(hl:b6.length=np)(Ep:np≤aj.length)
  (sK:A.depth<CO)(fR:∀v a9,Back c nm G s Q v a9→R (.ok (.ret v)) a9)
  (h:∀ai aJ m g8,ai.scope=cr.scope→c' c aj G (b6.map some++dx (aj.length-np) none) ai aJ.heap m→Inv c nm G n aJ→bg (bc c.prog c.w) (A.deeper ai) (execs jb ai) (mY c nm aj ai G aJ (λ _ J=>Q .nn J) Q) g8 aJ):
  t4 (bc c.prog c.w) A (.call (.ref a) ⟨gR,[]⟩) R s:=by
 obtain⟨xL,FI,NY,Xh⟩:=M.at_
 have bM:=M.plain
 simp only[xT,jX,jl,tI]at bM
 obtain⟨⟨⟨⟨⟨⟨⟨⟨⟨⟨ax,aH⟩,cI⟩,gh⟩,kz⟩,z2⟩,pd⟩,z3⟩,z4⟩,z1⟩,D6⟩:=bM
 have X:=I.K bL.K
 have i4:(cr.params.args.map (·.arg)).length=gR.length:=by rw[M.np,r.length,hl]
 refine codeAny_call_cells sK (X _ _ Xh) rfl (bL.lim.keeps I.base) (codeRec_of X M.code) M.body (Uq M.plain M.names i4) (Cc.mp z2) (kindsX ?_ _) (λ aJ x=>?_) z4 z1 D6
 ·rw[g']
  rintro⟨z,v⟩ az
  exact g'.mp M.kinds z (H6 az).1
 ·obtain⟨F,ey⟩:=InCallC.mf bL M I r hl Ep x
  have fresh:∀b,e3 (nM cr s.heap.objs.size a) b→s.heap.get? b=none:=by
   rintro b q
   have:s.heap.objs.size≤b:=by
    rcases q with rfl| ⟨y,e⟩
    ·exact cJ _
    ·exact h4 (x.above y b (mem_of_lookup e))
   cases e:s.heap.get? b with
   |none=>rfl
   |some o=>exact absurd (mU e) (r7.mpr this)
  have wu:fj (e3 (nM cr s.heap.objs.size a)) G s G aJ:=⟨.refl _ _,λ b o e _=>x.toInCall.keep b o e,F.foot⟩
  refine fb (h _ aJ _ _ rfl F ey) (λ f a9 az=>?_) λ _ _ y=>y
  cases f with
  |next=>
   obtain⟨aF,bv,J,c0,q,g9,nC,S⟩:=az
   exact fR _ _ ⟨.nn,bv,J,q,by simp[bA],nC,(wu.trans S).toStep fresh⟩
  |ret v=>
   obtain⟨b,bv,J,q,hG,nC,S⟩:=az
   exact fR _ _ ⟨b,bv,J,q,hG,nC,(wu.trans S).toStep fresh⟩
  |_=>exact az.elim
end
end Mine
end
section
open PySem PySem.W PyProof.Rows
namespace Mine
variable{x:aL}{cg:hd}{v:au}{Q:au→a2→Prop}{b6:B bn}{V z:C}{lO:il av}
structure v5(c:cV):Prop where
 top:∃qp pr,c.h₀.Ns kZ qp∧c.h₀.Ns yZ pr∧∀x,x≠("__name__":aL)→pr x=bootBuiltins x
section
variable{c:cV}{nm:B (B C)}{aj:B (Y aL)}{G:cA}{n:St}{s:a2}{A:eC}{ab:au→a2→Prop}{env:aX}{ai:eg}{m:aL→Y au}
theorem D4(bL:jC c nm)(M:v5 c)(F:c' c aj G env ai s.heap m)(I:Inv c nm G n s)(e:qY c.K kZ x=some (some v))(hk:ai.kindOf x=some .globalImplicit)(bM:pA x=true)(h:Q v s):
  bg (bc c.prog c.w) A (eval (.Name x cg) ai) Q ab s:=by
 obtain⟨qp,pr,g,b,az⟩:=M.top
 unfold pA at bM
 simp only[jX,tI]at bM
 exact RG F.kind hk (Calls.loadGlobal_global (F.rd▸g.keeps I.base) (mg_of bL.K g e) h) bM.1
theorem uf(bL:jC c nm)(M:v5 c)(F:c' c aj G env ai s.heap m)(I:Inv c nm G n s)(e:qY c.K kZ x=some none)(cP:bootBuiltins x=some v)(cy:x≠("__name__":aL))(hk:ai.kindOf x=some .globalImplicit)(bM:pA x=true)(h:Q v s):
  bg (bc c.prog c.w) A (eval (.Name x cg) ai) Q ab s:=by
 obtain⟨qp,pr,g,b,az⟩:=M.top
 unfold pA at bM
 simp only[jX,tI]at bM
 exact RG F.kind hk (Calls.loadGlobal_builtin (F.rd▸g.keeps I.base) (mg_none_of bL.K g e) (F.blt▸b.keeps I.base) ((az x cy).trans cP) h) bM.1
end
noncomputable def f3(x:bn):Bool:=!kj x.ctorIdx 22
theorem vF{e:bn}{r:B bn}{env:eg}(h:f3 e=true):j1 (e::r) env=(false,eval e env)::j1 r env:=by
 cases e<;>first|rfl|exact jw (show false=true from h)
theorem Bp{env:eg}{cg:hd}:∀{r:B bn},r.all f3=true→(kX cg (j1 r env)).any (·.1)=false
 | [],_=>rfl
 |e::r,h=>vF (a7 h)▸Bp (r:=r) (aD h)
theorem O'{env:eg}{cg:hd}:∀{r:B bn},r.all f3=true→(kX cg (j1 r env)).all (λ x=>!x.1)=true
 | [],_=>rfl
 |e::r,h=>vF (a7 h)▸O' (r:=r) (aD h)
section
variable{ak:Model}{A:eC}{ab:au→a2→Prop}{s:a2}{env:eg}
theorem DI{f:au}{Q:Args→a2→Prop}(hs:b6.all f3=true)(h:bg ak A (sd (kX cg (j1 b6 env))) (λ ar a9=>Q ⟨ar,[]⟩ a9) ab s):bg ak A (evalArgs f true (kX cg (j1 b6 env)) []) Q ab s:=by
 cases b6 with
 |nil=>
  unfold evalArgs
  show bg ak A (sd []>>=_) Q ab s
  refine cK (fb h (λ ar a9 dv=>?_) λ _ _ e=>e)
  refine cK (eH ?_)
  refine sf ?_
  exact cK (eH (cK (eH (eH dv))))
 |cons e r=>
  rw[List.all_cons,jX]at hs
  rw[vF hs.1]at h⊢
  exact Calls.evalArgs_plain h
theorem method_call{o:bn}{name:aL}{C6:hd}(Eh:I0 o name env (eval o env)=eval o env)(hs:b6.all f3=true)(cy:b6.length<30)(X0:(C6.endLine==cg.line)=true)
  (h:bg ak A (eval o env) (λ eM aJ=>∀lO,bg ak A (y3 eM name lO) (λ r b'=>bg ak A (y0 cg r.1 r.2 (kX cg (j1 b6 env)) []) Q ab b') ab aJ) ab s):
  bg ak A (eval (.Call (.Attribute o name C6) b6 [] cg) env) Q ab s:=by
 rw[arm_eval_Call,Eh]
 refine cK (fb h (λ eM aJ aI=>?_) λ _ _ e=>e)
 refine cK (sg ?_)
 have XJ:methodCallForm (b6.length+([]:B Keyword).length) (kX cg (j1 b6 env)) (backToKw cg (keywordEach [] env))=true:=
  dF.mpr ⟨dF.mpr ⟨O' hs,rfl⟩,iO cy⟩
 have Yh:R6 true o env C6 cg=pure cg:=by unfold R6;simp[X0]
 unfold methodCall
 rw[XJ]
 refine cK (sf (fb (Q:=λ r b'=>bg ak A (y0 cg r.1 r.2 (kX cg (j1 b6 env)) []) Q ab b') ?_ (λ r b' bJ=>cK (wpAny_of_eq Yh bJ)) λ _ _ e=>e))
 exact aI _
end
section
variable{c:cV}{nm:B (B C)}{aj:B (Y aL)}{G:cA}{n:St}{s:a2}{A:eC}{ab:au→a2→Prop}
theorem abV(I:Inv c nm G n s)(ay:(c.P.i6 V).isSome=true):
  Inv c nm (G++[(s.heap.objs.size+1,s.heap.objs.size)]) (n++[.bF V []]) {s with heap:=(s.heap.push ly).push (nL (c.ca V) s.heap.objs.size)}∧
  Step G s (G++[(s.heap.objs.size+1,s.heap.objs.size)]) {s with heap:=(s.heap.push ly).push (nL (c.ca V) s.heap.objs.size)}:=by
 have k:∀b o,s.heap.get? b=some o→((s.heap.push ly).push (nL (c.ca V) s.heap.objs.size)).get? b=some o:=λ b o e=>lv _ (lv _ e)
 have none:∀b,s.heap.objs.size≤b→s.heap.get? b=none:=λ b az=>by
  cases e:s.heap.get? b with
  |none=>rfl
  |some o=>exact absurd (mU e) (r7.mpr az)
 have q8:(s.heap.push ly).get? s.heap.objs.size=some emptyDict:=nK _ rfl
 have DB:((s.heap.push ly).push (nL (c.ca V) s.heap.objs.size)).get? s.heap.objs.size=some (p2 [] 0):=lv _ q8
 have cT:((s.heap.push ly).push (nL (c.ca V) s.heap.objs.size)).get? (s.heap.objs.size+1)=some (nL (c.ca V) s.heap.objs.size):=by
  rw[←RR s.heap ly];exact nK _ rfl
 refine⟨I.alloc (t:=s.toks) (cu.of_keep k) (pX (I.qm λ _ _ e=>e)) (I.qm λ _ _ e=>e) (none _ (h5 _)) (none _ (cJ _)) ⟨cT,ay,λ f a h=>by simp at h,[],0,λ _=>.none,DB,cJ _,?_,λ f _=>rfl⟩,Step.alloc (t:=s.toks) (cu.of_keep k) (none _ (h5 _)) (none _ (cJ _))⟩
 exact(Heap.Ns.new s.heap (.type "dict")).keeps λ b o e=>lv _ e
theorem aaG{k:C}{gR:B au}{Q:au→a2→Prop}{aK:a8}(bL:jC c nm)(I:Inv c nm G n s)(ay:(c.P.i6 k).isSome=true)(cl:oU c.K (.ref (c.ca k)) "__init__"=some (some (.ref aK)))(bD:wm c.K (.ref aK)=some (.type "function"))
  (h:∀(nz:eC) (g8:au→a2→Prop),nz.handled=A.handled→nz.depth≤A.depth+2→nz.units≤A.units+8→
   t4 (bc c.prog c.w) nz (.call (.ref aK) ⟨.ref (s.heap.objs.size+1)::gR,[]⟩) (InitBack (s.heap.objs.size+1) λ r a9=>match r with| .ok (.ret v)=>Q v a9| .ok _=>False| .error e=>g8 e a9) {s with heap:=(s.heap.push ly).push (nL (c.ca k) s.heap.objs.size)}):
  bg (bc c.prog c.w) A (call (.ref (c.ca k)) gR) Q ab s:=by
 have X:=I.K bL.K
 have uh:=(wM (bL.cls k ay)).2.2.2.1
 refine Ja ?_
 obtain⟨gM,g,d,t,os⟩:=s
 refine make_core (makes_of X uh) (looks_findIn X cl) (λ Bg=>bind_fn X Bg bD) (.inl rfl) ?_
 refine h _ ab rfl ?_ ?_
 ·exact fB (show Code.weight (.builtin "type.__call__" ⟨.ref (c.ca k)::gR,[]⟩)≤2 from aE rfl) _
 ·exact fB (show Code.cUnits (.builtin "type.__call__" ⟨.ref (c.ca k)::gR,[]⟩)≤8 from aE rfl) _
theorem W1{aG:B (C×D)}{f:C}{Q:au×B au→a2→Prop}{aK:a8}(bL:jC c nm)(I:Inv c nm G n s)(h:n[z]? =some (.bF V aG))(El:aG.lookup f=none)(n7:f<nm.length)(x:bA c G s.heap (.ref z) v)
  (cl:oU c.K (.ref (c.ca V)) (gK nm f)=some (some (.ref aK)))(bD:wm c.K (.ref aK)=some (.type "function"))(bz:Q (.ref aK,[v]) s):
  bg (bc c.prog c.w) A (y3 v (gK nm f) lO) Q ab s:=by
 exact lh x I λ p o bM be ee=>FH (ej (be.symm.trans h)▸ee) λ O k m al=>have cz:=(wM (bL.cls V al.i6)).1;method_fn (I.K bL.K) al.inst (IZ (cz (gK nm f))).1 (IZ (cz (gK nm f))).2 cl bD
  (show(lookIn (gK nm f) (p2 O k)).map (·.isSome)=some false from an (qV (·.isSome)) ((Fz al.at2 al.ns).1.trans (an some ((al.wY f n7).no El)))) (x.elim λ q y=>(ej (y.1.symm.trans bM)▸y.2:v= .ref p.1)▸bz)
theorem WX{xs:B D}{Q:au×B au→a2→Prop}(I:Inv c nm G n s)(h:n[z]? =some (.li xs))(x:bA c G s.heap (.ref z) v)(bz:Q (.builtin "list.append",[v]) s):
  bg (bc c.prog c.w) A (y3 v "append" lO) Q ab s:=by
 exact x.elim λ p y=>(rq I y.1 h).2.2.elim λ items q=>q.elim λ k q=>y.2▸R5 q.2.1.typeIs PySem.F.plainAttrs_list PySem.F.slot_list_append PySem.F.type_list_append (λ a e=>IW e▸⟨_,q.1,rfl⟩) (y.2▸bz)
noncomputable def KH(o:Y a0):Bool:=match o with
 |some (.cq _)|some (.h' _)=>true
 |_=>false
theorem Vl{X:Prop}:∀{o:Y a0},KH o=true→(∀O,o=some (.cq O)→X)→(∀O,o=some (.h' O)→X)→X:=λ{o} h f g=>by
 cases o with
 |none=>exact jw (show false=true from h)
 |some o=>cases o<;>first|exact f _ rfl|exact g _ rfl|exact jw (show false=true from h)
theorem WZ{a:D}{Q:au×B au→a2→Prop}(I:Inv c nm G n s)(h:rh n a=true)(x:bA c G s.heap a v)(bz:Q (.builtin "dict.get",[v]) s):
  bg (bc c.prog c.w) A (y3 v "get" lO) Q ab s:=by
 have iA:∀{b:a8},v= .ref b→s.TypeIs (.ref b) "dict"→(∃o,s.heap.get? b=some o∧o.dict=none)→bg (bc c.prog c.w) A (y3 v "get" lO) Q ab s:=λ e fZ be=>by
  subst e
  exact R5 fZ PySem.F.plainAttrs_dict IA PySem.F.type_dict_get (λ a e=>IW e▸be) bz
 cases a with
 |cd O=>exact x.elim λ b x=>x.2.2.elim λ f y=>have hm:=Nd I y.1;iA x.1 hm.typeIs (hm.noDict _ rfl)
 |ref z=>exact x.elim λ p x=>Vl (show KH n[z]? =true from h) (λ O e=>(I.obj z p _ x.1 e).2.elim λ cZ d=>iA x.2 d.1.typeIs (d.1.mapOf.noDict _ rfl)) λ O e=>(I.obj z p _ x.1 e).2.elim λ xs d=>iA x.2 d.1.typeIs (d.1.imp λ o d=>d.elim λ O d=>d.elim λ hL d=>⟨d.1,d.2.1.2.1⟩)
 |_=>exact nomatch h
end
end Mine
end
section
open PySem PySem.W PyProof.Rows
namespace Mine
variable{v:au}{Q:p6→a2→Prop}{l:B D}{k:C}{a:D}{t:bn}{i:C}{x:aL}
section
variable{c:cV}{nm:B (B C)}{aj:B (Y aL)}{G:cA}{n:St}{s:a2}{A:eC}{ab:au→a2→Prop}{env:aX}{ai:eg}{m:aL→Y au}
theorem Za{bb:a8}{o:fQ}{z:wt}{ar:gS au}{O:B bn}{x}{p:hd}(be:s.heap.get? bb=some o)(hc:o.cls= .type z)(a1:o.data= .fields ar)(cy:(["enumerate","zip","dict_itemiterator","dict_reverseitemiterator","odict_iterator","itertools.zip_longest","itertools.pairwise"].contains z)=false)(h:Q () s):
  bg (bc c.prog c.w) A (CN (.Tuple O x p) (.ref bb) v) Q ab s:=by
 have k:∀{b:av} {X:il p6},bg (bc c.prog c.w) A (if(["enumerate","zip","dict_itemiterator","dict_reverseitemiterator","odict_iterator","itertools.zip_longest","itertools.pairwise"].contains z&&b)=true then X else pure ()) Q ab s:=λ{b X}=>by
  rw[cy];exact eH h
 cases v<;>first|exact eH h| (refine cK (wpAny_load be ?_);rw[hc,a1];exact k)
theorem Mn{bb:a8}(T:lq c G s.heap bb l k a)(h:Q () s):bg (bc c.prog c.w) A (CN t (.ref bb) v) Q ab s:=by
 have e:∀{X:Prop},(∀o z ar,s.heap.get? bb=some o→o.cls= .type z→o.data= .fields ar→(["enumerate","zip","dict_itemiterator","dict_reverseitemiterator","odict_iterator","itertools.zip_longest","itertools.pairwise"].contains z)=false→X)→X:=λ{X} f=>by
  cases a with
  |tup _=>obtain⟨_,_,_,_,o,be,hc,a1⟩:=T;exact f o _ _ be hc a1 (by decide)
  |ss _=>obtain⟨_,_,o,be,hc,a1⟩:=T;exact f o _ _ be hc a1 (by decide)
  |ew _ _=>obtain⟨_,be⟩:=T;exact f _ _ _ be rfl rfl (by decide)
  |ref _=>obtain⟨p,_,o,be,hc,a1⟩:=T;exact f o _ _ be hc a1 (by decide)
  |_=>exact T.elim
 refine e λ o z ar be hc a1 cy=>?_
 have g:∀O x p,bg (bc c.prog c.w) A (CN (.Tuple O x p) (.ref bb) v) Q ab s:=λ O x p=>Za be hc a1 cy h
 cases t<;>first|exact eH h|exact g _ _ _|exact g [] default default
theorem Y'{bb:a8}{Q:au→a2→Prop}(T:lq c G s.heap bb l k a)(h:Q (.ref bb) s):bg (bc c.prog c.w) A (pyIter (.ref bb)) Q ab s:=by
 cases a with
 |tup _=>obtain⟨_,_,_,_,ay⟩:=T;exact wpAny_pyIter_tupleiter ay h
 |ss _=>obtain⟨_,_,ay⟩:=T;exact wpAny_pyIter_striter_ascii ay h
 |ew _ _=>obtain⟨_,ay⟩:=T;exact wpAny_pyIter_rangeiter ay h
 |ref _=>obtain⟨p,_,ay⟩:=T;exact wpAny_pyIter_listiter ay h
 |_=>exact T.elim
noncomputable def tl(aS:gc)(x:aL):Bool:=aS.names.lookup x==some .local||aS.names.lookup x==some .cell
noncomputable def u'(aj:B (Y aL))(i:C)(x:aL):Bool:=cT (cT λ y=>decide (y=x)) (aj:B (Y aL))[i]?
theorem va(h:u' aj i x=true):(aj:B (Y aL))[i]? =some (some x):=
 qt h λ o h=>qt h λ y h=>an (λ y=>some (some y)) (gi h)
noncomputable def DF(aj:B (Y aL))(aS:gc)(i:C):bn→Bool:=nx λ x=>u' aj i x&&tl aS x
noncomputable def zL(aj:B (Y aL))(aS:gc):B C→B bn→av
 | [],O=>hh O
 |i::xs,O=>oe (λ e O=>DF aj aS i e&&zL aj aS xs O) O
noncomputable def rM(aj:B (Y aL))(aS:gc)(many:av)(xs:B C)(t:bn):Bool:=cond many (yt (zL aj aS xs) t) (dy (λ i=>DF aj aS i t) xs)
noncomputable def xw(aS:gc):bn→Bool:=nx λ x=>aS.names.lookup x==some .local
noncomputable def rt(aS:gc)(t:bn):Bool:=cond (kj t.ctorIdx 23) (xw aS t) (yt (λ O=>O.all (xw aS)) t)
theorem Gx{ai:eg}(h:tl ai.scope x=true)(hc:∀x,ai.kindOf x=some .cell→(ai.cells.lookup x).isSome=true):
  ai.kindOf x=some .local∨ai.kindOf x=some .cell∧(ai.cells.lookup x).isSome=true:=
 (BZ.mp h).imp eq_of_beq λ q=>⟨eq_of_beq q,hc x (eq_of_beq q)⟩
noncomputable def y9(c:cV)(nm:B (B C))(aj:B (Y aL))(G:cA)(n:St)(ai:eg)(aF:aX)(loc:av)(Q:p6→a2→Prop)(s:a2):Prop:=
 ∀H t c0,cu (e3 ai) s.heap H→(loc=true→cu (λ b=>b=ai.locals) s.heap H)→c' c aj G aF ai H c0→Inv c nm G n {s with heap:=H,toks:=t}→Q () {s with heap:=H,toks:=t}
theorem KO{e:bn}(F:c' c aj G env ai s.heap m)(I:Inv c nm G n s)(h:DF aj ai.scope i e=true)(r:bA c G s.heap a v)(dv:y9 c nm aj G n ai (iR env i a) (xw ai.scope e) Q s):bg (bc c.prog c.w) A (assign e ai v) Q ab s:=by
 revert dv
 exact mL h λ x p o dv=>R' (Gy F I (va (a7 o)) (Gx (aD o) F.has) r λ H t c0 c2 dW g9 ey=>dv H t c0 c2 (λ q=>dW (eq_of_beq q)) g9 ey)
theorem VF(xs:B C):∀{O:B bn} {l:B D} {ar:B au} {env aF:aX} {m:aL→Y au} {s:a2} {Q:p6→a2→Prop},c' c aj G env ai s.heap m→Inv c nm G n s→
  zL aj ai.scope xs O=true→ti env xs l=some aF→cs c G s.heap l ar→y9 c nm aj G n ai aF (O.all (xw ai.scope)) Q s→
  bg (bc c.prog c.w) A (R4 ((t3 O ai).map (·.2)) ar) Q ab s:=by
 induction xs with
 |nil=>
  intro O l ar env aF m s Q F I h
  refine g0 h λ b3 r dv=>?_
  cases l with
  |nil=>exact(show ar=[]from r)▸eH (dv s.heap s.toks m (.refl _ _) (λ _=>.refl _ _) (ej b3▸F) I)
  |cons a l=>cases b3
 |cons i xs aZ=>
  intro O l ar env aF m s Q F I h
  refine jr h λ e O h b3 r dv=>?_
  cases l with
  |nil=>cases b3
  |cons a l=>
   refine r.elim λ v r=>r.elim λ f7 r=>r.1▸?_
   have w:(t3 (e::O) ai).map (·.2)=assign e ai::(t3 O ai).map (·.2):=mL (a7 h) λ x p o=>rfl
   refine(an (R4 · (v::f7)) w).symm▸wpAny_assignInOrder_more (KO F I (a7 h) r.2.1 λ H t c0 c2 dW g9 ey=>aZ g9 ey (aD h) b3 (r.2.2.keep (.refl G) (F.wK (t:=s.toks) I c2).2) λ pc cB xy g1 g2 kf nC=>dv pc cB xy (c2.trans g1) (λ q=>(dW (a7 q)).trans (g2 (aD q))) kf nC)
theorem VE{aS:gc}{ai:eg}(xs:B C):∀{O:B bn},zL aj aS xs O=true→(t3 O ai).length=xs.length∧(t3 O ai).findIdx? (·.1)=none:=by
 induction xs with
 |nil=>exact λ h=>g0 h ⟨rfl,rfl⟩
 |cons i xs aZ=>
  refine λ h=>jr h λ e O h=>?_
  have w:t3 (e::O) ai=(false,assign e ai)::t3 O ai:=mL (a7 h) λ x p o=>rfl
  have a:=aZ (aD h)
  exact w▸⟨an l2 a.1,List.findIdx?_cons.trans (an (qV l2) a.2)⟩
theorem ad5(xs:B C):∀{l:B D} {env aF:aX},ti env xs l=some aF→xs.length=l.length:=by
 induction xs with
 |nil=>exact λ{l} _ _ h=>by cases l<;>first|rfl|cases h
 |cons x xs aZ=>exact λ{l} _ _ h=>by cases l<;>first|cases h|exact an l2 (aZ h)
theorem C8{many:av}{xs:B C}{aF:aX}(gM:A.handled=none)(F:c' c aj G env ai s.heap m)(I:Inv c nm G n s)
  (bD:rM aj ai.scope many xs t=true)(az:di many xs a env=some aF)(r:bA c G s.heap a v)(dv:y9 c nm aj G n ai aF (rt ai.scope t) Q s):
  bg (bc c.prog c.w) A (assign t ai v) Q ab s:=by
 cases many with
 |false=>
  revert az
  refine jp bD λ i o az=>KO F I o r ?_
  have dv:y9 c nm aj G n ai (iR env i a) (rt ai.scope t) Q s:=ej az▸dv
  exact(show rt ai.scope t=xw ai.scope t from mL o λ _ _ _=>rfl)▸dv
 |true=>
  revert dv
  refine Hm bD λ O k cg bD dv=>?_
  cases a with
  |tup l=>
   obtain⟨b,items,rfl,Yq,a4⟩:=r
   have dy:=VE (ai:=ai) xs bD
   refine wpAny_assign_Tuple gM Yq (dy.1.trans ((ad5 xs az).trans (a4.length.symm.trans yv))) dy.2 λ H b3=>?_
   have ch:cu (λ _=>False) s.heap H:=λ b o e _=>b3 b o (λ q=>absurd (mU e) (by rw[q];exact oR _)) e
   have S:Step G s G {s with heap:=H}:=.more (t:=s.toks) ch
   have ey:Inv c nm G n {s with heap:=H}:=I.more (t:=s.toks) ch
   exact VF xs (s:={s with heap:=H}) (F.step I S) ey bD az (S.vO I a4) λ pc cB xy g1 g2 kf nC=>dv pc cB xy (ch.all.trans g1) (λ q=>ch.all.trans (g2 q)) kf nC
  |_=>cases az
end
end Mine
end
section
open PySem PySem.W PyProof.Rows
namespace Mine
variable{xs:B C}{a:D}{e:aX}{i:C}{o:Y D}{bC:aX}{many:av}{r:aX}{bG:gc}{gp:B aL}
noncomputable def Agree(xs:B C)(e bC:aX):Prop:=e.length=bC.length∧∀j,j∉xs→(e:B (Y D))[j]? =(bC:B (Y D))[j]?
theorem Agree.refl(xs:B C)(e:aX):Agree xs e e:=⟨rfl,λ _ _=>rfl⟩
theorem Agree.trans{a b d:aX}(x:Agree xs a b)(y:Agree xs b d):Agree xs a d:=⟨x.1.trans y.1,λ j h=>(x.2 j h).trans (y.2 j h)⟩
theorem Agree.set(h:i∈xs):Agree xs e (yK e i o):=⟨by simp,λ j bt=>by
 rw[tP];rintro rfl;exact bt h⟩
theorem Agree.both{x:C}(h:Agree (x::xs) e bC):Agree xs (yK e x o) (yK bC x o):=by
 refine⟨by simp[h.1],λ j bt=>?_⟩
 by_cases aA:x=j
 ·subst aA
  by_cases hl:x<e.length
  ·rw[yG hl,yG (h.1▸hl)]
  ·rw[Ca (by simp;omega),Ca (by simp[←h.1];omega)]
 ·rw[tP aA,tP aA]
  exact h.2 j (by simp only[kh,not_or];exact⟨λ q=>aA q.symm,bt⟩)
theorem Jr(h:Agree [] e bC):e=bC:=List.ext_getElem? λ j=>h.2 j (by simp)
theorem OW:∀{xs:B C} {l:B D} {e bC r:aX},Agree xs e bC→ti e xs l=some r→ti bC xs l=some r
 | [],[],e,bC,r,h,q=>by cases q;rw[Jr h];rfl
 | [],_::_,_,_,_,_,q=>by cases q
 |_::_,[],_,_,_,_,q=>by cases q
 |x::xs,a::l,e,bC,r,h,q=>OW (xs:=xs) (Agree.both h) q
theorem OX:∀{xs bf:B C} {l:B D} {e r:aX},(∀x∈xs,x∈bf)→ti e xs l=some r→Agree bf e r
 | [],_,[],e,r,_,q=>by cases q;exact .refl _ _
 | [],_,_::_,_,_,_,q=>by cases q
 |_::_,_,[],_,_,_,q=>by cases q
 |x::xs,bf,a::l,e,r,h,q=>(Agree.set (h x (.head _))).trans (OX (xs:=xs) (λ y bI=>h y (.tail _ bI)) q)
theorem Uo(h:Agree xs e bC)(q:di many xs a e=some r):di many xs a bC=some r:=by
 unfold di at q⊢
 split at q
 ·cases q
  rename_i x
  exact an some (Jr (Agree.both h)).symm
 ·exact OW h q
 ·cases q
theorem Up(q:di many xs a e=some r):Agree xs e r:=by
 unfold di at q
 split at q
 ·cases q;exact Agree.set (.head _)
 ·exact OX (λ _ h=>h) q
 ·cases q
noncomputable def zz(xs:B C)(e:aX):aX:=xs.foldl (λ e i=>yK e i none) e
theorem zA{bf:B C}:∀{xs:B C} {e:aX},(∀x∈xs,x∈bf)→Agree bf e (zz xs e)
 | [],_,_=>.refl _ _
 |x::xs,e,h=>(Agree.set (h x (.head _))).trans (zA (xs:=xs) λ y bI=>h y (.tail _ bI))
theorem Kq{i:C}{a:D}:∀{xs:B C} {e:aX},(e:B (Y D))[i]? ≠some (some a)→(zz xs e:B (Y D))[i]? ≠some (some a)
 | [],_,h=>h
 |x::xs,e,h=>Kq (xs:=xs) λ q=>by
  by_cases aA:x=i
  ·subst aA
   rw[Q1]at q
   split at q
   ·split at q<;>cases q
   ·exact absurd rfl ‹¬_›
  ·rw[tP aA]at q;exact h q
theorem Kp{i:C}{a:D}:∀{xs:B C} {e:aX},i∈xs→(zz xs e:B (Y D))[i]? ≠some (some a)
 |x::xs,e,h=>by
  rcases kh.mp h with rfl|h
  ·refine Kq (xs:=xs) (e:=yK e i none) λ q=>?_
   rw[Q1]at q
   split at q
   ·split at q<;>cases q
   ·exact absurd rfl ‹¬_›
  ·exact Kp (xs:=xs) h
noncomputable def gg(cells:B (aL×a8)):B (aL×mV)→B (aL×a8)→B (aL×a8)
 | [],acc=>acc
 | (z,k)::r,acc=>if k== .free then gg cells r ((z,(cells.lookup z).getD 0)::acc)else gg cells r acc
theorem U5{ai:eg}(h:∀x∈bG.names,x.2= .free→(ai.cells.lookup x.1).isSome=true):closureFor bG ai=pure (gg ai.cells bG.names []):=by
 unfold closureFor
 have:∀(names:B (aL×mV)) (acc:B (aL×a8)),(∀x∈names,x.2= .free→(ai.cells.lookup x.1).isSome=true)→
   (forIn names acc λ x Kz=>match x with
    | (name,kind)=>if(kind==tZ)=true then(do let a←cellOf ai name;pure (kV ((name,a)::Kz)))else pure (kV Kz):il (B (aL×a8)))=pure (gg ai.cells names acc):=by
  intro names
  induction names with
  |nil=>intro acc _;rfl
  |cons p r aZ=>
   obtain⟨z,k⟩:=p
   intro acc gM
   rw[HU]
   unfold gg
   by_cases hk:(k==tZ)=true
   ·obtain⟨a,bO⟩:=oT.mp (gM (z,k) (.head _) (jl.mp hk))
    have e:cellOf ai z=pure a:=by unfold cellOf;rw[bO]
    simp only[hk,if_true,e,pure_bind,bO,RA]
    exact aZ _ λ x aA=>gM x (.tail _ aA)
   ·simp only[hk,pure_bind,Hv,EB]
    exact aZ _ λ x aA=>gM x (.tail _ aA)
 have t:=this bG.names [] h
 simp only[]at t⊢
 rw[t]
 rfl
theorem zx{cells:B (aL×a8)}{x:aL}{q:a8}:∀{names:B (aL×mV)} {acc:B (aL×a8)},(∀y∈names,y.2= .free→(cells.lookup y.1).isSome=true)→(gg cells names acc).lookup x=some q→acc.lookup x=some q∨cells.lookup x=some q
 | [],_,_,h=>.inl h
 | (z,k)::r,acc,gM,h=>by
  unfold gg at h
  split at h
  ·rename_i hk
   obtain⟨a,bO⟩:=oT.mp (gM (z,k) (.head _) (jl.mp hk))
   rcases zx (λ y bI=>gM y (.tail _ bI)) h with e|e
   ·rw[l1]at e
    split at e
    ·rename_i aA
     cases e
     right
     rw[bO,RA,jl.mp aA]
     exact bO
    ·exact .inl e
   ·exact .inr e
  ·exact zx (λ y bI=>gM y (.tail _ bI)) h
theorem zy{cells:B (aL×a8)}{x:aL}:∀{names:B (aL×mV)} {acc:B (aL×a8)},names.lookup x=some .free∨(acc.lookup x).isSome=true→((gg cells names acc).lookup x).isSome=true
 | [],_,h=>h.elim (λ e=>by cases e) id
 | (z,k)::r,acc,h=>by
  unfold gg
  by_cases hk:(k==tZ)=true
  ·rw[if_pos hk]
   refine zy (names:=r) ?_
   by_cases aA:(x==z)=true
   ·exact .inr (by rw[l1,aA];rfl)
   ·refine h.imp (λ e=>?_) λ e=>?_
    ·rw[l1]at e;simpa only[aA]using e
    ·rw[l1];simpa only[aA]using e
  ·rw[if_neg hk]
   refine zy (names:=r) (h.imp (λ e=>?_) id)
   rw[l1]at e
   split at e
   ·cases e;exact absurd rfl hk
   ·exact e
noncomputable def pD(bG aS:gc):Scope:=wp bG {scope:=aS,locals:=0,globals:=0,cells:=[]}
theorem M5{g:aL→mV→mV}{x:aL}:∀{names:B (aL×mV)},(names.map λ p=>(p.1,g p.1 p.2)).lookup x=(names.lookup x).map (g x)
 | []=>rfl
 | (z,k)::r=>by
  rw[oN,l1,l1]
  by_cases h:(x==z)=true
  ·rw[h,jl.mp h];rfl
  ·simp only[Bool.not_eq_true]at h
   rw[h];exact M5
theorem On(bG:gc)(ai:eg)(x:aL):(wp bG ai).names.lookup x=(bG.names.lookup x).map λ k=>if(k==tZ&&ai.scope.kind== .function&&ai.kindOf x==some .cell)=true then .cell else k:=by
 rw[←M5 (g:=λ z k=>if(k==tZ&&ai.scope.kind== .function&&ai.kindOf z==some .cell)=true then .cell else k)]
 have:(wp bG ai).names=bG.names.map λ p=>(p.1,if(p.2==tZ&&ai.scope.kind== .function&&ai.kindOf p.1==some .cell)=true then .cell else p.2):=by
  unfold wp
  show eB _ _=eB _ _
  congr 1
  funext p
  obtain⟨z,k⟩:=p
  dsimp only
  split<;>rfl
 rw[this]
noncomputable def Dw(aS bG:gc):Bool:=
 bG.kind== .function&&(bG.names.all λ x=>x.2 != .cell)&&(bG.names.all λ x=>x.2 != .local||bG.names.lookup x.1==some .local)&&(bG.names.all λ x=>x.2 != .free||aS.names.lookup x.1==some .cell)
structure v0(aS bG:gc):Prop where
 kind:bG.kind= .function
 cell:∀x∈bG.names,x.2≠ .cell
 loc:∀x∈bG.names,x.2= .local→bG.names.lookup x.1=some .local
 free:∀x∈bG.names,x.2= .free→aS.names.lookup x.1=some .cell
theorem Kt{aS:gc}(h:Dw aS bG=true):v0 aS bG:=by
 unfold Dw at h
 simp only[jX,g',Bool.or_eq_true,jl,p8]at h
 obtain⟨⟨⟨ax,aH⟩,cI⟩,gh⟩:=h
 exact⟨ax,aH,λ x aA e=>(cI x aA).resolve_left λ q=>q e,λ x aA e=>(gh x aA).resolve_left λ q=>q e⟩
noncomputable def ic(aj:B (Y aL))(xs:B C)(gp:B aL)(bG:gc):B (Y aL):=
 (ck aj.length).map λ i=>if i∈xs then((xs.zip gp).lookup i)else match(aj:B (Y aL))[i]? with
  |some (some x)=>if bG.names.lookup x==some .free then some x else none
  |_=>none
theorem abM(aj:B (Y aL))(xs:B C)(gp:B aL)(bG:gc):(ic aj xs gp bG).length=aj.length:=by simp[ic]
theorem abN{aj:B (Y aL)}{x:aL}(h:(ic aj xs gp bG:B (Y aL))[i]? =some (some x))(ay:i∉xs):(aj:B (Y aL))[i]? =some (some x)∧bG.names.lookup x=some .free:=by
 unfold ic at h
 rw[qS]at h
 obtain⟨j,bt,e⟩:=l3.mp h
 have:j=i:=by
  rw[yF]at bt
  ·cases bt;rfl
  ·have:=(jZ.mp bt).1;simpa using this
 subst this
 rw[if_neg ay]at e
 split at e
 ·rename_i y wS
  split at e
  ·rename_i cl
   cases e
   exact⟨wS,jl.mp cl⟩
  ·cases e
 ·cases e
noncomputable def ts(aj:B (Y aL)):Bool:=decide ((aj.filterMap id).Nodup)
theorem GY:∀{aj:B (Y aL)},(aj.filterMap id).Nodup→∀(i j:C) x,(aj:B (Y aL))[i]? =some (some x)→(aj:B (Y aL))[j]? =some (some x)→i=j
 | [],_,i,_,_,h,_=>by simp at h
 |none::r,a1,i,j,x,ax,aH=>by
  cases i with
  |zero=>simp at ax
  |succ i=>
   cases j with
   |zero=>simp at aH
   |succ j=>rw[GY (aj:=r) (by simpa using a1) i j x (by simpa using ax) (by simpa using aH)]
 |some y::r,a1,i,j,x,ax,aH=>by
  have gw:y∉r.filterMap id∧(r.filterMap id).Nodup:=by simpa using a1
  have mem:∀{k:C},(r:B (Y aL))[k]? =some (some y)→False:=λ e=>gw.1 (List.mem_filterMap.mpr ⟨some y,h3 e,rfl⟩)
  cases i with
  |zero=>
   simp only[yD,yQ]at ax
   subst ax
   cases j with
   |zero=>rfl
   |succ j=>exact(mem (by simpa using aH)).elim
  |succ i=>
   cases j with
   |zero=>
    simp only[yD,yQ]at aH
    subst aH
    exact(mem (by simpa using ax)).elim
   |succ j=>rw[GY (aj:=r) gw.2 i j x (by simpa using ax) (by simpa using aH)]
theorem GX{aj:B (Y aL)}(h:ts aj=true):∀(i j:C) x,(aj:B (Y aL))[i]? =some (some x)→(aj:B (Y aL))[j]? =some (some x)→i=j:=GY (gi h)
section
variable{c:cV}{nm:B (B C)}{aj:B (Y aL)}{G:cA}{n:St}{s:a2}{A:eC}{ab:au→a2→Prop}{env:aX}{ai:eg}{m:aL→Y au}
theorem Va{V:a8}{H:dD}{c0:aL→Y au}{t:C}(F:c' c aj G env ai s.heap m)(I:Inv c nm G n s)(Z:v0 ai.scope bG)(dS:ts (ic aj xs gp bG)=true)(bV:s.heap.get? V=none)
  (hk:∀b o,s.heap.get? b=some o→H.get? b=some o)(cy:H.Ns V c0):c' c (ic aj xs gp bG) G (zz xs env) (compEnvC bG (gg ai.cells bG.names []) V ai) H c0∧Inv c nm G n {s with heap:=H,toks:=t}:=by
 have ch:cu (λ _=>False) s.heap H:=λ b o e _=>hk b o e
 have S:Step G s G {s with heap:=H,toks:=t}:=.more ch
 have g9:=F.step I S
 have z9:∀x∈bG.names,x.2= .free→(ai.cells.lookup x.1).isSome=true:=λ x aA e=>F.has _ (Z.free x aA e)
 have e5:∀{x q},(gg ai.cells bG.names []).lookup x=some q→ai.cells.lookup x=some q:=λ h=>(zx z9 h).elim (λ e=>by cases e) id
 refine⟨⟨?_,F.rd,F.blt,?_,cy,λ x q e=>g9.cells x q (e5 e),λ x y q aw aB=>F.apart x y q (e5 aw) (e5 aB),λ b o f=>?_,λ b o=>?_,GX dS,λ x e=>?_,λ i x a aA bO=>?_⟩,I.more ch⟩
 ·show(wp bG ai).kind= .function
  exact Z.kind
 ·rw[←(zA (bf:=xs) λ _ h=>h).1,F.len,abM]
 ·rcases o with rfl| ⟨x,e⟩
  ·obtain⟨o,e⟩:=I.wW f
   rw[bV]at e;cases e
  ·exact F.foot b (.inr ⟨x,e5 e⟩) f
 ·rcases o with rfl| ⟨x,e⟩
  ·cases e:c.h₀.get? b with
   |none=>rfl
   |some o=>have:=I.base _ _ e;rw[bV]at this;cases this
  ·exact F.out b (.inr ⟨x,e5 e⟩)
 ·have bC:((bG.names.lookup x).map λ k=>if(k==tZ&&ai.scope.kind== .function&&ai.kindOf x==some .cell)=true then .cell else k)=some .cell:=(On bG ai x)▸e
  obtain⟨k,n6,aB⟩:=l3.mp bC
  split at aB
  ·rename_i q
   simp only[jX,jl]at q
   exact zy (.inl (q.1.1▸n6))
  ·subst aB
   exact absurd rfl (Z.cell _ (mem_of_lookup n6))
 ·have ay:i∉xs:=λ q=>Kp q bO
  obtain⟨ax,aH⟩:=abN aA ay
  have Xp:(env:B (Y D))[i]? =some (some a):=by
   rw[(zA (bf:=xs) (e:=env) λ _ h=>h).2 i ay];exact bO
  have kp:=g9.vars i x a ax Xp
  have LF:=Z.free _ (mem_of_lookup aH) rfl
  obtain⟨q,dv⟩:=oT.mp (zy (cells:=ai.cells) (acc:=[]) (.inl aH))
  have XV:(compEnvC bG (gg ai.cells bG.names []) V ai).kindOf x=some .cell:=by
   show(wp bG ai).names.lookup x=_
   rw[On,aH]
   have aw:ai.kindOf x=some .cell:=LF
   simp[F.kind,aw]
  have aw:ai.kindOf x=some .cell:=LF
  exact kp.imp λ v kp=>⟨kp.1,kp.2.elim (λ w=>nomatch aw.symm.trans w.1) λ w=>.inr ⟨.inl XV,q,dv,w.2.elim λ ep w=>ej (w.1.symm.trans (e5 dv))▸w.2⟩⟩
end
end Mine
end
section
open PySem PySem.W PyProof.Rows
namespace Mine
variable{l:B D}{k:C}{h:dD}{b:a8}{H:dD}{X:a8→Prop}{fW:cA}{fn:a2}{a:D}{bv:cA}{a9:a2}{J:St}{ag:a8}{acc:B D}{L:C}{el:eg}{aF:aX}{xs:B C}
section
variable{prog:lx}{w:ez}{A:eC}{ab:au→a2→Prop}{R:yV→a2→Prop}{s:a2}
theorem U9{kw iS hy:bn}{eo:B bn}{scope:gc}{cg:hd}{bb acc:au}{env:eg}(I:C→a2→Prop)
  (afy:∀z s,I z s→bg (bc prog w) A (pyNext bb) (λ r aJ=>match r with
   |none=>R (.ok .next) aJ
   |some v=>bg (bc prog w) A (CN iS bb v) (λ _ Ph=>bg (bc prog w) A (assign iS env v) (λ _ b'=>
     bg (bc prog w) A (forIn eo true λ c r=>if r=true then do let ok←isTrue c env (eval c env);pure (kV ok)else pure (kV r)) (λ ok ju=>
      if ok=true then bg (bc prog w) A (eval kw env) (λ x tm=>
       bg (bc prog w) A (call (.builtin "list.append") [acc,x]) (λ _ yh=>∃m,m<z∧I m yh) (wo (bc prog w) A env λ e a9=>R (.error e) a9) tm) (wo (bc prog w) A env λ e a9=>R (.error e) a9) ju
      else∃m,m<z∧I m ju) (wo (bc prog w) A env λ e a9=>R (.error e) a9) b') (wo (bc prog w) A env λ e a9=>R (.error e) a9) Ph) (wo (bc prog w) A env λ e a9=>R (.error e) a9) aJ) (wo (bc prog w) A env λ e a9=>R (.error e) a9) s)
  (z:C)(h:I z s):t4 (bc prog w) A (.compLoop (.ListComp kw [⟨iS,hy,eo,0⟩] scope cg) 0 bb acc env) R s:=by
 refine codeAny_loop rfl I (λ z s dk=>?_) z h
 show bg _ A ((compTurn (.ListComp kw [⟨iS,hy,eo,0⟩] scope cg) 0 bb acc env).onRaise (λ x=>do noteFrame x env;theTreesLotGoes x)) _ _ s
 refine wpAny_noted ?_
 rw[compTurn_list]
 refine cK (sg (cK (fb (afy z s dk) (λ r aJ aI=>?_) λ _ _ H=>H)))
 cases r with
 |none=>exact eH aI
 |some v=>
  refine cK (fb aI (λ _ Ph aI=>?_) λ _ _ H=>H)
  refine cK (fb aI (λ _ b' bJ=>cK (fb bJ (λ ok ju cQ=>?_) λ _ _ H=>H)) λ _ _ H=>H)
  cases ok with
  |false=>exact eH ⟨rfl,cQ⟩
  |true=>
   exact cK (cK (fb cQ (λ x tm hP=>cK (fb hP (λ _ yh i5=>eH (eH ⟨rfl,i5⟩)) λ _ _ H=>H)) λ _ _ H=>H))
end
section
variable{c:cV}{nm:B (B C)}{aj:B (Y aL)}{G:cA}{n:St}{s:a2}{A:eC}{ab:au→a2→Prop}{env:aX}{ai:eg}{m:aL→Y au}
noncomputable def r0(ag ae bb:a8)(b:a8):Prop:=b=ag∨b=ae∨b=bb
theorem Lj{α:Type}{l r:B α}{x:α}(h:l.drop k=x::r):l[k]? =some x∧l.drop (k+1)=r:=by
 constructor
 ·have:=List.getElem?_drop (xs:=l) (i:=k) (j:=0)
  rw[h]at this
  simpa using this.symm
 ·have:(l.drop k).drop 1=r:=by rw[h];rfl
  rwa [List.drop_drop]at this
structure rY(c:cV)(nm:B (B C))(aj:B (Y aL))(fW:cA)(fn:a2)(xs:B C)(env:aX)(el:eg)(bb ag:a8)(a:D)(l:B D)(k:C)(acc:B D)(G:cA)(n:St)(s:a2):Prop where
 inv:Inv c nm G n s
 mf:∃aF m,Agree xs env aF∧c' c aj G aF el s.heap m
 at_:lq c G s.heap bb l k a
 out:∃bf d9,s.heap.get? ag=some {cls:=.type "list",data:=.seq bf d9}∧cs c G s.heap acc bf.toList∧bf.size≤k
 le:k≤l.length
 step:fj (r0 ag el.locals bb) fW fn G s
 base:∀b,r0 ag el.locals bb b→c.h₀.get? b=none
 ne:ag≠el.locals∧ag≠bb∧bb≠el.locals∧∀x q,el.cells.lookup x=some q→q≠ag∧q≠bb
structure lr(c:cV)(nm:B (B C))(X:a8→Prop)(fW:cA)(fn:a2)(bb:a8)(a:D)(l:B D)(k:C)(G:cA)(n:St)(s:a2):Prop where
 inv:Inv c nm G n s
 at_:lq c G s.heap bb l k a
 step:fj X fW fn G s
 base:c.h₀.get? bb=none
 BQ:X bb
theorem Fs(x:∃o,h.get? b=some o∧¬ik o)(o:fQ)(e:h.get? b=some o):¬ik o:=let⟨_,bC,z⟩:=x;(ej (e.symm.trans bC))▸z
theorem c'.zw{aj:B (Y aL)}{env:aX}{ai:eg}{G:cA}{m:aL→Y au}(F:c' c aj G env ai h m)(ch:cu X h H)(own:∀b,e3 ai b→¬X b)(d8:fX h H):c' c aj G env ai H m:=
 ⟨F.kind,F.rd,F.blt,F.len,tW.ch ch (own _ (.inl rfl)) F.ns,λ y q e=>let⟨v,cP⟩:=F.cells y q e;⟨v,tM.ch ch (own _ (.inr ⟨y,e⟩)) cP⟩,F.apart,F.foot,F.out,F.uniq,F.has,λ i y b ax aH=>
  (F.vars i y b ax aH).keep (.refl G) d8 (λ _=>id) λ q v e cP=>tM.ch ch (own _ (.inr ⟨y,e⟩)) cP⟩
theorem Inv.JI(I:Inv c nm G n s)(t:C)(ch:cu (λ q=>q=b) s.heap H)(off:¬eG G b)(base:c.h₀.get? b=none)(rz:∃o,s.heap.get? b=some o∧¬ik o):Inv c nm G n {s with heap:=H,toks:=t}∧fX s.heap H:=
 ⟨I.change ch (λ q e=>e▸off) (λ q e=>e▸base) λ q o e g=>Fs rz o (e▸g),λ q o e f=>ch q o e λ L=>Fs rz o (L▸e) f⟩
theorem lr.off{bb:a8}(cU:lr c nm X fW fn bb a l k G n s):¬eG G bb:=cU.step.off _ cU.BQ
theorem lr.chg{bb:a8}(cU:lr c nm X fW fn bb a l k G n s)(t:C)(ch:cu (λ b=>b=bb) s.heap H):Inv c nm G n {s with heap:=H,toks:=t}∧fX s.heap H∧fj X fW fn G {s with heap:=H,toks:=t}:=
 have L:=cU.inv.JI t ch cU.off cU.base cU.at_.live
 ⟨L.1,L.2,cU.step.trans (.ni (ch.mono λ _ q=>q▸cU.BQ) cU.step.off)⟩
theorem lr.br{bb:a8}(cU:lr c nm X fW fn bb a l k G n s)(t:C)(ch:cu (λ b=>b=bb) s.heap H)(T:lq c G H bb l (k+1) a):lr c nm X fW fn bb a l (k+1) G n {s with heap:=H,toks:=t}:=
 have L:=cU.chg t ch;⟨L.1,T,L.2.2,cU.base,cU.BQ⟩
theorem lr.ea{bb:a8}(cU:lr c nm X fW fn bb a l k G n s)(ey:Inv c nm bv J a9)(S:fj X G s bv a9)(d8:fX s.heap a9.heap)(e:∀o,s.heap.get? bb=some o→a9.heap.get? bb=some o):lr c nm X fW fn bb a l k bv J a9:=
 ⟨ey,cU.at_.keep S.ext.1 d8 e,cU.step.trans S,cU.base,cU.BQ⟩
noncomputable def tX(c:cV)(G:cA)(h:dD)(ag:a8)(acc:B D)(L:C):Prop:=∃bf d9,h.get? ag=some {cls:=.type "list",data:=.seq bf d9}∧cs c G h acc bf.toList∧bf.size≤L
theorem tX.keep(bL:tX c G h ag acc L)(lo:ha G bv)(d8:fX h H)(e:∀o,h.get? ag=some o→H.get? ag=some o):tX c bv H ag acc L:=let⟨bf,d9,aw,r,l⟩:=bL;⟨bf,d9,e _ aw,r.keep lo d8,l⟩
theorem tX.rz(bL:tX c G h ag acc L):∃o,h.get? ag=some o∧¬ik o:=let⟨_,_,e,_⟩:=bL;⟨_,e,λ f=>f.elim (λ f=>absurd f.1 (by simp)) λ f=>absurd f.1 (by simp)⟩
structure ke(c:cV)(nm:B (B C))(aj:B (Y aL))(fW:cA)(fn:a2)(el:eg)(bb ag:a8)(a:D)(l:B D)(k L:C)(acc:B D)(env:aX)(m:aL→Y au)(G:cA)(n:St)(s:a2):Prop where
 h:lr c nm (r0 ag el.locals bb) fW fn bb a l k G n s
 mf:c' c aj G env el s.heap m
 out:tX c G s.heap ag acc L
theorem ke.live{bb:a8}{env:aX}{m:aL→Y au}(ak:ke c nm aj fW fn el bb ag a l k L acc env m G n s):∀b,r0 ag el.locals bb b→¬eG G b∧∃o,s.heap.get? b=some o:=λ b az=>
 ⟨ak.h.step.off b az,az.elim (λ e=>e▸ak.out.rz.elim λ o q=>⟨o,q.1⟩) λ az=>az.elim (λ e=>e▸(e3.old ak.mf (.inl rfl)).elim λ o q=>⟨o,q.1⟩) λ e=>e▸ak.h.at_.live.elim λ o q=>⟨o,q.1⟩⟩
theorem ke.ea{bb:a8}{env:aX}{m:aL→Y au}(ak:ke c nm aj fW fn el bb ag a l k L acc env m G n s)(ey:Inv c nm bv J a9)(S:Step G s bv a9):ke c nm aj fW fn el bb ag a l k L acc env m bv J a9:=
 have d8:=ak.h.inv.nc S.ch
 ⟨ak.h.ea ey (.FJ S ak.live) d8 λ o e=>S.ch _ o e ak.h.off,ak.mf.step ak.h.inv S,ak.out.keep S.ext.1 d8 λ o e=>S.ch _ o e (ak.h.step.off _ (.inl rfl))⟩
theorem ke.asg{bb:a8}{env:aX}{m c0:aL→Y au}{t:C}(ak:ke c nm aj fW fn el bb ag a l k L acc env m G n s)(Fh:ag≠el.locals)(Fi:bb≠el.locals)(ch:cu (λ b=>b=el.locals) s.heap H)(F:c' c aj G aF el H c0)(I:Inv c nm G n {s with heap:=H,toks:=t}):ke c nm aj fW fn el bb ag a l k L acc aF c0 G n {s with heap:=H,toks:=t}:=
 have d8:=(ak.mf.wK (t:=t) ak.h.inv (ch.mono λ b q=>.inl q)).2
 ⟨ak.h.ea I (.ni (ch.mono λ b q=>.inr (.inl q)) ak.h.step.off) d8 λ o e=>ch _ o e Fi,F,ak.out.keep (.refl G) d8 λ o e=>ch _ o e Fh⟩
theorem rY.uj{bb:a8}{X:Prop}(cU:rY c nm aj fW fn xs env el bb ag a l k acc G n s)(f:∀aF m,Agree xs env aF→ke c nm aj fW fn el bb ag a l k k acc aF m G n s→X):X:=
 let⟨aF,m,mZ,F⟩:=cU.mf;f aF m mZ ⟨⟨cU.inv,cU.at_,cU.step,cU.base _ (.inr (.inr rfl)),.inr (.inr rfl)⟩,F,cU.out⟩
theorem ke.head{bb:a8}{m:aL→Y au}(ak:ke c nm aj fW fn el bb ag a l k L acc aF m G n s)(mZ:Agree xs env aF)(a3:L≤k)(le:k≤l.length)(base:∀b,r0 ag el.locals bb b→c.h₀.get? b=none)(ne:ag≠el.locals∧ag≠bb∧bb≠el.locals∧∀x q,el.cells.lookup x=some q→q≠ag∧q≠bb):rY c nm aj fW fn xs env el bb ag a l k acc G n s:=
 ⟨ak.h.inv,⟨aF,m,mZ,ak.mf⟩,ak.h.at_,let⟨bf,d9,e,r,q⟩:=ak.out;⟨bf,d9,e,r,a' q a3⟩,le,ak.h.step,base,ne⟩
theorem vj{p:a8}(ax:p≠el.locals)(aH:∀x q,el.cells.lookup x=some q→q≠p):∀b,e3 el b→¬b=p:=λ b o e=>o.elim (λ L=>ax (e.symm.trans L)) λ⟨y,L⟩=>aH y b L e
theorem ke.app{bb:a8}{y:D}{env:aX}{m:aL→Y au}{u:au}{Q:au→a2→Prop}(ak:ke c nm aj fW fn el bb ag a l k L acc env m G n s)(Fh:ag≠el.locals)(Fi:ag≠bb)(e5:∀x q,el.cells.lookup x=some q→q≠ag)(base:c.h₀.get? ag=none)(a3:L≤100000)(adK:bA c G s.heap y u)
  (f:∀v a9,ke c nm aj fW fn el bb ag a l k (L+1) (acc++[y]) env m G n a9→Q v a9):bg (bc c.prog c.w) A (call (.builtin "list.append") [.ref ag,u]) Q ab s:=by
 have⟨bf,d9,e,r,hl⟩:=ak.out
 refine append_at e (λ H hs j6=>?_) (by rw[lz];omega)
 have ch:cu (λ b=>b=ag) s.heap H:=cu.same hs rfl
 have off:=ak.h.step.off ag (.inl rfl)
 have L:=ak.h.inv.JI s.toks ch off base ak.out.rz
 have d8:=L.2
 have VM:(bf.push u).toList=bf.toList++[u]:=Ht
 exact f _ _ ⟨ak.h.ea L.1 (.ni (t:=s.toks) (ch.mono λ b q=>.inl q) ak.h.step.off) d8 λ o e=>ch _ o e λ q=>Fi q.symm,ak.mf.zw ch (vj Fh e5) d8,bf.push u,d9+1,j6,VM▸cs.append (r.keep (.refl _) d8) (cs.cons (adK.keep (.refl _) d8) cs.nil),Array.size_push u▸gq hl⟩
theorem U'{kw iS hy:bn}{eo:B bn}{bG:gc}{cg:hd}{bb:a8}{many:av}{R:yV→a2→Prop}
  {oz:aX→(av→St→Prop)→St→Prop}{kx:aX→dC→St→Prop}{ea:D→(B D→St→Prop)→St→Prop}{Q:B D→St→Prop}
  (gM:A.handled=none)(bD:rM aj el.scope many xs iS=true)(sJ:rt el.scope iS=true)(hl:l.length≤100000)
  (fZ:∀aF G n s m K g8,c' c aj G aF el s.heap m→Inv c nm G n s→oz aF K n→
   bg (bc c.prog c.w) A (forIn eo true λ c r=>if r=true then do let ok←isTrue c el (eval c el);pure (kV ok)else pure (kV r)) (kT c nm G s K) g8 s)
  (pe:∀aF G n s m Q g8,c' c aj G aF el s.heap m→Inv c nm G n s→kx aF Q n→bg (bc c.prog c.w) A (eval kw el) (Back c nm G s Q) g8 s)
  (sM:∀x K n,ea x K n→∃aF,di many xs x env=some aF∧oz aF (λ b bW=>if b=true then kx aF (λ r eP=>K [r] eP) bW else K [] bW) n)
  (fR:∀acc G n s m bf d9,Inv c nm G n s→fj (r0 ag el.locals bb) fW fn G s→s.heap.Ns el.locals m→s.heap.get? ag=some {cls:=.type "list",data:=.seq bf d9}→cs c G s.heap acc bf.toList→bf.size≤100000→Q acc n→R (.ok .next) s)
  {Av:C}{za:B D}(HH:rY c nm aj fW fn xs env el bb ag a l Av za G n s)(Lv:o' (live a l) ea (l.drop Av) za Q n):
  t4 (bc c.prog c.w) A (.compLoop (.ListComp kw [⟨iS,hy,eo,0⟩] bG cg) 0 (.ref bb) (.ref ag) el) R s:=by
 refine U9 (λ z s=>∃k acc G n,z=l.length-k∧rY c nm aj fW fn xs env el bb ag a l k acc G n s∧o' (live a l) ea (l.drop k) acc Q n) ?_ _ ⟨Av,za,G,n,rfl,HH,Lv⟩
 clear HH Lv Av za
 intro z s dk
 refine dk.elim λ k dk=>dk.elim λ acc dk=>dk.elim λ G dk=>dk.elim λ n dk=>?_
 have eR:=dk.1
 have cU:=dk.2.1
 have bV:=dk.2.2
 clear dk
 have iB:=cU.ne.1
 have ol:=cU.ne.2.2.1
 refine cU.uj λ VH m mZ ak=>?_
 cases a1:l.drop k with
 |nil=>
  rw[a1]at bV
  refine Mk gM cU.inv bV.1 cU.at_ (yE.mpr (QV.mp a1)) λ H b3=>?_
  have ch:cu (λ b=>b=bb) s.heap H:=λ b o e z=>b3 b o z e
  have L:=ak.h.chg s.toks ch
  have⟨bf,d9,aw,r,uI⟩:=cU.out
  exact fR acc G n _ m bf d9 L.1 L.2.2 (tW.ch ch (λ q=>ol q.symm) ak.mf.ns) (b3 ag _ cU.ne.2.1 aw) (r.keep (.refl G) L.2.1) (a' uI (a' cU.le hl)) bV.2
 |cons x r=>
  rw[a1]at bV
  have aA:=Lj a1
  have lt:=(jZ.mp aA.1).1
  have d4:k≤100000:=a' cU.le hl
  have aby:l.length- (k+1)<z:=eR▸Rv _ _ lt
  refine Mm cU.inv bV.1 cU.at_ aA.1 λ aI jV v Et bX qC=>?_
  refine(sM x _ n bV.2).elim λ uo uH=>?_
  have q6:cu (λ b=>b=bb) s.heap aI:=cu.same Et rfl
  have L:=ak.h.chg jV q6
  have Cm:ke c nm aj fW fn el bb ag a l (k+1) k acc VH m G n {s with heap:=aI,toks:=jV}:=⟨ak.h.br jV q6 bX,ak.mf.zw q6 (vj ol λ x q e=>(cU.ne.2.2.2 x q e).2) L.2.1,ak.out.keep (.refl G) L.2.1 λ o e=>q6 _ o e cU.ne.2.1⟩
  refine Mn (s:={s with heap:=aI,toks:=jV}) bX ?_
  refine C8 (s:={s with heap:=aI,toks:=jV}) gM Cm.mf Cm.h.inv bD (Uo mZ uH.1) qC λ bJ ym pu _ dW qP c1=>?_
  have Rh:=Cm.asg iB ol (dW sJ) qP c1
  have hM:∀{lC bv J a9 Hr},ke c nm aj fW fn el bb ag a l (k+1) Hr lC uo pu bv J a9→Hr≤k+1→o' (live a l) ea r lC Q J→∃m,m<z∧∃k acc G n,m=l.length-k∧rY c nm aj fW fn xs env el bb ag a l k acc G n a9∧o' (live a l) ea (l.drop k) acc Q n:=λ{lC bv J a9 Hr} Rf uO q=>⟨_,aby,k+1,lC,bv,J,rfl,Rf.head (Up uH.1) uO lt cU.base cU.ne,aA.2.symm▸q⟩
  refine fb (fZ uo G n _ pu _ _ qP c1 uH.2) (λ b ju az=>az.elim λ oH az=>az.elim λ bW az=>?_) λ _ _ y=>y
  have r5:=Rh.ea az.2.1 az.2.2
  cases b with
  |false=>exact(hM r5 (h5 k) (eZ acc▸az.1))
  |true=>exact fb (pe uo oH bW ju pu _ _ r5.mf az.2.1 az.1) (λ u tm az=>az.elim λ y az=>az.elim λ Hs az=>az.elim λ eP az=>(r5.ea az.2.2.1 az.2.2.2).app iB cU.ne.2.1 (λ x q e=>(cU.ne.2.2.2 x q e).1) (cU.base _ (.inl rfl)) d4 az.2.1 λ _ yh Cn=>hM Cn (cJ _) az.1) λ _ _ y=>y
end
end Mine
end
section
open PySem PySem.W PyProof.Rows
namespace Mine
variable{kw iS hy:bn}{eo:B bn}{bG:gc}{cg:hd}{xs:B C}{gp:B aL}{many:av}{oz:aX→(av→St→Prop)→St→Prop}{kx:aX→dC→St→Prop}{ea:D→(B D→St→Prop)→St→Prop}{W:dC}
section
variable{c:cV}{nm:B (B C)}{aj:B (Y aL)}{G:cA}{n:St}{s:a2}{A:eC}{ab:au→a2→Prop}{env:aX}{ai:eg}{m:aL→Y au}
theorem Kv{ag:a8}{acc:B D}{bv:cA}{J:St}{a9:a2}{bf:gS au}{d9:C}(I:Inv c nm bv J a9)(S:Step G s bv a9)(iw:k0<ag)(j5:s.heap.get? ag=none)(cl:¬eG bv ag)(az:c.h₀.get? ag=none)
  (e:a9.heap.get? ag=some {cls:=.type "list",data:=.seq bf d9})(r:cs c bv a9.heap acc bf.toList)(a3:bf.size≤100000):
  Inv c nm (bv++[(ag,ag)]) (J++[.li acc]) a9∧Step G s (bv++[(ag,ag)]) a9∧bA c (bv++[(ag,ag)]) a9.heap (.ref J.length) (.ref ag):=by
 refine⟨I.adopt iw iw ⟨cl,az⟩ ⟨cl,az⟩ ⟨rfl,?_,bf,d9,e,r.keep (ha.snoc _ _) λ _ _ e _=>e⟩,⟨⟨S.ext.1.trans (ha.snoc _ _),λ b f=>(uv f).elim (S.ext.2 b) λ q=>q.elim (λ q=>.inr (q▸j5)) λ q=>.inr (q▸j5)⟩,S.ch⟩,?_⟩
 ·have:=r.length
  rw[x3,←this]
  simp only[yv];omega
 ·exact⟨(ag,ag),by rw[←I.len];simp,rfl⟩
theorem Ku{acQ:hd}{use:Y (au→il p6)}{km:au→a2→Prop}
  {Q:B D→St→Prop}
  (gM:A.handled=none)(F:c' c aj G env ai s.heap m)(I:Inv c nm G n s)(Z:v0 ai.scope bG)(dS:ts (ic aj xs gp bG)=true)
  (bD:rM (ic aj xs gp bG) (pD bG ai.scope) many xs iS=true)(sJ:rt (pD bG ai.scope) iS=true)(hs:∀x,CL hy ai x=pure x)
  (dk:bg (bc c.prog c.w) A (eval hy ai) (Back c nm G s W) ab s)(sG:∀fN aa,W fN aa→∃l,hR aa fN=some l∧l.length≤100000∧o' (live fN l) ea l [] Q aa)
  (fZ:∀V aF G n s m K g8,c' c (ic aj xs gp bG) G aF (compEnvC bG (gg ai.cells bG.names []) V ai) s.heap m→Inv c nm G n s→oz aF K n→
   bg (bc c.prog c.w) A (forIn eo true λ c r=>if r=true then do let ok←isTrue c (compEnvC bG (gg ai.cells bG.names []) V ai) (eval c (compEnvC bG (gg ai.cells bG.names []) V ai));pure (kV ok)else pure (kV r)) (kT c nm G s K) g8 s)
  (pe:∀V aF G n s m Q g8,c' c (ic aj xs gp bG) G aF (compEnvC bG (gg ai.cells bG.names []) V ai) s.heap m→Inv c nm G n s→kx aF Q n→bg (bc c.prog c.w) A (eval kw (compEnvC bG (gg ai.cells bG.names []) V ai)) (Back c nm G s Q) g8 s)
  (sM:∀x K n,ea x K n→∃aF,di many xs x env=some aF∧oz aF (λ b bW=>if b=true then kx aF (λ r eP=>K [r] eP) bW else K [] bW) n)
  (Ek:∀ag V acc bv J a9 c0 bf d9,Inv c nm bv J a9→k0<ag→s.heap.get? ag=none→s.heap.get? V=none→ag≠V→c.h₀.get? V=none→c.h₀.get? ag=none→¬eG bv ag→¬eG bv V→Step G s bv a9→a9.heap.Ns V c0→a9.heap.get? ag=some {cls:=.type "list",data:=.seq bf d9}→
   cs c bv a9.heap acc bf.toList→bf.size≤100000→Q acc J→compPost (bc c.prog c.w) A ab use km (.ref ag) V (.ok .next) a9):
  bg (bc c.prog c.w) A (comprehension (.ListComp kw [⟨iS,hy,eo,0⟩] bG cg) bG ai acQ (newList []) false (eval hy ai) use) km ab s:=by
 have z9:∀x∈bG.names,x.2= .free→(ai.cells.lookup x.1).isSome=true:=λ x aA e=>F.has _ (Z.free x aA e)
 refine wpAny_comprehension_free (use:=use) rfl hs (U5 z9) Z.kind Z.loc (fb dk (λ v aJ az=>?_) λ _ _ y=>y)
 obtain⟨fN,bQ,aa,cS,hG,ce,bU⟩:=az
 obtain⟨l,hl,i4,bV⟩:=sG fN aa cS
 have pN:=F.step I bU
 refine Ml ce hl hG λ bb bJ nW m9 cL=>?_
 have ahi:∀{b},aJ.heap.objs.size≤b→aJ.heap.get? b=none:=λ az=>by
  cases e:aJ.heap.get? _ with
  |none=>rfl
  |some o=>exact absurd (mU e) (r7.mpr az)
 have Oy:∀{H:dD},cu (λ _=>False) aJ.heap H→aJ.heap.get? H.objs.size=none:=λ ch=>n1 λ b o e=>ch b o e id
 refine Je ?_
 have q7:cu (λ _=>False) bJ (bJ.push {cls:=.type "list",data:=.seq ([]:B au).toArray}):=cu.push _ _
 have Lw:(bJ.push {cls:=.type "list",data:=.seq ([]:B au).toArray}).get? bJ.objs.size=some {cls:=.type "list",data:=.seq ([]:B au).toArray}:=nK _ rfl
 have Ea:bJ.objs.size≠(bJ.push {cls:=.type "list",data:=.seq ([]:B au).toArray}).objs.size:=by rw[RR];exact mS (qU _)
 show bg _ _ _ _ _ {aJ with heap:=bJ.push {cls:=.type "list",data:=.seq ([]:B au).toArray}}
 generalize bJ.push {cls:=.type "list",data:=.seq ([]:B au).toArray}=cQ at q7 Lw Ea
 refine wpAny_newFunctionEnv Z.cell (by intro y bI;simp at bI) (λ hP uL Ab=>?_) Z.kind
 dsimp only at uL Ab
 have wJ:cu (λ _=>False) cQ hP:=λ b o e _=>Ab.extBut b o (mS (mU e)) (lv _ e)
 have Zj:cu (λ _=>False) aJ.heap hP:=(nW.trans q7).trans wJ
 have h1:Inv c nm bQ aa {aJ with heap:=cQ}:=ce.more (t:=aJ.toks) (nW.trans q7)
 have iq:Step bQ aJ bQ {aJ with heap:=cQ}:=.more (t:=aJ.toks) (nW.trans q7)
 have tJ:=pN.step ce iq
 have Xe:cQ.get? cQ.objs.size=none:=n1 λ _ _ e=>e
 obtain⟨QE,pR⟩:=Va (xs:=xs) (gp:=gp) (t:=aJ.toks+([]:B (aL×au)).length) tJ h1 Z dS Xe (λ b o e=>wJ b o e id) uL
 have z5:aJ.heap.get? bJ.objs.size=none:=Oy nW
 have D':aJ.heap.get? cQ.objs.size=none:=Oy (nW.trans q7)
 have fresh:∀{b},aJ.heap.get? b=none→s.heap.get? b=none∨eG G b:=λ{b} az=>by
  cases e:s.heap.get? b with
  |none=>exact .inl rfl
  |some o=>
   by_cases f:eG G b
   ·exact .inr f
   ·rw[bU.ch b o e f]at az;cases az
 have ND:∀{b},aJ.heap.get? b=none→¬eG bQ b:=λ az f=>by obtain⟨o,e⟩:=ce.wW f;rw[e]at az;cases az
 have Lb:∀{b},aJ.heap.get? b=none→s.heap.get? b=none:=λ az=>(fresh az).elim id λ f=>absurd (bU.ext.1.foot f) (ND az)
 have Fu:∀{b},aJ.heap.get? b=none→c.h₀.get? b=none:=λ{b} az=>by
  cases e:c.h₀.get? b with
  |none=>rfl
  |some o=>rw[ce.base b o e]at az;cases az
 have nX:∀b,r0 bJ.objs.size cQ.objs.size bb b→aJ.heap.get? b=none:=by
  rintro b (rfl|rfl|rfl)
  ·exact z5
  ·exact D'
  ·exact m9
 obtain⟨ahj,un,K4⟩:=cL.live
 have Ze:bb<bJ.objs.size:=mU un
 have Zf:bb<cQ.objs.size:=mU (q7 _ _ un id)
 have cU:rY c nm (ic aj xs gp bG) bQ aJ xs env (compEnvC bG (gg ai.cells bG.names []) cQ.objs.size ai) bb bJ.objs.size fN l 0 [] bQ aa {aJ with heap:=hP,toks:=aJ.toks+([]:B (aL×au)).length}:=by
  refine⟨pR,⟨_,_,zA λ _ h=>h,QE⟩,cL.keep (.refl _) (λ b o e _=>(q7.trans wJ) b o e id) λ o e=>(q7.trans wJ) _ o e id,⟨_,0,wJ _ _ Lw id,cs.nil,cJ _⟩,fu _,⟨.refl _ _,Zj.all,λ b az=>ND (nX b az)⟩,λ b az=>Fu (nX b az),Ea,Cp Ze,mS Zf,λ x q e=>?_⟩
  have bC:ai.cells.lookup x=some q:=(zx z9 e).elim (λ e=>by cases e) id
  obtain⟨v,o,uq,_⟩:=pN.cells x q bC
  exact⟨λ L=>(by rw[L,z5]at uq;cases uq),λ L=>(by rw[L,m9]at uq;cases uq)⟩
 have AB:t4 (bc c.prog c.w) A (.compLoop (.ListComp kw [⟨iS,hy,eo,0⟩] bG cg) 0 (.ref bb) (.ref bJ.objs.size) (compEnvC bG (gg ai.cells bG.names []) cQ.objs.size ai))
   (compPost (bc c.prog c.w) A ab use km (.ref bJ.objs.size) cQ.objs.size) {aJ with heap:=hP,toks:=aJ.toks+([]:B (aL×au)).length}:=by
  refine U' gM bD sJ i4 (fZ _) (pe _) sM (λ acc bv J a9 c0 bf d9 ey CY X9 Ec bw uO Yj=>?_) cU bV
  exact Ek _ _ acc bv J a9 c0 bf d9 ey (ce.qm λ b o e=>nW b o e id) (Lb z5) (Lb D') Ea (Fu D') (Fu z5) (CY.off _ (.inl rfl)) (CY.off _ (.inr (.inl rfl))) (bU.trans (CY.toStep nX)) X9 Ec bw uO Yj
 exact codeAny_compStart_list AB (Y' cU.at_ AB)
theorem Vb
  {Q:dC}
  (gM:A.handled=none)(F:c' c aj G env ai s.heap m)(I:Inv c nm G n s)(Z:v0 ai.scope bG)(dS:ts (ic aj xs gp bG)=true)
  (bD:rM (ic aj xs gp bG) (pD bG ai.scope) many xs iS=true)(sJ:rt (pD bG ai.scope) iS=true)(hs:∀x,CL hy ai x=pure x)
  (dk:bg (bc c.prog c.w) A (eval hy ai) (Back c nm G s W) ab s)(sG:∀fN aa,W fN aa→∃l,hR aa fN=some l∧l.length≤100000∧o' (live fN l) ea l [] (λ acc ao=>Q (.ref ao.length) (ao++[.li acc])) aa)
  (fZ:∀V aF G n s m K g8,c' c (ic aj xs gp bG) G aF (compEnvC bG (gg ai.cells bG.names []) V ai) s.heap m→Inv c nm G n s→oz aF K n→
   bg (bc c.prog c.w) A (forIn eo true λ c r=>if r=true then do let ok←isTrue c (compEnvC bG (gg ai.cells bG.names []) V ai) (eval c (compEnvC bG (gg ai.cells bG.names []) V ai));pure (kV ok)else pure (kV r)) (kT c nm G s K) g8 s)
  (pe:∀V aF G n s m Q g8,c' c (ic aj xs gp bG) G aF (compEnvC bG (gg ai.cells bG.names []) V ai) s.heap m→Inv c nm G n s→kx aF Q n→bg (bc c.prog c.w) A (eval kw (compEnvC bG (gg ai.cells bG.names []) V ai)) (Back c nm G s Q) g8 s)
  (sM:∀x K n,ea x K n→∃aF,di many xs x env=some aF∧oz aF (λ b bW=>if b=true then kx aF (λ r eP=>K [r] eP) bW else K [] bW) n):
  bg (bc c.prog c.w) A (eval (.ListComp kw [⟨iS,hy,eo,0⟩] bG cg) ai) (Back c nm G s Q) ab s:=by
 rw[eval_ListComp]
 refine Ku gM F I Z dS bD sJ hs dk sG fZ pe sM λ ag V acc bv J a9 c0 bf d9 ey iw j5 bV z6 Ef Eg Ej Ei fC cy j6 r a3 dv=>?_
 refine⟨c0,cy,λ H jM=>?_⟩
 have ch:cu (λ b=>b=V) a9.heap H:=cu.same jM rfl
 obtain⟨xL,O,hL,wR,wN,_⟩:=cy
 have d8:fX a9.heap H:=fX.same wR (pw wN) jM
 have nC:Inv c nm bv J {a9 with heap:=H}:=ey.change (t:=a9.toks) ch (λ b q=>q▸Ei) (λ b q=>q▸Ef) λ b o q e=>by subst q;rw[wR]at e;cases e;exact pw wN
 have Sn:Step G s bv {a9 with heap:=H}:=⟨fC.ext,λ b o e z=>ch b o (fC.ch b o e z) λ q=>by rw[q,bV]at e;cases e⟩
 obtain⟨hf,ir,k3⟩:=Kv nC Sn iw j5 Ej Eg (ch _ _ j6 z6) (r.keep (.refl _) d8) a3
 exact⟨_,_,_,dv,k3,hf,ir⟩
theorem U8{AZ O4:hd}{x:aL}{i:C}
  {cb:iX}{cF:dC}
  (sN:y4 (.ListComp kw [⟨iS,hy,eo,0⟩] bG cg) (some (.Name x AZ)) O4.line ai=pure true)
  (aA:(aj:B (Y aL))[i]? =some (some x))(n9:tl ai.scope x=true)
  (gM:A.handled=none)(F:c' c aj G env ai s.heap m)(I:Inv c nm G n s)(Z:v0 ai.scope bG)(dS:ts (ic aj xs gp bG)=true)
  (bD:rM (ic aj xs gp bG) (pD bG ai.scope) many xs iS=true)(sJ:rt (pD bG ai.scope) iS=true)(hs:∀x,CL hy ai x=pure x)
  (dk:bg (bc c.prog c.w) A (eval hy ai) (Back c nm G s W) ab s)(sG:∀fN aa,W fN aa→∃l,hR aa fN=some l∧l.length≤100000∧o' (live fN l) ea l [] (λ acc ao=>cb (iR env i (.ref ao.length)) (ao++[.li acc])) aa)
  (fZ:∀V aF G n s m K g8,c' c (ic aj xs gp bG) G aF (compEnvC bG (gg ai.cells bG.names []) V ai) s.heap m→Inv c nm G n s→oz aF K n→
   bg (bc c.prog c.w) A (forIn eo true λ c r=>if r=true then do let ok←isTrue c (compEnvC bG (gg ai.cells bG.names []) V ai) (eval c (compEnvC bG (gg ai.cells bG.names []) V ai));pure (kV ok)else pure (kV r)) (kT c nm G s K) g8 s)
  (pe:∀V aF G n s m Q g8,c' c (ic aj xs gp bG) G aF (compEnvC bG (gg ai.cells bG.names []) V ai) s.heap m→Inv c nm G n s→kx aF Q n→bg (bc c.prog c.w) A (eval kw (compEnvC bG (gg ai.cells bG.names []) V ai)) (Back c nm G s Q) g8 s)
  (sM:∀x K n,ea x K n→∃aF,di many xs x env=some aF∧oz aF (λ b bW=>if b=true then kx aF (λ r eP=>K [r] eP) bW else K [] bW) n):
  bg (bc c.prog c.w) A (exec (.Assign [.Name x AZ] (.ListComp kw [⟨iS,hy,eo,0⟩] bG cg) O4) ai) (mY c nm aj ai G s cb cF) ab s:=by
 rw[exec_Assign_Name_used _ _ _ _ sN]
 refine cK (sg (cK ?_))
 show bg _ A (do let _←comprehension (.ListComp kw [⟨iS,hy,eo,0⟩] bG cg) bG ai _ (newList []) false (eval hy ai) (some (assign (.Name x AZ) ai))) _ _ s
 refine cK (fb (Q:=λ _ a9=>mY c nm aj ai G s cb cF .next a9) ?_ (λ _ a9 dv=>eH (eH dv)) λ _ _ e=>e)
 refine Ku gM F I Z dS bD sJ hs dk sG fZ pe sM λ ag V acc bv J a9 c0 bf d9 ey iw j5 bV z6 Ef Eg Ej Ei fC cy j6 r a3 dv=>?_
 show bg _ A (assign (.Name x AZ) ai (.ref ag)) _ _ a9
 obtain⟨hf,ir,k3⟩:=Kv ey fC iw j5 Ej Eg j6 r a3
 have g9:=F.step I ir
 refine R' (Gy g9 hf aA (Gx n9 F.has) k3 λ H t xy c2 _ kf nC=>?_)
 have Eb:¬e3 ai V:=λ q=>by
  obtain⟨o,e,_⟩:=e3.old F q
  rw[bV]at e;cases e
 refine⟨c0,tW.ch c2 Eb cy,λ bJ xa=>?_⟩
 have X':=tW.ch c2 Eb cy
 obtain⟨xL,O,hL,wR,wN,_⟩:=X'
 have ch:cu (λ b=>b=V) H bJ:=cu.same xa rfl
 have d8:fX H bJ:=fX.same wR (pw wN) xa
 have XH:¬eG (bv++[(ag,ag)]) V:=λ f=>(uv f).elim Ei λ q=>q.elim (λ q=>z6 q.symm) λ q=>z6 q.symm
 have h1:Inv c nm (bv++[(ag,ag)]) (J++[.li acc]) {a9 with heap:=bJ,toks:=t}:=Inv.change (s:={a9 with heap:=H,toks:=t}) nC ch (λ b q=>q▸XH) (λ b q=>q▸Ef) λ b o q e=>by subst q;rw[wR]at e;cases e;exact pw wN
 have own:∀b,e3 ai b→b≠V:=λ b o q=>Eb (q▸o)
 have tJ:c' c aj (bv++[(ag,ag)]) (iR env i (.ref J.length)) ai bJ xy:=
  ⟨kf.kind,kf.rd,kf.blt,kf.len,tW.ch ch (own _ (.inl rfl)) kf.ns,λ y q e=>let⟨v,cP⟩:=kf.cells y q e;⟨v,tM.ch ch (own _ (.inr ⟨y,e⟩)) cP⟩,kf.apart,kf.foot,kf.out,kf.uniq,kf.has,λ j y b ax aH=>
   (kf.vars j y b ax aH).keep (.refl _) d8 (λ _=>id) λ q v e cP=>tM.ch ch (own _ (.inr ⟨y,e⟩)) cP⟩
 refine⟨_,_,_,_,dv,tJ,h1,?_⟩
 have Sx:fj (e3 ai) G s (bv++[(ag,ag)]) a9:=.FJ ir λ b o=>⟨F.foot b o,let⟨x,e,_⟩:=e3.old F o;⟨x,e⟩⟩
 have sl:fj (e3 ai) G s (bv++[(ag,ag)]) {a9 with heap:=H,toks:=t}:=Sx.trans (.ni c2 g9.foot)
 refine⟨sl.ext,λ b o e z=>ch b o (sl.ch b o e z) λ q=>?_,sl.off⟩
 rw[q,bV]at e;cases e
end
end Mine
end
section
open PySem PySem.W PyProof.Rows
namespace Mine
variable{rS:bn}{cg:hd}{Q:au→a2→Prop}{e:bn}{v:au}{K dn:Type}{f:dn→K}{h:dD}{ag:a8}{ea:B bn→(B D→St→Prop)→St→Prop}
section
variable{prog:lx}{w:ez}{A:eC}{ab:au→a2→Prop}{s:a2}{env:eg}
theorem ae6{o i:au}(tk:bn):∃ar,subscripted tk false o i=operate ar (t6 o i):=by
 cases tk with
 |Slice a b c p=>cases c<;>exact⟨_,rfl⟩
 |_=>exact⟨_,rfl⟩
theorem Bq{tk:bn}
  (h:bg (bc prog w) A (eval rS env) (λ o aJ=>bg (bc prog w) A (eval tk env) (λ i b'=>wj (bc prog w) A o i Q ab b') ab aJ) ab s):bg (bc prog w) A (eval (.Subscript rS tk cg) env) Q ab s:=by
 rw[eval_Subscript]
 refine cK (fb h (λ o aJ aI=>cK (sf (fb aI (λ i b' bJ=>cK (sg ?_)) λ _ _ x=>x))) λ _ _ x=>x)
 refine bJ.elim λ T bJ=>bJ.elim λ id bJ=>cK ((getitemInPython_of_ne bJ.2.1.not_modules).symm▸cK (CS bJ.2.1 bJ.1 ?_))
 have hM:bg (bc prog w) A (subscripted tk false o i) (λ r ju=>bg (bc prog w) A (letTemporaryGo rS o r>>=λ _=>pure r) Q ab ju) ab b':=
  (ae6 tk).elim λ ar e=>e.symm▸wpAny_operating (fb bJ.2.2 (λ r ju cQ=>cK (Sh (eH cQ))) λ _ _ x=>x)
 first
  |exact eH (cK hM)
  |exact cK (eH (cK hM))
  |exact cK hM
theorem S7{gW:aL}(az:I0 rS gW env (eval rS env)=eval rS env)
  (h:bg (bc prog w) A (eval rS env) (λ o aJ=>bg (bc prog w) A (getAttr o gW true) Q ab aJ) ab s):bg (bc prog w) A (eval (.Attribute rS gW cg) env) Q ab s:=by
 rw[arm_eval_Attribute,az]
 exact cK (fb h (λ o aJ aI=>cK (sg (cK (sf (fb aI (λ r b' bJ=>cK (Sh (eH bJ))) λ _ _ x=>x))))) λ _ _ x=>x)
theorem J2{op:CA}{cg:hd}{x y:il au}{r:B (il au)}{Q:au→a2→Prop}
  (h:bg (bc prog w) A x (λ v aJ=>bg (bc prog w) A (y5 v) (λ b b'=>match op,b with| .And,false| .Or,true=>Q v b'|_,_=>bg (bc prog w) A (yY cg op (y::r)) Q ab b') ab aJ) ab s):
  bg (bc prog w) A (yY cg op (x::y::r)) Q ab s:=by
 refine cK (fb h (λ v aJ aI=>cK (sg (cK (sf (fb aI (λ b b' bJ=>?_) λ _ _ x=>x))))) λ _ _ x=>x)
 cases op<;>cases b<;>first|exact eH bJ|exact bJ
theorem J3{op:CA}{x:il au}(h:bg (bc prog w) A x Q ab s):bg (bc prog w) A (yY cg op [x]) Q ab s:=h
noncomputable def FV(x:bn):Bool:=!(kj x.ctorIdx 0||(kj x.ctorIdx 3||(kj x.ctorIdx 5||kj x.ctorIdx 15)))
theorem afg(bM:FV e=true):isTrue e env (eval e env)=(do let v←eval e env;CP e.pos;holding [v] (y5 v)):=by
 cases e<;>first|rfl|exact jw (show false=true from bM)
theorem afh{Q:av→a2→Prop}(bM:FV e=true)(h:bg (bc prog w) A (eval e env) (λ v aJ=>bg (bc prog w) A (y5 v) Q ab aJ) ab s):bg (bc prog w) A (isTrue e env (eval e env)) Q ab s:=
 afg bM▸cK (fb h (λ v aJ aI=>cK (sg (sf aI))) λ _ _ x=>x)
theorem aff{l r:bn}{op:CmpOp}{BH:il au}{Q:av→a2→Prop}(hm:I1 op r=false)
  (h:bg (bc prog w) A (eval l env) (λ a aJ=>bg (bc prog w) A (eval r env) (λ b b'=>bg (bc prog w) A (t5 op a b) (λ c ju=>bg (bc prog w) A (y5 c) Q ab ju) ab b') ab aJ) ab s):
  bg (bc prog w) A (isTrue (.Compare l [op] [r] cg) env BH) Q ab s:=by
 rw[arm_isTrue_Compare]
 show bg _ A (do testChain cg (←eval l env) [op] [markedBehindIn op r (eval r env)]) Q ab s
 rw[markedBehindIn_of_false hm]
 exact cK (fb h (λ a aJ aI=>test_last aI) λ _ _ x=>x)
end
section
variable{c:cV}{nm:B (B C)}{aj:B (Y aL)}{G bQ:cA}{n:St}{s aJ:a2}{A:eC}{ab:au→a2→Prop}{env:aX}{ai:eg}{m:aL→Y au}
noncomputable def Hu(c:cV)(nm:B (B C))(G:cA)(s:a2)(Q:B D→St→Prop)(ar:B au)(a9:a2):Prop:=
 ∃as bv J,Q as J∧cs c bv a9.heap as ar∧Inv c nm bv J a9∧Step G s bv a9
theorem ae5{a k r:D}{u:au}{Q:dC}(h:de n a k=some r)(x:bA c G s.heap a v)(y:bA c G s.heap k u)(bz:Q r n)(I:Inv c nm G n s):wj (bc c.prog c.w) A v u (Back c nm G s Q) ab s:=by
 have g:=L5 (A:=A) (ab:=ab) h x y bz I
 have ag:∀{b:a8},s.TypeIs (.ref b) "dict"→bg (bc c.prog c.w) A (t6 (.ref b) u) (Back c nm G s Q) ab s→wj (bc c.prog c.w) A (.ref b) u (Back c nm G s Q) ab s:=λ fZ g=>⟨"dict",_,PySem.F.slot_dict_getitem.lookup,fZ,g⟩
 clear y bz
 revert g
 cases a with
 |tup l=>exact x.elim λ b x=>x.elim λ items x=>x.1▸λ g=>⟨"tuple",_,PySem.F.slot_tuple_getitem.lookup,x.2.1.typeIs,g⟩
 |ss w=>exact x.elim λ t e=>e▸λ g=>⟨"str",_,RP.lookup,typeIs_str _ _ _,g⟩
 |cd O=>exact x.elim λ b x=>x.1▸λ g=>x.2.2.elim λ f x=>x.1.elim λ o m=>m.elim λ jJ m=>m.elim λ hL m=>ag (Heap.MapOf.typeIs (knd:=gs c.prog c.w) (f:=f) ⟨o,jJ,hL,I.base _ _ m.1,m.2⟩) g
 |ref z=>
  refine x.elim λ p x=>x.2▸λ g=>(I.xM x.1).elim λ o be=>?_
  have h:rj k (some o)=some r:=be.1▸(show rj k n[z]? =some r from h)
  have ee:=be.2
  cases o with
  |li xs=>exact(rq I x.1 be.1).2.2.elim λ items q=>q.elim λ d9 q=>⟨"list",_,IB.lookup,q.2.1.typeIs,g⟩
  |ds O=>exact ee.2.elim λ cZ d=>ag d.1.typeIs g
  |cq O=>exact ee.2.elim λ cZ d=>ag d.1.typeIs g
  |_=>exact nomatch h
 |_=>exact nomatch h
theorem aeZ[jx K]{cZ:B (K×au)}{k:K}(h:k∉cZ.map (·.1)):CQ cZ k v=cZ++[(k,v)]:=by
 unfold CQ
 rw[if_neg]
 intro q
 obtain⟨p,bM,e⟩:=List.any_eq_true.mp q
 exact h (hu.mpr ⟨p,bM,gi e⟩)
theorem aaS[jx K](more:B (K×au)):∀{cZ:B (K×au)},((cZ++more).map (·.1)).Nodup→merged cZ more=cZ++more:=by
 induction more with
 |nil=>exact λ{cZ} _=>(eZ cZ).symm
 |cons p more aZ=>
  refine λ{cZ} h=>?_
  have e:cZ++p::more=(cZ++[p])++more:=(jy cZ [p] more).symm
  have hk:p.1∉cZ.map (·.1):=λ q=>(Ce.mp ((nF (f:=λ p:K×au=>p.1))▸h)).2.2 p.1 q p.1 (.head _) rfl
  exact(an (merged · more) (aeZ hk)).trans ((aZ (e▸h)).trans e.symm)
theorem fq.zip{R:D→au→Prop}(ks:B dn):∀{as:B D} {ar:B au},ks.length=as.length→(as.length=ar.length)→(∀(i:C) a v,as[i]? =some a→ar[i]? =some v→R a v)→fq f R (ks.zip as) ((ks.map f).zip ar):=by
 induction ks with
 |nil=>exact λ _ _ _=>rfl
 |cons k ks aZ=>
  intro as ar ax aH h
  cases as with
  |nil=>cases ax
  |cons a as=>cases ar with
   |nil=>cases aH
   |cons v ar=>exact⟨v,_,rfl,h 0 a v rfl rfl,aZ (oS ax) (oS aH) λ i b u aw aB=>h (i+1) b u aw aB⟩
theorem cs.at{as:B D}{ar:B au}(r:cs c G h as ar)(i:C)(a:D)(v:au)(aw:as[i]? =some a)(aB:ar[i]? =some v):bA c G h a v:=
 (r.get aw).elim λ u q=>ej (q.1.symm.trans aB)▸q.2
theorem DC[jx K]{knd:KeyKind c.prog c.w K}(e:h.get? ag=some ly):h.DictOf knd ag []:=by
 refine⟨_,#[],0,e,⟨rfl,rfl,rfl⟩,rfl,?_,?_,Cf⟩
 ·intro x aA;simp at aA
 ·exact .nil
noncomputable def yA(c:cV)(ai:eg)(A:eC)(ab:au→a2→Prop)[jx K](knd:KeyKind c.prog c.w K)(k:K)(na:bn):Prop:=
 ∀(s:a2) (Q:au→a2→Prop),(∀v t,knd.is k v=true→Q v {s with toks:=t})→bg (bc c.prog c.w) A (eval na ai) Q ab s
noncomputable def CW(c:cV)(nm:B (B C))(aj:B (Y aL))(env:aX)(ai:eg)(A:eC)(ab:au→a2→Prop)(ea:B bn→(B D→St→Prop)→St→Prop)(e:bn)(r:B bn):Prop:=
 ∀G n s m Q,c' c aj G env ai s.heap m→Inv c nm G n s→ea (e::r) Q n→bg (bc c.prog c.w) A (eval e ai) (Back c nm G s λ v aa=>ea r (λ ar ao=>Q (v::ar) ao) aa) ab s
structure RE(c:cV)(nm:B (B C)){K:Type}[jx K](knd:KeyKind c.prog c.w K)(ks:B K)(G:cA)(s:a2)(Q:B D→St→Prop)(ar:B (au×au))(a9:a2)(dg:B au)(as:B D)(bv:cA)(J:St):Prop where
 Kd:Carries knd ar (ks.zip dg)
 len:ar.length=dg.length
 q:Q as J
 vO:cs c bv a9.heap as dg
 inv:Inv c nm bv J a9
 ea:Step G s bv a9
noncomputable def RD(c:cV)(nm:B (B C))[jx K](knd:KeyKind c.prog c.w K)(ks:B K)(G:cA)(s:a2)(Q:B D→St→Prop)(ar:B (au×au))(a9:a2):Prop:=∃dg as bv J,RE c nm knd ks G s Q ar a9 dg as bv J
noncomputable def FR(ai:eg)(cg:hd)(p:bn×bn):il au×il Value:=(eval p.1 ai,do let x←eval p.2 ai;CP cg;pure x)
theorem act[jx K]{knd:KeyKind c.prog c.w K}(ec:∀Q n,ea [] Q n→Q [] n)(ks:B K):∀{fe f6:B bn} {Q:B D→St→Prop} {G:cA} {n:St} {s:a2} {m:aL→Y au},
  c' c aj G env ai s.heap m→Inv c nm G n s→ks.length=fe.length→fe.length=f6.length→(∀(i:C) k na,ks[i]? =some k→fe[i]? =some na→yA c ai A ab knd k na)→(∀e r,(e::r)<:+f6→CW c nm aj env ai A ab ea e r)→ea f6 Q n→
  bg (bc c.prog c.w) A (evalPairs ((fe.zip f6).map (FR ai cg))) (RD c nm knd ks G s Q) ab s:=by
 induction ks with
 |nil=>
  intro fe f6 Q G n s m F I ax aH hk cP h
  cases fe with
  |nil=>cases f6 with
   |nil=>exact evalPairs_nil ⟨[],[],G,n,trivial,rfl,ec _ _ h,rfl,I,.refl _ _⟩
   |cons _ _=>cases aH
  |cons _ _=>cases ax
 |cons k ks aZ=>
  intro fe f6 Q G n s m F I ax aH hk cP h
  cases fe with
  |nil=>cases ax
  |cons na fe=>cases f6 with
   |nil=>cases aH
   |cons ve f6=>
    refine evalPairs_cons (hk 0 k na rfl rfl s _ λ e7 t XU=>cK (fb (cP ve f6 (List.suffix_refl _) G n {s with toks:=t} m Q F (I.tok t) h) (λ v b' az=>cK (sg (eH ?_))) λ _ _ y=>y))
    refine az.elim λ a az=>az.elim λ dz az=>az.elim λ ao az=>?_
    refine fb (aZ (c'.step (s:={s with toks:=t}) F (I.tok t) az.2.2.2) az.2.2.1 (oS ax) (oS aH) (λ i=>hk (i+1)) (λ e r hs=>cP e r (hs.trans (List.suffix_cons _ _))) az.1) (λ ar ju g=>?_) λ _ _ y=>y
    exact g.elim λ dg g=>g.elim λ as g=>g.elim λ oH g=>g.elim λ bW g=>⟨v::dg,a::as,oH,bW,⟨XU,rfl,g.Kd⟩,an l2 g.len,g.q,⟨v,dg,rfl,g.ea.f7 az.2.2.1 az.2.1,g.vO⟩,g.inv,Step.trans (aJ:=b') (bQ:=dz) ⟨az.2.2.2.ext,az.2.2.2.ch⟩ g.ea⟩
theorem Yn{env:eg}(fe:B bn):∀{f6:B bn},fe.length=f6.length→
  (evalEachOpt (fe.map some) env).zip ((I4 f6 env).map λ v=>(do let x←v;CP cg;pure x))=((fe.zip f6).map (FR env cg)).map λ p=>(some p.1,p.2):=by
 induction fe with
 |nil=>exact λ _=>rfl
 |cons k ks aZ=>
  intro f6 h
  cases f6 with
  |nil=>cases h
  |cons v ar=>exact an (QT (some (eval k env),(do let x←eval v env;CP cg;pure x))) (aZ (oS h))
theorem abn(s:a2):s.heap.get? s.heap.objs.size=none:=n1 λ _ _ e=>e
theorem SQ{o:a0}{H:dD}{t:C}{fn:a2}{Q:dC}(HL:Inv c nm G n fn)(j5:fn.heap.get? ag=none)(hs:k0<ag){bv:cA}{J:St}{bF:fQ}(ey:Inv c nm bv J s)(S:Step G fn bv s)(cl:¬eG bv ag)(e:s.heap.get? ag=some bF)(hx:¬ik bF)(OO:tY ag s.heap H)
  (a4:fX s.heap H→gC c nm (bv++[(ag,ag)]) H (ag,ag) o)(q:Q (.ref J.length) (J++[o])):Back c nm G fn Q (.ref ag) {s with heap:=H,toks:=t}:=by
 have ch:cu (λ b=>b=ag) s.heap H:=cu.same OO rfl
 have d8:fX s.heap H:=fX.same e hx OO
 have c1:Inv c nm bv J {s with heap:=H,toks:=t}:=ey.change ch (λ b q=>q▸cl) (λ b q=>q▸(HL.vd j5).2) λ b o q g=>ej (e.symm.trans (q▸g))▸hx
 have l:ha bv (bv++[(ag,ag)]):=ha.snoc _ _
 have p:¬eG bv ag∧c.h₀.get? ag=none:=⟨cl,(HL.vd j5).2⟩
 exact⟨.ref J.length,bv++[(ag,ag)],J++[o],q,⟨(ag,ag),c1.len▸HV,rfl⟩,c1.adopt hs hs p p (a4 d8),
  ⟨S.ext.1.trans l,λ b q=>(uv q).elim (S.ext.2 b) λ L=>.inr ((L.elim id id:b=ag)▸j5)⟩,λ b o g z=>ch b o (S.ch b o g z) λ L=>nomatch(L▸j5:fn.heap.get? b=none).symm.trans g⟩
theorem KI[jx K]{knd:KeyKind c.prog c.w K}{ks:B dn}{fe f6:B bn}{AG:B (dn×D)→a0}{Q:dC}
  (X7:∀G h ag O cZ,h.DictOf knd ag cZ→fq f (bA c G h) O cZ→gC c nm G h (ag,ag) (AG O))
  (F:c' c aj G env ai s.heap m)(I:Inv c nm G n s)(ax:ks.length=fe.length)(aH:fe.length=f6.length)(ec:fe≠ [])(i4:fe.length≤15)(Eo:(ks.map f).Nodup)
  (hk:∀(i:C) k na,(ks.map f)[i]? =some k→fe[i]? =some na→yA c ai A ab knd k na)
  (cP:∀e r,(e::r)<:+f6→CW c nm aj env ai A ab ea e r)
  (cy:∀Q n,ea [] Q n→Q [] n)(h:ea f6 (λ l aa=>ks.length=l.length∧Q (.ref aa.length) (aa++[AG (ks.zip l)])) n):
  bg (bc c.prog c.w) A (eval (.Dict (fe.map some) f6 cg) ai) (Back c nm G s Q) ab s:=by
 have rs:((fe.zip f6).map (FR ai cg)).length=fe.length:=(cG _).trans (Q5.trans (aH▸Nat.min_self _))
 have wu:Step G s G {s with heap:=s.heap.push ly}:=.more (t:=s.toks) (cu.push _ _)
 have zI:(s.heap.push ly).get? s.heap.objs.size=some emptyDict:=nK _ rfl
 have j5:=abn s
 refine wpAny_Dict_pairs (knd:=knd) (Yn fe aH) (λ q=>ec (HO (rs.symm.trans (an f' q)))) (rs.symm▸i4)
  (fb (act cy (ks.map f) (F.step I wu) (I.more (t:=s.toks) (cu.push _ _)) ((cG _).trans ax) aH hk cP h) (λ ar aJ az=>?_) λ _ _ y=>y)
 refine az.elim λ dg az=>az.elim λ as az=>az.elim λ bv az=>az.elim λ J az=>?_
 have KJ:aJ.heap.get? s.heap.objs.size=some emptyDict:=az.ea.ch _ _ zI (I.vd j5).1
 have LV:as.length=dg.length:=az.vO.length.symm
 have X4:([]++(ks.map f).zip dg).map (λ p:K×au=>p.1)=ks.map f:=List.map_fst_zip (dh ((cG f).trans (az.q.1.trans LV)))
 refine⟨(ks.map f).zip dg,az.Kd,DC KJ,λ H hm hs=>SQ I j5 (I.qm λ _ _ e=>e) az.inv (wu.trans az.ea) (λ q=>(az.ea.ext.2 _ q).elim (I.vd j5).1 λ g=>(nomatch g.symm.trans zI)) KJ (pw rfl) hs (λ d8=>?_) az.q.2⟩
 have ib:H.DictOf knd s.heap.objs.size ((ks.map f).zip dg):=((aaS _ (X4.symm▸Eo)).trans (H5 _))▸hm
 exact X7 _ _ _ _ _ ib (fq.zip ks az.q.1 LV ((az.vO.keep (.refl bv) d8).keep (ha.snoc bv (s.heap.objs.size,s.heap.objs.size)) (λ _ _ e _=>e)).at)
end
end Mine
end
section
open PySem PySem.W PyProof.Rows
namespace Mine
variable{α:Type}{x:fv}{f:bn→B fv→B fv→av}{o:Y α}{ak:fv→Prop}{c:cV}{a:a8}{aS:gc}{K:kl}{env:eg}
structure qL where
 K:kl
 aK:C→a8
 ca:C→a8
 nm:B (B C)
noncomputable def NM(d:α)(z m:C)(f:z=m→α):α:=match Rm z m with
 | .isTrue h=>f h
 | .isFalse _=>d
noncomputable def G6(f:a8→av)(x:au):Bool:=gj x.ctorIdx 10 λ h=>IV (motive:=λ _=>av) x h f
theorem PV{x:au}{f:a8→av}(h:G6 f x=true):∃a,x= .ref a∧f a=true:=
 gE h λ e q=>IV (motive:=λ x=>∀e,IV (motive:=λ _=>av) x e f=true→∃a,x= .ref a∧f a=true) x e (λ a _ q=>⟨a,rfl,q⟩) e q
noncomputable def KC(f:gS mT→av)(x:Data):Bool:=gj x.ctorIdx 3 λ h=>Il (motive:=λ _=>av) x h λ d _=>f d
theorem Vd{x:Data}{f:gS mT→av}(h:KC f x=true):∃d z,x= .dict d z∧f d=true:=
 gE h λ e q=>Il (motive:=λ x=>∀e,Il (motive:=λ _=>av) x e (λ d _=>f d)=true→∃d z,x= .dict d z∧f d=true) x e (λ d z _ q=>⟨d,z,rfl,q⟩) e q
theorem G5{x:au}{f:am→av}(h:vInt f x=true):∃i t,x= .int i t∧f i=true:=afS (ak:=λ x=>∃i t,x= .int i t∧f i=true) h λ i t q=>⟨i,t,rfl,q⟩
theorem rB{f:α→av}(h:cT f o=true):∃x,o=some x∧f x=true:=qt (ak:=λ o=>∃x,o=some x∧f x=true) h λ x q=>⟨x,rfl,q⟩
theorem NL(h:on o=true):o=none:=rA (ak:=λ o=>o=none) h rfl
noncomputable def Dp:B mT→B (am×am)→av
 | [],O=>hh O
 |d::r,O=>oe (λ p q=>vInt (λ k=>k==p.1) d.key&&(vInt (λ v=>v==p.2) d.val&&(d.hash==hashInt p.1&&Dp r q))) O
noncomputable def Kf(K:kl)(a:a8)(O:B (am×am)):Bool:=
 cT (λ o:fQ=>o.cls== .type "dict"&&(on o.dict&&(KC (λ m2=>Dp m2.toList O) o.data&&(o.slots.toList.isEmpty&&a != k0)))) (K.lookup a)
noncomputable def Lk(K:kl)(x:aL):D→av
 | .ii i=>cT (cT (vInt λ j=>i==j)) (qY K kZ x)
 | .cd O=>cT (cT (G6 λ a=>Kf K a O)) (qY K kZ x)
 |_=>false
noncomputable def uB(aS:gc)(x:aL):Bool:=aS.names.lookup x==some .globalImplicit&&pA x
noncomputable def D0(K:kl)(x:aL)(a:a8):Bool:=cT (cT (G6 λ b=>a==b)) (qY K kZ x)
noncomputable def DY(K:kl)(x:aL):Bool:=cT on (qY K kZ x)
noncomputable def q4(K:kl)(aS:gc)(id:aL):bn→Bool:=nx λ y=>decide (y=id)&&(uB aS y&&DY K y)
noncomputable def wF(x:bn):Bool:=nx (λ _=>true) x||(rU (λ _ _ _=>true) x||(rW (λ _ _=>true) x||mK (λ g xs _ _=>nx (λ _=>true) g&&oe (λ _ _=>true) xs) x))
noncomputable def Fw(x:bn):Bool:=!kj x.ctorIdx 7
noncomputable def AN(x:bn):Bool:=!(kj x.ctorIdx 8||(kj x.ctorIdx 9||kj x.ctorIdx 10))
noncomputable def abF(x:bn):Bool:=!kj x.ctorIdx 25
noncomputable def abE(x:bn):Bool:=!kj x.ctorIdx 26
noncomputable def Ny(x:bn):B Str:=NM [] x.ctorIdx 23 λ h=>CB (motive_1:=λ _=>B aL) x h λ y _=>[y]
noncomputable def Bu(x:bn):B Str:=Ny x++NM [] x.ctorIdx 25 λ h=>CC (motive_1:=λ _=>B aL) x h λ l _ _=>l.flatMap Ny
noncomputable def Gz:B (B C)→B (Y bn)→av
 | [],ks=>hh ks
 |k::ks,O=>oe (λ e r=>cT (rV (Dl λ x=>decide (x=st k))) e&&Gz ks r) O
noncomputable def EF:B am→B (Y bn)→av
 | [],ks=>hh ks
 |k::ks,O=>oe (λ e r=>cT (rV (zt λ x=>x==k)) e&&EF ks r) O
mutual
noncomputable def dU(k:qL):ab→gc→B (Y aL)→bn→av
 | .nn,_,_=>rV Ka
 | .cj b,_,_=>rV (J7 λ hw=>hw==b)
 | .ii i,_,_=>rV (zt λ hw=>hw==i)
 | .ss s,_,_=>rV (Dl λ y=>decide (y=st s))
 | .v i,_,aj=>nx λ y=>u' aj i y&&pA y
 | .gl _ val,aS,_=>nx λ y=>Lk k.K y val&&uB aS y
 | .bin op a b,aS,aj=>BL λ l o r=>o==ta op&&(dU k a aS aj l&&dU k b aS aj r)
 | .qA a b,aS,aj=>BL λ l o r=>o== .Mult&&(dU k a aS aj l&&dU k b aS aj r)
 | .pE a b,aS,aj=>BL λ l o r=>o== .Mult&&(dU k a aS aj l&&dU k b aS aj r)
 | .neg a,aS,aj=>BP λ o y=>o== .USub&&dU k a aS aj y
 | .and O,aS,aj=>ys λ o xs=>o== .And&&kI k O aS aj xs
 | .or O,aS,aj=>ys λ o xs=>o== .Or&&kI k O aS aj xs
 | .cmp op a b,aS,aj=>Hj λ l os d3=>dy (λ r=>dy (λ o=>o==Dx op&&(!I1 o r&&(dU k a aS aj l&&dU k b aS aj r))) os) d3
 | .ite t a b,aS,aj=>P5 λ u l r=>vg k t aS aj u&&(dU k a aS aj l&&dU k b aS aj r)
 | .tup O,aS,aj=>yt λ xs=>kI k O aS aj xs&&xs.all f3
 | .lst O,aS,aj=>P8 λ xs=>kI k O aS aj xs&&xs.all f3
 | .m4 ks ar,aS,aj=>BN λ mn f6=>Gz ks mn&&(kI k ar aS aj f6&&(decide (ks.length=f6.length)&&(!ks.isEmpty&&(decide (ks.length≤15)&&decide ks.Nodup))))
 | .pa ks ar,aS,aj=>BN λ mn f6=>EF ks mn&&(kI k ar aS aj f6&&(decide (ks.length=f6.length)&&(!ks.isEmpty&&(decide (ks.length≤15)&&decide ks.Nodup))))
 | .eQ _,_,_=>BN λ ks ar=>hh ks&&hh ar
 | .at a f,aS,aj=>rU λ y gW _=>decide (gW=gK k.nm f)&&(wF y&&dU k a aS aj y)
 | .aq a i,aS,aj=>rW λ y dQ=>dU k a aS aj y&&dU k i aS aj dQ
 | .lk a lo,aS,aj=>rW λ y dQ=>dU k a aS aj y&&BO (λ l h c=>on h&&(on c&&cT (dU k lo aS aj) l)) dQ
 | .mF a ay,aS,aj=>rW λ y dQ=>dU k a aS aj y&&BO (λ l h c=>on l&&(on c&&cT (dU k ay aS aj) h)) dQ
 | .rev a,aS,aj=>rW λ y dQ=>dU k a aS aj y&&BO (λ l h c=>on l&&(on h&&cT (BP λ o u=>o== .USub&&rV (zt λ i=>i==1) u) c)) dQ
 | .comp b7 xs many bb eo,aS,aj=>P6 λ e en bG=>dy (λ g=>g.is_async==0&&(Dw aS bG&&(ts (ic aj xs (Bu g.target) bG)&&(rM (ic aj xs (Bu g.target) bG) (pD bG aS) many xs g.target&&(rt (pD bG aS) g.target&&(Fw g.iter&&(dU k bb aS aj g.iter&&(s9 k eo (pD bG aS) (ic aj xs (Bu g.target) bG) g.ifs&&dU k b7 (pD bG aS) (ic aj xs (Bu g.target) bG) e)))))))) en
 | .call f b6,aS,aj=>mK λ g xs f1 _=>hh f1&&(nx (λ y=>uB aS y&&(D0 k.K y (k.aK f)&&yW k.K (.ref (k.aK f)))) g&&(kI k b6 aS aj xs&&xs.all f3))
 | .new c b6,aS,aj=>mK λ g xs f1 _=>hh f1&&(nx (λ y=>uB aS y&&(D0 k.K y (k.ca c)&&yW k.K (.ref (k.ca c)))) g&&(kI k b6 aS aj xs&&xs.all f3))
 | .hj o m b6,aS,aj=>mK λ g xs f1 cg=>hh f1&&(decide (m<k.nm.length)&&(decide (xs.length<30)&&(rU (λ y gW eA=>decide (gW=gK k.nm m)&&(wF y&&((eA.endLine==cg.line)&&dU k o aS aj y))) g&&(kI k b6 aS aj xs&&xs.all f3))))
 | .len a,aS,aj=>mK λ g xs f1 _=>q4 k.K aS "len" g&&(hh f1&&dy (λ L=>dU k a aS aj L&&f3 L) xs)
 | .jc a,aS,aj=>mK λ g xs f1 _=>q4 k.K aS "tuple" g&&(hh f1&&dy (λ L=>dU k a aS aj L&&f3 L) xs)
 | .sorted a,aS,aj=>mK λ g xs f1 _=>q4 k.K aS "sorted" g&&(hh f1&&dy (λ L=>dU k a aS aj L&&f3 L) xs)
 | .strOf a,aS,aj=>mK λ g xs f1 _=>q4 k.K aS "str" g&&(hh f1&&dy (λ L=>dU k a aS aj L&&f3 L) xs)
 | .gQ a,aS,aj=>mK λ g xs f1 _=>q4 k.K aS "range" g&&(hh f1&&dy (λ L=>dU k a aS aj L&&f3 L) xs)
 | .pF a b,aS,aj=>mK λ g xs f1 _=>q4 k.K aS "range" g&&(hh f1&&oe (λ L r=>dy (λ u=>(dU k a aS aj L&&f3 L)&&(dU k b aS aj u&&f3 u)) r) xs)
 | .append o a,aS,aj=>mK λ g xs f1 cg=>hh f1&&(rU (λ y gW eA=>decide (gW="append")&&(wF y&&((eA.endLine==cg.line)&&dU k o aS aj y))) g&&dy (λ L=>dU k a aS aj L&&f3 L) xs)
 | .m3 o a d,aS,aj=>mK λ g xs f1 cg=>hh f1&&(rU (λ y gW eA=>decide (gW="get")&&(wF y&&((eA.endLine==cg.line)&&dU k o aS aj y))) g&&oe (λ L r=>dy (λ u=>(dU k a aS aj L&&f3 L)&&(dU k d aS aj u&&f3 u)) r) xs)
 | .bad,_,_=>λ _=>true
noncomputable def kI(k:qL):d6→gc→B (Y aL)→B bn→av
 | .nil,_,_=>hh
 | .cons e r,aS,aj=>oe λ x bf=>dU k e aS aj x&&kI k r aS aj bf
noncomputable def vg(k:qL):T→gc→B (Y aL)→bn→av
 | .e a,aS,aj=>λ x=>FV x&&dU k a aS aj x
 | .g4 t,aS,aj=>BP λ o y=>o== .Not&&vg k t aS aj y
 | .and bE,aS,aj=>ys λ o xs=>o== .And&&s9 k bE aS aj xs
 | .or bE,aS,aj=>ys λ o xs=>o== .Or&&s9 k bE aS aj xs
 | .cmp op a b,aS,aj=>Hj λ l os d3=>dy (λ r=>dy (λ o=>o==Dx op&&(!I1 o r&&(dU k a aS aj l&&dU k b aS aj r))) os) d3
noncomputable def s9(k:qL):fc→gc→B (Y aL)→B bn→av
 | .nil,_,_=>hh
 | .cons t r,aS,aj=>oe λ x bf=>vg k t aS aj x&&s9 k r aS aj bf
end
noncomputable def x5(f:B bn→bn→hd→av)(x:fv):Bool:=gj x.ctorIdx 5 λ h=>IL (motive_2:=λ _=>av) x h λ t v p=>f t v p
@[elab_as_elim] theorem A9{f:B bn→bn→hd→av}(h:x5 f x=true)(k:∀t v p,f t v p=true→ak (.Assign t v p)):ak x:=
 gE h λ e q=>IL (motive_2:=λ x=>∀e,IL (motive_2:=λ _=>av) x e (λ t v p=>f t v p)=true→ak x) x e (λ t v p _ q=>k t v p q) e q
noncomputable def A'(f:bn→yS→bn→av)(x:fv):Bool:=gj x.ctorIdx 7 λ h=>IM (motive_2:=λ _=>av) x h λ t o v _=>f t o v
@[elab_as_elim] theorem Gf{f:bn→yS→bn→av}(h:A' f x=true)(k:∀t o v p,f t o v=true→ak (.AugAssign t o v p)):ak x:=
 gE h λ e q=>IM (motive_2:=λ x=>∀e,IM (motive_2:=λ _=>av) x e (λ t o v _=>f t o v)=true→ak x) x e (λ t o v p _ q=>k t o v p q) e q
noncomputable def OC(f:bn→av)(x:fv):Bool:=gj x.ctorIdx 24 λ h=>IN (motive_2:=λ _=>av) x h λ v _=>f v
@[elab_as_elim] theorem adO{f:bn→av}(h:OC f x=true)(k:∀v p,f v=true→ak (.Expr v p)):ak x:=
 gE h λ e q=>IN (motive_2:=λ x=>∀e,IN (motive_2:=λ _=>av) x e (λ v _=>f v)=true→ak x) x e (λ v p _ q=>k v p q) e q
noncomputable def Gi(f:Y bn→av)(x:fv):Bool:=gj x.ctorIdx 3 λ h=>IR (motive_2:=λ _=>av) x h λ v _=>f v
@[elab_as_elim] theorem OI{f:Y bn→av}(h:Gi f x=true)(k:∀v p,f v=true→ak (.Return v p)):ak x:=
 gE h λ e q=>IR (motive_2:=λ x=>∀e,IR (motive_2:=λ _=>av) x e (λ v _=>f v)=true→ak x) x e (λ v p _ q=>k v p q) e q
noncomputable def OF(f:bn→B fv→B fv→av)(x:fv):Bool:=gj x.ctorIdx 12 λ h=>IQ (motive_2:=λ _=>av) x h λ u v w _=>f u v w
@[elab_as_elim] theorem adQ(h:OF f x=true)(k:∀u v w p,f u v w=true→ak (.If u v w p)):ak x:=
 gE h λ e q=>IQ (motive_2:=λ x=>∀e,IQ (motive_2:=λ _=>av) x e (λ u v w _=>f u v w)=true→ak x) x e (λ u v w p _ q=>k u v w p q) e q
noncomputable def OK(f:bn→B fv→B fv→av)(x:fv):Bool:=gj x.ctorIdx 11 λ h=>IS (motive_2:=λ _=>av) x h λ u v w _=>f u v w
@[elab_as_elim] theorem adS(h:OK f x=true)(k:∀u v w p,f u v w=true→ak (.While u v w p)):ak x:=
 gE h λ e q=>IS (motive_2:=λ x=>∀e,IS (motive_2:=λ _=>av) x e (λ u v w _=>f u v w)=true→ak x) x e (λ u v w p _ q=>k u v w p q) e q
noncomputable def OD(f:bn→bn→B fv→B fv→av)(x:fv):Bool:=gj x.ctorIdx 9 λ h=>IP (motive_2:=λ _=>av) x h λ t u v w _=>f t u v w
@[elab_as_elim] theorem adP{f:bn→bn→B fv→B fv→av}(h:OD f x=true)(k:∀t u v w p,f t u v w=true→ak (.For t u v w p)):ak x:=
 gE h λ e q=>IP (motive_2:=λ x=>∀e,IP (motive_2:=λ _=>av) x e (λ t u v w _=>f t u v w)=true→ak x) x e (λ t u v w p _ q=>k t u v w p q) e q
noncomputable def Mi(e:ab):Bool:=gj e.ctorIdx 24 λ _=>true
@[elab_as_elim] theorem Y4{ak:ab→Prop}{e:ab}(h:Mi e=true)(k:∀a b c d f,ak (.comp a b c d f)):ak e:=gE h λ i _=>ab.comp.elim (motive_1:=ak) e i k
mutual
noncomputable def NT(k:qL):S→gc→B (Y aL)→fv→av
 | .asg i e,aS,aj=>x5 λ bE v _=>dy (nx λ y=>u' aj i y&&tl aS y) bE&&((Mi e||AN v)&&dU k e aS aj v)
 | .o1 xs e,aS,aj=>x5 λ bE v _=>dy (λ t=>yt (λ _=>true) t&&rM aj aS true xs t) bE&&(AN v&&(abF v&&dU k e aS aj v))
 | .cc o f e,aS,aj=>x5 λ bE v _=>dy (rU λ y gW _=>decide (gW=gK k.nm f)&&dU k o aS aj y) bE&&dU k e aS aj v
 | .gJ o i e,aS,aj=>x5 λ bE v _=>dy (rW λ y L=>dU k o aS aj y&&dU k i aS aj L) bE&&dU k e aS aj v
 | .aug i op e,aS,aj=>A' λ t o v=>o==ta op&&(nx (λ y=>u' aj i y&&(tl aS y&&pA y)) t&&dU k e aS aj v)
 | .o3 o f op e,aS,aj=>A' λ t p v=>p==ta op&&(rU (λ y gW _=>decide (gW=gK k.nm f)&&dU k o aS aj y) t&&dU k e aS aj v)
 | .o4 o i op e,aS,aj=>A' λ t p v=>p==ta op&&(rW (λ y L=>abE L&&(dU k o aS aj y&&dU k i aS aj L)) t&&dU k e aS aj v)
 | .ex e,aS,aj=>OC λ v=>AN v&&dU k e aS aj v
 | .ret e,aS,aj=>Gi (cT (dU k e aS aj))
 | .mD,_,_=>Gi on
 | .b4 t a b,aS,aj=>OF λ u p q=>vg k t aS aj u&&(px k a aS aj p&&px k b aS aj q)
 | .pL t b,aS,aj=>OK λ u p q=>hh q&&(vg k t aS aj u&&px k b aS aj p)
 | .dd xs many bb b,aS,aj=>OD λ Bt hy p q=>hh q&&(rM aj aS many xs Bt&&(Fw hy&&(dU k bb aS aj hy&&px k b aS aj p)))
 | .bad,_,_=>λ _=>true
noncomputable def px(k:qL):bk→gc→B (Y aL)→B fv→av
 | .nil,_,_=>hh
 | .cons s r,aS,aj=>oe λ x bf=>NT k s aS aj x&&px k r aS aj bf
end
theorem UQ{prog:lx}{w:ez}(m2:B mT):∀{O:B (am×am)},Dp m2 O=true→
  (∀e∈m2,∃k,(gs prog w).is k e.key=true∧e.hash=(gs prog w).hash k)∧∀k,gb (λ i v=>∃t,v= .int i t) (O.lookup k) ((m2.find? λ e=>(gs prog w).is k e.key).map (·.val)):=by
 induction m2 with
 |nil=>exact λ h=>g0 h ⟨λ _ h=>(nomatch h),λ _=>rfl⟩
 |cons d r aZ=>
  refine λ h=>jr h λ p q h=>(G5 (a7 h)).elim λ k L=>L.elim λ t L=>(G5 (a7 (aD h))).elim λ v y=>y.elim λ u y=>?_
  have i:=aZ (aD (aD (aD h)))
  have dq:d.key= .int p.1 t:=L.1.trans (an (qX · t) (eq_of_beq L.2))
  refine⟨λ e b3=>(kh.mp b3).elim (λ g=>⟨p.1,g▸dq▸p4 _ _ _ _,g▸eq_of_beq (a7 (aD (aD h)))⟩) (i.1 e),λ ct=>?_⟩
  by_cases hk:ct=p.1
  ·rw[HS (p:=λ e:mT=>(gs prog w).is ct e.key) (dq▸hk▸p4 _ _ _ _),hk]
   exact(H3 (k:=p.1)).symm▸⟨d.val,rfl,u,y.1.trans (an (qX · u) (eq_of_beq y.2))⟩
  ·rw[HR (p:=λ e:mT=>(gs prog w).is ct e.key) (λ g=>hk (eq_of_beq (show(gs prog w).is ct (.int p.1 t)=true from dq▸g)).symm),l1,ma.mpr hk]
   exact i.2 ct
theorem UP{O:B (am×am)}(X:c.K.In c.h₀)(h:Kf c.K a O=true):Hy c O a:=
 (rB h).elim λ o g=>(Vd (a7 (aD (aD g.2)))).elim λ m2 q=>q.elim λ hL q=>have i:=UQ (prog:=c.prog) (w:=c.w) m2.toList q.2;have L:=aD (aD (aD g.2))
  ⟨ma.mpr (p8.mp (aD L)),λ k=>CK (gs c.prog c.w).is m2 k,⟨o,m2,hL,X _ _ g.1,⟨eq_of_beq (a7 g.2),NL (a7 (aD g.2)),BW.mp (Cc.mp (a7 L))⟩,q.1,λ x aA=>i.1 x (Qj.mpr aA),λ _=>rfl⟩,λ k=>by
   have e:CK (gs c.prog c.w).is m2 k=(m2.toList.find? λ e=>(gs c.prog c.w).is k e.key).map (·.val):=by
    unfold CK
    rw[←Qh]
   exact(an (gb (λ i v=>∃t,v=qX i t) (O.lookup k)) e).mpr (i.2 k)⟩
theorem W5{x:aL}{a:D}{G:cA}{h:dD}(X:c.K.In c.h₀)(e:Lk c.K x a=true):∃v,qY c.K kZ x=some (some v)∧bA c G h a v:=by
 cases a with
 |ii i=>exact(rB e).elim λ o g=>(rB g.2).elim λ v y=>⟨v,g.1.trans (an _ y.1),(G5 y.2).elim λ j y=>y.imp λ t y=>y.1.trans (an (qX · t) (eq_of_beq y.2).symm)⟩
 |cd O=>exact(rB e).elim λ o g=>(rB g.2).elim λ v y=>⟨v,g.1.trans (an _ y.1),(PV y.2).imp λ b y=>⟨y.1,UP X y.2⟩⟩
 |_=>exact nomatch e
theorem jK{x:aL}(h:uB aS x=true):aS.names.lookup x=some .globalImplicit∧pA x=true:=⟨eq_of_beq (a7 h),aD h⟩
theorem Le{x:aL}(h:D0 K x a=true):qY K kZ x=some (some (.ref a)):=
 (rB h).elim λ o g=>(rB g.2).elim λ v y=>(PV y.2).elim λ b L=>g.1.trans (an _ (y.1.trans (an _ (L.1.trans (an _ (eq_of_beq L.2).symm)))))
theorem uz{x:aL}(h:DY K x=true):qY K kZ x=some none:=(rB h).elim λ o g=>g.1.trans (an _ (NL g.2))
theorem AQ{a b:av}{M:Prop}(h:(a||b)=true)(c2:a=true→M)(dW:b=true→M):M:=(BZ.mp h).elim c2 dW
theorem zp{o:bn}{name:aL}{BH:il au}(h:wF o=true):I0 o name env BH=BH:=
 AQ h (λ h=>mL h λ _ _ _=>rfl) λ h=>AQ h (λ h=>tA h λ _ _ _ _=>rfl) λ h=>AQ h (λ h=>tC h λ _ _ _ _=>rfl) λ h=>nw h λ g xs ks p h=>by
  have aH:=aD h
  revert aH
  exact mL (a7 h) λ _ _ _ aH=>jr aH λ _ _ _=>rfl
theorem Gp{e:bn}(h:Fw e=true):∀x,CL e env x=pure x:=by
 intro x
 cases e<;>first|rfl|exact K1 (show false=true from h)
theorem GB{v:bn}{t:Y bn}{z:C}(h:AN v=true):y4 v t z env=pure false:=by
 cases v<;>first|rfl|exact K1 (show false=true from h)
@[elab_as_elim] theorem ud{id:aL}{ak:bn→Prop}:∀{x:bn},q4 K aS id x=true→(∀p,uB aS id=true→DY K id=true→ak (.Name id p))→ak x:=by
 intro x h k
 unfold q4 at h
 refine mL h λ y p h=>?_
 have e:y=id:=gi (a7 h)
 subst e;exact k p (a7 (aD h)) (aD (aD h))
theorem Uw:bootBuiltins "len"=some (.builtin "len"):=by decide+kernel
theorem Ux:bootBuiltins "sorted"=some (.builtin "sorted"):=by decide+kernel
theorem Uz:bootBuiltins "tuple"=some (.type "tuple"):=by decide+kernel
theorem Uy:bootBuiltins "str"=some (.type "str"):=by decide+kernel
theorem J0:bootBuiltins "range"=some (.type "range"):=by decide+kernel
end Mine
end
section
open PySem PySem.W PyProof.Rows
namespace Mine
variable{A:eC}{G bQ:cA}{s aJ b':a2}{t:il au}{α:Type}{o:Y α}{k:α→Prop}{r:D}{ak:D→D→Prop}{v:D}{J:St}{m:C}{l:B C}{O:d6}
noncomputable def BV(A:eC)(z:C):Prop:=A.handled=none∧A.depth+4*z<CO∧A.units+12*z+300<kY
noncomputable def iH(A:eC)(z:C):Prop:=A.handled=none∧A.depth+4*z+3<CO∧A.units+12*z+309<kY
theorem iH.a{z:C}(h:iH A z):BV A z:=⟨h.1,by have:=h.2.1;omega,by have:=h.2.2;omega⟩
theorem iH.u{z:C}(h:iH A z):A.units+200<cLine:=by have:=h.2.2;omega
structure Ck(c:cV)(nm:B (B C))(aK:C→a8):Prop where
 i6:∀V f,c.P.i6 V=some f→oU c.K (.ref (c.ca V)) "__init__"=some (some (.ref (aK f)))∧wm c.K (.ref (aK f))=some (.type "function")
 pv:∀V m f,c.P.pv V m=some f→oU c.K (.ref (c.ca V)) (gK nm m)=some (some (.ref (aK f)))∧wm c.K (.ref (aK f))=some (.type "function")∧yW c.K (.ref (aK f))=true
noncomputable def jE(c:cV)(nm:B (B C))(aK:C→a8):qL:=⟨c.K,aK,c.ca,nm⟩
noncomputable def Hz(c:cV)(nm:B (B C))(aK:C→a8)(z:C)(V:C→B D→dC→St→Prop):Prop:=
 ∀(A:eC) f b6 gR G n s Q (R:yV→a2→Prop),BV A z→Inv c nm G n s→cs c G s.heap b6 gR→V f b6 Q n→(∀v a9,Back c nm G s Q v a9→R (.ok (.ret v)) a9)→t4 (bc c.prog c.w) A (.call (.ref (aK f)) ⟨gR,[]⟩) R s
structure hK(c:cV)(nm:B (B C))(aK:C→a8)(z:C)(V:C→B D→dC→St→Prop):Prop where
 ok:jC c nm
 gl:v5 c
 more:Ck c nm aK
 call:Hz c nm aK z V
noncomputable def cv(c:cV)(nm:B (B C))(aK:C→a8)(z:C)(V:C→B D→dC→St→Prop)(e:ab):Prop:=
 ∀(x:bn) (aj:B (Y aL)) (env:aX) (ai:eg) (G:cA) (n:St) (s:a2) (m:aL→Y au) (A:eC) (ab:au→a2→Prop) (Q:dC),
  dU (jE c nm aK) e ai.scope aj x=true→c' c aj G env ai s.heap m→Inv c nm G n s→iH A z→dj c.P V e env Q n→bg (bc c.prog c.w) A (eval x ai) (Back c nm G s Q) ab s
noncomputable def kU(c:cV)(nm:B (B C))(aK:C→a8)(z:C)(V:C→B D→dC→St→Prop):d6→Prop
 | .nil=>True
 | .cons e r=>cv c nm aK z V e∧kU c nm aK z V r
noncomputable def nQ(c:cV)(nm:B (B C))(aK:C→a8)(z:C)(V:C→B D→dC→St→Prop)(t:T):Prop:=
 ∀(x:bn) (aj:B (Y aL)) (env:aX) (ai:eg) (G:cA) (n:St) (s:a2) (m:aL→Y au) (A:eC) (ab:au→a2→Prop) (Q:av→St→Prop),
  vg (jE c nm aK) t ai.scope aj x=true→c' c aj G env ai s.heap m→Inv c nm G n s→iH A z→qI c.P V t env Q n→bg (bc c.prog c.w) A (isTrue x ai (eval x ai)) (kT c nm G s Q) ab s
noncomputable def p5(c:cV)(nm:B (B C))(aK:C→a8)(z:C)(V:C→B D→dC→St→Prop):fc→Prop
 | .nil=>True
 | .cons e r=>nQ c nm aK z V e∧p5 c nm aK z V r
section
variable{c:cV}{nm:B (B C)}{aK:C→a8}{z:C}{V:C→B D→dC→St→Prop}
theorem jf{ab:au→a2→Prop}{Q:dC}(S:Step G s bQ aJ)(h:bg (bc c.prog c.w) A t (Back c nm bQ aJ Q) ab b'):bg (bc c.prog c.w) A t (Back c nm G s Q) ab b':=fb h (λ _ _ b=>b.after S) λ _ _ y=>y
theorem BI{ab:au→a2→Prop}{Q:av→St→Prop}{t:il av}(S:Step G s bQ aJ)(h:bg (bc c.prog c.w) A t (kT c nm bQ aJ Q) ab b'):bg (bc c.prog c.w) A t (kT c nm G s Q) ab b':=fb h (λ _ _ b=>b.after S) λ _ _ y=>y
theorem fM{ab:au→a2→Prop}{W:dC}{X:au→a2→Prop}(h:bg (bc c.prog c.w) A t (Back c nm G s W) ab s)
  (k:∀v a bQ aa aJ,W a aa→bA c bQ aJ.heap a v→Inv c nm bQ aa aJ→Step G s bQ aJ→X v aJ):bg (bc c.prog c.w) A t X ab s:=
 fb h (λ v aJ ⟨a,bQ,aa,q,r,I,S⟩=>k v a bQ aa aJ q r I S) λ _ _ y=>y
theorem vH{ab:au→a2→Prop}{W:B D→St→Prop}{t:il (B au)}{X:B au→a2→Prop}(h:bg (bc c.prog c.w) A t (Hu c nm G s W) ab s)
  (k:∀v a bQ aa aJ,W a aa→cs c bQ aJ.heap a v→Inv c nm bQ aa aJ→Step G s bQ aJ→X v aJ):bg (bc c.prog c.w) A t X ab s:=
 fb h (λ v aJ ⟨a,bQ,aa,q,r,I,S⟩=>k v a bQ aa aJ q r I S) λ _ _ y=>y
theorem qF{ab:au→a2→Prop}{W:av→St→Prop}{t:il av}{X:av→a2→Prop}(h:bg (bc c.prog c.w) A t (kT c nm G s W) ab s)
  (k:∀v bQ aa aJ,W v aa→Inv c nm bQ aa aJ→Step G s bQ aJ→X v aJ):bg (bc c.prog c.w) A t X ab s:=
 fb h (λ v aJ ⟨bQ,aa,q,I,S⟩=>k v bQ aa aJ q I S) λ _ _ y=>y
theorem q5(h:et o k):∃a,o=some a∧k a:=by
 cases o with
 |none=>exact h.elim
 |some a=>exact⟨a,rfl,h⟩
theorem fD{M:Prop}(h:et o k)(g:∀a,o=some a→k a→M):M:=let⟨a,e,q⟩:=q5 h;g a e q
section
variable{n:St}{a b:D}
theorem adf{ak:D→D→D→Prop}(h:x1 a b=some r)(k:∀x,ak (.tup [x]) (.ii 1) (.tup [x])):ak a b r:=by
 unfold x1 at h
 split at h
 ·split at h
  ·rename_i e;cases h;rw[e];exact k _
  ·cases h
 ·cases h
theorem xu{m:C}{α:Type}{f:B D→Y α}{r:α}(h:(match n[m]? with
  |some (.li xs)=>f xs
  |_=>none)=some r){M:Prop}(k:∀xs,n[m]? =some (.li xs)→f xs=some r→M):M:=by
 split at h
 ·exact k _ ‹_› h
 ·cases h
theorem ade{r:B D}{ak:D→D→B D→Prop}(h:vs n a b=some r)(k:∀m z x,n[m]? =some (.li [x])→0≤z→z<1000→ak (.ref m) (.ii z) (dx z.toNat x)):ak a b r:=by
 unfold vs at h
 split at h
 ·split at h
  ·refine lK h λ p e=>?_
   subst e;exact k _ _ _ ‹_› p.1 p.2
  ·cases h
 ·cases h
theorem abl(h:xG a=some r)(k:∀i,ak (.ii i) (.ii (-i))):ak a r:=by
 unfold xG at h
 split at h
 ·cases h;exact k _
 ·cases h
theorem ZZ{r:B D}{ak:D→B D→Prop}(h:uZ n a=some r)(k:∀m xs,n[m]? =some (.li xs)→ak (.ref m) xs):ak a r:=by
 unfold uZ at h
 split at h
 ·refine xu (f:=some) h λ xs e q=>?_
  cases q;exact k _ _ e
 ·cases h
theorem WL{r:B D}{ak:D→D→B D→Prop}(h:uw n a b=some r)(k:∀m z xs,n[m]? =some (.li xs)→0≤z→ak (.ref m) (.ii z) (xs.drop z.toNat)):ak a b r:=by
 unfold uw at h
 split at h
 ·refine xu (f:=λ xs:B D=>if 0≤_∧_< (1000:am)then some (xs.drop (HK _))else none) h λ xs e q=>?_
  refine lK q λ p q=>?_
  subst q;exact k _ _ _ e p.1
 ·cases h
theorem afQ{r:D ⊕ B D}{ak:D→D→D ⊕ B D→Prop}(h:rR n a b=some r)(c2:∀m z xs,n[m]? =some (.li xs)→0≤z→ak (.ref m) (.ii z) (.inr (xs.take z.toNat)))
  (dW:∀t z,0≤z→t.length≤1000→ak (.ss t) (.ii z) (.inl (.ss (t.take z.toNat))))(ob:∀l z,0≤z→l.length≤1000→ak (.fw l) (.ii z) (.inr ((l.take z.toNat).map .ii))):ak a b r:=by
 unfold rR at h
 split at h
 ·refine xu (f:=λ xs:B D=>if 0≤_∧_< (1000:am)then some (Sum.inr (xs.take (HK _)))else none) h λ xs e q=>?_
  refine lK q λ p q=>?_
  subst q;exact c2 _ _ _ e p.1
 ·refine lK h λ p q=>?_
  subst q;exact dW _ _ p.1 p.2.2
 ·refine lK h λ p q=>?_
  subst q;exact ob _ _ p.1 p.2.2
 ·cases h
theorem afu(h:rO n a=some r)(k:∀m xs,n[m]? =some (.li xs)→ak (.ref m) (.tup xs))(dW:∀l,ak (.tup l) (.tup l)):ak a r:=by
 unfold rO at h
 split at h
 ·refine xu (f:=λ xs=>some (D.tup xs)) h λ xs e q=>?_
  cases q;exact k _ _ e
 ·cases h;exact dW _
 ·cases h
theorem aej{r:B D}{ak:D→B D→Prop}(h:vD n a=some r)(k:∀m xs bf,n[m]? =some (.li xs)→xs.length<64→xs.all m'=true→pJ xs=some bf→bf.length<64→ak (.ref m) bf):ak a r:=by
 unfold vD at h
 split at h
 ·split at h
  ·split at h
   ·rename_i p
    obtain⟨bf,e,h⟩:=yP.mp h
    refine lK h λ fU q=>?_
    subst q;exact k _ _ _ ‹_› p.1 p.2 e fU
   ·cases h
  ·cases h
 ·cases h
theorem ae0(h:yg a=some r)(k:∀i d,zG i=some d→ak (.ii i) (.ss d)):ak a r:=by
 unfold yg at h
 split at h
 ·obtain⟨d,e,h⟩:=l3.mp h
  subst h;exact k _ _ e
 ·cases h
theorem ads(h:ov a=some r)(k:∀i,ak (.ii i) (.ew 0 i)):ak a r:=by
 unfold ov at h
 split at h
 ·refine lK h λ p q=>?_
  subst q;exact k _
 ·cases h
theorem adv{ak:D→D→D→Prop}(h:vx a b=some r)(k:∀i j,ak (.ii i) (.ii j) (.ew i j)):ak a b r:=by
 unfold vx at h
 split at h
 ·refine lK h λ p q=>?_
  subst q;exact k _ _
 ·cases h
theorem S1{ak:St→Prop}(h:l8 n (.ref m) v=some J)(k:∀xs,n[m]? =some (.li xs)→xs.length<room→ak (n.set m (.li (xs++[v])))):ak J:=by
 unfold l8 at h
 refine xu (f:=λ xs=>if xs.length<room then some (n.set m (.li (xs++[v])))else none) h λ xs e q=>lK q λ p q=>?_
 subst q;exact k _ e p
theorem Y5{ak:D→Prop}(h:ml n a=true)(k:∀m xs,n[m]? =some (.li xs)→ak (.ref m)):ak a:=by
 unfold ml at h
 split at h
 ·unfold Ao at h
  split at h
  ·exact k _ _ ‹_›
  ·cases h
 ·cases h
theorem aaT{P:iY}{f:C}{ak:D→Prop}(h:mu P n m a=some f)(k:∀z c aG,n[z]? =some (.bF c aG)→aG.lookup m=none→P.pv c m=some f→ak (.ref z)):ak a:=by
 unfold mu at h
 split at h
 ·split at h
  ·split at h
   ·exact k _ _ _ ‹_› (Cx.mp ‹_›) h
   ·cases h
  ·cases h
 ·cases h
theorem ad6{k:D}{ak:D→Prop}(h:j' n a k v=some J)(g:∀z,Go n z k v=some J→ak (.ref z)):ak a:=by
 unfold j' at h
 split at h
 ·exact g _ h
 ·cases h
theorem adj{k:D}{ak:D→Prop}(h:vv n a k=some r)(g:∀z,de n (.ref z) k=some r→ak (.ref z)):ak a:=by
 unfold vv at h
 split at h
 ·exact g _ h
 ·cases h
end
theorem V8:cv c nm aK z V .nn:=by
 intro x aj env ai G n s m A ab Q ok F I hA q
 refine tB ok λ k z p ok=>UJ ok ?_
 exact wpAny_Constant_none (Back.now q rfl I)
theorem VR{b:av}:cv c nm aK z V (.cj b):=by
 intro x aj env ai G n s m A ab Q ok F I hA q
 refine tB ok λ k z p ok=>UF ok λ hw ok=>jI ok ?_
 exact wpAny_Constant_bool (Back.now q ln I)
theorem V0{i:am}:cv c nm aK z V (.ii i):=by
 intro x aj env ai G n s m A ab Q ok F I hA q
 refine tB ok λ k z p ok=>Dk ok λ hw ok=>jI ok ?_
 exact I9 (Back.here q ⟨_,rfl⟩ I _)
theorem Wh:cv c nm aK z V (.ss l):=by
 intro x aj env ai G n s m A ab Q ok F I hA q
 refine tB ok λ k z p ok=>Kb ok λ hw ok=>?_
 rw[show hw=st l from gi ok]
 exact R8 (Back.here q ⟨_,rfl⟩ I _)
theorem Wl{i:C}:cv c nm aK z V (.v i):=by
 intro x aj env ai G n s m A ab Q ok F I hA q
 refine mL ok λ y p ok=>fD q λ a bO q=>?_
 exact aal F I (va (a7 ok)) (aD ok) bO q
theorem VZ(Z:hK c nm aK z V){a:D}:cv c nm aK z V (.gl l a):=by
 intro x aj env ai G n s m A ab Q ok F I hA q
 refine mL ok λ y p ok=>?_
 obtain⟨v,e,r⟩:=W5 (G:=G) (h:=s.heap) Z.ok.K (a7 ok)
 exact D4 Z.ok Z.gl F I e (jK (aD ok)).1 (jK (aD ok)).2 (Back.now q r I)
theorem two{a b:ab}(bO:cv c nm aK z V a)(az:cv c nm aK z V b){x y:bn}{aj:B (Y aL)}{env:aX}{ai:eg}{n:St}{m:aL→Y au}{ab:au→a2→Prop}{W:D→D→St→Prop}{X:au→au→a2→Prop}
  (cT:dU (jE c nm aK) a ai.scope aj x=true)(bu:dU (jE c nm aK) b ai.scope aj y=true)(F:c' c aj G env ai s.heap m)(I:Inv c nm G n s)(hA:iH A z)(q:dj c.P V a env (λ db aa=>dj c.P V b env (W db) aa) n)
  (k:∀v u cx ed dz ao b',W cx ed ao→bA c dz b'.heap cx v→bA c dz b'.heap ed u→Inv c nm dz ao b'→Step G s dz b'→X v u b'):bg (bc c.prog c.w) A (eval x ai) (λ v aJ=>bg (bc c.prog c.w) A (eval y ai) (X v) ab aJ) ab s:=
 fM (bO _ _ _ _ _ _ _ _ _ _ _ cT F I hA q) λ _ _ _ _ _ q r ce bU=>fM (az _ _ _ _ _ _ _ _ _ _ _ bu (F.step I bU) ce hA q) λ _ _ _ _ _ q ef c1 du=>k _ _ _ _ _ _ _ q (du.f7 ce r) ef c1 (bU.trans du)
theorem VQ{op:iU}{a b:ab}(bO:cv c nm aK z V a)(az:cv c nm aK z V b):cv c nm aK z V (.bin op a b):=by
 intro x aj env ai G n s m A ab Q ok F I hA q
 refine Hi ok λ l o r p ok=>jI (a7 ok) ?_
 exact I8 (two bO az (a7 (aD ok)) (aD (aD ok)) F I hA q λ v u cx ed dz ao b' q r ef c1 S=>fD q λ y e q=>jf S (Un e r ef q c1))
theorem Wa{a b:ab}(bO:cv c nm aK z V a)(az:cv c nm aK z V b):cv c nm aK z V (.qA a b):=by
 intro x aj env ai G n s m A ab Q ok F I hA q
 refine Hi ok λ l o r p ok=>jI (a7 ok) ?_
 refine I8 (two bO az (a7 (aD ok)) (aD (aD ok)) F I hA q λ v u cx ed dz ao b' q r ef c1 S=>fD q λ y e=>?_)
 revert r ef
 exact adf (ak:=λ cx ed y=>bA c dz b'.heap cx v→bA c dz b'.heap ed u→Q y ao→_) e λ _ r ef q=>jf S (ado r ef q c1)
theorem V'{a b:ab}(bO:cv c nm aK z V a)(az:cv c nm aK z V b):cv c nm aK z V (.pE a b):=by
 intro x aj env ai G n s m A ab Q ok F I hA q
 refine Hi ok λ l o r p ok=>jI (a7 ok) ?_
 refine I8 (two bO az (a7 (aD ok)) (aD (aD ok)) F I hA q λ v u cx ed dz ao b' q r ef c1 S=>fD q λ y e=>?_)
 revert r ef
 exact ade (ak:=λ cx ed y=>bA c dz b'.heap cx v→bA c dz b'.heap ed u→Q (.ref ao.length) (ao++[.li y])→_) e λ _ _ _ e ec ax r ef q=>jf S (adn e ec ax r ef q c1)
theorem V6{a:ab}(bO:cv c nm aK z V a):cv c nm aK z V (.neg a):=by
 intro x aj env ai G n s m A ab Q ok F I hA q
 refine Hn ok λ o y p ok=>jI (a7 ok) ?_
 refine R9 (fM (bO _ _ _ _ _ _ _ _ _ _ _ (aD ok) F I hA q) λ v cx bQ aa aJ q r ce bU=>fD q λ y e=>?_)
 revert r
 exact abl (ak:=λ cx y=>bA c bQ aJ.heap cx v→Q y aa→_) e λ _ r q=>jf bU (Ns r q ce)
theorem VT(Z:hK c nm aK z V){op:jg}{a b:ab}(bO:cv c nm aK z V a)(az:cv c nm aK z V b):cv c nm aK z V (.cmp op a b):=by
 intro x aj env ai G n s m A ab Q ok F I hA q
 refine P4 ok λ l os d3 p ok=>jp ok λ r ok=>jp ok λ o ok=>?_
 have bu:=aD ok
 revert bu
 refine jI (a7 ok) λ bu=>?_
 exact wpAny_Compare1 (two bO az (a7 (aD bu)) (aD (aD bu)) F I hA q λ v u cx ed dz ao b' q r ef c1 S=>fD q λ y e q=>jf S (Kr Z.ok hA.u e r ef q c1)) (by simpa using a7 bu)
theorem V1{t:T}{a b:ab}(bD:nQ c nm aK z V t)(bO:cv c nm aK z V a)(az:cv c nm aK z V b):cv c nm aK z V (.ite t a b):=by
 intro x aj env ai G n s m A ab Q ok F I hA q
 refine agg ok λ u l r p ok=>?_
 refine wpAny_IfExp (qF (bD _ _ _ _ _ _ _ _ _ _ _ (a7 ok) F I hA q) λ v bQ aa aJ q ce bU=>?_)
 cases v
 ·exact jf bU (az _ _ _ _ _ _ _ _ _ _ _ (aD (aD ok)) (F.step I bU) ce hA q)
 ·exact jf bU (bO _ _ _ _ _ _ _ _ _ _ _ (a7 (aD ok)) (F.step I bU) ce hA q)
theorem ur{aj:B (Y aL)}{env:aX}{ai:eg}{A:eC}{ab:au→a2→Prop}{cg:hd}(hA:iH A z):∀{O:d6} {xs:B bn} {G:cA} {n:St} {s:a2} {m:aL→Y au} {Q:B D→St→Prop},kU c nm aK z V O→
  kI (jE c nm aK) O ai.scope aj xs=true→xs.all f3=true→c' c aj G env ai s.heap m→Inv c nm G n s→m6 c.P V O env Q n→bg (bc c.prog c.w) A (sd (kX cg (j1 xs ai))) (Hu c nm G s Q) ab s
 | .nil,_,G,n,_,_,_,_,ok,_,_,I,q=>g0 ok (Sg ⟨[],G,n,q,cs.nil,I,.refl _ _⟩)
 | .cons _ r,xs,_,_,_,_,_,hs,ok,cy,F,I,q=>by
  revert cy
  refine jr ok λ y bf ok cy=>?_
  exact Jd (fM (hs.1 _ _ _ _ _ _ _ _ _ _ _ (a7 ok) F I hA q) λ v cx bQ aa aJ q r ce bU=>vH (ur hA hs.2 (aD ok) (aD cy) (F.step I bU) ce q) λ ar as dz ao b' q d3 c1 du=>
   ⟨_,dz,ao,q,cs.cons (du.f7 ce r) d3,c1,bU.trans du⟩) (vF (a7 cy))
theorem Wj(hs:kU c nm aK z V O):cv c nm aK z V (.tup O):=by
 intro x aj env ai G n s m A ab Q ok F I hA q
 refine Hm ok λ l k p ok=>wpAny_Tuple (vH (ur hA hs (a7 ok) (aD ok) F I q) λ ar as dz ao b' q d3 c1 du=>?_)
 refine⟨by rw[d3.length,lz];omega,?_⟩
 exact Back.after du (Nt (k:=0) (t:=b'.toks) c1 (.refl _ _) d3 q.2)
theorem V4(hs:kU c nm aK z V O):cv c nm aK z V (.lst O):=by
 intro x aj env ai G n s m A ab Q ok F I hA q
 refine agh ok λ l p ok=>wpAny_List (vH (ur hA hs (a7 ok) (aD ok) F I q) λ ar as dz ao b' q d3 c1 du=>?_)
 refine⟨by rw[d3.length,lz];omega,?_⟩
 exact Back.after du (AL (k:=0) (t:=b'.toks) c1 (.refl _ _) d3 (by rw[x3];omega) q.2 (n1 λ _ _ e=>e))
theorem Ju{aj:B (Y aL)}{env:aX}{ai:eg}{A:eC}{ab:au→a2→Prop}{cg:hd}(hA:iH A z):∀{O:d6} {xs:B bn} {G:cA} {n:St} {s:a2} {m:aL→Y au} {Q:dC},kU c nm aK z V O→
  kI (jE c nm aK) O ai.scope aj xs=true→c' c aj G env ai s.heap m→Inv c nm G n s→wA c.P V O env Q n→bg (bc c.prog c.w) A (yY cg .And (I4 xs ai)) (Back c nm G s Q) ab s
 | .nil,_,_,_,_,_,_,_,_,_,_,q=>q.elim
 | .cons e .nil,xs,G,n,s,m,Q,hs,ok,F,I,q=>
  jr ok λ _ _ ok=>g0 (aD ok) (J3 (hs.1 _ _ _ _ _ _ _ _ _ _ _ (a7 ok) F I hA q))
 | .cons e (.cons bC lQ),xs,G,n,s,m,Q,hs,ok,F,I,q=>by
  refine jr ok λ y bf ok=>?_
  have aZ:=λ{xs G n s m Q} (ok:kI (jE c nm aK) (.cons bC lQ) ai.scope aj xs=true) (F:c' c aj G env ai s.heap m) I q=>Ju (cg:=cg) (A:=A) (ab:=ab) hA (O:=.cons bC lQ) (xs:=xs) (G:=G) (n:=n) (s:=s) (m:=m) (Q:=Q) hs.2 ok F I q
  revert aZ
  refine jr (aD ok) λ L bR s7 aZ=>?_
  refine J2 (fM (hs.1 _ _ _ _ _ _ _ _ _ _ _ (a7 ok) F I hA q) λ v cx bQ aa aJ q r ce bU=>fD q λ b e q=>?_)
  refine qF (GL (Q:=λ hw J=>hw=b∧if b=true then wA c.P V (.cons bC lQ) env Q J else Q cx J) e r ⟨rfl,q⟩ ce) λ hw dz ao b' q c1 du=>?_
  obtain⟨rfl,q⟩:=q
  cases hw
  ·exact⟨cx,dz,ao,q,du.f7 ce r,c1,bU.trans du⟩
  ·exact jf (bU.trans du) (aZ (xs:=L::bR) s7 ((F.step I bU).step ce du) c1 q)
theorem NW{aj:B (Y aL)}{env:aX}{ai:eg}{A:eC}{ab:au→a2→Prop}{cg:hd}(hA:iH A z):∀{O:d6} {xs:B bn} {G:cA} {n:St} {s:a2} {m:aL→Y au} {Q:dC},kU c nm aK z V O→
  kI (jE c nm aK) O ai.scope aj xs=true→c' c aj G env ai s.heap m→Inv c nm G n s→xO c.P V O env Q n→bg (bc c.prog c.w) A (yY cg .Or (I4 xs ai)) (Back c nm G s Q) ab s
 | .nil,_,_,_,_,_,_,_,_,_,_,q=>q.elim
 | .cons e .nil,xs,G,n,s,m,Q,hs,ok,F,I,q=>
  jr ok λ _ _ ok=>g0 (aD ok) (J3 (hs.1 _ _ _ _ _ _ _ _ _ _ _ (a7 ok) F I hA q))
 | .cons e (.cons bC lQ),xs,G,n,s,m,Q,hs,ok,F,I,q=>by
  refine jr ok λ y bf ok=>?_
  have aZ:=λ{xs G n s m Q} (ok:kI (jE c nm aK) (.cons bC lQ) ai.scope aj xs=true) (F:c' c aj G env ai s.heap m) I q=>NW (cg:=cg) (A:=A) (ab:=ab) hA (O:=.cons bC lQ) (xs:=xs) (G:=G) (n:=n) (s:=s) (m:=m) (Q:=Q) hs.2 ok F I q
  revert aZ
  refine jr (aD ok) λ L bR s7 aZ=>?_
  refine J2 (fM (hs.1 _ _ _ _ _ _ _ _ _ _ _ (a7 ok) F I hA q) λ v cx bQ aa aJ q r ce bU=>fD q λ b e q=>?_)
  refine qF (GL (Q:=λ hw J=>hw=b∧if b=true then Q cx J else xO c.P V (.cons bC lQ) env Q J) e r ⟨rfl,q⟩ ce) λ hw dz ao b' q c1 du=>?_
  obtain⟨rfl,q⟩:=q
  cases hw
  ·exact jf (bU.trans du) (aZ (xs:=L::bR) s7 ((F.step I bU).step ce du) c1 q)
  ·exact⟨cx,dz,ao,q,du.f7 ce r,c1,bU.trans du⟩
theorem VN(hs:kU c nm aK z V O):cv c nm aK z V (.and O):=by
 intro x aj env ai G n s m A ab Q ok F I hA q
 refine BM ok λ o y p ok=>jI (a7 ok) ?_
 rw[R3];exact Ju hA hs (aD ok) F I q
theorem V9(hs:kU c nm aK z V O):cv c nm aK z V (.or O):=by
 intro x aj env ai G n s m A ab Q ok F I hA q
 refine BM ok λ o y p ok=>jI (a7 ok) ?_
 rw[R3];exact NW hA hs (aD ok) F I q
end
end Mine
end
section
open PySem PySem.W PyProof.Rows
namespace Mine
variable{K:Type}{k:C}{l:B am}{O:d6}{G:cA}{n:St}{s:a2}{Q:dC}{b':a2}{v:au}{xs:B D}
section
variable{c:cV}{nm:B (B C)}{aK:C→a8}{z:C}{V:C→B D→dC→St→Prop}
noncomputable def wa(c:cV)(ai:eg)(A:eC)(ab:au→a2→Prop)[jx K](knd:KeyKind c.prog c.w K)(ks:B K)(mn:B (Y bn)):Prop:=
 ∃fe:B bn,mn=fe.map some∧ks.length=fe.length∧∀(i:C) k na,ks[i]? =some k→fe[i]? =some na→yA c ai A ab knd k na
section
variable{ai:eg}{A:eC}{ab:au→a2→Prop}
theorem MO[jx K]{knd:KeyKind c.prog c.w K}:wa c ai A ab knd [] []:=⟨[],rfl,rfl,λ _ _ _ e=>(nomatch e)⟩
theorem MN[jx K]{knd:KeyKind c.prog c.w K}{k:K}{x:bn}{ks:B K}{r:B (Y bn)}(h:yA c ai A ab knd k x)(t:wa c ai A ab knd ks r):wa c ai A ab knd (k::ks) (some x::r):=
 t.elim λ fe t=>⟨x::fe,an _ t.1,an l2 t.2.1,λ i=>Rl i (λ _ _ aw aB=>ej aw▸ej aB▸h) t.2.2⟩
theorem ae1(ks:B (B C)):∀{mn:B (Y bn)},Gz ks mn=true→wa c ai A ab (strKind c.prog c.w) (ks.map st) mn:=by
 induction ks with
 |nil=>exact λ h=>g0 h MO
 |cons k ks aZ=>exact λ h=>jr h λ e r h=>qt (a7 h) λ x g=>tB g λ y z p g=>Kb g λ b g=>MN (λ s Q dv=>gi g▸R8 (dv _ _ (gi g▸I7 _ _ _ _))) (aZ (aD h))
theorem YY(ks:B am):∀{mn:B (Y bn)},EF ks mn=true→wa c ai A ab (gs c.prog c.w) (ks.map id) mn:=by
 induction ks with
 |nil=>exact λ h=>g0 h MO
 |cons k ks aZ=>exact λ h=>jr h λ e r h=>qt (a7 h) λ x g=>tB g λ y z p g=>Dk g λ b g=>MN (λ s Q dv=>eq_of_beq g▸I9 (dv _ _ (eq_of_beq g▸p4 _ _ _ _))) (aZ (aD h))
end
noncomputable def yw(c:cV)(nm:B (B C))(aK:C→a8)(z:C)(V:C→B D→dC→St→Prop)(aS:gc)(aj:B (Y aL))(env:aX)(xs:B bn)(Q:B D→St→Prop)(n:St):Prop:=
 ∃O,kU c nm aK z V O∧kI (jE c nm aK) O aS aj xs=true∧m6 c.P V O env Q n
theorem KY{aS:gc}{aj:B (Y aL)}{env:aX}{Q:B D→St→Prop}{n:St}:yw c nm aK z V aS aj env [] Q n→Q [] n
 | ⟨.nil,_,_,cI⟩=>cI
 | ⟨.cons _ _,_,aH,_⟩=>jw aH
theorem KX{aj:B (Y aL)}{env:aX}{ai:eg}{A:eC}{ab:au→a2→Prop}(hA:iH A z){e:bn}{r:B bn}:CW c nm aj env ai A ab (yw c nm aK z V ai.scope aj env) e r:=
 λ G n s m Q F I h=>h.elim λ O h=>by
  cases O with
  |nil=>exact jw h.2.1
  |cons x xs=>exact fb (h.1.1 _ _ _ _ _ _ _ _ _ _ _ (a7 h.2.1) F I hA h.2.2) (λ _ _ b=>b.imp λ a b=>b.imp λ bv b=>b.imp λ J b=>⟨⟨xs,h.1.2,aD h.2.1,b.1⟩,b.2⟩) λ _ _ y=>y
theorem Np{α:Type}{l:B α}(h:(!l.isEmpty)=true):l≠ []:=λ e=>by rw[e]at h;exact jw h
theorem VY{ks:B (B C)}(hs:kU c nm aK z V O):cv c nm aK z V (.m4 ks O):=by
 intro x aj env ai G n s m A ab Q ok F I hA q
 refine Hk ok λ mn f6 cg ok=>?_
 obtain⟨fe,rfl,D8,cI⟩:=ae1 (c:=c) (ai:=ai) (A:=A) (ab:=ab) ks (a7 ok)
 have aH:ks.length=fe.length:=(cG st).symm.trans D8
 have o:=aD (aD ok)
 have cT:fe.length=f6.length:=aH.symm.trans (gi (a7 o))
 have bu:fe≠ []:=λ e=>Np (a7 (aD o)) (HO (aH.trans (an f' e)))
 have cX:fe.length≤15:=aH▸gi (a7 (aD (aD o)))
 have cm:ks.Nodup:=gi (aD (aD (aD o)))
 exact KI (knd:=strKind c.prog c.w) (f:=st) (AG:=.ds) (ea:=yw c nm aK z V ai.scope aj env) (λ _ _ _ _ cZ a b=>⟨rfl,cZ,a,b⟩) F I aH cT bu cX
  (tR.mpr (ags (λ h e=>h (ye e)) cm)) cI (λ _ _ _=>KX hA) (λ _ _ h=>KY h) ⟨O,hs,a7 (aD ok),q⟩
theorem VX{ks:B am}(hs:kU c nm aK z V O):cv c nm aK z V (.pa ks O):=by
 intro x aj env ai G n s m A ab Q ok F I hA q
 refine Hk ok λ mn f6 cg ok=>?_
 obtain⟨fe,rfl,D8,cI⟩:=YY (c:=c) (ai:=ai) (A:=A) (ab:=ab) ks (a7 ok)
 have aH:ks.length=fe.length:=(cG id).symm.trans D8
 have o:=aD (aD ok)
 have cT:fe.length=f6.length:=aH.symm.trans (gi (a7 o))
 have bu:fe≠ []:=λ e=>Np (a7 (aD o)) (HO (aH.trans (an f' e)))
 have cX:fe.length≤15:=aH▸gi (a7 (aD (aD o)))
 have cm:ks.Nodup:=gi (aD (aD (aD o)))
 exact KI (knd:=gs c.prog c.w) (f:=id) (AG:=.cq) (ea:=yw c nm aK z V ai.scope aj env) (λ _ _ _ _ cZ a b=>⟨rfl,cZ,a,b⟩) F I aH cT bu cX
  (by rw[Q6];exact cm) cI (λ _ _ _=>KX hA) (λ _ _ h=>KY h) ⟨O,hs,a7 (aD ok),q⟩
theorem Fo{o:a0}(I:Inv c nm G n s)(bz:Q (.ref n.length) (n++[o]))(be:∀G h ag,h.get? ag=some ly→gC c nm G h (ag,ag) o):
  Back c nm G s Q (.ref s.heap.objs.size) {s with heap:=s.heap.push {cls:=.type "dict",data:=.dict #[]}}:=by
 have ht:cu (λ _=>False) s.heap (s.heap.push ly):=cu.push _ _
 have cl:s.heap.get? s.heap.objs.size=none:=n1 λ _ _ e=>e
 refine⟨.ref n.length,G++[(s.heap.objs.size,s.heap.objs.size)],n++[o],bz,?_,I.alloc (t:=s.toks) ht (I.qm λ _ _ e=>e) (I.qm λ _ _ e=>e) cl cl (be _ _ _ (nK _ rfl)),.alloc (t:=s.toks) ht cl cl⟩
 exact⟨(s.heap.objs.size,s.heap.objs.size),by rw[←I.len];simp,rfl⟩
theorem Vm{h:dD}{ag:a8}(e:h.get? ag=some ly):h.DictOfH (At c.prog c.w) ag []:=
 ⟨_,#[],0,e,⟨rfl,rfl,rfl⟩,rfl,rfl,λ _ h=>(nomatch h),Cf⟩
theorem VV{k:HD}:cv c nm aK z V (.eQ k):=by
 intro x aj env ai G n s m A ab Q ok F I hA q
 refine Hk ok λ a b cg ok=>g0 (a7 ok) (g0 (aD ok) (wpAny_Dict_empty ?_))
 cases k with
 |i=>exact Fo I q λ _ _ _ e=>⟨rfl,[],DC e,rfl⟩
 |s=>exact Fo I q λ _ _ _ e=>⟨rfl,[],DC e,rfl⟩
 |t=>exact Fo I q λ _ _ _ e=>⟨rfl,[],Vm e,rfl⟩
theorem VP(Z:hK c nm aK z V){a:ab}{f:C}(bO:cv c nm aK z V a):cv c nm aK z V (.at a f):=by
 intro x aj env ai G n s m A ab Q ok F I hA q
 refine tA ok λ y gW cg ok=>?_
 have e:gW=gK nm f:=gi (a7 ok)
 cases e
 exact S7 (zp (a7 (aD ok))) (fM (bO _ _ _ _ _ _ _ _ _ _ _ (aD (aD ok)) F I hA q) λ v cx bQ aa aJ q r ce bU=>fD q λ y e q=>jf bU (JK Z.ok e r q ce))
theorem subB{bQ:cA}{aJ:a2}{A:eC}{ab:au→a2→Prop}{u:au}(S:Step G s bQ aJ)(h:wj (bc c.prog c.w) A v u (Back c nm bQ aJ Q) ab b'):wj (bc c.prog c.w) A v u (Back c nm G s Q) ab b':=
 let⟨T,id,ax,aH,cI⟩:=h;⟨T,id,ax,aH,jf S cI⟩
theorem V2{a i:ab}(bO:cv c nm aK z V a)(ay:cv c nm aK z V i):cv c nm aK z V (.aq a i):=by
 intro x aj env ai G n s m A ab Q ok F I hA q
 refine tC ok λ y L p ok=>?_
 exact Bq (two bO ay (a7 ok) (aD ok) F I hA q λ v u cx ed dz ao b' q r ef c1 S=>fD q λ y e q=>subB S (ae5 e r ef q c1))
theorem afG(I:Inv c nm G n s)(h:n[k]? =some (.li xs))(x:bA c G s.heap (.ref k) v):s.TypeIs v "list":=by
 obtain⟨p,bM,rfl⟩:=x
 obtain⟨a3,_,items,d9,aw,hl,a4,hs⟩:=rq I bM h
 exact hl.typeIs
theorem PM{H:dD}{T:wt}(h:s.TypeIs v T)(k:∀b o,s.heap.get? b=some o→H.get? b=some o):({s with heap:=H}:a2).TypeIs v T:=by
 cases v with
 |ref a=>obtain⟨o,e,hc⟩:=h;exact⟨o,k _ _ e,hc⟩
 |_=>exact h
theorem Mf{G:cA}{h:dD}:∀{l:B am} {ar:B au},tL l ar→cs c G h (l.map .ii) ar
 | [],_,x=>by simp only[tL]at x;subst x;exact cs.nil
 |i::r,_,x=>by
  simp only[tL]at x
  obtain⟨t,G9,rfl,x⟩:=x
  exact cs.cons ⟨t,rfl⟩ (Mf x)
theorem Uv{a:a8}(az:BY c l a)(I:Inv c nm G n s):s.TypeIs (.ref a) "list":=by
 obtain⟨items,k,e,r⟩:=az
 exact⟨_,I.base _ _ e,rfl⟩
theorem Uu{A:eC}{ab:au→a2→Prop}{a:a8}{ay:am}{afi:i0}(az:BY c l a)(ec:0≤ay)(a3:l.length≤1000)(bz:Q (.ref n.length) (n++[.li ((l.take ay.toNat).map .ii)]))(I:Inv c nm G n s){aI:dD}{dQ:a8}
  (hs:aI.IsSliceOf dQ .none (.int ay afi) .none)(k:∀b o,s.heap.get? b=some o→aI.get? b=some o){t:C}:bg (bc c.prog c.w) A (t6 (.ref a) (.ref dQ)) (Back c nm G s Q) ab {s with heap:=aI,toks:=t}:=by
 obtain⟨items,d9,e,r⟩:=az
 have bw:cs c G s.heap (l.map .ii) items.toList:=Mf r
 have i4:items.size=l.length:=by
  have:=bw.length
  simpa using this
 refine Se (s:={s with heap:=aI,toks:=t}) (hl:=⟨_,k _ _ (I.base _ _ e),rfl,d9,rfl⟩) hs .none (.int _ _) .none (by simp) ?_ (by rw[lz];omega)
 have aB:sc items none (some ay) none=(sc items none (some ay) none).toList.toArray:=by simp
 rw[aB]
 refine AL (H:=aI) I (cu.of_keep k) (by have:=N3 ec bw;rwa [←Q8]at this) (by rw[x3];simp[H2];omega) bz (n1 k)
theorem DA{dz:cA}{A:eC}{ab:au→a2→Prop}{bf:B D}{rT vP ar:au}{lo ay ea:Y am}(S:Step G s dz b')(e:n[k]? =some (.li xs))(r:bA c dz b'.heap (.ref k) v)(lO:wh rT lo)(F0:wh vP ay)(cp:wh ar ea)(ec:ea≠some 0)
  (bI:∀items:gS au,cs c dz b'.heap xs items.toList→cs c dz b'.heap bf (sc items lo ay ea).toList)(a3:bf.length≤xs.length)(bz:Q (.ref n.length) (n++[.li bf]))(I:Inv c nm dz n b'):
  wj (bc c.prog c.w) A v (.ref b'.heap.objs.size) (Back c nm G s Q) ab {b' with heap:=b'.heap.push {cls:=.type "slice",data:=.fields #[rT,vP,ar]}}:=
 have k:∀b o,b'.heap.get? b=some o→(b'.heap.push {cls:=.type "slice",data:=.fields #[rT,vP,ar]}).get? b=some o:=λ _ _ e=>lv _ e
 subB S ⟨"list",_,IB.lookup,PM (afG I e r) k,aei (t:=b'.toks) e r lO F0 cp ec bI a3 bz I (IE ..) k⟩
theorem We{a lo:ab}(bO:cv c nm aK z V a)(ay:cv c nm aK z V lo):cv c nm aK z V (.lk a lo):=by
 intro x aj env ai G n s m A ab Q ok F I hA q
 refine tC ok λ y L p ok=>Bq (fM (bO _ _ _ _ _ _ _ _ _ _ _ (a7 ok) F I hA q) λ v cx bQ aa aJ q r ce bU=>?_)
 refine Hl (aD ok) λ l h ui p ok=>rA (a7 ok) (rA (a7 (aD ok)) (qt (aD (aD ok)) λ ahe ok=>?_))
 refine I' (fM (show bg (bc c.prog c.w) A (evalPart (some _) ai) _ ab aJ from ay _ _ _ _ _ _ _ _ _ _ _ ok (F.step I bU) ce hA q) λ u ed dz ao b' q ef c1 du=>eH (eH (fD q λ y e=>?_)))
 have r:=du.f7 ce r
 revert r ef
 exact WL (ak:=λ cx ed y=>bA c dz b'.heap ed u→bA c dz b'.heap cx v→Q (.ref ao.length) (ao++[.li y])→_) e λ _ _ _ e ec ⟨_,ef⟩ r q=>ef▸DA (bU.trans du) e r (.int _ _) .none .none (by simp) (λ _ a4=>pick_from ec a4) (by simp) q c1
theorem Wf{a ay:ab}(bO:cv c nm aK z V a)(gM:cv c nm aK z V ay):cv c nm aK z V (.mF a ay):=by
 intro x aj env ai G n s m A ab Q ok F I hA q
 refine tC ok λ y L p ok=>Bq (fM (bO _ _ _ _ _ _ _ _ _ _ _ (a7 ok) F I hA q) λ v cx bQ aa aJ q r ce bU=>?_)
 refine Hl (aD ok) λ l h ui p ok=>rA (a7 ok) (rA (a7 (aD ok)) (qt (aD (aD ok)) λ ia ok=>?_))
 refine I' (eH (fM (show bg (bc c.prog c.w) A (evalPart (some _) ai) _ ab aJ from gM _ _ _ _ _ _ _ _ _ _ _ ok (F.step I bU) ce hA q) λ u ed dz ao b' q ef c1 du=>eH (fD q λ y e=>?_)))
 have k:∀nn t b o,b'.heap.get? b=some o→(b'.heap.push {cls:=.type "slice",data:=.fields #[.none,.int nn t,.none]}).get? b=some o:=λ _ _ _ _ e=>lv _ e
 have r:=du.f7 ce r
 revert r ef
 refine afQ (ak:=λ cx ed y=>bA c dz b'.heap ed u→bA c dz b'.heap cx v→Q (s0 ao y).1 (s0 ao y).2→_) e ?_ ?_ ?_
 ·exact λ _ _ _ e ec ⟨_,ef⟩ r q=>ef▸DA (bU.trans du) e r .none (.int _ _) .none (by simp) (λ _ a4=>N3 ec a4) (by simp[H2];omega) q c1
 ·exact λ _ _ ec ax ⟨_,ef⟩ ⟨_,r⟩ q=>ef▸r▸subB (bU.trans du) ⟨"str",_,RP.lookup,typeIs_str _ _ _,ae3 (cB:=b'.toks) ec ax q c1 (IE ..) (k _ _)⟩
 ·exact λ _ _ ec ax ⟨_,ef⟩ ⟨_,r,az⟩ q=>ef▸r▸subB (bU.trans du) ⟨"list",_,IB.lookup,PM (Uv az c1) (k _ _),Uu (t:=b'.toks) az ec ax q c1 (IE ..) (k _ _)⟩
theorem Wb{a:ab}(bO:cv c nm aK z V a):cv c nm aK z V (.rev a):=by
 intro x aj env ai G n s m A ab Q ok F I hA q
 refine tC ok λ y L p ok=>Bq (fM (bO _ _ _ _ _ _ _ _ _ _ _ (a7 ok) F I hA q) λ v cx bQ aa aJ q r ce bU=>?_)
 refine Hl (aD ok) λ l h ui p ok=>rA (a7 ok) (rA (a7 (aD ok)) (qt (aD (aD ok)) λ u ok=>Hn ok λ o w f4 ok=>?_))
 have s7:=aD ok
 revert s7
 refine jI (a7 ok) λ s7=>tB s7 λ w z p ok=>Dk ok λ i ok=>jI ok ?_
 refine I' (eH (eH ?_))
 show bg (bc c.prog c.w) A (eval _ ai) _ ab aJ
 refine R9 (I9 ?_)
 refine fM (Ns (i:=1) (Q:=λ b J=>b= .ii (-1)∧J=aa) (s:={aJ with toks:=aJ.toks+1}) (n:=aa) (G:=bQ) ⟨_,rfl⟩ ⟨rfl,rfl⟩ (ce.tok _)) λ u ed dz ao b' cO ef c1 du=>?_
 obtain⟨rfl,rfl⟩:=cO
 obtain⟨t,rfl⟩:=ef
 have Jj:Step bQ aJ dz b':=⟨du.ext,du.ch⟩
 have r:=Jj.f7 ce r
 refine fD q λ y e=>?_
 revert r
 exact ZZ (ak:=λ cx y=>bA c dz b'.heap cx v→Q (.ref ao.length) (ao++[.li y.reverse])→_) e λ _ _ e r q=>DA (bU.trans Jj) e r .none .none (.int _ _) (by simp) (λ _ a4=>acL a4) (by simp) q c1
end
end Mine
end
section
open PySem PySem.W PyProof.Rows
namespace Mine
variable{bE:fc}{A:eC}{env:eg}{cg:hd}{b6:B bn}{Q:au→a2→Prop}{s:a2}{first:B au}{O:d6}{k:C}{ai:eg}{L u:bn}
section
variable{c:cV}{nm:B (B C)}{aK:C→a8}{z:C}{V:C→B D→dC→St→Prop}
theorem afq{a:ab}(bO:cv c nm aK z V a):nQ c nm aK z V (.e a):=by
 intro x aj env ai G n s m A ab Q ok F I hA q
 exact afh (a7 ok) (fM (bO _ _ _ _ _ _ _ _ _ _ _ (aD ok) F I hA q) λ v cx bQ aa aJ q r ce bU=>fD q λ b e q=>BI bU (GL e r q ce))
theorem afr{t:T}(bD:nQ c nm aK z V t):nQ c nm aK z V (.g4 t):=by
 intro x aj env ai G n s m A ab Q ok F I hA q
 refine Hn ok λ o y p ok=>jI (a7 ok) ?_
 exact wpAny_isTrue_Not (qF (bD _ _ _ _ _ _ _ _ _ _ _ (aD ok) F I hA q) λ v bQ aa aJ q ce bU=>⟨bQ,aa,q,ce,bU⟩)
theorem afp(Z:hK c nm aK z V){op:jg}{a b:ab}(bO:cv c nm aK z V a)(az:cv c nm aK z V b):nQ c nm aK z V (.cmp op a b):=by
 intro x aj env ai G n s m A ab Q ok F I hA q
 refine P4 ok λ l os d3 p ok=>jp ok λ r ok=>jp ok λ o ok=>?_
 have bu:=aD ok
 revert bu
 refine jI (a7 ok) λ bu=>?_
 refine aff (by simpa using a7 bu) (two bO az (a7 (aD bu)) (aD (aD bu)) F I hA q λ v u cx ed dz ao b' q r ef c1 S=>fD q λ y e q=>?_)
 refine fM (Kr (Q:=λ hw J=>hw= .cj y∧Q y J) Z.ok hA.u e r ef ⟨rfl,q⟩ c1) λ w ek oH bW ju q ox h1 iq=>?_
 obtain⟨rfl,q⟩:=q
 cases ox
 exact Sk ⟨oH,bW,q,h1,S.trans iq⟩
theorem Pm{aj:B (Y aL)}{env:aX}{ai:eg}{A:eC}{ab:au→a2→Prop}(hA:iH A z):∀{bE:fc} {xs:B bn} {G:cA} {n:St} {s:a2} {m:aL→Y au} {Q:av→St→Prop},p5 c nm aK z V bE→
  s9 (jE c nm aK) bE ai.scope aj xs=true→c' c aj G env ai s.heap m→Inv c nm G n s→rN c.P V bE env Q n→bg (bc c.prog c.w) A (allTrue .And xs ai) (kT c nm G s Q) ab s
 | .nil,_,G,n,_,_,_,_,ok,_,I,q=>g0 ok (wpAny_allTrue_And_nil ⟨G,n,q,I,.refl _ _⟩)
 | .cons _ _,_,_,_,_,_,_,hs,ok,F,I,q=>jr ok λ _ _ ok=>
   wpAny_allTrue_And_cons (qF (hs.1 _ _ _ _ _ _ _ _ _ _ _ (a7 ok) F I hA q) λ v bQ aa aJ q ce bU=>match v,q with
   |false,q=>⟨bQ,aa,q,ce,bU⟩
   |true,q=>BI bU (Pm hA hs.2 (aD ok) (F.step I bU) ce q))
theorem Pz{aj:B (Y aL)}{env:aX}{ai:eg}{A:eC}{ab:au→a2→Prop}(hA:iH A z):∀{bE:fc} {xs:B bn} {G:cA} {n:St} {s:a2} {m:aL→Y au} {Q:av→St→Prop},p5 c nm aK z V bE→
  s9 (jE c nm aK) bE ai.scope aj xs=true→c' c aj G env ai s.heap m→Inv c nm G n s→Bx c.P V bE env Q n→bg (bc c.prog c.w) A (allTrue .Or xs ai) (kT c nm G s Q) ab s
 | .nil,_,G,n,_,_,_,_,ok,_,I,q=>g0 ok (wpAny_allTrue_Or_nil ⟨G,n,q,I,.refl _ _⟩)
 | .cons _ _,_,_,_,_,_,_,hs,ok,F,I,q=>jr ok λ _ _ ok=>
   wpAny_allTrue_Or_cons (qF (hs.1 _ _ _ _ _ _ _ _ _ _ _ (a7 ok) F I hA q) λ v bQ aa aJ q ce bU=>match v,q with
   |true,q=>⟨bQ,aa,q,ce,bU⟩
   |false,q=>BI bU (Pz hA hs.2 (aD ok) (F.step I bU) ce q))
theorem afo(hs:p5 c nm aK z V bE):nQ c nm aK z V (.and bE):=by
 intro x aj env ai G n s m A ab Q ok F I hA q
 refine BM ok λ o y p ok=>jI (a7 ok) ?_
 exact Sf (Pm hA hs (aD ok) F I q)
theorem afs(hs:p5 c nm aK z V bE):nQ c nm aK z V (.or bE):=by
 intro x aj env ai G n s m A ab Q ok F I hA q
 refine BM ok λ o y p ok=>jI (a7 ok) ?_
 exact Sf (Pz hA hs (aD ok) F I q)
theorem GG{aj:B (Y aL)}{env:aX}{ai:eg}{A:eC}{ab:au→a2→Prop}(hA:iH A z):∀{bE:fc} {xs:B bn} {G:cA} {n:St} {s:a2} {m:aL→Y au} {Q:av→St→Prop},p5 c nm aK z V bE→
  s9 (jE c nm aK) bE ai.scope aj xs=true→c' c aj G env ai s.heap m→Inv c nm G n s→rN c.P V bE env Q n→
  bg (bc c.prog c.w) A (forIn xs true λ c r=>if r=true then do let ok←isTrue c ai (eval c ai);pure (kV ok)else pure (kV r)) (kT c nm G s Q) ab s
 | .nil,_,G,n,_,_,_,_,ok,_,I,q=>g0 ok (wpAny_tests_nil ⟨G,n,q,I,.refl _ _⟩)
 | .cons t lQ,xs,G,n,s,m,Q,hs,ok,F,I,q=>by
  refine jr ok λ y bf ok=>?_
  rw[HU]
  refine cK (cK (qF (hs.1 _ _ _ _ _ _ _ _ _ _ _ (a7 ok) F I hA q) λ v bQ aa aJ q ce bU=>eH ?_))
  cases v
  ·have skip:∀bR:B bn,(forIn bR false λ c r=>if r=true then do let ok←isTrue c ai (eval c ai);pure (kV ok)else pure (kV r):il av)=pure false:=by
    intro bR
    induction bR with
    |nil=>rfl
    |cons L bR aZ=>rw[HU];exact aZ
   show bg _ _ (forIn bf false _) _ _ _
   rw[skip]
   exact eH ⟨bQ,aa,q,ce,bU⟩
  ·exact BI bU (GG hA hs.2 (aD ok) (F.step I bU) ce q)
theorem VU{b7 bb:ab}{xs:B C}{many:av}{eo:fc}(XG:cv c nm aK z V b7)(m9:cv c nm aK z V bb)(qh:p5 c nm aK z V eo):cv c nm aK z V (.comp b7 xs many bb eo):=by
 intro x aj env ai G n s m A ab Q ok F I hA q
 refine P7 ok λ e en bG cg ok=>jp ok λ g ok=>?_
 obtain⟨Bt,hy,YO,uS⟩:=g
 have md:uS=0:=jl.mp (a7 ok)
 cases md
 have cT:=aD ok
 have bu:=aD (aD (aD cT))
 have cX:=aD (aD (aD bu))
 exact Vb (oz:=λ aF K n=>rN c.P V eo aF K n) (kx:=λ aF K n=>dj c.P V b7 aF K n) hA.1 F I (Kt (a7 cT)) (a7 (aD cT)) (a7 (aD (aD cT))) (a7 bu) (Gp (a7 (aD bu))) (m9 _ _ _ _ _ _ _ _ _ _ _ (a7 (aD (aD bu))) F I hA q) (λ fN aa h=>q5 h)
  (λ g6 aF G n s m K g8 F I h=>GG (ai:=compEnvC bG (gg ai.cells bG.names []) g6 ai) hA qh (a7 cX) F I h) (λ g6 aF G n s m K g8 F I h=>XG _ _ _ _ _ _ _ _ _ _ _ (aD cX) F I hA h) (λ x K n h=>q5 h)
theorem Dn{ab:au→a2→Prop}{f:au}(X:c.K.In c.h₀)(hk:yW c.K f=true)(hs:b6.all f3=true)
  (h:bg (bc c.prog c.w) A (sd (kX cg (j1 b6 env))) (λ ar aJ=>c.K.In aJ.heap∧bg (bc c.prog c.w) A (call f (first++ar)) Q ab aJ) ab s):bg (bc c.prog c.w) A (y0 cg f first (kX cg (j1 b6 env)) []) Q ab s:=
 callWith_of (by rw[Bp hs];rfl) (keeps_K hk) (DI hs h)
theorem VS(Z:hK c nm aK z V){f:C}(hs:kU c nm aK z V O):cv c nm aK z V (.call f O):=by
 intro x aj env ai G n s m A ab Q ok F I hA q
 refine nw ok λ g xs f1 cg ok=>g0 (a7 ok) ?_
 have o:=aD (aD ok)
 refine mL (a7 (aD ok)) λ y p cT=>?_
 refine se (D4 Z.ok Z.gl F I (Le (a7 (aD cT))) (jK (a7 cT)).1 (jK (a7 cT)).2 ?_)
 exact Dn Z.ok.K (aD (aD cT)) (aD o) (vH (ur hA hs (a7 o) (aD o) F I q) λ ar as bQ aa aJ q r ce bU=>⟨ce.K Z.ok.K,Ja (Z.call A f as ar bQ aa aJ Q _ hA.a ce r q λ v a9 b=>b.after bU)⟩)
theorem V7(Z:hK c nm aK z V)(hs:kU c nm aK z V O):cv c nm aK z V (.new k O):=by
 intro x aj env ai G n s m A ab Q ok F I hA q
 refine nw ok λ g xs f1 cg ok=>g0 (a7 ok) ?_
 have o:=aD (aD ok)
 refine mL (a7 (aD ok)) λ y p cT=>fD q λ f cl q=>?_
 have i:=Z.more.i6 k f cl
 have ay:(c.P.i6 k).isSome=true:=by rw[cl];rfl
 refine se (D4 Z.ok Z.gl F I (Le (a7 (aD cT))) (jK (a7 cT)).1 (jK (a7 cT)).2 ?_)
 refine Dn Z.ok.K (aD (aD cT)) (aD o) (vH (ur hA hs (a7 o) (aD o) F I q) λ ar as bQ aa aJ q r ce bU=>⟨ce.K Z.ok.K,?_⟩)
 refine aaG (aK:=aK f) Z.ok ce ay i.1 i.2 λ nz g8 hf ir k3=>?_
 obtain⟨c1,du⟩:=abV (V:=k) ce ay
 have Xb:BV nz z:=⟨hf.trans hA.1,by have:=hA.2.1;omega,by have:=hA.2.2;omega⟩
 have Bg:bA c (bQ++[(aJ.heap.objs.size+1,aJ.heap.objs.size)]) ((aJ.heap.push ly).push (nL (c.ca k) aJ.heap.objs.size)) (.ref aa.length) (.ref (aJ.heap.objs.size+1)):=
  ⟨(aJ.heap.objs.size+1,aJ.heap.objs.size),by rw[←ce.len];simp,rfl⟩
 exact Z.call nz f (.ref aa.length::as) (.ref (aJ.heap.objs.size+1)::ar) _ _ _ _ _ Xb c1 (cs.cons Bg (du.vO ce r)) q λ v a9 ⟨_,bv,J,⟨e,q⟩,hG,ey,fC⟩=>
  ⟨by subst e;exact hG,⟨_,bv,J,q,Bg.keep fC.ext.1 (c1.nc fC.ch),ey,(bU.trans du).trans fC⟩⟩
theorem V5(Z:hK c nm aK z V){o:ab}(be:cv c nm aK z V o)(hs:kU c nm aK z V O):cv c nm aK z V (.hj o k O):=by
 intro x aj env ai G n s m A ab Q ok F I hA q
 refine nw ok λ g xs f1 cg ok=>g0 (a7 ok) ?_
 have bu:=aD (aD (aD ok))
 refine tA (a7 bu) λ y gW eA cT=>?_
 have e:gW=gK nm k:=gi (a7 cT)
 cases e
 refine method_call (zp (a7 (aD cT))) (aD (aD bu)) (gi (a7 (aD (aD ok)))) (a7 (aD (aD cT))) (fM (be _ _ _ _ _ _ _ _ _ _ _ (aD (aD (aD cT))) F I hA q) λ v cx bQ aa aJ q r ce bU lO=>fD q λ f cl=>?_)
 revert r
 refine aaT (ak:=λ cx=>bA c bQ aJ.heap cx v→m6 c.P V O env (λ ar ao=>V f (cx::ar) Q ao) aa→_) cl λ nn ui aG e El cl r q=>?_
 have i:=Z.more.pv ui k f cl
 exact W1 Z.ok ce e El (gi (a7 (aD ok))) r i.1 i.2.1 (Dn Z.ok.K i.2.2 (aD (aD bu)) (vH (ur hA hs (a7 (aD bu)) (aD (aD bu)) (F.step I bU) ce q) λ ar as dz ao b' q d3 c1 du=>⟨c1.K Z.ok.K,
  Ja (Z.call A f _ (v::ar) dz ao b' Q _ hA.a c1 (cs.cons (du.f7 ce r) d3) q λ v a9 b=>b.after (bU.trans du))⟩))
theorem s'{ab:au→a2→Prop}{Q:B au→a2→Prop}(a3:f3 L=true)(h:bg (bc c.prog c.w) A (eval L ai) (λ v aJ=>Q [v] aJ) ab s):
  bg (bc c.prog c.w) A (sd (kX cg (j1 [L] ai))) Q ab s:=
 Jd (fb h (λ _ _ q=>Sg q) λ _ _ y=>y) (vF a3)
theorem PG{ab:au→a2→Prop}{Q:B au→a2→Prop}(a3:f3 L=true)(dS:f3 u=true)
  (h:bg (bc c.prog c.w) A (eval L ai) (λ v aJ=>bg (bc c.prog c.w) A (eval u ai) (λ w b'=>Q [v,w] b') ab aJ) ab s):bg (bc c.prog c.w) A (sd (kX cg (j1 [L,u] ai))) Q ab s:=
 Jd (fb h (λ _ _ q=>s' dS q) λ _ _ y=>y) (vF a3)
theorem zu{ab:au→a2→Prop}{id:wt}(hs:b6.all f3=true)
  (h:bg (bc c.prog c.w) A (sd (kX cg (j1 b6 env))) (λ ar aJ=>bg (bc c.prog c.w) A (call (.builtin id) (first++ar)) Q ab aJ) ab s):bg (bc c.prog c.w) A (y0 cg (.builtin id) first (kX cg (j1 b6 env)) []) Q ab s:=
 Calls.callWith_builtin (Bp hs) (DI hs h)
theorem zv{ab:au→a2→Prop}{T:wt}(hs:b6.all f3=true)
  (h:bg (bc c.prog c.w) A (sd (kX cg (j1 b6 env))) (λ ar aJ=>bg (bc c.prog c.w) A (call (.type T) (first++ar)) Q ab aJ) ab s):bg (bc c.prog c.w) A (y0 cg (.type T) first (kX cg (j1 b6 env)) []) Q ab s:=
 PySem.callWith_type (Bp hs) (DI hs h)
theorem all1(h:f3 L=true): [L].all f3=true:=by simp[h]
theorem all2(h:f3 L=true)(H:f3 u=true): [L,u].all f3=true:=by simp[h,H]
theorem V3(Z:hK c nm aK z V){a:ab}(bO:cv c nm aK z V a):cv c nm aK z V (.len a):=by
 intro x aj env ai G n s m A ab Q ok F I hA q
 refine nw ok λ g xs f1 cg ok=>g0 (a7 (aD ok)) (jp (aD (aD ok)) λ L o=>ud (a7 ok) λ p g1 g2=>?_)
 refine se (uf Z.ok Z.gl F I (uz g2) Uw (by decide) (jK g1).1 (jK g1).2 ?_)
 refine zu (all1 (aD o)) (s' (aD o) (fM (bO _ _ _ _ _ _ _ _ _ _ _ (a7 o) F I hA q) λ v cx bQ aa aJ q r ce bU=>fD q λ y e=>?_))
 exact λ q=>jf bU (ZT e r q ce)
theorem Wk(Z:hK c nm aK z V){a:ab}(bO:cv c nm aK z V a):cv c nm aK z V (.jc a):=by
 intro x aj env ai G n s m A ab Q ok F I hA q
 refine nw ok λ g xs f1 cg ok=>g0 (a7 (aD ok)) (jp (aD (aD ok)) λ L o=>ud (a7 ok) λ p g1 g2=>?_)
 refine se (uf Z.ok Z.gl F I (uz g2) Uz (by decide) (jK g1).1 (jK g1).2 ?_)
 refine zv (all1 (aD o)) (s' (aD o) (fM (bO _ _ _ _ _ _ _ _ _ _ _ (a7 o) F I hA q) λ v cx bQ aa aJ q r ce bU=>fD q λ y e=>?_))
 revert r
 exact afu (ak:=λ cx y=>bA c bQ aJ.heap cx v→Q y aa→_) e (λ _ _ e r q=>jf bU (afv e r q ce)) λ _ r q=>jf bU (afw r q ce)
theorem Wg(Z:hK c nm aK z V){a:ab}(bO:cv c nm aK z V a):cv c nm aK z V (.sorted a):=by
 intro x aj env ai G n s m A ab Q ok F I hA q
 refine nw ok λ g xs f1 cg ok=>g0 (a7 (aD ok)) (jp (aD (aD ok)) λ L o=>ud (a7 ok) λ p g1 g2=>?_)
 refine se (uf Z.ok Z.gl F I (uz g2) Ux (by decide) (jK g1).1 (jK g1).2 ?_)
 refine zu (all1 (aD o)) (s' (aD o) (fM (bO _ _ _ _ _ _ _ _ _ _ _ (a7 o) F I hA q) λ v cx bQ aa aJ q r ce bU=>fD q λ y e=>?_))
 revert r
 exact aej (ak:=λ cx y=>bA c bQ aJ.heap cx v→Q (.ref aa.length) (aa++[.li y])→_) e λ _ _ _ e d' cO bC j8 r q=>jf bU (aeq e d' cO bC (by rw[x3];omega) r q ce)
theorem Wi(Z:hK c nm aK z V){a:ab}(bO:cv c nm aK z V a):cv c nm aK z V (.strOf a):=by
 intro x aj env ai G n s m A ab Q ok F I hA q
 refine nw ok λ g xs f1 cg ok=>g0 (a7 (aD ok)) (jp (aD (aD ok)) λ L o=>ud (a7 ok) λ p g1 g2=>?_)
 refine se (uf Z.ok Z.gl F I (uz g2) Uy (by decide) (jK g1).1 (jK g1).2 ?_)
 refine zv (all1 (aD o)) (s' (aD o) (fM (bO _ _ _ _ _ _ _ _ _ _ _ (a7 o) F I hA q) λ v cx bQ aa aJ q r ce bU=>fD q λ y e=>?_))
 revert r
 exact ae0 (ak:=λ cx y=>bA c bQ aJ.heap cx v→Q y aa→_) e λ _ _ e r q=>jf bU (ae2 e r q ce)
theorem Wc(Z:hK c nm aK z V){a:ab}(bO:cv c nm aK z V a):cv c nm aK z V (.gQ a):=by
 intro x aj env ai G n s m A ab Q ok F I hA q
 refine nw ok λ g xs f1 cg ok=>g0 (a7 (aD ok)) (jp (aD (aD ok)) λ L o=>ud (a7 ok) λ p g1 g2=>?_)
 refine se (uf Z.ok Z.gl F I (uz g2) J0 (by decide) (jK g1).1 (jK g1).2 ?_)
 refine zv (all1 (aD o)) (s' (aD o) (fM (bO _ _ _ _ _ _ _ _ _ _ _ (a7 o) F I hA q) λ v cx bQ aa aJ q r ce bU=>fD q λ y e=>?_))
 revert r
 exact ads (ak:=λ cx y=>bA c bQ aJ.heap cx v→Q y aa→_) e λ _ r q=>jf bU (adu r q ce)
theorem Wd(Z:hK c nm aK z V){a b:ab}(bO:cv c nm aK z V a)(az:cv c nm aK z V b):cv c nm aK z V (.pF a b):=by
 intro x aj env ai G n s m A ab Q ok F I hA q
 refine nw ok λ g xs f1 cg ok=>g0 (a7 (aD ok)) (jr (aD (aD ok)) λ L r o=>jp o λ u o=>ud (a7 ok) λ p g1 g2=>?_)
 refine se (uf Z.ok Z.gl F I (uz g2) J0 (by decide) (jK g1).1 (jK g1).2 ?_)
 refine zv (all2 (aD (a7 o)) (aD (aD o))) (PG (aD (a7 o)) (aD (aD o)) (two bO az (a7 (a7 o)) (a7 (aD o)) F I hA q λ v u cx ed dz ao b' q r ef c1 S=>fD q λ y e=>?_))
 revert r ef
 exact adv (ak:=λ cx ed y=>bA c dz b'.heap cx v→bA c dz b'.heap ed u→Q y ao→_) e λ _ _ r ef q=>jf S (adw r ef q c1)
theorem VO{o a:ab}(be:cv c nm aK z V o)(bO:cv c nm aK z V a):cv c nm aK z V (.append o a):=by
 intro x aj env ai G n s m A ab Q ok F I hA q
 refine nw ok λ g xs f1 cg ok=>g0 (a7 ok) (jp (aD (aD ok)) λ L lg=>tA (a7 (aD ok)) λ y gW eA cT=>?_)
 have e:gW="append":=gi (a7 cT)
 cases e
 refine method_call (zp (a7 (aD cT))) (all1 (aD lg)) (show 1<30 by decide) (a7 (aD (aD cT))) (fM (be _ _ _ _ _ _ _ _ _ _ _ (aD (aD (aD cT))) F I hA q) λ v cx bQ aa aJ q r ce bU lO=>?_)
 have cO:=q.2
 revert r cO
 refine Y5 (ak:=λ cx=>bA c bQ aJ.heap cx v→dj c.P V a env (λ yp ao=>et (l8 ao cx yp) λ bW=>Q .nn bW) aa→_) q.1 λ k xs e r q=>?_
 refine WX ce e r (zu (all1 (aD lg)) (s' (aD lg) (fM (bO _ _ _ _ _ _ _ _ _ _ _ (a7 lg) (F.step I bU) ce hA q) λ u ed dz ao b' q ef c1 du=>fD q λ y e=>?_)))
 exact S1 (ak:=λ y=>Q .nn y→_) e λ _ e h q=>jf (bU.trans du) (S2 e h (du.f7 ce r) ef q c1)
theorem VW(Z:hK c nm aK z V){o a d:ab}(be:cv c nm aK z V o)(bO:cv c nm aK z V a)(a1:cv c nm aK z V d):cv c nm aK z V (.m3 o a d):=by
 intro x aj env ai G n s m A ab Q ok F I hA q
 refine nw ok λ g xs f1 cg ok=>g0 (a7 ok) (jr (aD (aD ok)) λ L r lg=>jp lg λ u lg=>tA (a7 (aD ok)) λ y gW eA cT=>?_)
 have e:gW="get":=gi (a7 cT)
 cases e
 refine method_call (zp (a7 (aD cT))) (all2 (aD (a7 lg)) (aD (aD lg))) (show 2<30 by decide) (a7 (aD (aD cT))) (fM (be _ _ _ _ _ _ _ _ _ _ _ (aD (aD (aD cT))) F I hA q) λ v cx bQ aa aJ q r ce bU lO=>?_)
 exact WZ ce q.1 r (zu (all2 (aD (a7 lg)) (aD (aD lg))) (PG (aD (a7 lg)) (aD (aD lg)) (two bO a1 (a7 (a7 lg)) (a7 (aD lg)) (F.step I bU) ce hA q.2 λ u w ed ek dz ao b' q ef ox c1 S=>fD q λ y e q=>
  jf (bU.trans S) (WW Z.ok hA.u e (S.f7 ce r) ef ox q c1))))
mutual
theorem dY(Z:hK c nm aK z V):∀e:ab,cv c nm aK z V e
 | .nn=>V8
 | .cj _=>VR
 | .ii _=>V0
 | .ss _=>Wh
 | .v _=>Wl
 | .gl _ _=>VZ Z
 | .bin _ a b=>VQ (dY Z a) (dY Z b)
 | .qA a b=>Wa (dY Z a) (dY Z b)
 | .pE a b=>V' (dY Z a) (dY Z b)
 | .neg a=>V6 (dY Z a)
 | .and O=>VN (oY Z O)
 | .or O=>V9 (oY Z O)
 | .cmp _ a b=>VT Z (dY Z a) (dY Z b)
 | .ite t a b=>V1 (wx Z t) (dY Z a) (dY Z b)
 | .tup O=>Wj (oY Z O)
 | .lst O=>V4 (oY Z O)
 | .m4 _ O=>VY (oY Z O)
 | .pa _ O=>VX (oY Z O)
 | .eQ _=>VV
 | .at a _=>VP Z (dY Z a)
 | .aq a i=>V2 (dY Z a) (dY Z i)
 | .lk a i=>We (dY Z a) (dY Z i)
 | .mF a i=>Wf (dY Z a) (dY Z i)
 | .rev a=>Wb (dY Z a)
 | .comp a _ _ i bE=>VU (dY Z a) (dY Z i) (wy Z bE)
 | .call _ O=>VS Z (oY Z O)
 | .new _ O=>V7 Z (oY Z O)
 | .hj o _ O=>V5 Z (dY Z o) (oY Z O)
 | .len a=>V3 Z (dY Z a)
 | .jc a=>Wk Z (dY Z a)
 | .sorted a=>Wg Z (dY Z a)
 | .strOf a=>Wi Z (dY Z a)
 | .gQ a=>Wc Z (dY Z a)
 | .pF a b=>Wd Z (dY Z a) (dY Z b)
 | .append o a=>VO (dY Z o) (dY Z a)
 | .m3 o a d=>VW Z (dY Z o) (dY Z a) (dY Z d)
 | .bad=>λ _ _ _ _ _ _ _ _ _ _ _ _ _ _ _ q=>q.elim
theorem oY(Z:hK c nm aK z V):∀O:d6,kU c nm aK z V O
 | .nil=>trivial
 | .cons e r=>⟨dY Z e,oY Z r⟩
theorem wx(Z:hK c nm aK z V):∀t:T,nQ c nm aK z V t
 | .e a=>afq (dY Z a)
 | .g4 t=>afr (wx Z t)
 | .and bE=>afo (wy Z bE)
 | .or bE=>afs (wy Z bE)
 | .cmp _ a b=>afp Z (dY Z a) (dY Z b)
theorem wy(Z:hK c nm aK z V):∀bE:fc,p5 c nm aK z V bE
 | .nil=>trivial
 | .cons t r=>⟨wx Z t,wy Z r⟩
end
end
end Mine
end
section
open PySem PySem.W PyProof.Rows
namespace Mine
variable{aj:B (Y aL)}{env:aX}{ai:eg}{G bQ:cA}{s aJ:a2}{m:aL→Y au}{A:eC}{cb:iX}{cF:dC}{n:St}{i:C}{a:D}{v:au}{f:C}{op:iU}
section
variable{c:cV}{nm:B (B C)}{aK:C→a8}{z:C}{V:C→B D→dC→St→Prop}
noncomputable def k2(c:cV)(nm:B (B C))(aK:C→a8)(z:C)(V:C→B D→dC→St→Prop)(t:S):Prop:=
 ∀(x:fv) (aj:B (Y aL)) (env:aX) (ai:eg) (G:cA) (n:St) (s:a2) (m:aL→Y au) (A:eC) (ab:au→a2→Prop) (cb:iX) (cF:dC),
  NT (jE c nm aK) t ai.scope aj x=true→c' c aj G env ai s.heap m→Inv c nm G n s→iH A z→GC c.P V t env cb cF n→bg (bc c.prog c.w) A (exec x ai) (mY c nm aj ai G s cb cF) ab s
noncomputable def qZ(c:cV)(nm:B (B C))(aK:C→a8)(z:C)(V:C→B D→dC→St→Prop)(t:bk):Prop:=
 ∀(x:B fv) (aj:B (Y aL)) (env:aX) (ai:eg) (G:cA) (n:St) (s:a2) (m:aL→Y au) (A:eC) (ab:au→a2→Prop) (cb:iX) (cF:dC),
  px (jE c nm aK) t ai.scope aj x=true→c' c aj G env ai s.heap m→Inv c nm G n s→iH A z→nu c.P V t env cb cF n→bg (bc c.prog c.w) A (execs x ai) (mY c nm aj ai G s cb cF) ab s
theorem c'.xs(F:c' c aj G env ai s.heap m)(S:Step G s bQ aJ):fj (e3 ai) G s bQ aJ:=
 .FJ S λ b o=>⟨F.foot b o,let⟨x,e,_⟩:=e3.old F o;⟨x,e⟩⟩
theorem wpS{b':a2}{ab:au→a2→Prop}{t:il Flow}(S:fj (e3 ai) G s bQ aJ)(h:bg (bc c.prog c.w) A t (mY c nm aj ai bQ aJ cb cF) ab b'):
  bg (bc c.prog c.w) A t (mY c nm aj ai G s cb cF) ab b':=fb h (λ _ _ b=>b.after S) λ _ _ y=>y
theorem Bv{ab:au→a2→Prop}{W:St→Prop}{t:il p6}{X:p6→a2→Prop}(h:bg (bc c.prog c.w) A t (vX c nm G s W) ab s)
  (k:∀bQ aa aJ,W aa→Inv c nm bQ aa aJ→Step G s bQ aJ→X () aJ):bg (bc c.prog c.w) A t X ab s:=
 fb h (λ _ aJ ⟨bQ,aa,q,I,S⟩=>k bQ aa aJ q I S) λ _ _ y=>y
theorem Pd{fW:cA}{fn:a2}{ab:au→a2→Prop}{x:aL}(S:fj (e3 ai) fW fn G s)(F:c' c aj G env ai s.heap m)(I:Inv c nm G n s)
  (aA:(aj:B (Y aL))[i]? =some (some x))(n9:tl ai.scope x=true)(r:bA c G s.heap a v)(q:cb (iR env i a) n):bg (bc c.prog c.w) A (storeName ai x v) (λ _=>mY c nm aj ai fW fn cb cF .next) ab s:=
 Gy F I aA (Gx n9 F.has) r λ _ _ c0 c2 _ g9 ey=>⟨_,_,_,c0,q,g9,ey,S.trans (.ni c2 F.foot)⟩
theorem N4{e:ab}(b3:cv c nm aK z V e){y:aL}{vo cg:hd}{v:bn}{ab:au→a2→Prop}(cT:u' aj i y=true)(bu:tl ai.scope y=true)
  (cX:dU (jE c nm aK) e ai.scope aj v=true)(F:c' c aj G env ai s.heap m)(I:Inv c nm G n s)(hA:iH A z)(q:dj c.P V e env (λ v aa=>cb (iR env i v) aa) n)(hs:y4 v (some (.Name y vo)) cg.line ai=pure false):bg (bc c.prog c.w) A (exec (.Assign [.Name y vo] v cg) ai) (mY c nm aj ai G s cb cF) ab s:=
 wpAny_Assign_Name (fM (b3 _ _ _ _ _ _ _ _ _ _ _ cX F I hA q) λ _ _ _ _ _ q r ce bU=>Pd (F.xs bU) (F.step I bU) ce (va cT) bu r q) hs
theorem aeF{e:ab}(b3:cv c nm aK z V e)(hc:∀b7 xs many bb eo,e= .comp b7 xs many bb eo→cv c nm aK z V b7∧cv c nm aK z V bb∧p5 c nm aK z V eo):k2 c nm aK z V (.asg i e):=by
 intro x aj env ai G n s m A ab cb cF ok F I hA q
 refine A9 ok λ bE v cg ok=>jp (a7 ok) λ t o=>mL o λ y vo o=>?_
 refine AQ (a7 (aD ok)) (λ YH=>?_) λ abc=>N4 b3 (a7 o) (aD o) (aD (aD ok)) F I hA q (GB abc)
 have cX:=aD (aD ok)
 revert cX q b3 hc
 refine Y4 YH λ VC xs many bb eo b3 hc q cX=>?_
 obtain⟨cz,cD,dp⟩:=hc _ _ _ _ _ rfl
 have hU:=cX
 revert hU
 refine P7 cX λ e en bG p ok hU=>?_
 have sN:y4 (.ListComp e en bG p) (some (.Name y vo)) cg.line ai=pure (ai.blockKind== .function&&ai.kindOf y==some .local&&vo.line==(RI e en bG p).pos.line&& !(bG.names.any λ(z,k)=>z==y&&(k== .local||k== .cell))):=rfl
 cases az:(ai.blockKind== .function&&ai.kindOf y==some .local&&vo.line==(RI e en bG p).pos.line&& !(bG.names.any λ(z,k)=>z==y&&(k== .local||k== .cell)))with
 |false=>exact N4 b3 (a7 o) (aD o) hU F I hA q (az▸sN)
 |true=>
  rw[az]at sN
  clear az hU
  revert sN
  refine jp ok λ g ok sN=>?_
  obtain⟨Bt,hy,YO,uS⟩:=g
  have md:uS=0:=jl.mp (a7 ok)
  cases md
  have cT:=aD ok
  have bu:=aD (aD (aD cT))
  have cX:=aD (aD (aD bu))
  exact U8 (oz:=λ aF K n=>rN c.P V eo aF K n) (kx:=λ aF K n=>dj c.P V VC aF K n) sN (va (a7 o)) (aD o) hA.1 F I (Kt (a7 cT)) (a7 (aD cT)) (a7 (aD (aD cT))) (a7 bu) (Gp (a7 (aD bu))) (cD _ _ _ _ _ _ _ _ _ _ _ (a7 (aD (aD bu))) F I hA q) (λ fN aa h=>q5 h)
   (λ g6 aF G n s m K g8 F I h=>GG (ai:=compEnvC bG (gg ai.cells bG.names []) g6 ai) hA dp (a7 cX) F I h) (λ g6 aF G n s m K g8 F I h=>cz _ _ _ _ _ _ _ _ _ _ _ (aD cX) F I hA h) (λ x K n h=>q5 h)
theorem aeI{xs:B C}{e:ab}(b3:cv c nm aK z V e):k2 c nm aK z V (.o1 xs e):=by
 intro x aj env ai G n s m A ab cb cF ok F I hA q
 refine A9 ok λ bE v cg ok=>jp (a7 ok) λ t o=>?_
 have cT:=aD o
 revert cT
 refine Hm (a7 o) λ O k p _ cT=>?_
 refine Assign_Tuple (fM (b3 _ _ _ _ _ _ _ _ _ _ _ (aD (aD (aD ok))) F I hA q) λ u cx bQ aa aJ q r ce bU=>fD q λ aF az q=>?_) (show y4 v (some (.Tuple O k p)) cg.line ai=pure false from GB (a7 (aD ok))) (by have:=a7 (aD (aD ok));revert this;cases v<;>first|exact λ _=>rfl|exact λ h=>jw h)
 have pN:=F.step I bU
 exact C8 hA.1 pN ce cT az r λ _ _ c0 c2 _ g9 ey=>⟨_,_,_,c0,q,g9,ey,(F.xs bU).trans (.ni c2 pN.foot)⟩
theorem aeG(Z:hK c nm aK z V){o e:ab}(be:cv c nm aK z V o)(b3:cv c nm aK z V e):k2 c nm aK z V (.cc o f e):=by
 intro x aj env ai G n s m A ab cb cF ok F I hA q
 refine A9 ok λ bE v cg ok=>jp (a7 ok) λ t o=>tA o λ y gW p o=>?_
 have nY:gW=gK nm f:=gi (a7 o)
 cases nY
 refine plainObj_wpAny_Assign_Attribute (two b3 be (aD ok) (aD o) F I hA q λ u w cx ed dz ao b' q r ef c1 S=>fD q λ J bC q=>?_) (by cases v<;>rfl)
 exact Bv (OV (Q:=λ tH=>tH=J) Z.ok bC ef r rfl c1) λ oH bW ju j8 h1 iq=>⟨_,_,_,m,j8▸q,F.step I (S.trans iq),h1,F.xs (S.trans iq)⟩
theorem aeH{o i e:ab}(be:cv c nm aK z V o)(ay:cv c nm aK z V i)(b3:cv c nm aK z V e):k2 c nm aK z V (.gJ o i e):=by
 intro x aj env ai G n s m A ab cb cF ok F I hA q
 refine A9 ok λ bE v cg ok=>jp (a7 ok) λ t o=>tC o λ y L p o=>?_
 refine wpAny_Assign_Subscript (fM (b3 _ _ _ _ _ _ _ _ _ _ _ (aD ok) F I hA q) λ u cx bQ aa aJ q r ce bU=>?_) (by cases v<;>rfl)
 refine two be ay (a7 o) (aD o) (F.step I bU) ce hA q λ w vQ ed ek oH bW ju q ef ox h1 S=>fD q λ J bC q=>?_
 revert ef
 refine ad6 (ak:=λ ed=>bA c oH ju.heap ed w→_) bC λ nn bC ef=>?_
 exact Bv (OU (Q:=λ tH=>tH=J) hA.u bC ef ox (S.f7 ce r) rfl h1) λ Hs eP tm xY pR lA=>have S:=(bU.trans S).trans lA;⟨_,_,_,m,xY▸q,F.step I S,pR,F.xs S⟩
theorem EG{b r:D}{u:au}{Q:dC}{ab:au→a2→Prop}(h:kD op a b=some r)(x:bA c G s.heap a v)(y:bA c G s.heap b u)(bz:Q r n)(I:Inv c nm G n s):
  bg (bc c.prog c.w) A (inplaceOp (ta op) v u) (Back c nm G s Q) ab s:=
 Y3 h x y bz I
theorem vI{ab:au→a2→Prop}{t:il au}{X:au→a2→Prop}(h:bg (bc c.prog c.w) A t (Back c nm G s λ aY J=>aY=a∧J=n) ab s)
  (k:∀v bQ aJ,bA c bQ aJ.heap a v→Inv c nm bQ n aJ→Step G s bQ aJ→X v aJ):bg (bc c.prog c.w) A t X ab s:=
 fM h λ v _ bQ _ aJ q r I S=>by obtain⟨rfl,rfl⟩:=q;exact k v bQ aJ r I S
theorem aeJ{e:ab}(b3:cv c nm aK z V e):k2 c nm aK z V (.aug i op e):=by
 intro x aj env ai G n s m A ab cb cF ok F I hA q
 refine Gf ok λ t o v cg ok=>jI (a7 ok) (mL (a7 (aD ok)) λ y p o=>fD q λ a bO q=>?_)
 refine wpAny_AugAssign_Name (vI (M4 F I (va (a7 o)) (aD (aD o)) bO ⟨rfl,rfl⟩) λ u bQ aJ r ce bU=>?_)
 refine fM (b3 _ _ _ _ _ _ _ _ _ _ _ (aD (aD ok)) (F.step I bU) ce hA q) λ w ed dz ao b' q ef c1 du=>fD q λ b bC q=>?_
 exact vI (EG bC (du.f7 ce r) ef ⟨rfl,rfl⟩ c1) λ vQ oH ju ox h1 iq=>have S:=(bU.trans du).trans iq;Pd (F.xs S) (F.step I S) h1 (va (a7 o)) (a7 (aD o)) ox q
theorem aeK(Z:hK c nm aK z V){o e:ab}(be:cv c nm aK z V o)(b3:cv c nm aK z V e):k2 c nm aK z V (.o3 o f op e):=by
 intro x aj env ai G n s m A ab cb cF ok F I hA q
 refine Gf ok λ t o v cg ok=>jI (a7 ok) (tA (a7 (aD ok)) λ y gW p o=>?_)
 have nY:gW=gK nm f:=gi (a7 o)
 cases nY
 refine wpAny_AugAssign_AttributeAny (fM (be _ _ _ _ _ _ _ _ _ _ _ (aD o) F I hA q) λ u cx bQ aa aJ q r ce bU=>fD q λ a bO q=>?_)
 refine vI (JK Z.ok bO r ⟨rfl,rfl⟩ ce) λ w dz b' ef c1 du=>?_
 refine fM (b3 _ _ _ _ _ _ _ _ _ _ _ (aD (aD ok)) ((F.step I bU).step ce du) c1 hA q) λ vQ ek oH bW ju q ox h1 iq=>fD q λ b bC q=>?_
 refine vI (EG bC (iq.f7 c1 ef) ox ⟨rfl,rfl⟩ h1) λ ahw Hs tm Gd pR lA=>fD q λ J fI q=>?_
 exact Bv (OV (Q:=λ tH=>tH=J) Z.ok fI (lA.f7 h1 (iq.f7 c1 (du.f7 ce r))) Gd rfl pR) λ agq jW yh jS B5 q0=>have S:=(((bU.trans du).trans iq).trans lA).trans q0;⟨_,_,_,m,jS▸q,F.step I S,B5,F.xs S⟩
theorem aeL{o i e:ab}(be:cv c nm aK z V o)(ay:cv c nm aK z V i)(b3:cv c nm aK z V e):k2 c nm aK z V (.o4 o i op e):=by
 intro x aj env ai G n s m A ab cb cF ok F I hA q
 refine Gf ok λ t o v cg ok=>jI (a7 ok) (tC (a7 (aD ok)) λ y L p o=>?_)
 refine wpAny_AugAssign_SubscriptAny (two be ay (a7 (aD o)) (aD (aD o)) F I hA q λ u w cx ed dz ao b' q r ef c1 du=>fD q λ a bO=>?_) (by intro _ _ _;have:=a7 o;revert this;cases L<;>first|exact λ _=>rfl|exact λ h=>jw h)
 revert r
 refine adj (ak:=λ cx=>bA c dz b'.heap cx u→dj c.P V e env (λ v bW=>et (kD op a v) λ r=>et (j' bW cx ed r) λ eP=>cb env eP) ao→_) bO λ nn bO r q=>?_
 refine vI (L5 bO r ef ⟨rfl,rfl⟩ c1) λ ih oH ju ox h1 iq=>?_
 refine fM (b3 _ _ _ _ _ _ _ _ _ _ _ (aD (aD ok)) ((F.step I du).step c1 iq) h1 hA q) λ tv kq Hs eP tm q Gd pR lA=>fD q λ b bC q=>?_
 refine vI (EG bC (lA.f7 h1 ox) Gd ⟨rfl,rfl⟩ pR) λ tw agq yh adL B5 q0=>fD q λ J j4 q=>?_
 exact Bv (OU (Q:=λ tH=>tH=J) hA.u j4 (q0.f7 pR (lA.f7 h1 (iq.f7 c1 r))) (q0.f7 pR (lA.f7 h1 (iq.f7 c1 ef))) adL rfl B5) λ ahy qK ahq td QP Ss=>have S:=((du.trans iq).trans lA).trans (q0.trans Ss);⟨_,_,_,m,td▸q,F.step I S,QP,F.xs S⟩
theorem aeM{e:ab}(b3:cv c nm aK z V e):k2 c nm aK z V (.ex e):=by
 intro x aj env ai G n s m A ab cb cF ok F I hA q
 refine adO ok λ v p ok=>?_
 refine wpAny_Expr_any (fM (b3 _ _ _ _ _ _ _ _ _ _ _ (aD ok) F I hA q) λ u cx bQ aa aJ q r ce bU=>⟨_,_,_,m,q,F.step I bU,ce,F.xs bU⟩) ?_ (GB (a7 ok))
 unfold interactive
 rw[F.kind];rfl
theorem aeO{e:ab}(b3:cv c nm aK z V e):k2 c nm aK z V (.ret e):=by
 intro x aj env ai G n s m A ab cb cF ok F I hA q
 exact OI ok λ v p ok=>qt ok λ v ok=>wpAny_Return_some (fM (b3 _ _ _ _ _ _ _ _ _ _ _ ok F I hA q) λ u cx bQ aa aJ q r ce bU=>⟨_,_,_,q,r,ce,F.xs bU⟩)
theorem aeP:k2 c nm aK z V .mD:=by
 intro x aj env ai G n s m A ab cb cF ok F I hA q
 exact OI ok λ v p ok=>rA ok (wpAny_Return_none ⟨.nn,_,_,q,rfl,I,.refl _ F.foot⟩)
theorem aeQ{t:T}{a b:bk}(bD:nQ c nm aK z V t)(bO:qZ c nm aK z V a)(az:qZ c nm aK z V b):k2 c nm aK z V (.b4 t a b):=by
 intro x aj env ai G n s m A ab cb cF ok F I hA q
 refine adQ ok λ u p r cg ok=>wpAny_If (qF (bD _ _ _ _ _ _ _ _ _ _ _ (a7 ok) F I hA q) λ v bQ aa aJ q ce bU=>?_)
 cases v
 ·exact wpS (F.xs bU) (az _ _ _ _ _ _ _ _ _ _ _ _ (aD (aD ok)) (F.step I bU) ce hA q)
 ·exact wpS (F.xs bU) (bO _ _ _ _ _ _ _ _ _ _ _ _ (a7 (aD ok)) (F.step I bU) ce hA q)
theorem aey:qZ c nm aK z V .nil:=by
 intro x aj env ai G n s m A ab cb cF ok F I hA q
 exact g0 ok (Jb ⟨_,_,_,m,q,F,I,.refl _ F.foot⟩)
theorem aev{t:S}{r:bk}(bD:k2 c nm aK z V t)(a4:qZ c nm aK z V r):qZ c nm aK z V (.cons t r):=by
 intro x aj env ai G n s m A ab cb cF ok F I hA q
 refine jr ok λ y bf ok=>wpAny_execs_cons (fb (bD _ _ _ _ _ _ _ _ _ _ _ _ (a7 ok) F I hA q) (λ f a9 az=>?_) λ _ _ y=>y)
 cases f with
 |next=>
  obtain⟨aF,bv,J,c0,q,g9,ey,fC⟩:=az
  exact wpS fC (a4 _ _ _ _ _ _ _ _ _ _ _ _ (aD ok) g9 ey hA q)
 |ret v=>exact az
 |_=>exact az.elim
end
end Mine
end
section
open PySem PySem.W PyProof.Rows
namespace Mine
variable{b:bk}
section
variable{c:cV}{nm:B (B C)}{aK:C→a8}{z:C}{V:C→B D→dC→St→Prop}
noncomputable def v4(ai:eg)(bb:a8)(b:a8):Prop:=e3 ai b∨b=bb
theorem aeN{xs:B C}{many:av}{e:ab}(b3:cv c nm aK z V e)(az:qZ c nm aK z V b):k2 c nm aK z V (.dd xs many e b):=by
 intro x aj env ai G n s m A ab cb cF ok F I hA q
 refine adP ok λ Bt hy body VD cg ok=>?_
 have o:=aD ok
 have bu:=aD (aD o)
 refine g0 (a7 ok) ?_
 refine wpAny_For (fM (b3 _ _ _ _ _ _ _ _ _ _ _ (a7 bu) F I hA q) λ fN a bQ aa aJ q hG ce bU=>?_) (Gp (a7 (aD o)))
 refine(q5 q).elim λ l q=>?_
 have pN:=F.step I bU
 refine Ml ce q.1 hG λ bb bJ nW m9 cL=>?_
 have Eh:c.h₀.get? bb=none:=we.mpr λ o e=>nomatch m9.symm.trans (ce.base _ _ e)
 have Er:¬e3 ai bb:=λ o=>let⟨_,e,_⟩:=e3.old pN o;nomatch m9.symm.trans e
 have XI:¬eG bQ bb:=λ f=>let⟨_,e⟩:=ce.wW f;nomatch m9.symm.trans e
 have c1:Inv c nm bQ aa {aJ with heap:=bJ}:=ce.more (t:=aJ.toks) nW
 have cU:lr c nm (v4 ai bb) bQ aJ bb a l 0 bQ aa {aJ with heap:=bJ}:=⟨c1,cL,⟨.refl _ _,nW.all,λ b az=>az.elim (pN.foot b) λ e=>e▸XI⟩,Eh,.inr rfl⟩
 have JQ:∀{bv:cA} {a9:a2},fj (v4 ai bb) bQ aJ bv a9→fj (e3 ai) G s bv a9:=λ X=>(F.xs bU).trans (X.drop (λ b (az:e3 ai b∨b=bb)=>az.elim .inl λ(e:b=bb)=>.inr (e▸m9)) λ b az=>X.off b (.inl az))
 refine codeAny_forLoop_any (λ ct a9=>∃k aF bv J,ct=l.length-k∧(lr c nm (v4 ai bb) bQ aJ bb a l k bv J a9∧∃m,c' c aj bv aF ai a9.heap m)∧
  zU (live a l) (λ x aF km J=>et (di many xs x aF) λ dH=>nu c.P V b dH km cF J) (l.drop k) aF cb J) ?_ l.length ⟨0,env,bQ,aa,rfl,⟨cU,m,pN.step ce (.more (t:=aJ.toks) nW)⟩,q.2.2⟩
 clear cU c1 cL nW
 intro ct b' dk
 refine dk.elim λ k dk=>dk.elim λ env dk=>dk.elim λ dz dk=>dk.elim λ ao dk=>dk.2.1.2.elim λ pu qP=>?_
 have dq:=dk.1
 have cU:=dk.2.1.1
 have q:=dk.2.2
 clear dk
 have own:∀b,e3 ai b→¬b=bb:=λ b o e=>Er (e▸o)
 cases a1:l.drop k with
 |nil=>
  rw[a1]at q
  refine Mk hA.1 cU.inv q.1 cU.at_ (yE.mpr (QV.mp a1)) λ H sP=>?_
  have ch:cu (λ b=>b=bb) b'.heap H:=λ b o e z=>sP b o z e
  have L:=cU.chg b'.toks ch
  exact Jb ⟨env,dz,ao,pu,q.2,qP.zw ch own L.2.1,L.1,JQ L.2.2⟩
 |cons y r=>
  rw[a1]at q
  have aA:=Lj a1
  have lt:=(jZ.mp aA.1).1
  refine(q5 q.2).elim λ uo uH=>?_
  refine Mm cU.inv q.1 cU.at_ aA.1 λ aI jV v Et bX qC=>?_
  have q6:cu (λ b=>b=bb) b'.heap aI:=cu.same Et rfl
  have L:=cU.chg jV q6
  have HI:=cU.br jV q6 bX
  have HG:c' c aj dz env ai aI pu:=qP.zw q6 own L.2.1
  refine Mn (s:={b' with heap:=aI,toks:=jV}) bX ?_
  refine C8 (s:={b' with heap:=aI,toks:=jV}) hA.1 HG L.1 (a7 o) uH.1 qC λ cQ qJ oj c2 _ tJ h1=>?_
  have Zs:fX aI cQ:=(HG.wK (s:={b' with heap:=aI,toks:=jV}) (t:=qJ) L.1 c2).2
  have v7:lr c nm (v4 ai bb) bQ aJ bb a l (k+1) dz ao {b' with heap:=cQ,toks:=qJ}:=HI.ea h1 (.ni (s:={b' with heap:=aI,toks:=jV}) (c2.mono λ b q=>.inl q) HI.step.off) Zs λ o e=>c2 _ o e Er
  have M0:∀{bv:cA} {a9:a2},fj (e3 ai) dz {b' with heap:=cQ,toks:=qJ} bv a9→fj (v4 ai bb) dz {b' with heap:=cQ,toks:=qJ} bv a9:=λ X=>X.mono (λ b q=>.inl q) λ b q=>q.elim (X.off b) λ e f=>(X.ext.2 b f).elim (λ g=>v7.off (e▸g)) λ g=>v7.at_.live.elim λ o w=>nomatch(e▸g:({b' with heap:=cQ,toks:=qJ}:a2).heap.get? bb=none).symm.trans w.1
  refine fb (az _ _ _ _ _ _ {b' with heap:=cQ,toks:=qJ} _ _ _ _ _ (aD bu) tJ h1 hA uH.2) (λ f tm az=>?_) λ _ _ y=>y
  cases f with
  |next=>
   exact az.elim λ aF az=>az.elim λ bv az=>az.elim λ J az=>az.elim λ c0 az=>
    have fC:=az.2.2.2;
    ⟨l.length- (k+1),dq▸Rv _ _ lt,k+1,aF,bv,J,rfl,⟨v7.ea az.2.2.1 (M0 fC) (fC.nc h1 λ b o q e=>Fs (e3.old tJ q) o e) λ o e=>fC.ch _ o e λ q=>q.elim v7.off Er,c0,az.2.1⟩,aA.2.symm▸az.1⟩
  |ret v=>
   exact az.elim λ w az=>az.elim λ bv az=>az.elim λ J az=>⟨w,bv,J,az.1,az.2.1,az.2.2.1,JQ (v7.step.trans (M0 az.2.2.2))⟩
  |_=>exact az.elim
theorem aeR{t:T}(bD:nQ c nm aK z V t)(az:qZ c nm aK z V b):k2 c nm aK z V (.pL t b):=by
 intro x aj env ai G n s m A ab cb cF ok F I hA q
 refine adS ok λ u body VD cg o=>?_
 have ok:=aD o
 refine g0 (a7 o) ?_
 refine wpAny_While (codeAny_whileLoop (λ k a9=>∃aF bv J c0,c' c aj bv aF ai a9.heap c0∧Inv c nm bv J a9∧fj (e3 ai) G s bv a9∧BG (qI c.P V t) (λ aF km J=>nu c.P V b aF km cF J) k aF cb J) ?_ 60
  ⟨env,G,n,m,F,I,.refl _ F.foot,q⟩)
 intro k aJ dk
 refine dk.elim λ uo dk=>dk.elim λ bQ dk=>dk.elim λ aa dk=>dk.elim λ AI dk=>?_
 cases k with
 |zero=>exact dk.2.2.2.elim
 |succ k=>
  refine qF (bD _ _ _ _ _ _ _ _ _ _ _ (a7 ok) dk.1 dk.2.1 hA dk.2.2.2) λ v dz ao b' q c1 du=>?_
  have qP:=dk.1.step dk.2.1 du
  have sl:=dk.2.2.1.trans (dk.1.xs du)
  cases v with
  |false=>exact Jb ⟨_,_,_,_,q,qP,c1,sl⟩
  |true=>
   refine fb (az _ _ _ _ _ _ _ _ _ _ _ _ (aD ok) qP c1 hA q) (λ f ju az=>?_) λ _ _ y=>y
   cases f with
   |next=>exact az.elim λ aF az=>az.elim λ bv az=>az.elim λ J az=>az.elim λ c0 az=>⟨k,qU k,aF,bv,J,c0,az.2.1,az.2.2.1,sl.trans az.2.2.2,az.1⟩
   |ret v=>exact az.elim λ w az=>az.elim λ bv az=>az.elim λ J az=>⟨w,bv,J,az.1,az.2.1,az.2.2.1,sl.trans az.2.2.2⟩
   |_=>exact az.elim
mutual
theorem SU(Z:hK c nm aK z V):∀t:S,k2 c nm aK z V t
 | .asg _ e=>aeF (dY Z e) λ _ _ _ _ _ _=>⟨dY Z _,dY Z _,wy Z _⟩
 | .o1 _ e=>aeI (dY Z e)
 | .cc o _ e=>aeG Z (dY Z o) (dY Z e)
 | .gJ o i e=>aeH (dY Z o) (dY Z i) (dY Z e)
 | .aug _ _ e=>aeJ (dY Z e)
 | .o3 o _ _ e=>aeK Z (dY Z o) (dY Z e)
 | .o4 o i _ e=>aeL (dY Z o) (dY Z i) (dY Z e)
 | .ex e=>aeM (dY Z e)
 | .ret e=>aeO (dY Z e)
 | .mD=>aeP
 | .b4 t a b=>aeQ (wx Z t) (sn Z a) (sn Z b)
 | .pL t b=>aeR (wx Z t) (sn Z b)
 | .dd _ _ e b=>aeN (dY Z e) (sn Z b)
 | .bad=>λ _ _ _ _ _ _ _ _ _ _ _ _ _ _ _ _ q=>q.elim
theorem sn(Z:hK c nm aK z V):∀t:bk,qZ c nm aK z V t
 | .nil=>aey
 | .cons t r=>aev (SU Z t) (sn Z r)
end
end
noncomputable def mz(d:oL):B (Y aL):=d.names.map (λ x=>some (st x))++dx (d.nl-d.names.length) none
structure B2(c:cV)(nm:B (B C))(aK:C→a8)(f:C)(d:oL):Prop where
 at_:∃cr jb,FnAt c (mz d) d.np (aK f) cr jb∧px (jE c nm aK) d.body cr.scope (mz d) jb=true
 len:(mz d).length=d.nl
 np:d.np≤d.nl
theorem O3{c:cV}{nm:B (B C)}{aK:C→a8}(bL:jC c nm)(M:v5 c)(ak:Ck c nm aK)(cl:∀f d,c.P.fns f=some d→B2 c nm aK f d):∀z,Hz c nm aK z (sw c.P z)
 |0=>λ _ _ _ _ _ _ _ _ _ _ _ _ q _=>q.elim
 |z+1=>by
  intro A f b6 gR G n s Q R hA I r q fR
  obtain⟨d,a1,hl,q⟩:=q5 q
  obtain⟨⟨cr,jb,QD,ok⟩,i4,Ep⟩:=cl f d a1
  have Z:hK c nm aK z (sw c.P z):=⟨bL,M,ak,O3 bL M ak cl z⟩
  refine UN bL QD I r hl (by omega) (by have:=hA.2.1;omega) fR λ ai aJ m g8 Yl F ey=>?_
  have fF:iH (A.deeper ai) z:=⟨hA.1,by show A.depth+1+4*z+3<_;have:=hA.2.1;omega,by show A.units+3+12*z+309<_;have:=hA.2.2;omega⟩
  rw[i4]at F
  exact sn Z d.body jb (mz d) _ ai G n aJ m (A.deeper ai) g8 _ _ (Yl▸ok) F ey fF q
end Mine
end
section
open PySem PySem.W PyProof.Rows
namespace Mine
noncomputable def Du(K:kl):qL:=⟨K,n0,sv,jD⟩
noncomputable def vm:B aL→B (Y aL)→av
 | [],_=>true
 |x::xs,some y::bf=>decide (x=y)&&vm xs bf
 |_,_=>false
noncomputable def zT(K:kl)(f:C):Bool:=match ac.fns f with
 |none=>true
 |some d=>(match K.lookup (n0 f)with
  |some ⟨_,_,.func cr,_⟩=>(match cr.body with
   | .stmts jb=>xT cr&&codeIn K cr.code cr.qualname&&decide ((cr.params.args.map (·.arg)).length=d.np)&&decide (cr.params.args.map (·.arg)).Nodup&&
     ((cr.params.args.map (·.arg)).all λ x=>cr.scope.names.lookup x==some .local||cr.scope.names.lookup x==some .cell)&&vm (cr.params.args.map (·.arg)) (mz d)&&ts (mz d)&&
     decide ((mz d).length=d.nl)&&decide (d.np≤d.nl)&&px (Du K) d.body cr.scope (mz d) jb
   |_=>false)
  |_=>false)
theorem N5:∀{xs:B aL} {aj:B (Y aL)},vm xs aj=true→∀(i:C) x,xs[i]? =some x→(aj:B (Y aL))[i]? =some (some x)
 | [],_,_,i,x,e=>by simp at e
 |y::xs,[],h,_,_,_=>by simp[vm]at h
 |y::xs,none::aj,h,_,_,_=>by simp[vm]at h
 |y::xs,some L::aj,h,i,x,e=>by
  simp only[vm,jX,zF]at h
  obtain⟨rfl,h⟩:=h
  cases i with
  |zero=>simpa using e
  |succ i=>simpa using N5 h i x (by simpa using e)
theorem WF{c:cV}{f:C}{d:oL}(a1:ac.fns f=some d)(XA:c.ca=sv)(h:zT c.K f=true):B2 c jD n0 f d:=by
 unfold zT at h
 rw[a1]at h
 dsimp only at h
 split at h
 ·rename_i xL FI cr dQ e
  split at h
  ·rename_i jb VA
   simp only[jX,zF]at h
   obtain⟨⟨⟨⟨⟨⟨⟨⟨⟨ax,aH⟩,cI⟩,gh⟩,kz⟩,z2⟩,pd⟩,z3⟩,z4⟩,z1⟩:=h
   refine⟨⟨cr,jb,⟨⟨_,_,_,e⟩,ax,VA,aH,cI,gh,kz,N5 z2,GX pd⟩,?_⟩,z3,z4⟩
   unfold jE
   rw[XA]
   exact z1
  ·cases h
 ·cases h
end Mine
end
section
open PySem PySem.W PySem.Calls PyProof.Rows
namespace Hd
noncomputable abbrev iF:Program:=qW.row.toRowW.1
noncomputable def Fv:Stmt:=.Pass ⟨0,0,0,0⟩
noncomputable def pI(i:C):Stmt:=agz.main.body.getD i Fv
noncomputable def aS(i j:C):Stmt:=match pI i with
 | .ClassDef _ _ _ b _ _ _ _ _ _ _=>b.getD j Fv
 |_=>Fv
noncomputable def K2(s:fv)(q:Y aL)(g:a8)(e5:B (aL×a8))(wP eT fS FW:au)(wz:Y a8)(cd Dz:au)(fw:a8):FuncData:=match s with
 | .FunctionDef z a b _ _ _ bG _ _ _=>⟨z,q.getD z,a,.stmts b,bG,g,e5,wP,eT,fS,FW,wz,cd,Dz,fw⟩
 |_=>default
noncomputable def T(l:B au):Obj:=⟨.type "tuple",none,.seq ⟨l⟩ 0,⟨[]⟩⟩
noncomputable def c5(l:B au):Obj:=⟨.none,none,.fields ⟨l⟩,⟨[]⟩⟩
noncomputable def nB(l:B mT)(z:C):Obj:=⟨.type "dict",none,.dict ⟨l⟩ z,⟨[]⟩⟩
noncomputable def R(a:a8):Value:=.ref a
noncomputable def I(i:am):Value:=.int i 0
noncomputable def S(s:aL)(t:i0):Value:=.str s t
noncomputable def eR(p:gr)(s:aL)(t:i0)(v:au):DictEntry:=⟨wi p s,.str s t,v⟩
noncomputable def r1(z q:aL)(t:C)(l a f:am)(r:a8)(b:av)(x:B au)(u:C):Obj:=
 ⟨.type "code",none,.fields ⟨[.str z t,.str q (t+1),.str "/claim/cut.py" (t+2),.int l 0,.int a 0,.int 0 0,.int 0 0,.int f 0,.ref r,.bool b,.int 181 0,.ref (r+1)]++x++[.int u 0,.int l 0,.str "/claim/cut.py" (u+1)]⟩,⟨[]⟩⟩
noncomputable def U(s:fv)(q:Y aL)(m:aL)(t:i0)(r:a8):Obj:=⟨.type "function",none,.func (K2 s q 3 [] .none .none .none (.str m t) none (.ref r) .none 0),⟨[]⟩⟩
noncomputable def kp(s:fv)(q:Y aL):Obj:=⟨.none,none,.func (K2 s q 0 [] .none .none .none .none none .none .none 0),⟨[]⟩⟩
noncomputable def dq(p:gr)(s:aL)(t:i0)(i:am):DictEntry:=eR p s t (.int i (t-1))
noncomputable def cH(p:gr)(s:aL)(t:i0)(a:a8):DictEntry:=eR p s t (R a)
noncomputable def WO(p:gr):B DictEntry:=[eR p "__doc__" 166 .none,eR p "__package__" 167 .none,eR p "__loader__" 168 (.builtin "__main__.__loader__#opaque"),eR p "__spec__" 169 .none,cH p "__annotations__" 170 6,cH p "__builtins__" 171 4,eR p "__file__" 173 (S "/claim/cut.py" 172),eR p "__cached__" 174 .none,cH p "_wall" 193 21,dq p "A_PRIVATE" 195 1,dq p "A_FAMANDASM" 197 2,dq p "A_ASSEMBLY" 199 3,dq p "A_FAMILY" 201 4,dq p "A_FAMORASM" 203 5,cH p "RuneError" 236 38,cH p "BadKind" 252 51,cH p "LeftOut" 268 63,dq p "VOID" 272 0,dq p "BOOL" 274 1,dq p "CHAR" 276 2,dq p "I1" 278 3,dq p "U1" 280 4,dq p "I2" 282 5,dq p "U2" 284 6,dq p "I4" 286 7,dq p "U4" 288 8,dq p "I8" 290 9,dq p "U8" 292 10,dq p "NINT" 294 11,dq p "OBJECT" 296 12,dq p "STRING" 298 13,dq p "NULLK" 300 14,dq p "BAD" 302 15,dq p "PRIM_END" 304 16,dq p "R_PRIM" 306 1,dq p "R_CLASS" 308 2,dq p "R_VALUE" 310 3,dq p "R_ARRAY" 312 4,dq p "R_BYREF" 314 5,dq p "R_VAR" 316 6,dq p "R_MVAR" 318 7,dq p "R_BOXED" 320 8,dq p "R_ROREF" 322 9,dq p "R_FTN" 324 10,dq p "R_RAW" 326 11,dq p "DEEPEST_KIND" 328 24,dq p "HEAVIEST_KIND" 330 4096,cH p "PRIM_TID" 359 66,cH p "TID_PRIM" 388 67,dq p "ARRAY_TID" 390 5,dq p "NULLABLE_TID" 392 8,cH p "KindTable" 449 98,cH p "inner_kinds" 457 109,cH p "row_level" 464 116,cH p "row_length" 471 123,cH p "check_kind_row" 481 130,cH p "check_named" 489 137,cH p "check_args" 498 144,cH p "may_stand" 507 151,cH p "class_kind" 516 158,cH p "value_kind" 525 165,cH p "prim_kind" 533 172,cH p "var_kind" 541 179,cH p "kind_sort" 549 186,cH p "tid_of" 558 193,cH p "args_of" 567 200,cH p "is_value" 575 207,cH p "is_var" 584 214,cH p "close" 594 221,cH p "close_in" 608 228,cH p "with_inner" 618 235,cH p "box_of" 626 242,cH p "pick_arg" 635 249,cH p "close_all" 647 256,dq p "S_STRUCT" 651 2,dq p "S_IFACE" 653 3,dq p "S_ENUM" 655 5,dq p "VA_NONE" 657 0,dq p "PF_OUT" 659 1,dq p "MF_STATIC" 661 1,dq p "MF_VIRTUAL" 663 2,dq p "MF_NEWSLOT" 665 4,dq p "MF_ABSTRACT" 667 8,dq p "MF_FINAL" 669 16,dq p "MF_CTOR" 671 32,dq p "MF_CCTOR" 673 64,dq p "MF_SPECIAL" 675 128,dq p "T_OBJECT" 677 1,cH p "TypeDef" 731 273,cH p "MethodDef" 779 294,cH p "Store" 813 315,cH p "plain_names" 822 326,cH p "kept_flags" 829 333,cH p "add_method" 844 340,cH p "note_method" 854 347,cH p "put_once" 862 354,cH p "add_impl" 873 361,cH p "self_kind" 884 368,cH p "kind_with" 894 375,cH p "type_of" 903 382,cH p "find_methods" 914 389,cH p "method_sig" 924 396,cH p "is_virtual" 931 403,cH p "is_iface" 941 410,cH p "base_chain" 951 417,cH p "decl_overrides" 967 424,cH p "decl_override" 983 431,cH p "decl_stand" 999 438,cH p "decl_override_number" 1010 445,cH p "decl_base_match" 1016 450,cH p "decl_strange" 1025 457,cH p "decl_in_sight" 1034 464,cH p "decl_same_outs" 1040 469,cH p "decl_same_params" 1053 476,dq p "N_METHOD" 1057 91,cH p "Node" 1095 493,cH p "Diags" 1148 535,cH p "Unit" 1188 556,cH p "Yard" 1268 605,cH p "yard_kept" 1277 616,cH p "Decls" 1321 633,cH p "BareHost" 1408 696,cH p "_law_take" 1420 707,cH p "_law_seen" 1426 712,cH p "_law_kind" 1432 717,cH p "_law_term" 1442 724,cH p "_law_own" 1448 729,cH p "_law_line" 1454 734,cH p "_law_world" 1460 739,cH p "_law_put" 1476 746,cH p "_law_methods" 1482 751,cH p "_law_stand" 1488 756,cH p "law" 1494 761]
noncomputable def Db:C→B aL→B au
 |_,[]=>[]
 |t,s::l=>S s t::Db (t+1) l
noncomputable def k7(s:fv)(q:Y aL)(z m:aL)(mt a t:C)(l c:am)(xs:B aL):B (av×fQ):=
 match xs with
 | []=>[(true,T []),(false,c5 []),(false,kp s q),(true,r1 z (q.getD z) t l c 3 a true [.none,.none,.none,R (a+2)] (t+3)),(true,U s q m mt (a+3))]
 |x::xs=>[(true,T []),(false,c5 []),(true,T (Db (t+3) (x::xs))),(true,T []),(false,kp s q),(true,r1 z (q.getD z) t l c 3 a true [.none,R (a+2),R (a+3),R (a+4)] (t+4+xs.length)),(true,U s q m mt (a+5))]
noncomputable def GJ(k:am):B (am×a8)→B au
 | []=>[]
 | (l,a)::x=>I l::I k::R a::GJ k x
noncomputable def ns(l:B (Y au)):Obj:=⟨.type "frame",none,.plain,⟨l⟩⟩
noncomputable def wH(s:wt)(v:au):Obj:=⟨.type "builtin_function_or_method",none,.fields ⟨[.builtin s,v]⟩,⟨[]⟩⟩
noncomputable def en(l:B au):Obj:=⟨.type "getset_descriptor",none,.fields ⟨l⟩,⟨[]⟩⟩
noncomputable def ae4(a:a8):B (av×fQ):=[(false,⟨.type "super",none,.fields ⟨[R a,R a,R a]⟩,⟨[]⟩⟩),(false,wH "object.__init_subclass__" (R a))]
noncomputable def ty(c:aL)(b:wt)(bs fm:B au)(a:a8)(ks:B au)(v:Y au)(t u:i0):Obj:=⟨.type "type",none,.cls ⟨c,bs,R (a+1)::fm,a,c,true,[],ks,false,none,false⟩,⟨[v,none,some (S c t),some (S c u),some (.builtin b),some (.bool true)]⟩⟩
noncomputable def AU:Obj:=wH "type.__prepare__" (.type "type")
noncomputable def bl(p:gr)(m:aL)(mt u:i0)(l:am)(x:B mT):B DictEntry:=eR p "__module__" (u+2) (S m mt)::x++[eR p "__firstlineno__" (u+6) (.int l (u+5))]
noncomputable def cd(p:gr)(c m:aL)(mt u:i0)(l:am)(x:B mT)(z:C):Obj:=nB (bl p m mt u l [eR p "__qualname__" (u+4) (S c (u+3))]++x) z
noncomputable def UO(c m:aL)(mt a t:C)(l:am)(eD:B au):B (av×fQ):=[(false,T []),(false,c5 eD),(false,r1 c c t l 0 0 a false [.none,.none,.none,.none] (t+3)),(false,ns [some (R (a+2)),some (R 3),some (R (a-1)),none,some (S m mt),none,some (R 0)])]
noncomputable def Do:B (B (av×fQ))→B (av×fQ)
 | []=>[]
 |x::l=>x++Do l
noncomputable def e5(p:gr)(c m:aL)(mt a t:C)(l:am)(fm:B (aL×C×a8×am))(aG:B (B (av×fQ)))(e x:C)(at_:B aL):B (av×fQ):=
 [(false,T []),(false,AU),(false,cd p c m mt (t+3) l (fm.map (λ y=>cH p y.1 y.2.1 y.2.2.1)++[cH p "__static_attributes__" x e]) (4+fm.length))]++UO c m mt (a+3) t l (GJ 4 (fm.map λ y=>(y.2.2.2,y.2.2.1-1)))++Do aG++
 [(true,T (Db (x-at_.length) at_)),(true,nB (bl p m mt (t+3) l []++(fm.map (λ y=>cH p y.1 y.2.1 y.2.2.1)++[cH p "__static_attributes__" x e,cH p "__dict__" (x+2) (e+3),cH p "__weakref__" (x+4) (e+4),eR p "__doc__" (x+5) .none])) 4),
  (true,ty c "object.__new__" [.type "object"] [.type "object"] (e+1) [] none (t-2) (t+6)),(true,en [S "__dict__" (x+1),R (e+2),.builtin "function.__dict__",.builtin "function.__dict__#set"]),(true,en [S "__weakref__" (x+3),R (e+2),.builtin "ExceptionGroup.__weakref__",.none])]++ae4 (e+2)
noncomputable def aK(i:C)(z:aL):=k7 (pI i) none z "__main__" 164
noncomputable def WV(s:fv)(q z:aL):=k7 s (some q) z "framerune.faults" 204
noncomputable def iu(i:C)(z:aL):=k7 (pI i) none z "framerune.kinds" 269
noncomputable def uC(s:fv)(q z:aL):=k7 s (some q) z "framerune.kinds" 269
noncomputable def cr(i:C)(z:aL):=k7 (pI i) none z "framerune.store" 648
noncomputable def D2(s:fv)(q z:aL):=k7 s (some q) z "framerune.store" 648
noncomputable def K3(i:C)(z:aL):=k7 (pI i) none z "framerune.kindline" 932
noncomputable def qe(i:C)(z:aL):=k7 (pI i) none z "framerune.csdeclx" 952
noncomputable def qf(s:fv)(q z:aL):=k7 s (some q) z "framerune.csnodes" 1054
noncomputable def W2(s:fv)(q z:aL):=k7 s (some q) z "framerune.csbound" 1149
noncomputable def K4(i:C)(z:aL):=k7 (pI i) none z "framerune.cscore" 1189
noncomputable def uE(s:fv)(q z:aL):=k7 s (some q) z "framerune.cscore" 1189
noncomputable def W4(s:fv)(q z:aL):=k7 s (some q) z "framerune.csdeclb" 1278
noncomputable def sE(s:fv)(q z:aL):=k7 s (some q) z "framerune.kindrel" 1322
noncomputable def eD(i:C)(z:aL):=k7 (pI i) none z "law_hb0001_01" 1409
noncomputable def hl(p:gr)(x y L:fQ):B (av×fQ):=Do [[(false,boot_o_0 p),(false,boot_o_1 p),(true,x),(true,y),(false,boot_o_4 p),(false,boot_o_5 p),(false,boot_o_6 p),(false,boot_o_7 p),(false,boot_o_8 p),(false,boot_o_9 p),(false,boot_o_10 p),(false,T []),(false,L),(false,r1 "<module>" "<module>" 182 1 0 0 11 false [.none,.none,.none,.none] 185),(false,ns [some (R 13),some (R 3),some (R 3),none,some (S "__main__" 164),none,some (R 0)])],
aK 0 "_wall" 15 187 1 1 ["k"],
[(true,T [.type "Exception"]),(false,AU),(false,nB [eR p "__module__" 213 (S "framerune.faults" 204),eR p "__qualname__" 215 (S "RuneError" 214),eR p "__firstlineno__" 217 (.int 10 216),eR p "__init__" 226 (R 35),eR p "__static_attributes__" 229 (R 36)] 5),(false,T []),(false,c5 [I 12,I 4,R 34]),(false,r1 "RuneError" "RuneError" 208 10 0 0 25 false [.none,.none,.none,.none] 211),(false,ns [some (R 27),some (R 3),some (R 24),none,some (S "framerune.faults" 204),none,some (R 0)])],
WV (aS 7 0) "RuneError.__init__" "__init__" 29 218 12 3 ["self","code","at"],
[(true,T [S "at" 227,S "code" 228]),(true,nB [eR p "__module__" 213 (S "framerune.faults" 204),eR p "__firstlineno__" 217 (.int 10 216),eR p "__init__" 226 (R 35),eR p "__static_attributes__" 229 (R 36),eR p "__weakref__" 231 (R 39),eR p "__doc__" 232 .none] 3),(true,ty "RuneError" "Exception.__new__" [.type "Exception"] [.type "Exception",.type "BaseException",.type "object"] 37 [R 51,R 63] (some (R 22)) 206 214),(true,en [S "__weakref__" 230,R 38,.builtin "ExceptionGroup.__weakref__",.none]),(false,⟨.type "super",none,.fields ⟨[R 38,R 38,R 38]⟩,⟨[]⟩⟩),(false,wH "object.__init_subclass__" (R 38)),(true,T [R 38]),(false,AU),(false,nB [eR p "__module__" 244 (S "framerune.faults" 204),eR p "__qualname__" 246 (S "BadKind" 245),eR p "__firstlineno__" 248 (.int 15 247),eR p "__static_attributes__" 249 (R 49)] 4),(false,T []),(false,c5 []),(false,r1 "BadKind" "BadKind" 239 15 0 0 45 false [.none,.none,.none,.none] 242),(false,ns [some (R 47),some (R 3),some (R 44),none,some (S "framerune.faults" 204),none,some (R 0)]),(true,T []),(true,nB [eR p "__module__" 244 (S "framerune.faults" 204),eR p "__firstlineno__" 248 (.int 15 247),eR p "__static_attributes__" 249 (R 49),eR p "__doc__" 250 .none] 2),(true,ty "BadKind" "Exception.__new__" [R 38] [R 38,.type "Exception",.type "BaseException",.type "object"] 50 [] (some (R 42)) 237 245),(false,⟨.type "super",none,.fields ⟨[R 51,R 51,R 51]⟩,⟨[]⟩⟩),(false,wH "object.__init_subclass__" (R 51)),(true,T [R 38]),(false,AU),(false,nB [eR p "__module__" 260 (S "framerune.faults" 204),eR p "__qualname__" 262 (S "LeftOut" 261),eR p "__firstlineno__" 264 (.int 17 263),eR p "__static_attributes__" 265 (R 61)] 4),(false,T []),(false,c5 []),(false,r1 "LeftOut" "LeftOut" 255 17 0 0 57 false [.none,.none,.none,.none] 258),(false,ns [some (R 59),some (R 3),some (R 56),none,some (S "framerune.faults" 204),none,some (R 0)]),(true,T []),(true,nB [eR p "__module__" 260 (S "framerune.faults" 204),eR p "__firstlineno__" 264 (.int 17 263),eR p "__static_attributes__" 265 (R 61),eR p "__doc__" 266 .none] 2),(true,ty "LeftOut" "Exception.__new__" [R 38] [R 38,.type "Exception",.type "BaseException",.type "object"] 62 [] (some (R 54)) 253 261),(false,⟨.type "super",none,.fields ⟨[R 63,R 63,R 63]⟩,⟨[]⟩⟩),(false,wH "object.__init_subclass__" (R 63)),(true,nB [⟨0,.int 0 271,.int 20 331⟩,⟨1,.int 1 273,.int 9 332⟩,⟨2,.int 2 275,.int 10 333⟩,⟨3,.int 3 277,.int 11 334⟩,⟨4,.int 4 279,.int 12 335⟩,⟨5,.int 5 281,.int 13 336⟩,⟨6,.int 6 283,.int 14 337⟩,⟨7,.int 7 285,.int 15 338⟩,⟨8,.int 8 287,.int 16 339⟩,⟨9,.int 9 289,.int 17 340⟩,⟨10,.int 10 291,.int 18 341⟩,⟨11,.int 11 293,.int 19 342⟩,⟨12,.int 12 295,.int 1 343⟩,⟨13,.int 13 297,.int 4 344⟩] 14),(true,nB [⟨20,.int 20 360,.int 0 271⟩,⟨9,.int 9 361,.int 1 273⟩,⟨10,.int 10 362,.int 2 275⟩,⟨11,.int 11 363,.int 3 277⟩,⟨12,.int 12 364,.int 4 279⟩,⟨13,.int 13 365,.int 5 281⟩,⟨14,.int 14 366,.int 6 283⟩,⟨15,.int 15 367,.int 7 285⟩,⟨16,.int 16 368,.int 8 287⟩,⟨17,.int 17 369,.int 9 289⟩,⟨18,.int 18 370,.int 10 291⟩,⟨19,.int 19 371,.int 11 293⟩,⟨1,.int 1 372,.int 12 295⟩,⟨4,.int 4 373,.int 13 297⟩] 14)],
e5 p "KindTable" "framerune.kinds" 269 68 395 54 [("__init__",413,81,56),("row",421,88,70),("put",436,95,75)] [uC (aS 45 0) "KindTable.__init__" "__init__" 75 405 56 1 ["self","number","row"],uC (aS 45 1) "KindTable.row" "row" 82 414 70 2 ["self","k"],uC (aS 45 2) "KindTable.put" "put" 89 422 75 2 ["self","row","found","depth","weight","opened","level","inner","k"]] 96 442 ["depths","index","opens","rows","weights"],
iu 46 "inner_kinds" 103 450 103 1 ["row","sort"],
iu 47 "row_level" 110 458 112 1 ["sort"],
iu 48 "row_length" 117 465 116 1 ["sort"],
iu 49 "check_kind_row" 124 472 122 2 ["kt","row","sort","inner"],
iu 50 "check_named" 131 482 144 2 ["kt","row"],
iu 51 "check_args" 138 490 148 2 ["kt","args","arg"],
iu 52 "may_stand" 145 499 152 2 ["kt","k","sort"],
iu 53 "class_kind" 152 508 157 3 ["kt","tid","args"],
iu 54 "value_kind" 159 517 161 3 ["kt","tid","args"],
iu 55 "prim_kind" 166 526 165 2 ["tid","args"],
iu 56 "var_kind" 173 534 169 2 ["kt","i"],
iu 57 "kind_sort" 180 542 171 2 ["kt","k"],
iu 58 "tid_of" 187 550 173 2 ["kt","k","row"],
iu 59 "args_of" 194 559 182 2 ["kt","k","row"],
iu 60 "is_value" 201 568 187 2 ["kt","k"],
iu 61 "is_var" 208 576 191 2 ["kt","k","sort"],
iu 62 "close" 215 585 194 4 ["kt","k","targs","margs"],
iu 63 "close_in" 222 595 199 5 ["kt","k","targs","margs","seen","row","inner","part"],
iu 64 "with_inner" 229 609 214 3 ["kt","row","inner","sort"],
iu 65 "box_of" 236 619 223 2 ["kt","k"],
iu 66 "pick_arg" 243 627 231 3 ["args","place","k"],
iu 67 "close_all" 250 636 235 4 ["kt","ks","targs","margs","out","k"],
e5 p "TypeDef" "framerune.store" 648 257 680 255 [("__init__",704,270,257)] [D2 (aS 83 0) "TypeDef.__init__" "__init__" 264 690 257 8 ["self","tid","name","sort","flags","base","params","asm","word"]] 271 724 ["asm","base","bounds","cctor","events","fields","finaliser","flags","home","ifaces","impls","methods","name","params","props","sort","tid","under","variances"],
e5 p "MethodDef" "framerune.store" 648 278 734 281 [("__init__",757,291,283)] [D2 (aS 84 0) "MethodDef.__init__" "__init__" 285 744 283 8 ["self","mid","owner","name","access","flags","ret","params"]] 292 772 ["access","body","flags","gbounds","gnames","mid","name","native","ngen","owner","params","pflags","pnames","ret"],
e5 p "Store" "framerune.store" 648 299 782 298 [("__init__",798,312,300)] [D2 (aS 85 0) "Store.__init__" "__init__" 306 792 300 1 ["self"]] 313 806 ["asms","entry","fields_","kt","methods","names","types"],
cr 86 "plain_names" 320 814 308 1 ["count","out","place"],
cr 87 "kept_flags" 327 823 313 1 ["flags"],
cr 88 "add_method" 334 830 317 7 ["store","tid","name","access","flags","ret","params","t","mid"],
cr 89 "note_method" 341 845 324 2 ["store","mid","m","t"],
cr 90 "put_once" 348 855 332 2 ["rows","row"],
cr 91 "add_impl" 355 863 335 5 ["store","tid","body_mid","decl_owner","decl_mid"],
cr 92 "self_kind" 362 874 337 2 ["store","tid","t","args","place"],
cr 93 "kind_with" 369 885 345 3 ["store","tid","args","sort"],
cr 94 "type_of" 376 895 350 2 ["store","k","tid"],
cr 95 "find_methods" 383 904 355 3 ["store","tid","name","out","mid"],
cr 96 "method_sig" 390 915 361 2 ["store","mref","m","targs"],
cr 97 "is_virtual" 397 925 369 1 ["m"],
K3 99 "is_iface" 404 934 372 2 ["host","k"],
K3 100 "base_chain" 411 942 374 2 ["host","k","out","seen"],
qe 102 "decl_overrides" 418 954 383 1 ["d","rows","i","own","depth","tid","mid","node"],
qe 103 "decl_override" 425 968 391 4 ["d","tid","mid","node","found","m","old","number","flags","kinds"],
qe 104 "decl_stand" 432 984 406 5 ["d","tid","mid","found","node","rows","body","owner","decl","m"],
qe 105 "decl_override_number" 439 1000 420 4 ["d","m","old","found","access"],
qe 106 "decl_base_match" 446 1011 435 3 [],
qe 107 "decl_strange" 451 1017 445 3 ["d","m","old"],
qe 108 "decl_in_sight" 458 1026 447 3 ["d","m","old"],
qe 109 "decl_same_outs" 465 1035 451 2 [],
qe 110 "decl_same_params" 470 1041 453 5 ["d","at","name","ngen","params","out","mid"],
e5 p "Node" "framerune.csnodes" 1054 477 1060 462 [("__init__",1081,490,464)] [qf (aS 113 0) "Node.__init__" "__init__" 484 1070 464 6 ["self","kind","a","kids","mods","at"]] 491 1088 ["a","at","kids","kind","mods","nid"],
e5 p "Diags" "framerune.csnodes" 1054 498 1098 471 [("__init__",1114,511,473),("put",1124,518,476),("cut",1132,525,479),("numbers",1139,532,483)] [qf (aS 114 0) "Diags.__init__" "__init__" 505 1108 473 1 ["self"],qf (aS 114 1) "Diags.put" "put" 512 1115 476 4 ["self","number","at","words"],qf (aS 114 2) "Diags.cut" "cut" 519 1125 479 2 ["self","count"],qf (aS 114 3) "Diags.numbers" "numbers" 526 1133 483 1 ["self"]] 533 1141 ["rows"],
e5 p "Unit" "framerune.csbound" 1149 540 1153 486 [("__init__",1171,553,488)] [W2 (aS 116 0) "Unit.__init__" "__init__" 547 1163 488 3 ["self","store","asm"]] 554 1181 ["asm","consts","diags","fns","inits","of_mid","sinits","store","vars"],
e5 p "Yard" "framerune.cscore" 1189 561 1193 499 [("__init__",1212,574,501),("kind",1220,581,516),("fault",1230,588,519),("show",1238,595,522),("kept",1247,602,525)] [uE (aS 118 0) "Yard.__init__" "__init__" 568 1203 501 4 ["self","unit","host","asm"],uE (aS 118 1) "Yard.kind" "kind" 575 1213 516 2 ["self","node"],uE (aS 118 2) "Yard.fault" "fault" 582 1221 519 4 ["self","number","node","words"],uE (aS 118 3) "Yard.show" "show" 589 1231 522 2 ["self","k"],uE (aS 118 4) "Yard.kept" "kept" 596 1239 525 3 ["self","k","node"]] 603 1261 ["asm","early","host","kinds","kt","mid","owner","static","store","told","tparams","unit","unmet"],
K4 119 "yard_kept" 610 1269 527 3 ["yard","k","node"],
e5 p "Decls" "framerune.csdeclb" 1278 617 1282 533 [("__init__",1300,630,535)] [W4 (aS 121 0) "Decls.__init__" "__init__" 624 1292 535 3 ["self","unit","cx"]] 631 1314 ["consts","cx","explicits","keys","kt","late","opers","overrides","sinits","store","types","unit","work"],
e5 p "BareHost" "framerune.kindrel" 1322 638 1326 550 [("__init__",1343,651,552),("base",1351,658,563),("ifaces_at",1359,665,566),("sort",1367,672,569),("variance",1375,679,572),("under",1383,686,575),("has_new",1391,693,578)] [sE (aS 123 0) "BareHost.__init__" "__init__" 645 1336 552 2 ["self","kt"],sE (aS 123 1) "BareHost.base" "base" 652 1344 563 2 ["self","k"],sE (aS 123 2) "BareHost.ifaces_at" "ifaces_at" 659 1352 566 2 ["self","k"],sE (aS 123 3) "BareHost.sort" "sort" 666 1360 569 2 ["self","k"],sE (aS 123 4) "BareHost.variance" "variance" 673 1368 572 2 ["self","tid"],sE (aS 123 5) "BareHost.under" "under" 680 1376 575 2 ["self","k"],sE (aS 123 6) "BareHost.has_new" "has_new" 687 1384 578 2 ["self","k"]] 694 1401 ["bases","bounds","gflags","ifaces","kt","news","sorts","unders","variances"],
eD 125 "_law_take" 701 1411 581 2 ["w","n","at","fill"],
eD 126 "_law_seen" 708 1421 588 2 [],
eD 127 "_law_kind" 713 1427 596 2 [],
eD 128 "_law_term" 718 1433 605 2 ["w","many","n","part"],
eD 129 "_law_own" 725 1443 613 2 [],
eD 130 "_law_line" 730 1449 615 2 [],
eD 131 "_law_world" 735 1455 623 1 [],
eD 132 "_law_put" 740 1461 639 5 ["w","level","name","sort","over","line","term","flags","mid","row"],
eD 133 "_law_methods" 747 1477 646 1 [],
eD 134 "_law_stand" 752 1483 657 2 [],
eD 135 "law" 757 1489 670 1 []]
noncomputable def aaj:B (am×a8):=[(1,20),(10,27),(15,47),(17,59),(54,73),(103,108),(112,115),(116,122),(122,129),(144,136),(148,143),(152,150),(157,157),(161,164),(165,171),(169,178),(171,185),(173,192),(182,199),(187,206),(191,213),(194,220),(199,227),(214,234),(223,241),(231,248),(235,255),(255,262),(281,283),(298,304),(308,325),(313,332),(317,339),(324,346),(332,353),(335,360),(337,367),(345,374),(350,381),(355,388),(361,395),(369,402),(372,409),(374,416),(383,423),(391,430),(406,437),(420,444),(435,449),(445,456),(447,463),(451,468),(453,475),(462,482),(471,503),(486,545),(499,566),(527,615),(533,622),(550,643),(581,706),(588,711),(596,716),(605,723),(613,728),(615,733),(623,738),(639,745),(646,750),(657,755),(670,760)]
noncomputable def hk(p:gr)(m:aL)(t:i0)(k j:C):B (av×fQ):=hl p (⟨.none,none,.dict ⟨[eR p "type.__subclasses__.Exception.0" 233 (I 38),eR p "type.__subclasses__.Exception.n" 234 (I 1)]⟩ 2,⟨[]⟩⟩) (nB (eR p "__name__" 165 (S m t)::(WO p).take k) (k+1)) (c5 ((GJ 0 aaj).take j))
noncomputable def bG(l:B (av×fQ)):B (av×fQ)×B (av×fQ):=l.foldr (λ x r=>(x::r.2,r.1)) ([],[])
noncomputable def nU:C→B (av×fQ)→BT
 |0,_=>.nil
 |_,[]=>.nil
 |z+1,x::l=>.node x.2 (nU z (bG l).1) (nU z (bG l).2)
noncomputable def ie(p:gr):BT:=nU 11 ((hl p (boot_o_2 p) (boot_o_3 p) (c5 [])).take 15)
noncomputable def er(p:gr):BT:=nU 11 ((hk p "framerune.kinds" 269 36 12).take 66)
noncomputable def eO(p:gr):BT:=nU 11 ((hk p "framerune.kinds" 269 51 12).take 68)
noncomputable def hr(p:gr):BT:=nU 11 ((hk p "framerune.kinds" 269 68 63).take 215)
noncomputable def kM(p:gr):BT:=nU 11 ((hk p "framerune.store" 648 90 87).take 299)
noncomputable def lS(p:gr):BT:=nU 11 ((hk p "framerune.csdeclx" 952 107 138).take 432)
noncomputable def Pj(p:gr):BT:=nU 11 ((hk p "framerune.csbound" 1149 117 165).take 540)
noncomputable def Pk(p:gr):BT:=nU 11 ((hk p "framerune.kindrel" 1322 121 177).take 638)
noncomputable def Pl(p:gr):BT:=nU 11 ((hk p "law_hb0001_01" 1409 133 213).take 762)
noncomputable def cl(p:gr):B (av×fQ):=hk p "law_hb0001_01" 1409 133 213
noncomputable def EO:C→B (av×fQ)→kl
 |_,[]=>[]
 |i,(b,o)::l=>bif b then(i,o)::EO (i+1) l else EO (i+1) l
noncomputable def k8(p:gr):Frag:=EO 0 (cl p)
noncomputable def a3(l:B fQ):Heap:=⟨⟨l⟩,⟨[],[],[],0,[],[],false,⟨[]⟩,[],0,false,false,false,0,[2000,10,10],false,0,true,[],[],0,false⟩⟩
noncomputable def Lt(p:gr):Heap:=a3 (((hl p (boot_o_2 p) (boot_o_3 p) (c5 [])).take 15).map (·.2))
noncomputable def uF(p:gr):Heap:=a3 ((cl p).map (·.2))
end Hd
end
section
open PySem PySem.W PySem.Calls PyProof.Rows
namespace Hd
noncomputable def q3:B Stmt:=behindTheImports iF
noncomputable def dQ(i z:C):B Stmt:=(q3.drop i).take z
noncomputable def b3:Env:={scope:=iF.main.scope,locals:=mainNs,globals:=mainNs,cells:=[],code:=.ref 13,frame:=some 14}
noncomputable def hc:Code:=.body q3 b3
noncomputable def fy:Pos:=⟨0,0,0,0⟩
noncomputable def w3:Y Value:=some (.ref 6)
noncomputable def y8(t:gr→BT)(z k:C)(w:ez)(os:h6):SharedT:=⟨t w.params,z,{},⟨[]⟩,{},k,os⟩
theorem p'{w:ez}{m b z:C}{Jv:Y au}{s:SharedT}{t:Thread}{r:Y (Flow×SharedT×Code×hd)}(h:agW agX iF w m Jv b z s t=r):segRunT t7 iF w m Jv b z s t=r:=by
 rw[agC,CH];exact h
noncomputable def p1(a z f:C)(t cB:gr→BT)(k ct m c0:C)(p f4:hd)(w:ez):Prop:=∀os,segRunT t7 iF w 11 w3 1 f (y8 t k m w os) (piecesOf (dQ a z) b3 hc p [t2 fy])=some (.next,y8 cB ct c0 w os,hc,f4)
theorem acB(w:ez):p1 0 30 920 ie er 15 66 187 309 fy ⟨38,0,38,7⟩ w:=λ os=>p' (by kernel_rfl)
theorem acC(w:ez):p1 30 15 530 er eO 66 68 309 393 ⟨38,0,38,7⟩ ⟨53,0,53,12⟩ w:=byRow2 "special-get-raises" (P:=p1 30 15 530 er eO 66 68 309 393 ⟨38,0,38,7⟩ ⟨53,0,53,12⟩) (λ w os=>p' (by kernel_rfl)) (λ w os=>p' (by kernel_rfl)) w
theorem acD(w:ez):p1 45 17 786 eO hr 68 215 393 585 ⟨53,0,53,12⟩ ⟨191,0,193,42⟩ w:=λ os=>p' (by kernel_rfl)
theorem acE(w:ez):p1 62 23 819 hr kM 215 299 585 780 ⟨191,0,193,42⟩ ⟨281,0,297,23⟩ w:=λ os=>p' (by kernel_rfl)
theorem acF(w:ez):p1 85 19 764 kM lS 299 432 780 984 ⟨281,0,297,23⟩ ⟨391,0,405,86⟩ w:=λ os=>p' (by kernel_rfl)
theorem acG(w:ez):p1 104 12 797 lS Pj 432 540 984 1151 ⟨391,0,405,86⟩ ⟨485,0,485,8⟩ w:=λ os=>p' (by kernel_rfl)
theorem acH(w:ez):p1 116 7 892 Pj Pk 540 638 1151 1324 ⟨485,0,485,8⟩ ⟨549,0,549,8⟩ w:=λ os=>p' (by kernel_rfl)
theorem acI(w:ez):p1 123 13 742 Pk Pl 638 762 1324 1495 ⟨549,0,549,8⟩ ⟨670,0,701,86⟩ w:=λ os=>p' (by kernel_rfl)
theorem XM(w:ez)(os:h6):topGo t7 iF w 11 w3 12 ⟨t1 w.params,⟨[]⟩,boot_drawn,boot_toks,os⟩ (topStub iF)=some (⟨Lt w.params,⟨[]⟩,{},187,os⟩,⟨denote t7 hc,hc,fy,[t2 fy]⟩):=by
 rw[agL,agG,CH]
 kernel_rfl
theorem Xy(w:ez)(os:h6):segRun t7 iF w 11 w3 1 1 ⟨Lt w.params,⟨[]⟩,{},187,os⟩ (blockOf q3 b3 hc fy [t2 fy])=some (.next,(y8 ie 15 187 w os).abs,hc,fy):=by
 rw[agJ,CH]
 kernel_rfl
theorem Ek(w:ez)(os:h6):topRun t7 iF w 11 w3 2 (y8 Pl 762 1495 w os).abs ⟨doneF .next,hc,⟨670,0,701,86⟩,[t2 fy]⟩=some ⟨uF w.params,⟨[]⟩,{},1495,os⟩:=by
 rw[agI,CH]
 kernel_rfl
theorem Uk:q3=dQ 0 30++(dQ 30 15++(dQ 45 17++(dQ 62 23++(dQ 85 19++(dQ 104 12++(dQ 116 7++(dQ 123 13++[]))))))):=by kernel_rfl
theorem sL(w:ez)(os:h6):topRun t7 iF w 11 w3 (12+(1+(920+(530+(786+(819+(764+(797+(892+(742+2)))))))))) ⟨t1 w.params,⟨[]⟩,boot_drawn,boot_toks,os⟩ (topStub iF)=some ⟨uF w.params,⟨[]⟩,{},1495,os⟩:=by
 refine go_top (XM w os) (piece_block (b:=q3) (env:=b3) (q:=fy) (Xy w os) ?_)
 rw[show restOf q3 b3 hc fy [t2 fy]=restOf (dQ 0 30++(dQ 30 15++(dQ 45 17++(dQ 62 23++(dQ 85 19++(dQ 104 12++(dQ 116 7++(dQ 123 13++[])))))))) b3 hc fy [t2 fy]from an (λ b=>restOf b b3 hc fy [t2 fy]) Uk]
 exact sa (sb (acB w os)) (sa (sb (acC w os)) (sa (sb (acD w os)) (sa (sb (acE w os)) (sa (sb (acF w os)) (sa (sb (acG w os)) (sa (sb (acH w os)) (sa (sb (acI w os)) (Ek w os))))))))
end Hd
end
section
open PySem PySem.W PySem.Calls PyProof.Rows
namespace Hd
noncomputable def ft:Program:={iF with main:={iF.main with body:=((ck 136).filter λ i=>!([6,10,68,98,101,111,115,117,120,122,124].contains i)).map pI}}
noncomputable def iw:B Str:=["PRIM_TID","TID_PRIM"]
noncomputable def c7(w:ez)(os:h6):Shared:=⟨uF w.params,⟨[]⟩,{},1495,os⟩
noncomputable def has:B Addr:=(k8 {strHash:=λ _=>0,shareClass:=id,mergeTok:=id,idOf:=λ _=>0,idOfShared:=λ _ _=>0,followText:=λ _=>true,idOfImm:=λ _=>0}).map (·.1)
theorem Ye:opening iF=plainProg iF.main.scope.names:=by kernel_rfl
theorem Yg(s:a2):fenceModules? iF s=some s:=by kernel_rfl
theorem Yo(w:ez):((t1 w.params).isNs kZ&&(⟨[]⟩:gS GenState).size==0,(t1 w.params).objs.size,(t1 w.params).nsMap kZ "__annotations__")=(true,11,some (.ref 6)):=by kernel_rfl
theorem rr(w:ez)(os:h6):(staticsOk (CM iF.main.body) (t1 w.params) (uF w.params)&&namesBound iF (uF w.params)&&gensDone (c7 w os)&&laidKept (t1 w.params) (uF w.params))=true:=by
 rw[R1];kernel_rfl
theorem u2(w:ez)(os:h6):seen ((recsOf ft).map (·.name)) (ownsOf ft) [] {c7 w os with gens:=#[]}=expectedOf ft:=by
 rw[agQ,R0,agR];kernel_rfl
theorem Z4(w:ez)(os:h6):(c7 w os).heap.bltView=bltViewBooted:=by kernel_rfl
theorem aaa(w:ez)(os:h6):tabsOk ft (c7 w os)=true:=by rw[agP];kernel_rfl
end Hd
end
section
open PySem PySem.W PySem.Calls PyProof.Rows
namespace Hd
noncomputable def w2(s:a2):Bool:=xlAt ft [] s&&recOk qW.row.records s
theorem eV{a b:av}(h:a=true)(g:b=true):(a&&b)=true:=by rw[h,g];rfl
theorem Z6(w:ez)(os:h6):(c7 w os).heap.keysOk (wk ft iw) ((recsOf ft).map (·.name)) ((litsOf ft).map (·.1)) ((clssOf ft (wk ft iw)).map (·.name))=true:=by
 rw[agD,R2,R0,agU,agH];kernel_rfl
theorem Z7(w:ez)(os:h6):(c7 w os).heap.accountedOkI (CM iF.main.body)=true:=by
 rw[agK,R1];kernel_rfl
theorem Z8(w:ez)(os:h6):((c7 w os).heap.isNs kZ&&(c7 w os).heap.isNs yZ)=true:=by kernel_rfl
theorem Z9(w:ez)(os:h6):tablesOk ft (c7 w os).heap=true:=by
 rw[agE];kernel_rfl
theorem Z'(w:ez)(os:h6):w2 (c7 w os)=true:=by kernel_rfl
theorem Z5(w:ez)(os:h6):((c7 w os).heap.keysOk (wk ft iw) ((recsOf ft).map (·.name)) ((litsOf ft).map (·.1)) ((clssOf ft (wk ft iw)).map (·.name))&&(c7 w os).heap.accountedOkI (CM iF.main.body)&&(c7 w os).heap.isNs kZ&&(c7 w os).heap.isNs yZ&&tablesOk ft (c7 w os).heap&&w2 (c7 w os)&&(c7 w os).gens.size==0)=true:=
 have h:=Z8 w os
 eV (eV (eV (eV (eV (eV (Z6 w os) (Z7 w os)) (dF.mp h).1) (dF.mp h).2) (Z9 w os)) (Z' w os)) rfl
theorem aab(w:ez)(os:h6):pinSeenD ft (drecsOf ft) (c7 w os)=pinGoodD (drecsOf ft):=by
 rw[agM,agO];kernel_rfl
theorem aac(w:ez)(os:h6):plainSeenE ft (wk ft iw) (c7 w os)=plainGoodE ft (wk ft iw):=by
 rw[agN,R2];kernel_rfl
theorem aad(w:ez)(os:h6):plainSeenD ft iw (c7 w os)=plainGoodD ft iw:=by
 rw[agF];kernel_rfl
theorem aae(w:ez)(os:h6):wideSeen ft (c7 w os)=wideGood ft:=by
 rw[agS];kernel_rfl
theorem aaf(w:ez)(os:h6):clsSeenW ft iw (c7 w os)=clsGoodW ft iw:=by
 rw[agT];kernel_rfl
theorem Xu(P:gr):has=(k8 P).map (·.1):=by kernel_rfl
noncomputable def pf:Hook:=kHook k8 has Xu
theorem aag(w:ez)(os:h6):pf.obs (c7 w os)=pf.val w:=by kernel_rfl
theorem XB:(chainsOk ft&&opensWell qW.row.prog&&(frees qW.row.toRowW&&qW.row.within.isEmpty))=true:=by kernel_rfl
end Hd
end
section
open PySem PySem.W PySem.Calls PyProof.Rows
namespace Hd
theorem Yk:OpenLaw.wellSaid qW=true:=by
 rw[agV]
 refine eV (eV (eV (eV (eV (eV (eV (eV (eV (eV (eV (eV (eV (eV (eV (eV (eV (eV (eV (eV (eV (eV (eV (eV (eV (eV (eV (eV (eV (eV (eV (eV (eV (eV (eV (eV (eV ?_ ?_) ?_) ?_) ?_) ?_) ?_) ?_) ?_) ?_) ?_) ?_) ?_) ?_) ?_) ?_) ?_) ?_) ?_) ?_) ?_) ?_) ?_) ?_) ?_) ?_) ?_) ?_) ?_) ?_) ?_) ?_) ?_) ?_) ?_) ?_) ?_) ?_
 all_goals decide+kernel
theorem Ym(w:ez)(os:h6):openSeen ft iw (CM iF.main.body) w2 true (c7 w os)=openGood ft iw:=
 p3 (u2 w os) (p3 (Z4 w os) (p3 (Z5 w os) (p3 (aaa w os) (p3 (aab w os) (p3 (aac w os) (p3 (aad w os) (p3 (aae w os) (aaf w os))))))))
theorem XZ:LeftO iF ft iw w2 pf.obs pf.val 12610:=
 LeftO.of_pieces (boot_open Ye rfl Yg) Yo sL rfl λ w=>funext λ os=>p3 (rr w os) (p3 (Ym w os) (aag w os))
end Hd
end
section
open PySem PySem.W PySem.Calls PyProof.Rows
namespace Hd
noncomputable def XF:DefRec:=match pI 135 with
 | .FunctionDef z a b _ _ _ s _ _ p=>⟨z,a,b,s,p⟩
 |_=>⟨"",⟨[],[],none,[],[],none,[]⟩,[],⟨.function,[],false,false,[]⟩,fy⟩
theorem a1(af1:WalkO ft iw (XL ft []) pf.says qW.row.toRowW XF [] λ f ar=>PySem.call f ar):qW.Holds:=
 holds_law Yk λ adT=>holds_open (q:=ft) (loose:=iw) (Xt:=w2) (XP:=XL ft []) (Yf:=pf.obs) (Ya:=pf.val) (YP:=pf.says) (N:=12610) XZ pf.of pf.keeps (λ _ e=>xl_of _ (dF.mp e).1) XL.keeps
  (by kernel_rfl) (by kernel_rfl) (by kernel_rfl) (λ _ e=>recFacts_of (dF.mp e).2) rfl adT XB ⟨rfl,rfl,rfl,rfl,rfl,by decide+kernel⟩ ⟨[WData.list []],by decide+kernel,by decide+kernel⟩ af1
end Hd
end
section
open PySem PySem.W PyProof.Rows
namespace Mine
variable{V f:C}
theorem Md(h:xi V=some f):V<10:=by
 unfold xi at h
 split at h<;>first|omega|cases h
theorem aaW{m:C}(h:Fb V m=some f):(V,m,f)∈ [(0,75,1),(0,76,2),(9,9,12),(9,7,13)]:=by
 unfold Fb at h
 split at h<;>first| (cases h;decide)|cases h
theorem WC(h:wU V f=true):V<10∧f<jD.length:=by
 unfold wU at h
 have bV:V<zR.length:=by
  rcases Co V zR.length with q|q
  ·exact q
  ·rw[jz,Ca q]at h;cases h
 refine⟨bV,?_⟩
 rw[jz,h2 bV]at h
 have all:(zR.all λ l=>l.all λ f=>decide (f<jD.length))=true:=by decide+kernel
 have:=g'.mp (g'.mp all _ (yH bV)) f (by simpa using h)
 exact gi this
noncomputable def U6(K:kl):Bool:=(ck 10).all λ V=>Dv K (sv V)
noncomputable def YW(K:kl):Bool:=(ck 10).all λ V=>match xi V with
 |some f=>oU K (.ref (sv V)) "__init__"==some (some (.ref (n0 f)))&&wm K (.ref (n0 f))==some (.type "function")
 |none=>true
noncomputable def WA(K:kl):Bool:=(ck 10).all λ V=>(ck jD.length).all λ f=>!wU V f||oU K (.ref (sv V)) (gK jD f)==some none
theorem U7(P:gr):U6 (Hd.k8 P)=true:=by kernel_rfl
theorem YX(P:gr):YW (Hd.k8 P)=true:=by kernel_rfl
theorem WB(P:gr):WA (Hd.k8 P)=true:=by kernel_rfl
theorem abb:jD.Nodup:=by decide+kernel
end Mine
end
section
open PySem PySem.W PyProof.Rows
namespace Mine
variable{aI:dD}{oy:C}{l:a8}{ar:B au}{ns:B am}{A:eC}{yR:Flow→a2→Prop}{name:aL}{scope:gc}{aK:a8}{cd:au}{jb:B fv}{m:aL→Y au}
noncomputable def aaU(K:kl):Bool:=[(0,75,1),(0,76,2),(9,9,12),(9,7,13)].all λ(V,m,f)=>oU K (.ref (sv V)) (gK jD m)==some (some (.ref (n0 f)))&&wm K (.ref (n0 f))==some (.type "function")&&yW K (.ref (n0 f))
theorem aaV(P:gr):aaU (Hd.k8 P)=true:=by kernel_rfl
theorem afa{f:C}{d:oL}(h:ac.fns f=some d):f<63:=Nat.lt_of_not_le λ q=>
 let⟨k,e⟩:=Nat.exists_eq_add_of_le' q
 nomatch(show none=some d from(an DO e).symm.trans h)
theorem WI(P:gr):((ck 63).all λ f=>zT (Hd.k8 P) f)=true:=by kernel_rfl
theorem WG(P:gr):∀f d,ac.fns f=some d→zT (Hd.k8 P) f=true:=λ f _ h=>g'.mp (WI P) f (ga.mpr (afa h))
theorem S6:∀f g,f<jD.length→g<jD.length→gK jD f=gK jD g→f=g:=by
 intro f g cl i3 h
 unfold gK at h
 have:=ye h
 rw[jz,jz,h2 cl,h2 i3]at this
 have nd:=List.pairwise_iff_getElem.mp abb
 rcases Nat.lt_trichotomy f g with q|q|q
 ·exact absurd this (nd f g cl i3 q)
 ·exact q
 ·exact absurd this.symm (nd g f i3 cl q)
theorem Dr{uj:aL→Y au}:∀{e5:B (aL×a8)} {cells:B (a8×fQ)} {x:aL} {q:a8},CellsAre uj e5 cells→(x,q)∈e5→∃o,(q,o)∈cells∧o.data= .cell (uj x)
 |_,_,x,q,.nil,h=>(nomatch h)
 |_,_,x,q,.cons ax aH,h=>by
  rcases kh.mp h with e|h
  ·cases e;exact⟨_,.head _,ax⟩
  ·obtain⟨o,be,a1⟩:=Dr aH h
   exact⟨o,.tail _ be,a1⟩
theorem JA:∀{e5:B (aL×a8)} {x y:aL} {q:a8},(e5.map (·.2)).Nodup→(x,q)∈e5→(y,q)∈e5→x=y
 |p::r,x,y,q,cy,ax,aH=>by
  rw[oN,nH]at cy
  rcases kh.mp ax with aw|ax<;>rcases kh.mp aH with aB|aH
  ·rw[←aB]at aw;exact(Prod.mk.inj aw).1
  ·exact absurd (hu.mpr ⟨_,aH,by rw[←aw]⟩) cy.1
  ·exact absurd (hu.mpr ⟨_,ax,by rw[←aB]⟩) cy.1
  ·exact JA cy.2 ax aH
section
variable{w:ez}{aJ:a2}{qp pr:aL→Y au}{p:lx}{loose:B aL}{u8:ExcName→Y au}{prog:lx}
noncomputable def qa(prog:lx)(w:ez)(aJ:a2):cV:=⟨prog,w,aJ.heap,aJ.os,Hd.k8 w.params,sv,ac⟩
theorem ab3(v9:(Hd.k8 w.params).In aJ.heap)(T:Top p loose u8 qp pr aJ.heap):jC (qa prog w aJ) jD where
 K:=v9
 lim:=T.nolimit
 cls:=λ V bV=>by
  obtain⟨f,cl⟩:=oT.mp bV
  have:=g'.mp (U7 w.params) V (ga.mpr (Md cl))
  exact this
 fld:=λ V f cl=>by
  obtain⟨ax,aH⟩:=WC cl
  have:=g'.mp (g'.mp (WB w.params) V (ga.mpr ax)) f (ga.mpr aH)
  rw[show wU V f=true from cl]at this
  simp only[Bool.not_true,Qq,jl]at this
  exact⟨aH,this⟩
 names:=S6
theorem Lm(T:Top p loose u8 qp pr aJ.heap):v5 (qa prog w aJ):=⟨qp,pr,T.g,T.b,T.builtins⟩
theorem Nm:Ck (qa prog w aJ) jD n0 where
 i6:=λ V f cl=>by
  have:=g'.mp (YX w.params) V (ga.mpr (Md cl))
  rw[show xi V=some f from cl]at this
  simp only[jX,jl]at this
  exact this
 pv:=λ V m f cl=>by
  have:=g'.mp (aaV w.params) _ (aaW cl)
  simp only[jX,jl]at this
  exact⟨this.1.1,this.1.2,this.2⟩
theorem WH:∀f d,(qa prog w aJ).P.fns f=some d→B2 (qa prog w aJ) jD n0 f d:=λ f d h=>WF h rfl (WG w.params f d h)
theorem Me:∀{ar:B au} {ns:B am},Cy ar ns→tL ns ar
 |_,_,.nil=>rfl
 |_,_,.cons z t h=>⟨t,_,rfl,Me h⟩
noncomputable def qj:oL:=(DO 62).getD ⟨0,0,[],.nil⟩
noncomputable def B6:Prop:=∀ns:B am,ns.length≤63→nu ac (sw ac 100) qj.body (some (.fw ns)::dx 16 none) (λ _ _=>False) (λ v _=>v= .cj true) []
theorem Zh{ab:au→a2→Prop}{cells:B (a8×fQ)}
  (v9:(Hd.k8 w.params).In aJ.heap)(T:Top p loose u8 qp pr aJ.heap)(i3:aJ.gens= #[])(hl:aJ.heap.get? l=some {cls:=.type "list",data:=.seq ar.toArray})(dk:Cy ar ns)(i4:ns.length≤63)
  (F:Fr aJ.heap aJ.heap.objs.size aI m)(N:News aJ.heap aJ.heap.objs.size aI cells)(uj:aL→Y au)(X:CellsAre uj (y1 (aJ.heap.objs.size+1) scope.names []) cells)(hm:m (st [115,99,114,105,112,116])=some (.ref l))
  (hk:scope.kind= .function)(hs:scope.names.lookup (st [115,99,114,105,112,116])=some .local)(Xr:((y1 (aJ.heap.objs.size+1) scope.names []).map (·.2)).Nodup)
  (ok:px (Du (Hd.k8 w.params)) qj.body scope (mz qj) jb=true)(hA:iH A 100)(M:B6)
  (hpost:∀a9,(∀b o,aJ.heap.get? b=some o→a9.heap.get? b=some o)→a9.gens= #[]→a9.os=aJ.os→yR (.ret (.bool true)) a9):
  bg (bc prog w) A (execs jb (Cz name scope aJ.heap.objs.size aK cd)) yR ab {aJ with heap:=aI,toks:=oy}:=by
 have bL:jC (qa prog w aJ) jD:=ab3 v9 T
 have Z:hK (qa prog w aJ) jD n0 100 (sw ac 100):=⟨bL,Lm T,Nm,O3 bL (Lm T) Nm WH 100⟩
 have I:Inv (qa prog w aJ) jD [] [] {aJ with heap:=aI,toks:=oy}:=by
  refine⟨F.keep,λ b f=>?_,rfl,λ i j p q e=>by simp at e,λ i p o e=>by simp at e,i3,rfl,λ b f=>?_,?_⟩
  ·obtain⟨p,bM,_⟩:=f;cases bM
  ·obtain⟨p,bM,_⟩:=f;cases bM
  ·obtain⟨aaL,⟨o,O,hL,e,_⟩,_⟩:=T.nolimit
   exact⟨cStatics,o,by decide,e⟩
 have cell:∀x q,(y1 (aJ.heap.objs.size+1) scope.names []).lookup x=some q→∃v,aI.IsCell q v:=by
  intro x q e
  have X6:=mem_of_lookup e
  obtain⟨o,be,a1⟩:=Dr X X6
  exact⟨_,o,(N _ be).1,a1⟩
 have new:∀x q,(y1 (aJ.heap.objs.size+1) scope.names []).lookup x=some q→aJ.heap.get? q=none:=by
  intro x q e
  obtain⟨o,be,a1⟩:=Dr X (mem_of_lookup e)
  exact(N _ be).2.2
 have cC:aJ.heap.get? aJ.heap.objs.size=none:=n1 λ _ _ e=>e
 have QC:c' (qa prog w aJ) (mz qj) [] (some (.fw ns)::dx 16 none) (Cz name scope aJ.heap.objs.size aK cd) aI m:=by
  refine⟨hk,rfl,rfl,rfl,F.ns,λ x q e=>cell x q e,λ x y q aw aB=>?_,λ b o f=>?_,λ b o=>?_,GX (by decide+kernel),λ x e=>IY _ _ _ (.inl e),λ i x a aA bO=>?_⟩
  ·exact JA Xr (mem_of_lookup aw) (mem_of_lookup aB)
  ·obtain⟨p,bM,_⟩:=f;cases bM
  ·rcases o with rfl| ⟨x,e⟩
   ·exact cC
   ·exact new x b e
  ·cases i with
   |zero=>
    have aw:x=st [115,99,114,105,112,116]:=by
     have:(mz qj:B (Y aL))[0]? =some (some (st [115,99,114,105,112,116])):=by rfl
     rw[this]at aA;cases aA;rfl
    subst aw
    simp only[yD,yQ]at bO
    subst bO
    exact⟨_,⟨l,rfl,_,0,hl,by simpa using Me dk⟩,.inl ⟨hs,hm⟩⟩
   |succ i=>
    rw[Q0,HW]at bO
    split at bO<;>cases bO
 refine fb (sn Z qj.body jb (mz qj) _ (Cz name scope aJ.heap.objs.size aK cd) [] [] {aJ with heap:=aI,toks:=oy} m A ab (λ _ _=>False) (λ v _=>v= .cj true) ok QC I hA (M ns i4)) (λ f a9 az=>?_) λ _ _ y=>y
 cases f with
 |next=>obtain⟨_,_,_,_,q,_⟩:=az;exact q.elim
 |ret v=>
  obtain⟨a,bv,J,rfl,hG,ey,fC⟩:=az
  simp only[bA]at hG
  subst hG
  exact hpost a9 ey.base ey.gens ey.os
 |_=>exact az.elim
theorem Zi{ab:au→a2→Prop}{o:fQ}{v:Y au}{x:aL}
  (F:Fr aJ.heap aJ.heap.objs.size aI m)(N:News aJ.heap aJ.heap.objs.size aI [(aJ.heap.objs.size+1,o)])(XD:o.data= .cell v)
  (v9:(Hd.k8 w.params).In aJ.heap)(T:Top p loose u8 qp pr aJ.heap)(i3:aJ.gens= #[])(kP:Well w.params aJ.heap (.ref l) (ofPy (.list (ns.map .int))))(cC:aJ.heap.IsList l ar.toArray)(dk:Cy ar ns)(i4:¬((63:C):am)< (ns.length:am))
  (hm:m (st [115,99,114,105,112,116])=some (.ref l))
  (hc:y1 (aJ.heap.objs.size+1) scope.names []=[(x,aJ.heap.objs.size+1)])
  (hk:scope.kind= .function)(hs:scope.names.lookup (st [115,99,114,105,112,116])=some .local)
  (ok:px (Du (Hd.k8 w.params)) qj.body scope (mz qj) jb=true)(hA:iH A 100)(M:B6)
  (hpost:∀a9,(∀b o,aJ.heap.get? b=some o→a9.heap.get? b=some o)→a9.gens= #[]→a9.os=aJ.os→yR (.ret (.bool true)) a9):
  bg (bc prog w) A (execs jb (Cz name scope aJ.heap.objs.size aK cd)) yR ab {aJ with heap:=aI,toks:=oy}:=by
 have hl:aJ.heap.get? l=some {cls:=.type "list",data:=.seq ar.toArray}:=by
  obtain⟨o,be,_,z,Yd⟩:=cC
  generalize aA:ofPy (.list (ns.map .int))=d at kP
  cases kP with
  |list ax aH=>
   rw[be]at ax
   cases ax
   cases Yd
   exact be
  |_=>unfold ofPy at aA;cases aA
 exact Zh v9 T i3 hl dk (by omega) F N (λ _=>v) (by rw[hc];exact .cons XD .nil) hm hk hs (by rw[hc];simp) ok hA M hpost
end
theorem o7(env:eg):iH (callerA.deeper env) 100:=⟨rfl,by show 1+claimMargin+1+4*100+3<CO;decide,by show 4+3+12*100+309<kY;decide⟩
theorem W8{c:ClaimW}{e5:aL→Y a8}{u8:ExcName→Y au}{b6:B WData}{aJ a9:a2}(k:∀b o,aJ.heap.get? b=some o→a9.heap.get? b=some o)(i3:a9.gens= #[])(mh:a9.os=aJ.os)
  (cy:∀cls,c.raises b6 cls=false)(bM:c.post b6 (.bool true) b6=true):GoodW c e5 u8 b6 aJ (.ok (.ret (.bool true))) a9:=
 ⟨.inl ⟨.bool true,.bool true,[],rfl,cy,.bool true,bM,unshared_nil⟩,k,mh,i3⟩
end Mine
end
section
open PySem PySem.W PyProof.Rows
namespace Mine
local macro_rules | `(tactic|k_qdec)=>`(tactic|decide+kernel)
theorem hM(M:B6):qW.Holds:=Hd.a1 (by
 k_go0
 refine Zi (x:=IT "store") ‹_› ‹_› ‹_› ‹_› ‹Top _ _ _ _ _ _› ‹_› ‹Well _ _ _ _› ‹_› ‹Cy _ _› ‹_› ?hm ?hc ?hk ?hs ?ok ?hA M ?hpost
 case hm=>rfl
 case hc=>rfl
 case hk=>rfl
 case hs=>rfl
 case ok=>kernel_rfl
 case hA=>exact o7 _
 case hpost=>
  intro a9 hk i3 be
  exact W8 hk i3 be (λ _=>by first|rfl|kernel_rfl) (by first|kernel_rfl|decide))
end Mine
end
section
namespace Mine
noncomputable abbrev jh:=C→B D→St→Y (D×St)
inductive e0 where
 |br (env:aX)
 |f5 (v:D)
noncomputable def e1(a:D)(l:B D):qM (live a l):=λ n=>match a with
 | .ref _=>Classical.propDecidable _
 | .nn=>.isTrue trivial
 | .cj _=>.isTrue trivial
 | .ii _=>.isTrue trivial
 | .ss _=>.isTrue trivial
 | .tup _=>.isTrue trivial
 | .ew _ _=>.isTrue trivial
 | .cd _=>.isTrue trivial
 | .fw _=>.isTrue trivial
noncomputable def lF(dr:St→Prop)[qM dr](step:D→St→Y (B D×St)):B D→B D→St→Y (B D×St)
 | [],acc,n=>if dr n then some (acc,n)else none
 |x::r,acc,n=>if dr n then(step x n).bind λ p=>lF dr step r (acc++p.1) p.2 else none
noncomputable def fE(dr:St→Prop)[qM dr](step:D→aX→St→Y (e0×St)):B D→aX→St→Y (e0×St)
 | [],env,n=>if dr n then some (.br env,n)else none
 |x::r,env,n=>if dr n then(step x env n).bind λ p=>match p.1 with
  | .br aF=>fE dr step r aF p.2
  | .f5 v=>some (.f5 v,p.2)else none
noncomputable def oC(lT:aX→St→Y (av×St))(body:aX→St→Y (e0×St)):C→aX→St→Y (e0×St)
 |0,_,_=>none
 |z+1,env,n=>(lT env n).bind λ p=>if p.1=true then(body env p.2).bind λ q=>match q.1 with
   | .br aF=>oC lT body z aF q.2
   | .f5 v=>some (.f5 v,q.2)
  else some (.br env,p.2)
section
variable(P:iY)(V:jh)
mutual
noncomputable def ci:ab→aX→St→Y (D×St)
 | .nn,_,n=>some (.nn,n)
 | .cj b,_,n=>some (.cj b,n)
 | .ii i,_,n=>some (.ii i,n)
 | .ss s,_,n=>some (.ss s,n)
 | .v x,env,n=>(env[x]?.join).bind λ a=>some (a,n)
 | .gl _ val,_,n=>some (val,n)
 | .bin op a b,env,n=>(ci a env n).bind λ p=>(ci b env p.2).bind λ q=>(fH op p.1 q.1).bind λ r=>some (r,q.2)
 | .qA a b,env,n=>(ci a env n).bind λ p=>(ci b env p.2).bind λ q=>(x1 p.1 q.1).bind λ r=>some (r,q.2)
 | .pE a b,env,n=>(ci a env n).bind λ p=>(ci b env p.2).bind λ q=>(vs q.2 p.1 q.1).bind λ r=>some (.ref q.2.length,q.2++[.li r])
 | .neg a,env,n=>(ci a env n).bind λ p=>(xG p.1).bind λ r=>some (r,p.2)
 | .and O,env,n=>A4 O env n
 | .or O,env,n=>x0 O env n
 | .cmp op a b,env,n=>(ci a env n).bind λ p=>(ci b env p.2).bind λ q=>(cY op p.1 q.1 q.2).bind λ r=>some (.cj r,q.2)
 | .ite t a b,env,n=>(fs t env n).bind λ p=>if p.1=true then ci a env p.2 else ci b env p.2
 | .tup O,env,n=>(ou O env n).bind λ p=>if p.1.length≤1000 then some (.tup p.1,p.2)else none
 | .lst O,env,n=>(ou O env n).bind λ p=>if p.1.length≤1000 then some (.ref p.2.length,p.2++[.li p.1])else none
 | .m4 ks ar,env,n=>(ou ar env n).bind λ p=>if ks.length=p.1.length then some (.ref p.2.length,p.2++[.ds (ks.zip p.1)])else none
 | .pa ks ar,env,n=>(ou ar env n).bind λ p=>if ks.length=p.1.length then some (.ref p.2.length,p.2++[.cq (ks.zip p.1)])else none
 | .eQ .i,_,n=>some (.ref n.length,n++[.cq []])
 | .eQ .s,_,n=>some (.ref n.length,n++[.ds []])
 | .eQ .t,_,n=>some (.ref n.length,n++[.h' []])
 | .at a f,env,n=>(ci a env n).bind λ p=>(d7 p.2 p.1 f).bind λ r=>some (r,p.2)
 | .aq a i,env,n=>(ci a env n).bind λ p=>(ci i env p.2).bind λ q=>(de q.2 p.1 q.1).bind λ r=>some (r,q.2)
 | .lk a i,env,n=>(ci a env n).bind λ p=>(ci i env p.2).bind λ q=>(uw q.2 p.1 q.1).bind λ r=>some (.ref q.2.length,q.2++[.li r])
 | .mF a i,env,n=>(ci a env n).bind λ p=>(ci i env p.2).bind λ q=>(rR q.2 p.1 q.1).bind λ r=>some (s0 q.2 r)
 | .rev a,env,n=>(ci a env n).bind λ p=>(uZ p.2 p.1).bind λ l=>some (.ref p.2.length,p.2++[.li l.reverse])
 | .comp b7 xs many bb eo,env,n=>(ci bb env n).bind λ p=>(hR p.2 p.1).bind λ l=>if l.length≤100000 then
   (@lF (live p.1 l) (e1 p.1 l) (λ x ao=>(di many xs x env).bind λ aF=>(hp eo aF ao).bind λ q=>if q.1=true then(ci b7 aF q.2).bind λ r=>some ([r.1],r.2)else some ([],q.2)) l [] p.2).bind λ q=>
    some (.ref q.2.length,q.2++[.li q.1])
   else none
 | .call f b6,env,n=>(ou b6 env n).bind λ p=>V f p.1 p.2
 | .new c b6,env,n=>(P.i6 c).bind λ f=>(ou b6 env n).bind λ p=>(V f (.ref p.2.length::p.1) (p.2++[.bF c []])).bind λ q=>match q.1 with
   | .nn=>some (.ref p.2.length,q.2)
   |_=>none
 | .hj o m b6,env,n=>(ci o env n).bind λ p=>(mu P p.2 m p.1).bind λ f=>(ou b6 env p.2).bind λ q=>V f (p.1::q.1) q.2
 | .len a,env,n=>(ci a env n).bind λ p=>(lb p.2 p.1).bind λ z=>some (.ii z,p.2)
 | .jc a,env,n=>(ci a env n).bind λ p=>(rO p.2 p.1).bind λ r=>some (r,p.2)
 | .sorted a,env,n=>(ci a env n).bind λ p=>(vD p.2 p.1).bind λ r=>some (.ref p.2.length,p.2++[.li r])
 | .strOf a,env,n=>(ci a env n).bind λ p=>(yg p.1).bind λ r=>some (r,p.2)
 | .gQ a,env,n=>(ci a env n).bind λ p=>(ov p.1).bind λ r=>some (r,p.2)
 | .pF a b,env,n=>(ci a env n).bind λ p=>(ci b env p.2).bind λ q=>(vx p.1 q.1).bind λ r=>some (r,q.2)
 | .append o x,env,n=>(ci o env n).bind λ p=>if ml p.2 p.1=true then(ci x env p.2).bind λ q=>(l8 q.2 p.1 q.1).bind λ J=>some (.nn,J)else none
 | .m3 o k d,env,n=>(ci o env n).bind λ p=>if rh p.2 p.1=true then(ci k env p.2).bind λ q=>(ci d env q.2).bind λ r=>(uD r.2 p.1 q.1 r.1).bind λ v=>some (v,r.2)else none
 | .bad,_,_=>none
noncomputable def ou:d6→aX→St→Y (B D×St)
 | .nil,_,n=>some ([],n)
 | .cons e r,env,n=>(ci e env n).bind λ p=>(ou r env p.2).bind λ q=>some (p.1::q.1,q.2)
noncomputable def A4:d6→aX→St→Y (D×St)
 | .nil,_,_=>none
 | .cons e .nil,env,n=>ci e env n
 | .cons e (.cons bC r),env,n=>(ci e env n).bind λ p=>(ig p.2 p.1).bind λ b=>if b=true then A4 (.cons bC r) env p.2 else some (p.1,p.2)
noncomputable def x0:d6→aX→St→Y (D×St)
 | .nil,_,_=>none
 | .cons e .nil,env,n=>ci e env n
 | .cons e (.cons bC r),env,n=>(ci e env n).bind λ p=>(ig p.2 p.1).bind λ b=>if b=true then some (p.1,p.2)else x0 (.cons bC r) env p.2
noncomputable def fs:T→aX→St→Y (av×St)
 | .e a,env,n=>(ci a env n).bind λ p=>(ig p.2 p.1).bind λ b=>some (b,p.2)
 | .g4 t,env,n=>(fs t env n).bind λ p=>some (!p.1,p.2)
 | .and bE,env,n=>hp bE env n
 | .or bE,env,n=>A5 bE env n
 | .cmp op a b,env,n=>(ci a env n).bind λ p=>(ci b env p.2).bind λ q=>(cY op p.1 q.1 q.2).bind λ r=>some (r,q.2)
noncomputable def hp:fc→aX→St→Y (av×St)
 | .nil,_,n=>some (true,n)
 | .cons t r,env,n=>(fs t env n).bind λ p=>if p.1=true then hp r env p.2 else some (false,p.2)
noncomputable def A5:fc→aX→St→Y (av×St)
 | .nil,_,n=>some (false,n)
 | .cons t r,env,n=>(fs t env n).bind λ p=>if p.1=true then some (true,p.2)else A5 r env p.2
end
mutual
noncomputable def jT:S→aX→St→Y (e0×St)
 | .asg x e,env,n=>(ci P V e env n).bind λ p=>some (.br (iR env x p.1),p.2)
 | .o1 xs e,env,n=>(ci P V e env n).bind λ p=>(di true xs p.1 env).bind λ aF=>some (.br aF,p.2)
 | .cc o f e,env,n=>(ci P V e env n).bind λ p=>(ci P V o env p.2).bind λ q=>(lj P q.2 q.1 f p.1).bind λ J=>some (.br env,J)
 | .gJ o i e,env,n=>(ci P V e env n).bind λ p=>(ci P V o env p.2).bind λ q=>(ci P V i env q.2).bind λ r=>(j' r.2 q.1 r.1 p.1).bind λ J=>some (.br env,J)
 | .aug x op e,env,n=>(env[x]?.join).bind λ a=>(ci P V e env n).bind λ p=>(kD op a p.1).bind λ r=>some (.br (iR env x r),p.2)
 | .o3 o f op e,env,n=>(ci P V o env n).bind λ p=>(d7 p.2 p.1 f).bind λ a=>(ci P V e env p.2).bind λ q=>(kD op a q.1).bind λ r=>(lj P q.2 p.1 f r).bind λ J=>some (.br env,J)
 | .o4 o i op e,env,n=>(ci P V o env n).bind λ p=>(ci P V i env p.2).bind λ q=>(vv q.2 p.1 q.1).bind λ a=>(ci P V e env q.2).bind λ r=>(kD op a r.1).bind λ b=>(j' r.2 p.1 q.1 b).bind λ J=>some (.br env,J)
 | .ex e,env,n=>(ci P V e env n).bind λ p=>some (.br env,p.2)
 | .ret e,env,n=>(ci P V e env n).bind λ p=>some (.f5 p.1,p.2)
 | .mD,_,n=>some (.f5 .nn,n)
 | .b4 t a b,env,n=>(fs P V t env n).bind λ p=>if p.1=true then bS a env p.2 else bS b env p.2
 | .pL t b,env,n=>oC (fs P V t) (bS b) 60 env n
 | .dd xs many bb b,env,n=>(ci P V bb env n).bind λ p=>(hR p.2 p.1).bind λ l=>if l.length≤100000 then
   @fE (live p.1 l) (e1 p.1 l) (λ x aF J=>(di many xs x aF).bind λ dH=>bS b dH J) l env p.2 else none
 | .bad,_,_=>none
noncomputable def bS:bk→aX→St→Y (e0×St)
 | .nil,env,n=>some (.br env,n)
 | .cons s r,env,n=>(jT s env n).bind λ p=>match p.1 with
  | .br aF=>bS r aF p.2
  | .f5 v=>some (.f5 v,p.2)
end
end
noncomputable def runN(P:iY):C→jh
 |0,_,_,_=>none
 |z+1,f,b6,n=>(P.fns f).bind λ d=>if b6.length=d.np then(bS P (runN P z) d.body (b6.map some++dx (d.nl-d.np) none) n).bind λ p=>match p.1 with
   | .br _=>some (.nn,p.2)
   | .f5 v=>some (v,p.2)else none
end Mine
end
section
namespace Mine
section
variable(P:iY)(V:jh)
noncomputable def aam(K:D→Prop):Y D→Prop
 |some a=>K a
 |none=>True
noncomputable def AA(K:D→Prop):C→aX→Prop
 |0,o::_=>aam K o
 |z+1,_::r=>AA K z r
 |0,[]=>True
 |_+1,[]=>True
noncomputable def yr:av→Prop→Prop
 |true,p=>p
 |false,_=>True
mutual
noncomputable def dO:ab→aX→St→(D→St→Prop)→Prop
 | .nn,_,n,K=>K .nn n
 | .cj b,_,n,K=>K (.cj b) n
 | .ii i,_,n,K=>K (.ii i) n
 | .ss s,_,n,K=>K (.ss s) n
 | .v x,env,n,K=>AA (λ a=>K a n) x env
 | .gl _ val,_,n,K=>K val n
 | .bin op a b,env,n,K=>dO a env n λ db aa=>dO b env aa λ gH ao=>∀r,fH op db gH=some r→K r ao
 | .qA a b,env,n,K=>dO a env n λ db aa=>dO b env aa λ gH ao=>∀r,x1 db gH=some r→K r ao
 | .pE a b,env,n,K=>dO a env n λ db aa=>dO b env aa λ gH ao=>∀r,vs ao db gH=some r→K (.ref ao.length) (ao++[.li r])
 | .neg a,env,n,K=>dO a env n λ db aa=>∀r,xG db=some r→K r aa
 | .and O,env,n,K=>FC O env n K
 | .or O,env,n,K=>FD O env n K
 | .cmp op a b,env,n,K=>dO a env n λ db aa=>dO b env aa λ gH ao=>∀r,cY op db gH ao=some r→K (.cj r) ao
 | .ite t a b,env,n,K=>s4 t env n λ c aa=>match c with|true=>dO a env aa K|false=>dO b env aa K
 | .tup O,env,n,K=>qu O env n λ ar aa=>yr (kk ar.length 1000) (K (.tup ar) aa)
 | .lst O,env,n,K=>qu O env n λ ar aa=>yr (kk ar.length 1000) (K (.ref aa.length) (aa++[.li ar]))
 | .m4 ks ar,env,n,K=>qu ar env n λ ar aa=>yr (kj ks.length ar.length) (K (.ref aa.length) (aa++[.ds (ks.zip ar)]))
 | .pa ks ar,env,n,K=>qu ar env n λ ar aa=>yr (kj ks.length ar.length) (K (.ref aa.length) (aa++[.cq (ks.zip ar)]))
 | .eQ .i,_,n,K=>K (.ref n.length) (n++[.cq []])
 | .eQ .s,_,n,K=>K (.ref n.length) (n++[.ds []])
 | .eQ .t,_,n,K=>K (.ref n.length) (n++[.h' []])
 | .at a f,env,n,K=>dO a env n λ db aa=>∀r,d7 aa db f=some r→K r aa
 | .aq a i,env,n,K=>dO a env n λ db aa=>dO i env aa λ gH ao=>∀r,de ao db gH=some r→K r ao
 | .lk a i,env,n,K=>dO a env n λ db aa=>dO i env aa λ gH ao=>∀r,uw ao db gH=some r→K (.ref ao.length) (ao++[.li r])
 | .mF a i,env,n,K=>dO a env n λ db aa=>dO i env aa λ gH ao=>∀r,rR ao db gH=some r→K (s0 ao r).1 (s0 ao r).2
 | .rev a,env,n,K=>dO a env n λ db aa=>∀l,uZ aa db=some l→K (.ref aa.length) (aa++[.li l.reverse])
 | .comp b7 xs many bb eo,env,n,K=>dO bb env n λ v aa=>∀l,hR aa v=some l→l.length≤100000→∀out ao,
   @lF (live v l) (e1 v l) (λ x ao=>(di many xs x env).bind λ aF=>(hp P V eo aF ao).bind λ q=>if q.1=true then(ci P V b7 aF q.2).bind λ r=>some ([r.1],r.2)else some ([],q.2)) l [] aa=some (out,ao)→K (.ref ao.length) (ao++[.li out])
 | .call f b6,env,n,K=>qu b6 env n λ ar aa=>∀r ao,V f ar aa=some (r,ao)→K r ao
 | .new c b6,env,n,K=>∀f,P.i6 c=some f→qu b6 env n λ ar aa=>∀ao,V f (.ref aa.length::ar) (aa++[.bF c []])=some (.nn,ao)→K (.ref aa.length) ao
 | .hj o m b6,env,n,K=>dO o env n λ fz aa=>∀f,mu P aa m fz=some f→qu b6 env aa λ ar ao=>∀r bW,V f (fz::ar) ao=some (r,bW)→K r bW
 | .len a,env,n,K=>dO a env n λ db aa=>∀z,lb aa db=some z→K (.ii z) aa
 | .jc a,env,n,K=>dO a env n λ db aa=>∀r,rO aa db=some r→K r aa
 | .sorted a,env,n,K=>dO a env n λ db aa=>∀r,vD aa db=some r→K (.ref aa.length) (aa++[.li r])
 | .strOf a,env,n,K=>dO a env n λ db aa=>∀r,yg db=some r→K r aa
 | .gQ a,env,n,K=>dO a env n λ db aa=>∀r,ov db=some r→K r aa
 | .pF a b,env,n,K=>dO a env n λ db aa=>dO b env aa λ gH ao=>∀r,vx db gH=some r→K r ao
 | .append o x,env,n,K=>dO o env n λ fz aa=>ml aa fz=true→dO x env aa λ yp ao=>∀bW,l8 ao fz yp=some bW→K .nn bW
 | .m3 o k d,env,n,K=>dO o env n λ fz aa=>rh aa fz=true→dO k env aa λ G8 ao=>dO d env ao λ G7 bW=>∀r,uD bW fz G8 G7=some r→K r bW
 | .bad,_,_,_=>True
noncomputable def qu:d6→aX→St→(B D→St→Prop)→Prop
 | .nil,_,n,K=>K [] n
 | .cons e r,env,n,K=>dO e env n λ v aa=>qu r env aa λ ar ao=>K (v::ar) ao
noncomputable def FC:d6→aX→St→(D→St→Prop)→Prop
 | .nil,_,_,_=>True
 | .cons e .nil,env,n,K=>dO e env n K
 | .cons e (.cons bC r),env,n,K=>dO e env n λ v aa=>∀b,ig aa v=some b→match b with|true=>FC (.cons bC r) env aa K|false=>K v aa
noncomputable def FD:d6→aX→St→(D→St→Prop)→Prop
 | .nil,_,_,_=>True
 | .cons e .nil,env,n,K=>dO e env n K
 | .cons e (.cons bC r),env,n,K=>dO e env n λ v aa=>∀b,ig aa v=some b→match b with|true=>K v aa|false=>FD (.cons bC r) env aa K
noncomputable def s4:T→aX→St→(av→St→Prop)→Prop
 | .e a,env,n,K=>dO a env n λ v aa=>∀b,ig aa v=some b→K b aa
 | .g4 t,env,n,K=>s4 t env n λ b aa=>K (!b) aa
 | .and bE,env,n,K=>FF bE env n K
 | .or bE,env,n,K=>FE bE env n K
 | .cmp op a b,env,n,K=>dO a env n λ db aa=>dO b env aa λ gH ao=>∀r,cY op db gH ao=some r→K r ao
noncomputable def FF:fc→aX→St→(av→St→Prop)→Prop
 | .nil,_,n,K=>K true n
 | .cons t r,env,n,K=>s4 t env n λ b aa=>match b with|true=>FF r env aa K|false=>K false aa
noncomputable def FE:fc→aX→St→(av→St→Prop)→Prop
 | .nil,_,n,K=>K false n
 | .cons t r,env,n,K=>s4 t env n λ b aa=>match b with|true=>K true aa|false=>FE r env aa K
end
end
theorem aR{α c4:Type}{o:Y α}{a:α}{f:α→Y c4}{x:Y c4}(e:o=some a)(h:f a=x):o.bind f=x:=by rw[e];exact h
theorem bb{α:Type}{p:Prop}{d:v1 p}{a b x:α}(h:p)(e:a=x):(if p then a else b)=x:=by rw[if_pos h];exact e
theorem E0{K:D→Prop}:∀(x:C) (env:aX),(∀a,env[x]?.join=some a→K a)→AA K x env
 |0,some _::_,h=>h _ rfl
 |0,none::_,_=>trivial
 |z+1,_::r,h=>E0 z r h
 |0,[],_=>trivial
 |_+1,[],_=>trivial
theorem BF:∀{b:av} {p:Prop},(b=true→p)→yr b p
 |true,_,h=>h rfl
 |false,_,_=>trivial
theorem fw{a b:C}(h:kk a b=true):a≤b:=aE h
theorem JS{a b:C}(h:kj a b=true):a=b:=Nat.eq_of_beq_eq_true h
section
variable{P:iY}{V:jh}
mutual
theorem dT:∀(e:ab) (env:aX) (n:St) {K:D→St→Prop},(∀v J,ci P V e env n=some (v,J)→K v J)→dO P V e env n K
 | .nn,_,_,_,h=>h _ _ rfl
 | .cj _,_,_,_,h=>h _ _ rfl
 | .ii _,_,_,_,h=>h _ _ rfl
 | .ss _,_,_,_,h=>h _ _ rfl
 | .v x,env,_,_,h=>E0 x env λ _ e=>h _ _ (aR e rfl)
 | .gl _ _,_,_,_,h=>h _ _ rfl
 | .bin _ a b,_,_,_,h=>dT a _ _ λ _ _ aw=>dT b _ _ λ _ _ aB _ bZ=>h _ _ (aR aw (aR aB (aR bZ rfl)))
 | .qA a b,_,_,_,h=>dT a _ _ λ _ _ aw=>dT b _ _ λ _ _ aB _ bZ=>h _ _ (aR aw (aR aB (aR bZ rfl)))
 | .pE a b,_,_,_,h=>dT a _ _ λ _ _ aw=>dT b _ _ λ _ _ aB _ bZ=>h _ _ (aR aw (aR aB (aR bZ rfl)))
 | .neg a,_,_,_,h=>dT a _ _ λ _ _ aw _ bZ=>h _ _ (aR aw (aR bZ rfl))
 | .and O,_,_,_,h=>Mu O _ _ h
 | .or O,_,_,_,h=>Mz O _ _ h
 | .cmp _ a b,_,_,_,h=>dT a _ _ λ _ _ aw=>dT b _ _ λ _ _ aB _ bZ=>h _ _ (aR aw (aR aB (aR bZ rfl)))
 | .ite t a b,_,_,_,h=>uV t _ _ λ c _ aw=>match c,aw with
  |true,aw=>dT a _ _ λ _ _ aB=>h _ _ (aR aw aB)
  |false,aw=>dT b _ _ λ _ _ aB=>h _ _ (aR aw aB)
 | .tup O,_,_,_,h=>rk O _ _ λ _ _ aw=>BF λ aB=>h _ _ (aR aw (bb (fw aB) rfl))
 | .lst O,_,_,_,h=>rk O _ _ λ _ _ aw=>BF λ aB=>h _ _ (aR aw (bb (fw aB) rfl))
 | .m4 _ O,_,_,_,h=>rk O _ _ λ _ _ aw=>BF λ aB=>h _ _ (aR aw (bb (JS aB) rfl))
 | .pa _ O,_,_,_,h=>rk O _ _ λ _ _ aw=>BF λ aB=>h _ _ (aR aw (bb (JS aB) rfl))
 | .eQ .i,_,_,_,h=>h _ _ rfl
 | .eQ .s,_,_,_,h=>h _ _ rfl
 | .eQ .t,_,_,_,h=>h _ _ rfl
 | .at a _,_,_,_,h=>dT a _ _ λ _ _ aw _ bZ=>h _ _ (aR aw (aR bZ rfl))
 | .aq a b,_,_,_,h=>dT a _ _ λ _ _ aw=>dT b _ _ λ _ _ aB _ bZ=>h _ _ (aR aw (aR aB (aR bZ rfl)))
 | .lk a b,_,_,_,h=>dT a _ _ λ _ _ aw=>dT b _ _ λ _ _ aB _ bZ=>h _ _ (aR aw (aR aB (aR bZ rfl)))
 | .mF a b,_,_,_,h=>dT a _ _ λ _ _ aw=>dT b _ _ λ _ _ aB _ bZ=>h _ _ (aR aw (aR aB (aR bZ rfl)))
 | .rev a,_,_,_,h=>dT a _ _ λ _ _ aw _ bZ=>h _ _ (aR aw (aR bZ rfl))
 | .comp _ _ _ i _,_,_,_,h=>dT i _ _ λ _ _ aw _ aB bZ _ _ dL=>h _ _ (aR aw (aR aB (bb bZ (aR dL rfl))))
 | .call _ O,_,_,_,h=>rk O _ _ λ _ _ aw _ _ aB=>h _ _ (aR aw aB)
 | .new _ O,_,_,_,h=>λ _ md=>rk O _ _ λ _ _ aw _ aB=>h _ _ (aR md (aR aw (aR aB rfl)))
 | .hj o _ O,_,_,_,h=>dT o _ _ λ _ _ md _ aw=>rk O _ _ λ _ _ aB _ _ bZ=>h _ _ (aR md (aR aw (aR aB bZ)))
 | .len a,_,_,_,h=>dT a _ _ λ _ _ aw _ bZ=>h _ _ (aR aw (aR bZ rfl))
 | .jc a,_,_,_,h=>dT a _ _ λ _ _ aw _ bZ=>h _ _ (aR aw (aR bZ rfl))
 | .sorted a,_,_,_,h=>dT a _ _ λ _ _ aw _ bZ=>h _ _ (aR aw (aR bZ rfl))
 | .strOf a,_,_,_,h=>dT a _ _ λ _ _ aw _ bZ=>h _ _ (aR aw (aR bZ rfl))
 | .gQ a,_,_,_,h=>dT a _ _ λ _ _ aw _ bZ=>h _ _ (aR aw (aR bZ rfl))
 | .pF a b,_,_,_,h=>dT a _ _ λ _ _ aw=>dT b _ _ λ _ _ aB _ bZ=>h _ _ (aR aw (aR aB (aR bZ rfl)))
 | .append o x,_,_,_,h=>dT o _ _ λ _ _ aw aB=>dT x _ _ λ _ _ bZ _ dL=>h _ _ (aR aw (bb aB (aR bZ (aR dL rfl))))
 | .m3 o k d,_,_,_,h=>dT o _ _ λ _ _ aw aB=>dT k _ _ λ _ _ bZ=>dT d _ _ λ _ _ dL _ fI=>h _ _ (aR aw (bb aB (aR bZ (aR dL (aR fI rfl)))))
 | .bad,_,_,_,_=>trivial
theorem rk:∀(e:d6) (env:aX) (n:St) {K:B D→St→Prop},(∀v J,ou P V e env n=some (v,J)→K v J)→qu P V e env n K
 | .nil,_,_,_,h=>h _ _ rfl
 | .cons e r,_,_,_,h=>dT e _ _ λ _ _ aw=>rk r _ _ λ _ _ aB=>h _ _ (aR aw (aR aB rfl))
theorem Mu:∀(e:d6) (env:aX) (n:St) {K:D→St→Prop},(∀v J,A4 P V e env n=some (v,J)→K v J)→FC P V e env n K
 | .nil,_,_,_,_=>trivial
 | .cons e .nil,_,_,_,h=>dT e _ _ h
 | .cons e (.cons bC r),_,_,_,h=>dT e _ _ λ _ _ aw b aB=>match b,aB with
  |true,aB=>Mu (.cons bC r) _ _ λ _ _ bZ=>h _ _ (aR aw (aR aB bZ))
  |false,aB=>h _ _ (aR aw (aR aB rfl))
theorem Mz:∀(e:d6) (env:aX) (n:St) {K:D→St→Prop},(∀v J,x0 P V e env n=some (v,J)→K v J)→FD P V e env n K
 | .nil,_,_,_,_=>trivial
 | .cons e .nil,_,_,_,h=>dT e _ _ h
 | .cons e (.cons bC r),_,_,_,h=>dT e _ _ λ _ _ aw b aB=>match b,aB with
  |false,aB=>Mz (.cons bC r) _ _ λ _ _ bZ=>h _ _ (aR aw (aR aB bZ))
  |true,aB=>h _ _ (aR aw (aR aB rfl))
theorem uV:∀(e:T) (env:aX) (n:St) {K:av→St→Prop},(∀v J,fs P V e env n=some (v,J)→K v J)→s4 P V e env n K
 | .e a,_,_,_,h=>dT a _ _ λ _ _ aw _ aB=>h _ _ (aR aw (aR aB rfl))
 | .g4 t,_,_,_,h=>uV t _ _ λ _ _ aw=>h _ _ (aR aw rfl)
 | .and bE,_,_,_,h=>ME bE _ _ h
 | .or bE,_,_,_,h=>MD bE _ _ h
 | .cmp _ a b,_,_,_,h=>dT a _ _ λ _ _ aw=>dT b _ _ λ _ _ aB _ bZ=>h _ _ (aR aw (aR aB (aR bZ rfl)))
theorem ME:∀(e:fc) (env:aX) (n:St) {K:av→St→Prop},(∀v J,hp P V e env n=some (v,J)→K v J)→FF P V e env n K
 | .nil,_,_,_,h=>h _ _ rfl
 | .cons t r,_,_,_,h=>uV t _ _ λ b _ aw=>match b,aw with
  |true,aw=>ME r _ _ λ _ _ aB=>h _ _ (aR aw aB)
  |false,aw=>h _ _ (aR aw rfl)
theorem MD:∀(e:fc) (env:aX) (n:St) {K:av→St→Prop},(∀v J,A5 P V e env n=some (v,J)→K v J)→FE P V e env n K
 | .nil,_,_,_,h=>h _ _ rfl
 | .cons t r,_,_,_,h=>uV t _ _ λ b _ aw=>match b,aw with
  |false,aw=>MD r _ _ λ _ _ aB=>h _ _ (aR aw aB)
  |true,aw=>h _ _ (aR aw rfl)
end
end
section
variable(P:iY)(V:jh)
mutual
noncomputable def NN:S→aX→St→(e0→St→Prop)→Prop
 | .asg x e,env,n,K=>dO P V e env n λ v aa=>K (.br (iR env x v)) aa
 | .o1 xs e,env,n,K=>dO P V e env n λ v aa=>∀aF,di true xs v env=some aF→K (.br aF) aa
 | .cc o f e,env,n,K=>dO P V e env n λ v aa=>dO P V o env aa λ fz ao=>∀J,lj P ao fz f v=some J→K (.br env) J
 | .gJ o i e,env,n,K=>dO P V e env n λ v aa=>dO P V o env aa λ fz ao=>dO P V i env ao λ fN bW=>∀J,j' bW fz fN v=some J→K (.br env) J
 | .aug x op e,env,n,K=>AA (λ a=>dO P V e env n λ v aa=>∀r,kD op a v=some r→K (.br (iR env x r)) aa) x env
 | .o3 o f op e,env,n,K=>dO P V o env n λ fz aa=>∀a,d7 aa fz f=some a→dO P V e env aa λ v ao=>∀r,kD op a v=some r→∀J,lj P ao fz f r=some J→K (.br env) J
 | .o4 o i op e,env,n,K=>dO P V o env n λ fz aa=>dO P V i env aa λ fN ao=>∀a,vv ao fz fN=some a→dO P V e env ao λ v bW=>∀r,kD op a v=some r→∀J,j' bW fz fN r=some J→K (.br env) J
 | .ex e,env,n,K=>dO P V e env n λ _ aa=>K (.br env) aa
 | .ret e,env,n,K=>dO P V e env n λ v aa=>K (.f5 v) aa
 | .mD,_,n,K=>K (.f5 .nn) n
 | .b4 t a b,env,n,K=>s4 P V t env n λ c aa=>match c with|true=>s3 a env aa K|false=>s3 b env aa K
 | .pL t b,env,n,K=>∀r J,oC (fs P V t) (bS P V b) 60 env n=some (r,J)→K r J
 | .dd xs many bb b,env,n,K=>dO P V bb env n λ v aa=>∀l,hR aa v=some l→l.length≤100000→∀r J,
   @fE (live v l) (e1 v l) (λ x aF J=>(di many xs x aF).bind λ dH=>bS P V b dH J) l env aa=some (r,J)→K r J
 | .bad,_,_,_=>True
noncomputable def s3:bk→aX→St→(e0→St→Prop)→Prop
 | .nil,env,n,K=>K (.br env) n
 | .cons s r,env,n,K=>NN s env n λ x aa=>match x with
  | .br aF=>s3 r aF aa K
  | .f5 v=>K (.f5 v) aa
end
end
section
variable{P:iY}{V:jh}
mutual
theorem Zm:∀(e:S) (env:aX) (n:St) {K:e0→St→Prop},(∀v J,jT P V e env n=some (v,J)→K v J)→NN P V e env n K
 | .asg _ e,_,_,_,h=>dT e _ _ λ _ _ aw=>h _ _ (aR aw rfl)
 | .o1 _ e,_,_,_,h=>dT e _ _ λ _ _ aw _ aB=>h _ _ (aR aw (aR aB rfl))
 | .cc o _ e,_,_,_,h=>dT e _ _ λ _ _ aw=>dT o _ _ λ _ _ aB _ bZ=>h _ _ (aR aw (aR aB (aR bZ rfl)))
 | .gJ o i e,_,_,_,h=>dT e _ _ λ _ _ aw=>dT o _ _ λ _ _ aB=>dT i _ _ λ _ _ bZ _ dL=>h _ _ (aR aw (aR aB (aR bZ (aR dL rfl))))
 | .aug x _ e,_,_,_,h=>E0 x _ λ _ md=>dT e _ _ λ _ _ aw _ aB=>h _ _ (aR md (aR aw (aR aB rfl)))
 | .o3 o _ _ e,_,_,_,h=>dT o _ _ λ _ _ aw _ aB=>dT e _ _ λ _ _ bZ _ dL _ fI=>h _ _ (aR aw (aR aB (aR bZ (aR dL (aR fI rfl)))))
 | .o4 o i _ e,_,_,_,h=>dT o _ _ λ _ _ aw=>dT i _ _ λ _ _ aB _ bZ=>dT e _ _ λ _ _ dL _ fI _ j4=>h _ _ (aR aw (aR aB (aR bZ (aR dL (aR fI (aR j4 rfl))))))
 | .ex e,_,_,_,h=>dT e _ _ λ _ _ aw=>h _ _ (aR aw rfl)
 | .ret e,_,_,_,h=>dT e _ _ λ _ _ aw=>h _ _ (aR aw rfl)
 | .mD,_,_,_,h=>h _ _ rfl
 | .b4 t a b,_,_,_,h=>uV t _ _ λ c _ aw=>match c,aw with
  |true,aw=>xm a _ _ λ _ _ aB=>h _ _ (aR aw aB)
  |false,aw=>xm b _ _ λ _ _ aB=>h _ _ (aR aw aB)
 | .pL _ _,_,_,_,h=>λ _ _ e=>h _ _ e
 | .dd _ _ i _,_,_,_,h=>dT i _ _ λ _ _ aw _ aB bZ _ _ dL=>h _ _ (aR aw (aR aB (bb bZ dL)))
 | .bad,_,_,_,_=>trivial
theorem xm:∀(e:bk) (env:aX) (n:St) {K:e0→St→Prop},(∀v J,bS P V e env n=some (v,J)→K v J)→s3 P V e env n K
 | .nil,_,_,_,h=>h _ _ rfl
 | .cons s r,_,_,_,h=>Zm s _ _ λ x _ aw=>match x,aw with
  | .br _,aw=>xm r _ _ λ _ _ aB=>h _ _ (aR aw aB)
  | .f5 _,aw=>h _ _ (aR aw rfl)
end
noncomputable def e0.val:e0→D
 | .br _=>.nn
 | .f5 v=>v
theorem Zl{z f:C}{d:oL}{b6:B D}{n:St}(a1:P.fns f=some d)(hl:b6.length=d.np):s3 P (runN P z) d.body (b6.map some++dx (d.nl-d.np) none) n λ r J=>runN P (z+1) f b6 n=some (r.val,J):=
 xm d.body _ _ λ v _ e=>aR a1 (bb hl (aR e (by cases v<;>rfl)))
theorem jG{o:Y av}{p:Prop}{d:v1 p}(g:o=some (@decide p d))(h:p):o=some true:=g.trans (an some (iO h))
theorem iN{o:Y av}{p:Prop}{d:v1 p}(g:o=some (@decide p d))(h:¬p):o=some false:=g.trans (an some (j3 h))
theorem fd{dr:St→Prop}{jm:qM dr}{step:D→aX→St→Y (e0×St)}{x:D}{r:B D}{env aF:aX}{n J:St}{R:Y (e0×St)}(hl:dr n)(h:step x env n=some (.br aF,J))(e: @fE dr jm step r aF J=R): @fE dr jm step (x::r) env n=R:=(if_pos hl).trans (aR h e)
theorem DR{dr:St→Prop}{jm:qM dr}{step:D→aX→St→Y (e0×St)}{ae:Y D→aX}{n:St}(hl:dr n):∀{xs:B D} (o:Y D),(∀x,x∈xs→∀o,step x (ae o) n=some (.br (ae (some x)),n))→∃c3,@fE dr jm step xs (ae o) n=some (.br (ae c3),n)
 | [],o,_=>⟨o,if_pos hl⟩
 |x::_,o,h=>let⟨c3,e⟩:=DR hl (some x) λ y bI=>h y (.tail _ bI);⟨c3,(if_pos hl).trans (aR (h x (.head _) o) e)⟩
end
end Mine
end
section
namespace Mine
variable{α:Type}{o:Y α}{a:α}{c4:Type}{M:Prop}{r:α}
section
variable{P:iY}{V:jh}{g6:C→B D→dC→St→Prop}
noncomputable def oI(V:jh)(g6:C→B D→dC→St→Prop):Prop:=∀f b6 n v J (Q:dC),V f b6 n=some (v,J)→Q v J→g6 f b6 Q n
theorem e4{k:α→Prop}(h:o=some a)(q:k a):et o k:=by rw[h];exact q
theorem b1{f:α→Y c4}{x:c4}(h:o.bind f=some x)(k:∀a,o=some a→f a=some x→M):M:=let⟨a,e,q⟩:=yP.mp h;k a e q
theorem dP{c:α}{b d:c4}{Q:α→c4→Prop}(h:some (a,b)=some (c,d))(q:Q c d):Q a b:=by cases h;exact q
theorem mi{p:Prop}{d:v1 p}{a:Y α}(h:(if p then a else none)=some r)(k:p→a=some r→M):M:=by
 split at h
 ·exact k ‹_› h
 ·exact nomatch h
theorem ri{b:av}{x y:α}{Q R:Prop}(h:(if b=true then x else y)=r)(c2:x=r→Q)(dW:y=r→R):if b=true then Q else R:=by
 cases b
 ·exact dW h
 ·exact c2 h
theorem Ks{dr:St→Prop}{jm:qM dr}{step:D→St→Y (B D×St)}{ea:D→(B D→St→Prop)→St→Prop}(hs:∀x n out J K,step x n=some (out,J)→K out J→ea x K n):
  ∀{l acc:B D} {n J:St} {out:B D} {Q:B D→St→Prop},@lF dr jm step l acc n=some (out,J)→Q out J→o' dr ea l acc Q n
 | [],_,_,_,_,_,h,q=>mi h λ p h=>⟨p,dP h q⟩
 |_::_,_,_,_,_,_,h,q=>mi h λ p h=>⟨p,b1 h λ _ ax aH=>hs _ _ _ _ _ ax (Ks hs aH q)⟩
theorem abA{α:Type}{v:D}{a r:α}{Q:Prop}(h:(match v with| .nn=>some a|_=>none)=some r)(k:a=r→Q):v= .nn∧Q:=by
 cases v<;>first|exact⟨rfl,k (ej h)⟩|exact nomatch h
mutual
theorem dV(bV:oI V g6):∀(e:ab) {env:aX} {n J:St} {v:D} {Q:dC},ci P V e env n=some (v,J)→Q v J→dj P g6 e env Q n
 | .nn,_,_,_,_,Q,h,q=>dP (Q:=Q) h q
 | .cj _,_,_,_,_,Q,h,q=>dP (Q:=Q) h q
 | .ii _,_,_,_,_,Q,h,q=>dP (Q:=Q) h q
 | .ss _,_,_,_,_,Q,h,q=>dP (Q:=Q) h q
 | .v _,_,_,_,_,Q,h,q=>b1 h λ _ ax h=>e4 ax (dP (Q:=Q) h q)
 | .gl _ _,_,_,_,_,Q,h,q=>dP (Q:=Q) h q
 | .bin _ a b,_,_,_,_,Q,h,q=>b1 h λ _ ax h=>b1 h λ _ aH h=>b1 h λ _ cI h=>dV bV a ax (dV bV b aH (e4 cI (dP (Q:=Q) h q)))
 | .qA a b,_,_,_,_,Q,h,q=>b1 h λ _ ax h=>b1 h λ _ aH h=>b1 h λ _ cI h=>dV bV a ax (dV bV b aH (e4 cI (dP (Q:=Q) h q)))
 | .pE a b,_,_,_,_,Q,h,q=>b1 h λ _ ax h=>b1 h λ _ aH h=>b1 h λ _ cI h=>dV bV a ax (dV bV b aH (e4 cI (dP (Q:=Q) h q)))
 | .neg a,_,_,_,_,Q,h,q=>b1 h λ _ ax h=>b1 h λ _ aH h=>dV bV a ax (e4 aH (dP (Q:=Q) h q))
 | .and O,_,_,_,_,_,h,q=>Oz bV O h q
 | .or O,_,_,_,_,_,h,q=>OH bV O h q
 | .cmp _ a b,_,_,_,_,Q,h,q=>b1 h λ _ ax h=>b1 h λ _ aH h=>b1 h λ _ cI h=>dV bV a ax (dV bV b aH (e4 cI (dP (Q:=Q) h q)))
 | .ite t a b,_,_,_,_,_,h,q=>b1 h λ _ ax h=>vA bV t ax (ri h (λ h=>dV bV a h q) λ h=>dV bV b h q)
 | .tup O,_,_,_,_,Q,h,q=>b1 h λ _ ax h=>mi h λ p h=>rJ bV O ax ⟨p,dP (Q:=Q) h q⟩
 | .lst O,_,_,_,_,Q,h,q=>b1 h λ _ ax h=>mi h λ p h=>rJ bV O ax ⟨p,dP (Q:=Q) h q⟩
 | .m4 _ O,_,_,_,_,Q,h,q=>b1 h λ _ ax h=>mi h λ p h=>rJ bV O ax ⟨p,dP (Q:=Q) h q⟩
 | .pa _ O,_,_,_,_,Q,h,q=>b1 h λ _ ax h=>mi h λ p h=>rJ bV O ax ⟨p,dP (Q:=Q) h q⟩
 | .eQ .i,_,_,_,_,Q,h,q=>dP (Q:=Q) h q
 | .eQ .s,_,_,_,_,Q,h,q=>dP (Q:=Q) h q
 | .eQ .t,_,_,_,_,Q,h,q=>dP (Q:=Q) h q
 | .at a _,_,_,_,_,Q,h,q=>b1 h λ _ ax h=>b1 h λ _ aH h=>dV bV a ax (e4 aH (dP (Q:=Q) h q))
 | .aq a b,_,_,_,_,Q,h,q=>b1 h λ _ ax h=>b1 h λ _ aH h=>b1 h λ _ cI h=>dV bV a ax (dV bV b aH (e4 cI (dP (Q:=Q) h q)))
 | .lk a b,_,_,_,_,Q,h,q=>b1 h λ _ ax h=>b1 h λ _ aH h=>b1 h λ _ cI h=>dV bV a ax (dV bV b aH (e4 cI (dP (Q:=Q) h q)))
 | .mF a b,_,_,_,_,Q,h,q=>b1 h λ _ ax h=>b1 h λ _ aH h=>b1 h λ _ cI h=>dV bV a ax (dV bV b aH (e4 cI (dP (Q:=λ r n=>Q r n) h q)))
 | .rev a,_,_,_,_,Q,h,q=>b1 h λ _ ax h=>b1 h λ _ aH h=>dV bV a ax (e4 aH (dP (Q:=Q) h q))
 | .comp b7 _ _ i bE,_,_,_,_,Q,h,q=>b1 h λ _ ax h=>b1 h λ _ aH h=>mi h λ p h=>b1 h λ _ cI h=>dV bV i ax (e4 aH ⟨p,Ks (by exact λ _ _ _ _ K h k=>b1 h λ _ ax h=>b1 h λ _ aH h=>e4 ax (Gj bV bE aH (ri h (λ h=>b1 h λ _ cI h=>dV bV b7 cI (dP (Q:=K) h k)) λ h=>dP (Q:=K) h k))) cI (dP (Q:=Q) h q)⟩)
 | .call _ O,_,_,_,_,_,h,q=>b1 h λ _ ax h=>rJ bV O ax (bV _ _ _ _ _ _ h q)
 | .new _ O,_,_,_,_,_,h,q=>b1 h λ _ ec h=>b1 h λ _ ax h=>b1 h λ _ aH h=>e4 ec (rJ bV O ax (bV _ _ _ _ _ _ aH (abA h λ e=>by cases e;exact q)))
 | .hj o _ O,_,_,_,_,_,h,q=>b1 h λ _ ec h=>b1 h λ _ ax h=>b1 h λ _ aH h=>dV bV o ec (e4 ax (rJ bV O aH (bV _ _ _ _ _ _ h q)))
 | .len a,_,_,_,_,Q,h,q=>b1 h λ _ ax h=>b1 h λ _ aH h=>dV bV a ax (e4 aH (dP (Q:=Q) h q))
 | .jc a,_,_,_,_,Q,h,q=>b1 h λ _ ax h=>b1 h λ _ aH h=>dV bV a ax (e4 aH (dP (Q:=Q) h q))
 | .sorted a,_,_,_,_,Q,h,q=>b1 h λ _ ax h=>b1 h λ _ aH h=>dV bV a ax (e4 aH (dP (Q:=Q) h q))
 | .strOf a,_,_,_,_,Q,h,q=>b1 h λ _ ax h=>b1 h λ _ aH h=>dV bV a ax (e4 aH (dP (Q:=Q) h q))
 | .gQ a,_,_,_,_,Q,h,q=>b1 h λ _ ax h=>b1 h λ _ aH h=>dV bV a ax (e4 aH (dP (Q:=Q) h q))
 | .pF a b,_,_,_,_,Q,h,q=>b1 h λ _ ax h=>b1 h λ _ aH h=>b1 h λ _ cI h=>dV bV a ax (dV bV b aH (e4 cI (dP (Q:=Q) h q)))
 | .append o x,_,_,_,_,Q,h,q=>b1 h λ _ ax h=>mi h λ p h=>b1 h λ _ aH h=>b1 h λ _ cI h=>dV bV o ax ⟨p,dV bV x aH (e4 cI (dP (Q:=Q) h q))⟩
 | .m3 o k d,_,_,_,_,Q,h,q=>b1 h λ _ ax h=>mi h λ p h=>b1 h λ _ aH h=>b1 h λ _ cI h=>b1 h λ _ gh h=>dV bV o ax ⟨p,dV bV k aH (dV bV d cI (e4 gh (dP (Q:=Q) h q)))⟩
theorem rJ(bV:oI V g6):∀(O:d6) {env:aX} {n J:St} {v:B D} {Q:B D→St→Prop},ou P V O env n=some (v,J)→Q v J→m6 P g6 O env Q n
 | .nil,_,_,_,_,Q,h,q=>dP (Q:=Q) h q
 | .cons e r,_,_,_,_,Q,h,q=>b1 h λ _ ax h=>b1 h λ _ aH h=>dV bV e ax (rJ bV r aH (dP (Q:=Q) h q))
theorem Oz(bV:oI V g6):∀(O:d6) {env:aX} {n J:St} {v:D} {Q:dC},A4 P V O env n=some (v,J)→Q v J→wA P g6 O env Q n
 | .nil,_,_,_,_,_,h,_=>nomatch h
 | .cons e .nil,_,_,_,_,_,h,q=>dV bV e h q
 | .cons e (.cons bC r),_,_,_,_,Q,h,q=>b1 h λ _ ax h=>b1 h λ _ aH h=>dV bV e ax (e4 aH (ri h (λ h=>Oz bV (.cons bC r) h q) λ h=>dP (Q:=Q) h q))
theorem OH(bV:oI V g6):∀(O:d6) {env:aX} {n J:St} {v:D} {Q:dC},x0 P V O env n=some (v,J)→Q v J→xO P g6 O env Q n
 | .nil,_,_,_,_,_,h,_=>nomatch h
 | .cons e .nil,_,_,_,_,_,h,q=>dV bV e h q
 | .cons e (.cons bC r),_,_,_,_,Q,h,q=>b1 h λ _ ax h=>b1 h λ _ aH h=>dV bV e ax (e4 aH (ri h (λ h=>dP (Q:=Q) h q) λ h=>OH bV (.cons bC r) h q))
theorem vA(bV:oI V g6):∀(t:T) {env:aX} {n J:St} {v:av} {Q:av→St→Prop},fs P V t env n=some (v,J)→Q v J→qI P g6 t env Q n
 | .e a,_,_,_,_,Q,h,q=>b1 h λ _ ax h=>b1 h λ _ aH h=>dV bV a ax (e4 aH (dP (Q:=Q) h q))
 | .g4 t,_,_,_,_,Q,h,q=>b1 h λ _ ax h=>vA bV t ax (dP (Q:=Q) h q)
 | .and bE,_,_,_,_,_,h,q=>Gj bV bE h q
 | .or bE,_,_,_,_,_,h,q=>OJ bV bE h q
 | .cmp _ a b,_,_,_,_,Q,h,q=>b1 h λ _ ax h=>b1 h λ _ aH h=>b1 h λ _ cI h=>dV bV a ax (dV bV b aH (e4 cI (dP (Q:=Q) h q)))
theorem Gj(bV:oI V g6):∀(t:fc) {env:aX} {n J:St} {v:av} {Q:av→St→Prop},hp P V t env n=some (v,J)→Q v J→rN P g6 t env Q n
 | .nil,_,_,_,_,Q,h,q=>dP (Q:=Q) h q
 | .cons t r,_,_,_,_,Q,h,q=>b1 h λ _ ax h=>vA bV t ax (ri h (λ h=>Gj bV r h q) λ h=>dP (Q:=Q) h q)
theorem OJ(bV:oI V g6):∀(t:fc) {env:aX} {n J:St} {v:av} {Q:av→St→Prop},A5 P V t env n=some (v,J)→Q v J→Bx P g6 t env Q n
 | .nil,_,_,_,_,Q,h,q=>dP (Q:=Q) h q
 | .cons t r,_,_,_,_,Q,h,q=>b1 h λ _ ax h=>vA bV t ax (ri h (λ h=>dP (Q:=Q) h q) λ h=>OJ bV r h q)
end
noncomputable def iL(cb:iX)(cF:dC):e0→St→Prop
 | .br env,n=>cb env n
 | .f5 v,n=>cF v n
theorem F6{r x:e0}{n J:St}{f:aX→Y (e0×St)}{cb Jg:iX}{cF:dC}(h:(match r with| .br env=>f env| .f5 v=>some (.f5 v,n))=some (x,J))(q:iL cb cF x J)(k:∀env,f env=some (x,J)→Jg env n):iL Jg cF r n:=by
 cases r with
 |br env=>exact k env h
 |f5 v=>cases h;exact q
theorem La{dr:St→Prop}{jm:qM dr}{step:D→aX→St→Y (e0×St)}{ea:D→aX→iX→St→Prop}{cF:dC}(hs:∀x env n r J K,step x env n=some (r,J)→iL K cF r J→ea x env K n):
  ∀{l:B D} {env:aX} {n J:St} {r:e0} {cb:iX},@fE dr jm step l env n=some (r,J)→iL cb cF r J→zU dr ea l env cb n
 | [],_,_,_,_,_,h,q=>mi h λ p h=>⟨p,dP (Q:=λ r n=>iL _ cF r n) h q⟩
 |_::_,_,_,_,_,_,h,q=>mi h λ p h=>⟨p,b1 h λ _ ax aH=>hs _ _ _ _ _ _ ax (F6 aH q λ _ h=>La hs h q)⟩
theorem P1{lT:aX→St→Y (av×St)}{body:aX→St→Y (e0×St)}{PC:aX→(av→St→Prop)→St→Prop}{JR:aX→iX→St→Prop}{cF:dC}(bD:∀env n b J K,lT env n=some (b,J)→K b J→PC env K n)
  (az:∀env n r J K,body env n=some (r,J)→iL K cF r J→JR env K n):∀{z:C} {env:aX} {n J:St} {r:e0} {cb:iX},oC lT body z env n=some (r,J)→iL cb cF r J→BG PC JR z env cb n
 |0,_,_,_,_,_,h,_=>nomatch h
 |_+1,_,_,_,_,_,h,q=>b1 h λ _ ax h=>bD _ _ _ _ _ ax (ri h (λ h=>b1 h λ _ aH h=>az _ _ _ _ _ aH (F6 h q λ _ h=>P1 bD az h q)) λ h=>dP (Q:=λ r n=>iL _ cF r n) h q)
mutual
theorem adR(bV:oI V g6):∀(t:S) {env:aX} {n J:St} {r:e0} {cb:iX} {cF:dC},jT P V t env n=some (r,J)→iL cb cF r J→GC P g6 t env cb cF n
 | .asg _ e,_,_,_,_,cb,cF,h,q=>b1 h λ _ ax h=>dV bV e ax (dP (Q:=iL cb cF) h q)
 | .o1 _ e,_,_,_,_,cb,cF,h,q=>b1 h λ _ ax h=>b1 h λ _ aH h=>dV bV e ax (e4 aH (dP (Q:=iL cb cF) h q))
 | .cc o _ e,_,_,_,_,cb,cF,h,q=>b1 h λ _ ax h=>b1 h λ _ aH h=>b1 h λ _ cI h=>dV bV e ax (dV bV o aH (e4 cI (dP (Q:=iL cb cF) h q)))
 | .gJ o i e,_,_,_,_,cb,cF,h,q=>b1 h λ _ ax h=>b1 h λ _ aH h=>b1 h λ _ cI h=>b1 h λ _ gh h=>dV bV e ax (dV bV o aH (dV bV i cI (e4 gh (dP (Q:=iL cb cF) h q))))
 | .aug _ _ e,_,_,_,_,cb,cF,h,q=>b1 h λ _ ec h=>b1 h λ _ ax h=>b1 h λ _ aH h=>e4 ec (dV bV e ax (e4 aH (dP (Q:=iL cb cF) h q)))
 | .o3 o _ _ e,_,_,_,_,cb,cF,h,q=>b1 h λ _ ec h=>b1 h λ _ ax h=>b1 h λ _ aH h=>b1 h λ _ cI h=>b1 h λ _ gh h=>dV bV o ec (e4 ax (dV bV e aH (e4 cI (e4 gh (dP (Q:=iL cb cF) h q)))))
 | .o4 o i _ e,_,_,_,_,cb,cF,h,q=>b1 h λ _ ec h=>b1 h λ _ ax h=>b1 h λ _ aH h=>b1 h λ _ cI h=>b1 h λ _ gh h=>b1 h λ _ kz h=>dV bV o ec (dV bV i ax (e4 aH (dV bV e cI (e4 gh (e4 kz (dP (Q:=iL cb cF) h q))))))
 | .ex e,_,_,_,_,cb,cF,h,q=>b1 h λ _ ax h=>dV bV e ax (dP (Q:=iL cb cF) h q)
 | .ret e,_,_,_,_,cb,cF,h,q=>b1 h λ _ ax h=>dV bV e ax (dP (Q:=iL cb cF) h q)
 | .mD,_,_,_,_,cb,cF,h,q=>dP (Q:=iL cb cF) h q
 | .b4 t a b,_,_,_,_,_,_,h,q=>b1 h λ _ ax h=>vA bV t ax (ri h (λ h=>tg bV a h q) λ h=>tg bV b h q)
 | .pL t b,_,_,_,_,_,_,h,q=>P1 (by exact λ _ _ _ _ _ h k=>vA bV t h k) (by exact λ _ _ _ _ _ h k=>tg bV b h k) (show oC (fs P V t) (bS P V b) 60 _ _=_ from h) q
 | .dd _ _ i b,_,_,_,_,_,_,h,q=>b1 h λ _ ax h=>b1 h λ _ aH h=>mi h λ p h=>dV bV i ax (e4 aH ⟨p,La (by exact λ _ _ _ _ _ _ h k=>b1 h λ _ ax h=>e4 ax (tg bV b h k)) h q⟩)
theorem tg(bV:oI V g6):∀(t:bk) {env:aX} {n J:St} {r:e0} {cb:iX} {cF:dC},bS P V t env n=some (r,J)→iL cb cF r J→nu P g6 t env cb cF n
 | .nil,_,_,_,_,cb,cF,h,q=>dP (Q:=iL cb cF) h q
 | .cons s r,_,_,_,_,_,_,h,q=>b1 h λ _ ax h=>adR bV s ax (F6 h q λ _ h=>tg bV r h q)
end
end
theorem Ou{P:iY}:∀z,oI (runN P z) (sw P z)
 |0=>λ _ _ _ _ _ _ h=>nomatch h
 |z+1=>λ _ _ _ _ _ _ h q=>b1 h λ _ ax h=>mi h λ p h=>b1 h λ x aH h=>e4 ax ⟨p,tg (Ou z) _ aH (by
   obtain⟨r,n⟩:=x
   cases r<;>(cases h;exact q))⟩
end Mine
end
section
namespace Mine
variable{α:Type}{n:St}
inductive aN where
 |kt|la|jq|mo|mq|kF
 |store|types|meths
 |ty (l:C)|dw (l:C)|cM (l:C)|tyP (l:C)
 |bl (j:C)|ahf (j:C)
 |host|fF|c7
 |w|dR|eb|fA|gA|hH
 |row (j:C)|st (j:C)
 |ij|jv|eI|h9
 |want|ei (l:C)
 |a6 (m:C)
variable{r:aN}
noncomputable abbrev bH:=aN→C
variable{a:bH}
noncomputable abbrev aT:=aN→Y a0
variable{h:aT}
open Classical in
noncomputable def up(h:aN→α)(r:aN)(x:α):aN→α:=λ bw=>if bw=r then x else h bw
theorem cR(h:aN→α)(r:aN)(x:α):up h r x r=x:=by simp[up]
theorem bP(h:aN→α){bw:aN}(x:α)(z:bw≠r):up h r x bw=h bw:=by simp[up,z]
structure Good(a:bH)(h:aT)(n:St):Prop where
 at_:∀r o,h r=some o→n[a r]? =some o
 inj:∀r bw,(h r).isSome=true→(h bw).isSome=true→a r=a bw→r=bw
 a6:∀m,a (.a6 m)=m
theorem Good.lt(g:Good a h n)(e:(h r).isSome=true):a r<n.length:=by
 obtain⟨o,e⟩:=oT.mp e
 exact(jZ.mp (g.at_ r o e)).1
theorem Good.set(g:Good a h n){o c3:a0}(e:h r=some o):Good a (up h r (some c3)) (n.set (a r) c3) where
 at_:=λ bw x bC=>by
  by_cases q:bw=r
  ·subst q
   rw[cR]at bC;cases bC
   rw[yG (g.lt (by rw[e];rfl))]
  ·rw[bP _ _ q]at bC
   rw[tP]
   ·exact g.at_ bw x bC
   ·intro L
    exact q (g.inj _ _ (by rw[bC];rfl) (by rw[e];rfl) L.symm)
 inj:=λ fV gP ax aH=>by
  have f:∀bw,(up h r (some c3) bw).isSome=true→(h bw).isSome=true:=λ bw q=>by
   by_cases L:bw=r
   ·subst L;rw[e];rfl
   ·rwa [bP _ _ L]at q
  exact g.inj _ _ (f _ ax) (f _ aH)
 a6:=g.a6
theorem Good.kE(g:Good a h n)(o:a0):Good a h (n++[o]) where
 at_:=λ r x e=>by
  have:=g.at_ r x e
  rw[qR (jZ.mp this).1];exact this
 inj:=g.inj
 a6:=g.a6
theorem Good.less{H:aT}(g:Good a H n)(q:∀r o,h r=some o→H r=some o):Good a h n where
 at_:=λ r o e=>g.at_ r o (q r o e)
 inj:=λ r bw e bC=>by
  obtain⟨o,e⟩:=oT.mp e
  obtain⟨c3,bC⟩:=oT.mp bC
  exact g.inj r bw (by rw[q _ _ e];rfl) (by rw[q _ _ bC];rfl)
 a6:=g.a6
theorem Good.mH(g:Good a h n)(o:a0):Good a (up h (.a6 n.length) (some o)) (n++[o]) where
 at_:=λ bw x e=>by
  by_cases q:bw= .a6 n.length
  ·subst q
   rw[cR]at e;cases e
   rw[g.a6];simp
  ·rw[bP _ _ q]at e
   exact(g.kE o).at_ bw x e
 inj:=λ fV gP ax aH q=>by
  by_cases d4:fV= .a6 n.length<;>by_cases d5:gP= .a6 n.length
  ·rw[d4,d5]
  ·subst d4
   rw[g.a6]at q
   rw[bP _ _ d5]at aH
   exact absurd (g.lt aH) (by omega)
  ·subst d5
   rw[g.a6]at q
   rw[bP _ _ d4]at ax
   exact absurd (g.lt ax) (by omega)
  ·rw[bP _ _ d4]at ax
   rw[bP _ _ d5]at aH
   exact g.inj _ _ ax aH q
 a6:=g.a6
theorem Good.fresh(g:Good a h n){m:C}(q:n.length≤m):h (.a6 m)=none:=by
 cases e:h (.a6 m)with
 |none=>rfl
 |some o=>have:=g.lt (r:=.a6 m) (by rw[e];rfl);rw[g.a6]at this;omega
theorem Good.new(g:Good a h n)(r:aN)(a4:∀m,r≠ .a6 m)(o:a0):Good (up a r n.length) (up h r (some o)) (n++[o]) where
 at_:=λ bw x e=>by
  by_cases q:bw=r
  ·subst q
   rw[cR]at e;cases e
   rw[cR];simp
  ·rw[bP _ _ q]at e⊢
   exact(g.kE o).at_ bw x e
 inj:=λ fV gP ax aH q=>by
  by_cases d4:fV=r<;>by_cases d5:gP=r
  ·rw[d4,d5]
  ·subst d4
   rw[cR,bP _ _ d5]at q
   rw[bP _ _ d5]at aH
   exact absurd (g.lt aH) (by omega)
  ·subst d5
   rw[cR,bP _ _ d4]at q
   rw[bP _ _ d4]at ax
   exact absurd (g.lt ax) (by omega)
  ·rw[bP _ _ d4,bP _ _ d5]at q
   rw[bP _ _ d4]at ax
   rw[bP _ _ d5]at aH
   exact g.inj _ _ ax aH q
 a6:=λ m=>by rw[bP _ _ (λ e=>a4 m e.symm)];exact g.a6 m
section
variable{P:iY}{V:jh}
theorem Gn{s:S}{r:bk}{env aF:aX}{aa:St}(h:jT P V s env n=some (.br aF,aa)):bS P V (.cons s r) env n=bS P V r aF aa:=by simp only[bS,h,Option.bind_some]
end
theorem cN(z f:C)(b6:B D)(n:St){d:oL}(a1:ac.fns f=some d)(hl:b6.length=d.np):s3 ac (runN ac z) d.body (b6.map some++dx (d.nl-d.np) none) n λ r J=>runN ac (z+1) f b6 n=some (r.val,J):=Zl a1 hl
theorem hI(z:C)(b:ab)(env:aX)(n:St):dO ac (runN ac z) b env n λ r J=>ci ac (runN ac z) b env n=some (r,J):=dT b env n λ _ _ e=>e
theorem je(z:C)(b:T)(env:aX)(n:St):s4 ac (runN ac z) b env n λ r J=>fs ac (runN ac z) b env n=some (r,J):=uV b env n λ _ _ e=>e
theorem dm(z:C)(b:bk)(env:aX)(n:St):s3 ac (runN ac z) b env n λ r J=>bS ac (runN ac z) b env n=some (r,J):=xm b env n λ _ _ e=>e
end Mine
end
section
namespace Mine
variable{x y m:C}{xs:B D}{k:C}{ks:B C}{t:C}
inductive aP where
 |p (z:C)
 |v (i:C)
 |a (k:C)
 |g (t:C) (ks:B C)
noncomputable def E(k:C):D:=.ii (k:am)
noncomputable def ff:aP→D
 | .p z=>.tup [.ii 1,E z]
 | .v i=>.tup [.ii 6,E i]
 | .a k=>.tup [.ii 4,E k]
 | .g t ks=>.tup [.ii 2,E t,.tup (ks.map E)]
noncomputable def hY:aP→gT
 | .p z=>[.inl 1,.inl z]
 | .v i=>[.inl 6,.inl i]
 | .a k=>[.inl 4,.inl k]
 | .g t ks=>[.inl 2,.inl t,.inr (ks.map λ k:C=>(k:am))]
noncomputable def gG:aP→B C
 | .p _=>[]
 | .v _=>[]
 | .a k=>[k]
 | .g _ ks=>ks
theorem Px:∀ks:B C,vJ (ks.map E)=some (ks.map λ k:C=>(k:am))
 | []=>rfl
 |k::ks=>by
  show(vJ (ks.map E)).map _=_
  rw[Px ks];rfl
theorem Py(r:aP):Bw (ff r)=some (hY r):=by
 cases r with
 |g t ks=>
  show((vK [.ii t,.tup (ks.map E)]).map _)=_
  show((((vJ (ks.map E)).bind λ is=>(vK []).map (.inr is::·)).map _).map _)=_
  rw[Px];rfl
 |_=>rfl
theorem MF:∀{l cf:B C},l.map (λ k:C=>(k:am))=cf.map (λ k:C=>(k:am))→l=cf
 | [],[],_=>rfl
 | [],_::_,h=>by cases h
 |_::_,[],h=>by cases h
 |a::l,b::cf,h=>by
  simp only[oN,QU]at h
  rw[MF h.2,show a=b by have:=h.1;omega]
theorem Ke(h:(x:am)=y):x=y:=by omega
theorem Ox{r bw:aP}(h:hY r=hY bw):r=bw:=by
 cases r<;>cases bw<;>simp only[hY,QU,Sum.inl.injEq,Sum.inr.injEq,and_true]at h<;>first| (rw[Ke h.2];done)| (rw[Ke h.2.1,MF h.2.2];done)| (exact absurd h.1 (by decide))|skip
structure KT(a:bH)(h:aT)(T:B aP)(ag W bL:B C):Prop where
 kt:h .kt=some (.bF 0 [(0,.ref (a .la)),(1,.ref (a .jq)),(2,.ref (a .mo)),(3,.ref (a .mq)),(4,.ref (a .kF))])
 r:h .la=some (.li (T.map ff))
 i:h .jq=some (.h' (T.zipIdx.map λ p=>(hY p.1,E p.2)))
 d:h .mo=some (.li (ag.map E))
 w:h .mq=some (.li (W.map E))
 o:h .kF=some (.li (bL.map E))
 len:ag.length=T.length∧W.length=T.length∧bL.length=T.length
 small:T.length≤500000
section
variable{a:bH}{h:aT}{n:St}{T:B aP}{ag W bL:B C}{z:C}
theorem zY{α:Type}(l:B α)(k:C):n4 l (k:am)=l[k]? :=by
 unfold n4
 rw[if_pos (by omega)]
 rfl
theorem fk{c f:C}{aG:B (C×D)}(e:n[m]? =some (.bF c aG)):d7 n (.ref m) f=aG.lookup f:=an (sp f) e
theorem rp(e:n[m]? =some (.li xs)):lb n (.ref m)=some (xs.length:am):=by simp[lb,e]
theorem Ai{i:am}(e:n[m]? =some (.li xs)):de n (.ref m) (.ii i)=n4 xs i:=an (rj (.ii i)) e
theorem uW(K:KT a h T ag W bL)(M:Good a h n):d7 n (.ref (a .kt)) 0=some (.ref (a .la))∧d7 n (.ref (a .kt)) 1=some (.ref (a .jq))∧d7 n (.ref (a .kt)) 2=some (.ref (a .mo))∧d7 n (.ref (a .kt)) 3=some (.ref (a .mq))∧d7 n (.ref (a .kt)) 4=some (.ref (a .kF)):=by
 have e:=M.at_ _ _ K.kt
 refine⟨?_,?_,?_,?_,?_⟩<;>rw[fk e]<;>rfl
theorem UI{y:am}{b:av}(h:decide ((x:am)<y)=b):cY .lt (E x) (.ii y) n=some b:=an some h
theorem J':cY .lt (E x) (.ii 0) n=some false:=UI (j3 (Int.not_lt.mpr (yy x)))
theorem UG(h:x<y):cY .ge (E x) (.ii y) n=some false:=an some (j3 (Int.not_le.mpr (B4.mpr h)))
theorem J8{y:am}(h:¬((x:am)=y)):cY .eq (E x) (.ii y) n=some false:=an some (j3 h)
theorem A6(K:KT a h T ag W bL)(M:Good a h n){r:aP}(e:T[k]? =some r):runN ac (z+1) 1 [.ref (a .kt),E k] n=some (ff r,n):=
 have aB:=M.at_ _ _ K.r
 have eW:=(uW K M).1
 cN z 1 [.ref (a .kt),E k] n rfl rfl _ J' _ eW _ (rp aB) _ (UG (by rw[cG];exact(jZ.mp e).1)) _ eW _ ((Ai aB).trans (by rw[zY,qS,e];rfl))
theorem An(r:aP):runN ac (z+1) 14 [ff r] n=some (.tup ((gG r).map E),n):=by cases r<;>rfl
noncomputable def ja:aP→C
 | .p _=>1
 | .v _=>6
 | .a _=>4
 | .g _ _=>2
noncomputable def x4:aP→C
 | .p _=>0
 | .v _=>0
 | .a _=>1
 | .g _ _=>1
noncomputable def vy:aP→C
 | .p _=>2
 | .v _=>2
 | .a _=>2
 | .g _ _=>3
theorem MY(r:aP):runN ac (z+1) 15 [E (ja r)] n=some (E (x4 r),n):=by cases r<;>rfl
theorem ZV(r:aP):runN ac (z+1) 16 [E (ja r)] n=some (E (vy r),n):=by cases r<;>rfl
theorem nr(r:aP):de n (ff r) (.ii 0)=some (E (ja r)):=by cases r<;>rfl
theorem MQ(K:KT a h T ag W bL)(M:Good a h n):mu ac n 75 (.ref (a .kt))=some 1:=by simp only[mu,M.at_ _ _ K.kt];rfl
theorem Ng(K:KT a h T ag W bL)(M:Good a h n){r:aP}(e:T[k]? =some r)(ec:k≠0)(Xa:k≠14):runN ac (z+2) 20 [.ref (a .kt),E k] n=some (.cj true,n):=by
 have w:=cN (z+1) 20 [.ref (a .kt),E k] n rfl rfl _ (J8 λ L=>ec (by omega)) _ (J8 λ L=>Xa (by omega)) _ (MQ K M) _ _ (A6 K M e) _ (nr r)
 cases r with
 |v _=>exact w _ rfl _ rfl _ rfl _ rfl
 |_=>exact w _ rfl _ rfl
noncomputable def Kc:bk:=(.cons (.b4 (.g4 (.e (.call 20 (.cons (.v 0) (.cons (.v 2) .nil))))) (.cons (.bad) .nil) (.nil)) .nil)
theorem US(K:KT a h T ag W bL)(M:Good a h n)(sI:∀k∈ks,k<T.length∧k≠0∧k≠14)(hl:ks.length≤1000):runN ac (z+3) 19 [.ref (a .kt),.tup (ks.map E)] n=some (.nn,n):=
 let⟨_,e⟩:=DR (dr:=live (.tup (ks.map E)) (ks.map E)) (jm:=e1 _ _) (step:=λ x aF J=>(di false [2] x aF).bind λ dH=>bS ac (runN ac (z+2)) Kc dH J)
  (ae:=λ o=>[some (.ref (a .kt)),some (.tup (ks.map E)),o]) (n:=n) (xs:=ks.map E) trivial none λ x aA o=>by
   obtain⟨k,hk,rfl⟩:=hu.mp aA
   obtain⟨ax,aH,cI⟩:=sI k hk
   exact aR (a:=[some (.ref (a .kt)),some (.tup (ks.map E)),some (E k)]) rfl (dm (z+2) Kc [some (.ref (a .kt)),some (.tup (ks.map E)),some (E k)] n _ _ (Ng K M (h2 ax) aH cI) _ rfl)
 cN (z+2) 19 [.ref (a .kt),.tup (ks.map E)] n rfl rfl _ rfl (by rw[cG];omega) _ _ e
noncomputable def nP(T:B aP)(r:aP):Prop:=match r with
 | .p _=>False
 | .v _=>True
 | .a k=>k<T.length∧k≠0∧k≠14
 | .g t ks=>0<t∧(o8.lookup (t:am)).isSome=false∧ks.length≤1000∧∀k∈ks,k<T.length∧k≠0∧k≠14
theorem Pr(h:(o8.lookup (t:am)).isSome=false):cY .pk (E t) (.cd o8) n=some false:=an some h
theorem aba(K:KT a h T ag W bL)(M:Good a h n)(a4:nP T (.g t ks)):runN ac (z+4) 18 [.ref (a .kt),ff (.g t ks)] n=some (.nn,n):=
 cN (z+3) 18 [.ref (a .kt),ff (.g t ks)] n rfl rfl _ rfl _ (an some (j3 (by have:=a4.1;omega))) _ rfl _ (Pr a4.2.1) _ rfl _ _ (US K M a4.2.2.2 a4.2.2.1)
theorem aP.b7(T:B aP){r:aP}(a4:nP T r):(∀k∈gG r,k<T.length)∧(gG r).length≤1000∧1<ja r:=by
 cases r with
 |p _=>exact a4.elim
 |v _=>exact⟨λ _ h=>(nomatch h),fu _,aE rfl⟩
 |a k=>exact⟨λ ct h=>jA.mp h▸a4.1,aE rfl,aE rfl⟩
 |g t ks=>exact⟨λ k h=>(a4.2.2.2 k h).1,a4.2.2.1,aE rfl⟩
noncomputable def Ky:bk:=(.cons (.ex (.hj (.v 0) 75 (.cons (.v 3) .nil))) .nil)
theorem Kj(K:KT a h T ag W bL)(M:Good a h n){r:aP}(a4:nP T r):runN ac (z+5) 17 [.ref (a .kt),ff r] n=some (.nn,n):=by
 obtain⟨XO,i4,ag8⟩:=aP.b7 T a4
 obtain⟨o,e⟩:=DR (dr:=live (.tup ((gG r).map E)) ((gG r).map E)) (jm:=e1 _ _) (step:=λ x aF J=>(di false [3] x aF).bind λ dH=>bS ac (runN ac (z+4)) Ky dH J)
  (ae:=λ o=>[some (.ref (a .kt)),some (ff r),some (E (ja r)),o]) (n:=n) (xs:=(gG r).map E) trivial none λ x aA o=>by
   obtain⟨k,hk,rfl⟩:=hu.mp aA
   exact aR (a:=[some (.ref (a .kt)),some (ff r),some (E (ja r)),some (E k)]) rfl (dm (z+4) Ky [some (.ref (a .kt)),some (ff r),some (E (ja r)),some (E k)] n _ (MQ K M) _ _ (A6 K M (h2 (XO k hk))))
 have w:=cN (z+4) 17 [.ref (a .kt),ff r] n rfl rfl _ (show lb n (ff r)=some ((vy r:C):am)by cases r<;>rfl) _ (show cY .eq (E (vy r)) (.ii 0) n=some false by cases r<;>rfl) _ (nr r) _ (an some (j3 (by omega))) _ (nr r) _ (show cY .gt (E (ja r)) (.ii 11) n=some false by cases r<;>rfl) _ (nr r) _
  (show lb n (ff r)=some ((vy r:C):am)by cases r<;>rfl) _ _ (ZV r) _ (show cY .ne (E (vy r)) (E (vy r)) n=some false by cases r<;>rfl) _ _ (An r) _ rfl (by rw[cG];omega) _ _ e
 cases r with
 |p _=>exact a4.elim
 |v i=>exact w _ rfl _ rfl _ rfl _ rfl _ J'
 |a k=>exact w _ rfl _ rfl _ rfl _ rfl _ rfl _ rfl _ rfl _ _ (Ng K M (h2 a4.1) a4.2.1 a4.2.2) _ rfl
 |g t ks=>exact w _ rfl _ _ (aba K M a4)
end
end Mine
end
section
namespace Mine
variable{r:aP}
section
variable{a:bH}{h:aT}{n:St}{T:B aP}{ag W bL:B C}{z:C}
theorem Mq{r:aP}:∀{T:B aP} {k:C},r∉T→((T.zipIdx k).map λ p=>(hY p.1,E p.2)).lookup (hY r)=none
 | [],_,_=>rfl
 |x::T,k,h=>by
  have:=Aw
  rw[Re,oN,l1]
  have:(hY r==hY x)=false:=ma.mpr λ e=>h (by rw[Ox e];exact .head _)
  rw[this]
  exact Mq λ e=>h (.tail _ e)
theorem Mr{r:aP}:∀{T:B aP} {k:C},r∈T→∃j,T[j]? =some r∧((T.zipIdx k).map λ p=>(hY p.1,E p.2)).lookup (hY r)=some (E (k+j))
 |x::T,k,h=>by
  have:=Aw
  rw[Re,oN,l1]
  by_cases e:r=x
  ·subst e
   exact⟨0,rfl,by simp⟩
  ·have:(hY r==hY x)=false:=ma.mpr λ q=>e (Ox q)
   rw[this]
   obtain⟨j,ax,aH⟩:=Mr (k:=k+1) ((kh.mp h).resolve_left e)
   exact⟨j+1,by simpa using ax,by rw[aH,show k+1+j=k+(j+1)by omega]⟩
noncomputable def kv(ag:B C)(r:aP):Nat:=(gG r).foldl (λ d k=>if d<ag.getD k 0+x4 r then ag.getD k 0+x4 r else d) 1
noncomputable def kR(W:B C)(r:aP):Nat:=(gG r).foldl (λ w k=>w+W.getD k 0) 1
noncomputable def nh(bL:B C)(r:aP):Nat:=(gG r).foldl (λ o k=>if bL.getD k 0=1 then 1 else o) (if ja r=6 then 1 else 0)
theorem xh(a4:nP T r):∀k∈gG r,k<T.length:=(aP.b7 T a4).1
theorem YV(a4:nP T r):(gG r).length≤1000:=(aP.b7 T a4).2.1
theorem EA{m k:C}{l:B C}(e:n[m]? =some (.li (l.map E)))(hk:k<l.length):de n (.ref m) (E k)=some (E (l.getD k 0)):=by
 unfold E
 rw[Ai e,zY,qS,h2 hk,jz,h2 hk]
 rfl
noncomputable def vn:bk:=.cons (.b4 (.cmp .gt (.bin .add (.aq (.at (.v 0) 2) (.v 7)) (.v 6)) (.v 3)) (.cons (.asg 3 (.bin .add (.aq (.at (.v 0) 2) (.v 7)) (.v 6))) .nil) (.nil)) (.cons (.aug 4 .add (.aq (.at (.v 0) 3) (.v 7))) (.cons (.b4 (.cmp .eq (.aq (.at (.v 0) 4) (.v 7)) (.ii 1)) (.cons (.asg 5 (.ii 1)) .nil) (.nil)) .nil))
theorem Ob(K:KT a h T ag W bL)(M:Good a h n){bi aV aQ:Y D}{aO:C}{l:B D}:∀{ks:B C} (d w o:C) (bm:Y D),(∀k∈ks,k<T.length)→∃mA,@fE (live (.tup l) l) (e1 _ _) (λ x aF J=>(di false [7] x aF).bind λ dH=>bS ac (runN ac z) vn dH J) (ks.map E)
  [some (.ref (a .kt)),aV,aQ,some (E d),some (E w),some (E o),some (E aO),bm,bi] n=
  some (.br [some (.ref (a .kt)),aV,aQ,some (E (ks.foldl (λ d k=>if d<ag.getD k 0+aO then ag.getD k 0+aO else d) d)),some (E (ks.foldl (λ w k=>w+W.getD k 0) w)),some (E (ks.foldl (λ o k=>if bL.getD k 0=1 then 1 else o) o)),some (E aO),mA,bi],n)
 | [],_,_,_,bm,_=>⟨bm,if_pos trivial⟩
 |k::ks,d,w,o,bm,h=>by
  obtain⟨mA,e⟩:=Ob K M (bi:=bi) (aV:=aV) (aQ:=aQ) (aO:=aO) (l:=l) (if d<ag.getD k 0+aO then ag.getD k 0+aO else d) (w+W.getD k 0) (if bL.getD k 0=1 then 1 else o) (some (E k)) λ k hk=>h k (.tail _ hk)
  refine⟨mA,fd trivial ?_ e⟩
  refine aR (a:=[some (.ref (a .kt)),aV,aQ,some (E d),some (E w),some (E o),some (E aO),some (E k),bi]) rfl ?_
  obtain⟨eW,c2,dW,ob,xk⟩:=uW K M
  have n7:=h k (.head _)
  have uR:=EA (M.at_ _ _ K.d) (k:=k) (by rw[K.len.1];exact n7)
  have Ah:=EA (M.at_ _ _ K.w) (k:=k) (by rw[K.len.2.1];exact n7)
  have Ag:=EA (M.at_ _ _ K.o) (k:=k) (by rw[K.len.2.2];exact n7)
  have g1:cY .gt (E (ag.getD k 0+aO)) (E d) n=some (decide (d<ag.getD k 0+aO)):=an some (q9.mpr B4)
  have g2:cY .eq (E (bL.getD k 0)) (.ii 1) n=some (decide (bL.getD k 0=1)):=an some (q9.mpr (by omega))
  by_cases d':d<ag.getD k 0+aO<;>by_cases cO:bL.getD k 0=1
  ·rw[if_pos d',if_pos cO]
   exact dm z vn [some (.ref (a .kt)),aV,aQ,some (E d),some (E w),some (E o),some (E aO),some (E k),bi] n _ dW _ uR _ rfl _ (jG g1 d') _ dW _ uR _ rfl _ ob _ Ah _ rfl _ xk _ Ag _ (jG g2 cO)
  ·rw[if_pos d',if_neg cO]
   exact dm z vn [some (.ref (a .kt)),aV,aQ,some (E d),some (E w),some (E o),some (E aO),some (E k),bi] n _ dW _ uR _ rfl _ (jG g1 d') _ dW _ uR _ rfl _ ob _ Ah _ rfl _ xk _ Ag _ (iN g2 cO)
  ·rw[if_neg d',if_pos cO]
   exact dm z vn [some (.ref (a .kt)),aV,aQ,some (E d),some (E w),some (E o),some (E aO),some (E k),bi] n _ dW _ uR _ rfl _ (iN g1 d') _ ob _ Ah _ rfl _ xk _ Ag _ (jG g2 cO)
  ·rw[if_neg d',if_neg cO]
   exact dm z vn [some (.ref (a .kt)),aV,aQ,some (E d),some (E w),some (E o),some (E aO),some (E k),bi] n _ dW _ uR _ rfl _ (iN g1 d') _ ob _ Ah _ rfl _ xk _ Ag _ (iN g2 cO)
noncomputable def od(h:aT)(T:B aP)(ag W bL:B C):aT:=
 up (up (up (up (up h .la (some (.li (T.map ff)))) .jq (some (.h' (T.zipIdx.map λ p=>(hY p.1,E p.2))))) .mo (some (.li (ag.map E)))) .mq (some (.li (W.map E)))) .kF (some (.li (bL.map E)))
noncomputable def gZ:aN→av
 | .la| .jq| .mo| .mq| .kF=>true
 |_=>false
theorem MP{r:aN}(a4:gZ r=false):od h T ag W bL r=h r:=by
 unfold od
 rw[bP,bP,bP,bP,bP]<;>(rintro rfl;cases a4)
theorem ZA(K:KT a h T ag W bL){aC:B aP}{oK y' Cu:B C}(hl:oK.length=aC.length∧y'.length=aC.length∧Cu.length=aC.length)(hs:aC.length≤500000):KT a (od h aC oK y' Cu) aC oK y' Cu where
 kt:=by rw[MP rfl];exact K.kt
 r:=by unfold od;rw[bP _ _ (by simp),bP _ _ (by simp),bP _ _ (by simp),bP _ _ (by simp),cR]
 i:=by unfold od;rw[bP _ _ (by simp),bP _ _ (by simp),bP _ _ (by simp),cR]
 d:=by unfold od;rw[bP _ _ (by simp),bP _ _ (by simp),cR]
 w:=by unfold od;rw[bP _ _ (by simp),cR]
 o:=by unfold od;rw[cR]
 len:=hl
 small:=hs
theorem wC(M:Good a h n){hX:aN}{xs:B D}(e:h hX=some (.li xs))(v:D)(hl:xs.length<room):∃J,l8 n (.ref (a hX)) v=some J∧Good a (up h hX (some (.li (xs++[v])))) J∧ml n (.ref (a hX))=true:=
 ⟨_,by simp only[l8,M.at_ _ _ e,if_pos hl],M.set e,by simp only[ml,Ao,M.at_ _ _ e]⟩
theorem Au{H:aT}{J:St}(K:KT a h T ag W bL)(dG:Good a H J)(bC:H .kt=h .kt):d7 J (.ref (a .kt)) 1=some (.ref (a .jq))∧d7 J (.ref (a .kt)) 2=some (.ref (a .mo))∧d7 J (.ref (a .kt)) 3=some (.ref (a .mq))∧d7 J (.ref (a .kt)) 4=some (.ref (a .kF)):=
 have e:=dG.at_ .kt _ (bC.trans K.kt)
 ⟨(fk e).trans rfl,(fk e).trans rfl,(fk e).trans rfl,(fk e).trans rfl⟩
theorem EK(K:KT a h T ag W bL)(M:Good a h n)(a4:nP T r){v:Y D}(br:(T.zipIdx.map λ p=>(hY p.1,E p.2)).lookup (hY r)=v)(d:D):uD n (.ref (a .jq)) (ff r) d=some (v.getD d):=
 (an (w1 (ff r) d) (M.at_ _ _ K.i)).trans (aR (Py r) (by rw[br]))
theorem pK{h:aT}{r fV gP:aN}{x y:Y a0}(iB:r≠fV)(kH:r≠gP):up (up h fV x) gP y r=h r:=(bP _ _ kH).trans (bP _ _ iB)
theorem acY(r:aP):∃b:av,cY .eq (E (ja r)) (.ii 6) n=some b∧cY .eq (E (ja r)) (.ii 7) n=some false∧(if ja r=6 then 1 else 0)=cond b 1 0:=by
 cases r with
 |v _=>exact⟨true,rfl,rfl,rfl⟩
 |_=>exact⟨false,rfl,rfl,rfl⟩
theorem acZ(K:KT a h T ag W bL)(M:Good a h n)(a4:nP T r)(fZ:r∉T)(a1:kv ag r≤24)(cS:kR W r≤4096)(a3:T.length<500000):
  ∃J,runN ac (z+6) 2 [.ref (a .kt),ff r] n=some (E T.length,J)∧Good a (od h (T++[r]) (ag++[kv ag r]) (W++[kR W r]) (bL++[nh bL r])) J:=by
 obtain⟨eW,c2,dW,ob,xk⟩:=uW K M
 obtain⟨ZC,ZE,ZD⟩:=K.len
 have sK:T.length<room:=fa a3 (aE rfl)
 have br:=Mq (T:=T) (k:=0) fZ
 obtain⟨aa,Jw,iW,gf⟩:=wC M K.r (ff r) (by rw[cG];exact sK)
 have L:(T++[r]).zipIdx.map (λ p=>(hY p.1,E p.2))=T.zipIdx.map (λ p=>(hY p.1,E p.2))++[(hY r,E T.length)]:=by rw[List.zipIdx_append,nF,jj];rfl
 have Lx:up h .la (some (.li (T.map ff++[ff r]))) .jq=some (.h' (T.zipIdx.map λ p=>(hY p.1,E p.2))):=(bP _ _ (by simp)).trans K.i
 have O8:j' aa (.ref (a .jq)) (ff r) (E T.length)=some (aa.set (a .jq) (.h' ((T++[r]).zipIdx.map λ p=>(hY p.1,E p.2)))):=
  (an (rL aa (a .jq) (ff r) (E T.length)) (iW.at_ .jq _ Lx)).trans (aR (Py r) (bb (by rw[cG,List.length_zipIdx];exact sK) (by unfold c8;rw[br,L];rfl)))
 have ji:=iW.set (c3:=.h' ((T++[r]).zipIdx.map λ p=>(hY p.1,E p.2))) Lx
 obtain⟨bW,wB,pO,iM⟩:=wC ji (hX:=.mo) ((pK (by simp) (by simp)).trans K.d) (E (kv ag r)) (by rw[cG,ZC];exact sK)
 obtain⟨eP,Jy,pP,zl⟩:=wC pO (hX:=.mq) ((bP _ _ (by simp)).trans ((pK (by simp) (by simp)).trans K.w)) (E (kR W r)) (by rw[cG,ZE];exact sK)
 obtain⟨jW,Jz,QF,JO⟩:=wC pP (hX:=.kF) ((pK (by simp) (by simp)).trans ((pK (by simp) (by simp)).trans K.o)) (E (nh bL r)) (by rw[cG,ZD];exact sK)
 have hf:=(Au K iW (bP _ _ (by simp))).1
 have ir:=(Au K ji (pK (by simp) (by simp))).2.1
 have k3:=(Au K pO ((bP _ _ (by simp)).trans (pK (by simp) (by simp)))).2.2.1
 have nS:=(Au K pP ((pK (by simp) (by simp)).trans (pK (by simp) (by simp)))).2.2.2
 have e:od h (T++[r]) (ag++[kv ag r]) (W++[kR W r]) (bL++[nh bL r])=up (up (up (up (up h .la (some (.li (T.map ff++[ff r])))) .jq (some (.h' ((T++[r]).zipIdx.map λ p=>(hY p.1,E p.2))))) .mo (some (.li (ag.map E++[E (kv ag r)])))) .mq (some (.li (W.map E++[E (kR W r)])))) .kF (some (.li (bL.map E++[E (nh bL r)]))):=by
  unfold od
  simp only[nF,oN,List.map_nil]
 refine⟨jW,?_,e▸QF⟩
 obtain⟨b,az,pd,be⟩:=acY (n:=n) r
 obtain⟨bm,gN⟩:∃mA,@fE (live (.tup ((gG r).map E)) ((gG r).map E)) (e1 _ _) (λ x aF J=>(di false [7] x aF).bind λ dH=>bS ac (runN ac (z+5)) vn dH J) ((gG r).map E)
  [some (.ref (a .kt)),some (ff r),some (.ii (-1)),some (E 1),some (E 1),some (E (cond b 1 0)),some (E (x4 r)),none,none] n=some (.br [some (.ref (a .kt)),some (ff r),some (.ii (-1)),some (E (kv ag r)),some (E (kR W r)),some (E (nh bL r)),some (E (x4 r)),mA,none],n):=by
  rw[←be];exact Ob K M 1 1 _ none (xh a4)
 have J9:rh n (.ref (a .jq))=true:=by simp only[rh,M.at_ _ _ K.i]
 have J4:cY .gt (E (kv ag r)) (.ii 24) n=some false:=an some (j3 (by omega))
 have J5:cY .gt (E (kR W r)) (.ii 4096) n=some false:=an some (j3 (by omega))
 have rs:lb n (.ref (a .la))=some (T.length:am):=(rp (M.at_ _ _ K.r)).trans (by rw[cG])
 have hl:((gG r).map E).length≤100000:=by have:=YV a4;rw[cG];omega
 exact match b,az,gN with
 |true,az,gN=>cN (z+5) 2 [.ref (a .kt),ff r] n rfl rfl _ c2 J9 _ rfl _ (EK K M a4 br (.ii (-1))) _ rfl _ _ (Kj (z:=z) K M a4) _ (nr r) _ az _ (nr r) _ _ (MY r) _ _ (An r) _ rfl hl _ _ gN _ J4 _ J5 _ eW _ rs _ eW gf _ Jw _ hf _ O8 _ ir iM _ wB _ k3 zl _ Jy _ nS JO _ Jz
 |false,az,gN=>cN (z+5) 2 [.ref (a .kt),ff r] n rfl rfl _ c2 J9 _ rfl _ (EK K M a4 br (.ii (-1))) _ rfl _ _ (Kj (z:=z) K M a4) _ (nr r) _ az _ (nr r) _ pd _ (nr r) _ _ (MY r) _ _ (An r) _ rfl hl _ _ gN _ J4 _ J5 _ eW _ rs _ eW gf _ Jw _ hf _ O8 _ ir iM _ wB _ k3 zl _ Jy _ nS JO _ Jz
theorem ac1(K:KT a h T ag W bL)(M:Good a h n)(a4:nP T r)(fZ:r∈T):∃j,T[j]? =some r∧runN ac (z+1) 2 [.ref (a .kt),ff r] n=some (E j,n):=
 let⟨j,bt,br⟩:=Mr (T:=T) (k:=0) fZ
 ⟨j,bt,cN z 2 [.ref (a .kt),ff r] n rfl rfl _ (uW K M).2.1 (by simp only[rh,M.at_ _ _ K.i]) _ rfl _ (EK K M a4 (v:=some (E j)) (br.trans (by rw[jj])) (.ii (-1))) _ (an some (iO (yy j)))⟩
end
end Mine
end
section
namespace Mine
variable{α:Type}{b:C}{l:B α}{x:α}{j:C}{r bw:aP}{m:B C}{aC:B aP}{d:C}{H:aT}
section
variable{a:bH}{h:aT}{n:St}{T:B aP}{ag W bL:B C}{z:C}
inductive ap where
 |k (c:C)
 |v (i:C)
 |a (t:ap)
 |b2 (c:C)
 |g1 (c:C) (t:ap)
 |g2 (c:C) (t u:ap)
noncomputable def iC(c:C):Prop:=c=34∨(66≤c∧c≤70)
noncomputable def ba(T:B aP):C→ap→Prop
 |k,.k c=>k=c∧(c=7∨c=12∨c=13)∧T[k]? =some (.p c)
 |k,.v i=>T[k]? =some (.v i)
 |k,.a t=>∃j,T[k]? =some (.a j)∧ba T j t
 |k,.b2 c=>iC c∧T[k]? =some (.g c [])
 |k,.g1 c t=>iC c∧∃j,T[k]? =some (.g c [j])∧ba T j t
 |k,.g2 c t u=>iC c∧∃i j,T[k]? =some (.g c [i,j])∧ba T i t∧ba T j u
noncomputable def ap.size:ap→C
 | .k _=>1
 | .v _=>1
 | .a t=>t.size+1
 | .b2 _=>1
 | .g1 _ t=>t.size+1
 | .g2 _ t u=>t.size+u.size+1
noncomputable def ap.open:ap→C
 | .k _=>0
 | .v _=>1
 | .a t=>t.open
 | .b2 _=>0
 | .g1 _ t=>t.open
 | .g2 _ t u=>if t.open=1 then 1 else u.open
noncomputable def ap.sub(l:B ap):ap→ap
 | .k c=>.k c
 | .v i=>l.getD i (.v i)
 | .a t=>.a (t.sub l)
 | .b2 c=>.b2 c
 | .g1 c t=>.g1 c (t.sub l)
 | .g2 c t u=>.g2 c (t.sub l) (u.sub l)
theorem rE(t:ap):t.open=0∨t.open=1:=by
 induction t with
 |k _=>exact .inl rfl
 |v _=>exact .inr rfl
 |a _ i=>exact i
 |b2 _=>exact .inl rfl
 |g1 _ _ i=>exact i
 |g2 _ t u i j=>exact(Decidable.em (t.open=1)).elim (λ q=>.inr (if_pos q)) λ q=>(an (λ x=>x=0∨x=1) (if_neg q:(if t.open=1 then 1 else u.open)=_)).mpr j
theorem Bi(t:ap):1≤t.size:=by cases t<;>exact iI ..
theorem cD{c4 oG:Type}(f:α→c4→oG){a aY:α}{b hw:c4}(h:a=aY)(g:b=hw):f a b=f aY hw:=h▸g▸rfl
theorem Pf{l:B ap}{t:ap}:t.open=0→t.sub l=t:=by
 induction t with
 |k _=>exact λ _=>rfl
 |v _=>exact λ h=>nomatch h
 |a _ i=>exact λ h=>an ap.a (i h)
 |b2 _=>exact λ _=>rfl
 |g1 c _ i=>exact λ h=>an (ap.g1 c) (i h)
 |g2 c t u i j=>exact λ h=>(rE t).elim (λ q=>cD (ap.g2 c) (i q) (j ((if_neg (by rw[q];exact Ct):(if t.open=1 then 1 else u.open)=_).symm.trans h))) λ q=>nomatch(if_pos q:(if t.open=1 then 1 else u.open)=_).symm.trans h
theorem mr{k:C}(h:l[k]? =some x):k<l.length:=(jZ.mp h).1
theorem xJ{T:B aP}(cy:T.Nodup){i:C}(ax:T[i]? =some r)(aH:T[j]? =some bw)(L:r=bw):i=j:=
 (Cb (mr ax) cy).mp (ax.trans ((an some L).trans aH.symm))
theorem ll{o:Y α}{y:α}(h:o=some x)(H:o=some y):x=y:=ej (h.symm.trans H)
noncomputable def yz(T:B aP)(t:ap):aP→Prop
 | .p z=>t= .k z
 | .v i=>t= .v i
 | .a j=>∃cB,t= .a cB∧ba T j cB
 | .g c l=>match l with
  | []=>t= .b2 c
  | [j]=>∃cB,t= .g1 c cB∧ba T j cB
  | [i,j]=>∃cB GS,t= .g2 c cB GS∧ba T i cB∧ba T j GS
  |_=>False
section
variable{X:Prop}{t u:ap}{k c:C}
theorem ba.oW(h:ba T k (.a t))(f:∀j,T[k]? =some (.a j)→ba T j t→X):X:=let⟨j,e,q⟩:=h;f j e q
theorem ba.n2(h:ba T k (.g1 c t))(f:∀j,iC c→T[k]? =some (.g c [j])→ba T j t→X):X:=let⟨o,j,e,q⟩:=h;f j o e q
theorem ba.n3(h:ba T k (.g2 c t u))(f:∀i j,iC c→T[k]? =some (.g c [i,j])→ba T i t→ba T j u→X):X:=let⟨o,i,j,e,q,p⟩:=h;f i j o e q p
theorem yz.of(e:bw=r)(h:yz T t bw):yz T t r:=e▸h
theorem ba.row(e:T[k]? =some r)(h:ba T k t):yz T t r:=by
 cases t with
 |k c=>exact .of (ll h.2.2 e) (bw:=.p c) rfl
 |v i=>exact .of (ll h e) (bw:=.v i) rfl
 |a t=>exact h.oW λ j bC q=>.of (ll bC e) (bw:=.a j) ⟨t,rfl,q⟩
 |b2 c=>exact .of (ll h.2 e) (bw:=.g c []) rfl
 |g1 c t=>exact h.n2 λ j _ bC q=>.of (ll bC e) (bw:=.g c [j]) ⟨t,rfl,q⟩
 |g2 c t u=>exact h.n3 λ i j _ bC q ep=>.of (ll bC e) (bw:=.g c [i,j]) ⟨t,u,rfl,q,ep⟩
theorem ba.LB(h:ba T k t)(f:∀r,T[k]? =some r→X):X:=by
 cases t with
 |k c=>exact f _ h.2.2
 |v i=>exact f _ h
 |a t=>exact h.oW λ _ e _=>f _ e
 |b2 c=>exact f _ h.2
 |g1 c t=>exact h.n2 λ _ _ e _=>f _ e
 |g2 c t u=>exact h.n3 λ _ _ _ e _ _=>f _ e
end
theorem ba.inj{T:B aP}(cy:T.Nodup){t:ap}:∀{k ct:C},ba T k t→ba T ct t→k=ct:=by
 induction t with
 |k c=>exact λ h H=>h.1.trans H.1.symm
 |v i=>exact λ h H=>xJ cy h H rfl
 |a t i=>exact λ h H=>h.oW λ _ e q=>H.oW λ _ bC ep=>xJ cy e bC (an aP.a (i q ep))
 |b2 c=>exact λ h H=>xJ cy h.2 H.2 rfl
 |g1 c t i=>exact λ h H=>h.n2 λ _ _ e q=>H.n2 λ _ _ bC ep=>xJ cy e bC (an (λ j=>aP.g c [j]) (i q ep))
 |g2 c t u i j=>exact λ h H=>h.n3 λ _ _ _ e q p=>H.n3 λ _ _ _ bC ep f4=>xJ cy e bC (cD (λ i j=>aP.g c [i,j]) (i q ep) (j p f4))
theorem ba.a6{T:B aP}{t:ap}:∀{cB:ap} {k:C},ba T k t→ba T k cB→t=cB:=by
 induction t with
 |k c=>exact λ h H=>(H.row h.2.2).symm
 |v i=>exact λ h H=>(H.row h).symm
 |a t i=>exact λ h H=>h.oW λ _ e q=>let⟨_,L,p⟩:=H.row e;(an ap.a (i q p)).trans L.symm
 |b2 c=>exact λ h H=>(H.row h.2).symm
 |g1 c t i=>exact λ h H=>h.n2 λ _ _ e q=>let⟨_,L,p⟩:=H.row e;(an (ap.g1 c) (i q p)).trans L.symm
 |g2 c t u i j=>exact λ h H=>h.n3 λ _ _ _ e q ep=>let⟨_,_,L,p,f4⟩:=H.row e;(cD (ap.g2 c) (i q p) (j ep f4)).trans L.symm
theorem ba.lt{T:B aP}{t:ap}{k:C}(h:ba T k t):k<T.length:=h.LB λ _=>mr
theorem o2{k:C}(h:l[k]? =some x){m:B α}:(l++m)[k]? =some x:=(qR (mr h)).trans h
theorem ba.more{T:B aP}{t:ap}:∀{k:C},ba T k t→ba (T++aC) k t:=by
 induction t with
 |k _=>exact λ h=>⟨h.1,h.2.1,o2 h.2.2⟩
 |v _=>exact λ h=>o2 h
 |a _ i=>exact λ h=>h.oW λ j e q=>⟨j,o2 e,i q⟩
 |b2 _=>exact λ h=>⟨h.1,o2 h.2⟩
 |g1 _ _ i=>exact λ h=>h.n2 λ j o e q=>⟨o,j,o2 e,i q⟩
 |g2 _ _ _ i jN=>exact λ h=>h.n3 λ j k o e q p=>⟨o,j,k,o2 e,i q,jN p⟩
structure TI(T:B aP)(ag W bL:B C):Prop where
 nodup:T.Nodup
 prim:∀i,i<16→T[i]? =some (.p i)
 d:∀(k:C) r,T[k]? =some r→ag[k]? =some (kv ag r)∧W[k]? =some (kR W r)∧bL[k]? =some (nh bL r)
 ins:∀(k:C) r,T[k]? =some r→∀j∈gG r,j<k
theorem DP{f g:α→C→α}{l:B C}:∀{x:α},(∀d k,k∈l→f d k=g d k)→l.foldl f x=l.foldl g x:=by
 induction l with
 |nil=>exact λ _=>rfl
 |cons k l i=>exact λ{x} h=>(an (l.foldl f) (h x k (.head _))).trans (i λ d j bt=>h d j (.tail _ bt))
theorem DZ{l:B C}(h:j<l.length):(l++m).getD j 0=l.getD j 0:=by
 rw[jz,jz,qR h]
theorem Ve(h:∀j∈gG r,j<ag.length):kv (ag++m) r=kv ag r:=DP λ d j bt=>by rw[DZ (h j bt)]
theorem afZ(h:∀j∈gG r,j<W.length):kR (W++m) r=kR W r:=DP λ d j bt=>by rw[DZ (h j bt)]
theorem abT(h:∀j∈gG r,j<bL.length):nh (bL++m) r=nh bL r:=DP λ d j bt=>by rw[DZ (h j bt)]
theorem i1{z:C}(h:l.length=z):(l++[x])[z]? =some x:=h▸HV ..
theorem Bk{r:α}{k:C}{X:Prop}(e:(l++[x])[k]? =some r)(f:l[k]? =some r→X)(g:k=l.length→x=r→X):X:=
 (Co k l.length).elim (λ q=>f ((qR q).symm.trans e)) λ q=>
  have L:k=l.length:=Rn (ls (Rp (mr e) (fh ..))) q
  g L (ll (i1 L.symm) e)
theorem TI.add(I:TI T ag W bL)(qk:ag.length=T.length∧W.length=T.length∧bL.length=T.length)(a4:nP T r)(fZ:r∉T)(ag4:16≤T.length):TI (T++[r]) (ag++[kv ag r]) (W++[kR W r]) (bL++[nh bL r]) where
 nodup:=Ce.mpr ⟨I.nodup,List.pairwise_singleton _ r,λ x aA y bI e=>fZ (jA.mp bI▸e▸aA)⟩
 prim:=λ i ay=>o2 (I.prim i ay)
 d:=λ k bw e=>by
  obtain⟨dy,eE,pm⟩:=qk
  have f:(∀j∈gG bw,j<T.length)→kv (ag++[kv ag r]) bw=kv ag bw∧kR (W++[kR W r]) bw=kR W bw∧nh (bL++[nh bL r]) bw=nh bL bw:=λ f=>⟨Ve (by rw[dy];exact f),afZ (by rw[eE];exact f),abT (by rw[pm];exact f)⟩
  refine Bk e (λ e=>?_) λ L e=>?_
  ·rw[(f λ j bt=>fi (I.ins k bw e j bt) (mr e)).1,(f λ j bt=>fi (I.ins k bw e j bt) (mr e)).2.1,(f λ j bt=>fi (I.ins k bw e j bt) (mr e)).2.2]
   exact⟨o2 (I.d k bw e).1,o2 (I.d k bw e).2.1,o2 (I.d k bw e).2.2⟩
  ·subst e;subst L
   rw[(f (xh a4)).1,(f (xh a4)).2.1,(f (xh a4)).2.2]
   exact⟨i1 dy,i1 eE,i1 pm⟩
 ins:=λ k bw e=>Bk e (λ e=>I.ins k bw e) λ L e=>by subst e;subst L;exact xh a4
theorem ba.Zw(I:TI T ag W bL){t:ap}{k:C}(h:ba T k t):k≠0∧k≠14:=by
 have p:∀i,i<16→k=i→t= .k i∧k=i:=λ i ay q=>⟨h.row (r:=.p i) (q▸I.prim i ay),q⟩
 have c:∀c,t= .k c→c=7∨c=12∨c=13:=λ c e=>by subst e;exact h.2.1
 exact⟨λ q=>(by have:=c 0 (p 0 (by decide) q).1;omega),λ q=>(by have:=c 14 (p 14 (by decide) q).1;omega)⟩
theorem ky{l:B C}{x:C}(e:l[j]? =some x):l.getD j 0=x:=by rw[jz,e];rfl
theorem ry{x s:C}(h:d≤s)(q:x≤s):(if d<x then x else d)≤s:=by split<;>assumption
theorem NU{x:C}(q:x=0∨x=1):(if x=1 then 1 else 0)=x:=by rcases q with rfl|rfl<;>rfl
theorem ba.Hh(I:TI T ag W bL){t:ap}:∀{k:C},ba T k t→W[k]? =some t.size:=by
 induction t with
 |k _=>exact λ h=>(I.d _ _ h.2.2).2.1
 |v _=>exact λ h=>(I.d _ _ h).2.1
 |b2 _=>exact λ h=>(I.d _ _ h.2).2.1
 |a t i=>exact λ h=>h.oW λ j e q=>(I.d _ _ e).2.1.trans (an some ((an (1+·) (ky (i q))).trans (qT ..)))
 |g1 c t i=>exact λ h=>h.n2 λ j _ e q=>(I.d _ _ e).2.1.trans (an some ((an (1+·) (ky (i q))).trans (qT ..)))
 |g2 c t u i jN=>exact λ h=>h.n3 λ j fT _ e q ep=>(I.d _ _ e).2.1.trans (an some (show 1+W.getD j 0+W.getD fT 0=t.size+u.size+1 by rw[ky (i q),ky (jN ep)];omega))
theorem ba.op(I:TI T ag W bL){t:ap}:∀{k:C},ba T k t→bL[k]? =some t.open:=by
 induction t with
 |k _=>exact λ h=>(I.d _ _ h.2.2).2.2
 |v _=>exact λ h=>(I.d _ _ h).2.2
 |b2 _=>exact λ h=>(I.d _ _ h.2).2.2
 |a t i=>exact λ h=>h.oW λ j e q=>(I.d _ _ e).2.2.trans (an some ((an (λ x=>if x=1 then 1 else 0) (ky (i q))).trans (NU (rE t))))
 |g1 c t i=>exact λ h=>h.n2 λ j _ e q=>(I.d _ _ e).2.2.trans (an some ((an (λ x=>if x=1 then 1 else 0) (ky (i q))).trans (NU (rE t))))
 |g2 c t u i jN=>exact λ h=>h.n3 λ j fT _ e q ep=>(I.d _ _ e).2.2.trans (an some (show(if bL.getD fT 0=1 then 1 else if bL.getD j 0=1 then 1 else 0)=if t.open=1 then 1 else u.open by rw[ky (i q),ky (jN ep)];rcases rE t with x|x<;>rcases rE u with y|y<;>rw[x,y]<;>rfl))
theorem ba.Vn(I:TI T ag W bL){t:ap}:∀{k:C},ba T k t→∃d,ag[k]? =some d∧d≤t.size:=by
 induction t with
 |k _=>exact λ h=>⟨_,(I.d _ _ h.2.2).1,cJ _⟩
 |v _=>exact λ h=>⟨_,(I.d _ _ h).1,cJ _⟩
 |b2 _=>exact λ h=>⟨_,(I.d _ _ h.2).1,cJ _⟩
 |a t i=>exact λ h=>h.oW λ j e q=>let⟨d,g,l⟩:=i q;⟨_,(I.d _ _ e).1,ry (iI ..) (gq (ky g▸l))⟩
 |g1 c t i=>exact λ h=>h.n2 λ j _ e q=>let⟨d,g,l⟩:=i q;⟨_,(I.d _ _ e).1,ry (iI ..) (gq (ky g▸l))⟩
 |g2 c t u i jN=>exact λ h=>h.n3 λ j fT _ e q ep=>let⟨d,g,l⟩:=i q;let⟨ku,hN,cf⟩:=jN ep;⟨_,(I.d _ _ e).1,ry (ry (iI ..) (gq (Nat.le_add_right_of_le (ky g▸l)))) (gq (Ia (ky hN▸cf)))⟩
structure c6(a:bH)(h:aT)(T:B aP):Prop where
 ex:∃ag W bL,KT a h T ag W bL∧TI T ag W bL
 x':16≤T.length
theorem c6.b7(al:c6 a h T){X:Prop}(f:∀ag W bL,KT a h T ag W bL→TI T ag W bL→X):X:=let⟨ag,W,bL,K,I⟩:=al.ex;f ag W bL K I
structure jY(h:aT)(T:B aP)(H:aT)(aC:B aP)(b:C):Prop where
 ext:∃X,aC=T++X
 le:aC.length≤T.length+b
 off:∀r o,gZ r=false→h r=some o→H r=some o
theorem jY.refl(h:aT)(T:B aP):jY h T h T 0:=⟨⟨[],(eZ T).symm⟩,cJ _,λ _ _ _ e=>e⟩
theorem jY.trans{h aI bJ:aT}{T bX cL:B aP}(x:jY h T aI bX b)(y:jY aI bX bJ cL d):jY h T bJ cL (b+d):=
 ⟨let⟨X,e⟩:=x.ext;let⟨he,f⟩:=y.ext;⟨X++he,f.trans ((an (· ++he) e).trans (jy ..))⟩,a' y.le (a' (hb x.le d) (dh (mQ ..))),λ r o q e=>y.off r o q (x.off r o q e)⟩
theorem jY.mono{h:aT}{T:B aP}(x:jY h T H aC b)(q:b≤d):jY h T H aC d:=⟨x.ext,a' x.le (fB q _),x.off⟩
theorem jY.eT{h:aT}{T:B aP}(x:jY h T H aC b){k:C}{t:ap}(q:ba T k t):ba aC k t:=let⟨_,e⟩:=x.ext;e▸q.more
theorem ac0(al:c6 a h T)(M:Good a h n)(a4:nP T r)(a1:∀ag W bL,TI T ag W bL→kv ag r≤24∧kR W r≤4096)(a3:T.length<500000){X:Prop}
  (f:∀k aC H J,runN ac (z+6) 2 [.ref (a .kt),ff r] n=some (E k,J)→aC[k]? =some r→c6 a H aC→Good a H J→jY h T H aC 1→X):X:=
 al.b7 λ ag W bL K I=>(f9 (r∈T)).elim
  (λ fZ=>let⟨j,bt,e⟩:=ac1 (z:=z+5) K M a4 fZ
   f j T h n e bt al M ((jY.refl h T).mono (fu 1)))
  λ fZ=>let⟨J,e,dG⟩:=acZ (z:=z) K M a4 fZ (a1 ag W bL I).1 (a1 ag W bL I).2 a3
   have l:∀{l:B C} {x:C},l.length=T.length→(l++[x]).length=(T++[r]).length:=λ q=>by rw[fh,fh,q];rfl
   have EQ:(T++[r]).length=T.length+1:=fh ..
   f T.length (T++[r]) _ J e (i1 rfl) ⟨⟨_,_,_,ZA K ⟨l K.len.1,l K.len.2.1,l K.len.2.2⟩ (EQ▸a3),I.add K.len a4 fZ al.x'⟩,EQ▸lu al.x'⟩ dG ⟨⟨[r],rfl⟩,dh EQ,λ hX o q e=>(MP q).trans e⟩
end
end Mine
end
section
namespace Mine
variable{m c:C}{α:Type}{x:α}{xs:B D}{k:C}{r:aP}{l:B D}{v:D}{t:ap}{ks:B C}{i:C}
section
variable{a:bH}{h:aT}{n:St}{T:B aP}{ag W bL:B C}{z:C}
noncomputable def sT{α:Type}(f:B D→Y α):Y a0→Y α
 |some (.li xs)=>f xs
 |_=>none
theorem Nh{x:C}{aG:B (C×D)}(e:n[m]? =some (.bF c aG)):mu ac n x (.ref m)=if(aG.lookup x).isNone then ac.pv c x else none:=an (λ o:Y a0=>match o with|some (.bF c aG)=>if(aG.lookup x).isNone then ac.pv c x else none|_=>none) e
theorem iz(e:n[m]? =some (.li xs)):hR n (.ref m)=some xs:=an (sT λ xs=>some xs) e
theorem GK(e:n[m]? =some (.li xs)):ig n (.ref m)=some (!xs.isEmpty):=an (sT λ xs=>some (!xs.isEmpty)) e
theorem GN(e:n[m]? =some (.li xs)):rO n (.ref m)=some (.tup xs):=an (sT λ xs=>some (D.tup xs)) e
theorem Op{z:C}(h:z≤1000):z≤room:=a' h (aE rfl)
theorem c6.ru(al:c6 a h T)(M:Good a h n):mu ac n 75 (.ref (a .kt))=some 1:=al.b7 λ _ _ _ K _=>(Nh (M.at_ _ _ K.kt)).trans rfl
theorem c6.oi(al:c6 a h T)(M:Good a h n):mu ac n 76 (.ref (a .kt))=some 2:=al.b7 λ _ _ _ K _=>(Nh (M.at_ _ _ K.kt)).trans rfl
theorem c6.row(al:c6 a h T)(M:Good a h n)(e:T[k]? =some r):runN ac (z+1) 1 [.ref (a .kt),E k] n=some (ff r,n):=al.b7 λ _ _ _ K _=>A6 K M e
theorem j7(e:n[m]? =some (.li l))(q:l[k]? =some v):de n (.ref m) (E k)=some v:=(Ai e).trans ((zY ..).trans q)
theorem i9{c4:Type}{f:α→c4}{l:B α}(q:l[k]? =some x):(l.map f)[k]? =some (f x):=(qS ..).trans (an (qV f) q)
theorem c6.JH(al:c6 a h T)(M:Good a h n):d7 n (.ref (a .kt)) 0=some (.ref (a .la)):=al.b7 λ _ _ _ K _=>(uW K M).1
theorem c6.rowAt(al:c6 a h T)(M:Good a h n)(e:T[k]? =some r):de n (.ref (a .la)) (E k)=some (ff r):=al.b7 λ _ _ _ K _=>j7 (M.at_ _ _ K.r) (i9 e)
theorem c6.opens(al:c6 a h T)(M:Good a h n):d7 n (.ref (a .kt)) 4=some (.ref (a .kF))∧(∀{k:C} {t:ap},ba T k t→de n (.ref (a .kF)) (E k)=some (E t.open))∧∀i,i<16→de n (.ref (a .kF)) (E i)=some (E 0):=
 al.b7 λ _ _ _ K I=>⟨(uW K M).2.2.2.2,λ q=>j7 (M.at_ _ _ K.o) (i9 (q.op I)),λ i ay=>j7 (M.at_ _ _ K.o) (i9 ((I.d i _ (I.prim i ay)).2.2))⟩
noncomputable def k1(T:B aP)(r:aP):ap→Prop
 | .k _=>False
 | .v i=>r= .v i
 | .a t=>∃j,r= .a j∧ba T j t
 | .b2 c=>iC c∧r= .g c []
 | .g1 c t=>iC c∧∃j,r= .g c [j]∧ba T j t
 | .g2 c t u=>iC c∧∃i j,r= .g c [i,j]∧ba T i t∧ba T j u
@[elab_as_elim] theorem k1.b7{ak:aP→ap→Prop}(q:k1 T r t)(cP:∀i,ak (.v i) (.v i))(bO:∀j t,ba T j t→ak (.a j) (.a t))(ec:∀c,iC c→ak (.g c []) (.b2 c))(ax:∀c j t,iC c→ba T j t→ak (.g c [j]) (.g1 c t))(aH:∀c i j t u,iC c→ba T i t→ba T j u→ak (.g c [i,j]) (.g2 c t u)):ak r t:=by
 cases t with
 |k c=>exact q.elim
 |v i=>cases q;exact cP _
 |a t=>obtain⟨j,rfl,q⟩:=q;exact bO _ _ q
 |b2 c=>obtain⟨o,rfl⟩:=q;exact ec _ o
 |g1 c t=>obtain⟨o,j,rfl,q⟩:=q;exact ax _ _ _ o q
 |g2 c t u=>obtain⟨o,i,j,rfl,q,ep⟩:=q;exact aH _ _ _ _ _ o q ep
theorem k1.eT{aC:B aP}(q:k1 T r t)(m:∀{k:C} {t:ap},ba T k t→ba aC k t):aC[k]? =some r→ba aC k t:=
 q.b7 (λ _ e=>e) (λ j _ q e=>⟨j,e,m q⟩) (λ _ o e=>⟨o,e⟩) (λ _ j _ o q e=>⟨o,j,e,m q⟩) (λ _ i j _ _ o q ep e=>⟨o,i,j,e,m q,m ep⟩)
theorem rD(o:iC c):0<c∧(o8.lookup (c:am)).isSome=false:=by
 have ag:∀k:Fin 5,0<66+k.1∧(o8.lookup ((66+k.1:C):am)).isSome=false:=by decide
 exact o.elim (λ e=>by subst e;exact⟨Rz _,rfl⟩) λ q=>(Nat.add_sub_cancel' q.1:66+(c-66)=c)▸ag ⟨c-66,Nat.sub_lt_left_of_lt_add q.1 (pW q.2)⟩
theorem k1.ok(I:TI T ag W bL)(q:k1 T r t):nP T r:=
 have f:∀{k:C} {t:ap},ba T k t→k<T.length∧k≠0∧k≠14:=λ q=>⟨q.lt,q.Zw I⟩
 q.b7 (λ _=>trivial) (λ _ _ q=>f q) (λ _ o=>⟨(rD o).1,(rD o).2,fu _,λ _ h=>nomatch h⟩) (λ _ _ _ o q=>⟨(rD o).1,(rD o).2,aE rfl,λ _ h=>jA.mp h▸f q⟩)
  (λ _ _ _ _ _ o q ep=>⟨(rD o).1,(rD o).2,aE rfl,λ _ h=>(kh.mp h).elim (λ e=>e▸f q) λ h=>jA.mp h▸f ep⟩)
theorem k1.Vi(I:TI T ag W bL)(q:k1 T r t):t.size≤24→kv ag r≤24∧kR W r≤4096:=by
 have kP:∀{t:ap} {j:C},ba T j t→t.size+1≤24→1+W.getD j 0≤4096:=λ q hs=>by rw[ky (q.Hh I)];omega
 have q8:∀{t:ap} {j:C},ba T j t→t.size+1≤24→ag.getD j 0+1≤24:=λ q hs=>let⟨d,g,l⟩:=q.Vn I;a' (gq (ky g▸l)) hs
 have cT:1≤24:=aE rfl
 have bu:1≤4096:=aE rfl
 exact q.b7 (λ _ _=>⟨cT,bu⟩) (λ _ _ q hs=>⟨ry cT (q8 q hs),kP q hs⟩) (λ _ _ _=>⟨cT,bu⟩) (λ _ _ _ _ q hs=>⟨ry cT (q8 q hs),kP q hs⟩) (λ _ i j t u _ q ep (hs:t.size+u.size+1≤24)=>⟨ry (ry cT (q8 q (by omega))) (q8 ep (by omega)),show 1+W.getD i 0+W.getD j 0≤4096 by rw[ky (q.Hh I),ky (ep.Hh I)];omega⟩)
noncomputable def Gives(a:bH)(h:aT)(T:B aP)(b:C)(t:ap)(k:C)(J:St):Prop:=∃aC H,ba aC k t∧c6 a H aC∧Good a H J∧jY h T H aC b
theorem Gives.b7{b:C}{J:St}(g:Gives a h T b t k J){X:Prop}(f:∀aC H,ba aC k t→c6 a H aC→Good a H J→jY h T H aC b→X):X:=let⟨aC,H,q,al,M,r⟩:=g;f aC H q al M r
section
variable{X:Prop}
theorem rG(al:c6 a h T)(M:Good a h n)(q:k1 T r t)(hs:t.size≤24)(a3:T.length<500000)(f:∀k J,runN ac (z+6) 2 [.ref (a .kt),ff r] n=some (E k,J)→Gives a h T 1 t k J→X):X:=
 al.b7 λ _ _ _ _ I=>ac0 (z:=z) al M (q.ok I) (λ ag W bL I=>q.Vi I hs) a3 λ k aC H J e dq iG dG g=>f k J e ⟨aC,H,q.eT (λ q=>g.eT q) dq,iG,dG,g⟩
theorem afU(al:c6 a h T)(M:Good a h n)(i:C)(a3:T.length<500000)(f:∀k J,runN ac (z+7) 22 [.ref (a .kt),E i] n=some (E k,J)→Gives a h T 1 (.v i) k J→X):X:=
 rG (z:=z) al M (r:=.v i) (t:=.v i) rfl (aE rfl) a3 λ k J e g=>f k J (cN (z+6) 22 [D.ref (a aN.kt),E i] n rfl rfl _ (al.oi M) _ _ e) g
theorem U1(al:c6 a h T)(M:Good a h n)(q:k1 T (.g c ks) t)(o:iC c)(hs:t.size≤24)(a3:T.length<500000)(f:∀k J,runN ac (z+7) 21 [.ref (a .kt),E c,.tup (ks.map E)] n=some (E k,J)→Gives a h T 1 t k J→X):X:=
 rG (z:=z) al M q hs a3 λ k J e g=>f k J (cN (z+6) 21 [D.ref (a aN.kt),E c,D.tup (eB E ks)] n rfl rfl _ (Pr (rD o).2) _ (al.oi M) _ _ e) g
theorem aeo(al:c6 a h T)(M:Good a h n)(e:T[k]? =some r):runN ac (z+2) 23 [.ref (a .kt),E k] n=some (E (ja r),n):=by
 exact(cN (z+1) 23 [D.ref (a aN.kt),E k] n rfl rfl _ (al.ru M) _ _ (al.row (z:=z) M e) _ (nr r))
theorem GH(al:c6 a h T)(M:Good a h n)(e:T[k]? =some (.g c ks)):runN ac (z+2) 24 [.ref (a .kt),E k] n=some (E c,n):=by
 exact(cN (z+1) 24 [D.ref (a aN.kt),E k] n rfl rfl _ (al.ru M) _ _ (al.row (z:=z) M e) _ rfl _ rfl _ rfl)
theorem JD(al:c6 a h T)(M:Good a h n)(e:T[k]? =some (.g c ks)):runN ac (z+2) 25 [.ref (a .kt),E k] n=some (.tup (ks.map E),n):=by
 exact(cN (z+1) 25 [D.ref (a aN.kt),E k] n rfl rfl _ (al.ru M) _ _ (al.row (z:=z) M e) _ rfl _ rfl _ rfl)
theorem ZU(q:l.length≤1000):lb n (.tup l)=some (l.length:am):=if_pos (Op q)
theorem Ak(q:l.length≤1000)(e:l[k]? =some v):de n (.tup l) (E k)=some v:=(if_pos (Op q)).trans ((zY ..).trans e)
theorem Li{l:B α}(q:l[i]? =none):l.getD i x=x:=by rw[jz,q];rfl
theorem getD_at{l:B α}(q:i<l.length):l[i]? =some (l.getD i x):=by rw[jz,h2 q];rfl
theorem m1{x y:C}:cY .lt (E x) (.ii y) n=some (decide (x<y)):=an some (q9.mpr B4)
theorem acK(hl:ks.length≤2):runN ac (z+1) 29 [.tup (ks.map E),E i,E k] n=some (E (ks.getD i k),n):=by
 have lM:(ks.map E).length≤1000:=cG (as:=ks) E▸a' hl (aE rfl)
 have l:lb n (.tup (ks.map E))=some (ks.length:am):=(ZU lM).trans (by rw[cG])
 by_cases q:i<ks.length
 ·have c:=jG (m1 (n:=n)) q
  have x:=Ak (n:=n) lM (i9 (f:=E) (getD_at (x:=k) q))
  exact(cN z 29 [D.tup (eB E ks),E i,E k] n rfl rfl _ l _ c _ x)
 ·have c:=iN (m1 (n:=n)) q
  rw[Li (Ca (Ro q))]
  exact(cN z 29 [D.tup (eB E ks),E i,E k] n rfl rfl _ l _ c)
theorem af2(al:c6 a h T)(M:Good a h n){bw:aP}(a4:(∃j fT,r= .a j∧bw= .a fT∧ks=[fT])∨∃c l,r= .g c l∧bw= .g c ks)(q:k1 T bw t)(hs:t.size≤24)(a3:T.length<500000)(f:∀k J,runN ac (z+7) 28 [.ref (a .kt),ff r,.tup (ks.map E)] n=some (E k,J)→Gives a h T 1 t k J→X):X:=
 rG (z:=z) al M q hs a3 λ k J e g=>f k J (a4.elim
  (λ⟨j,fT,aw,aB,bZ⟩=>by
   subst aw;subst aB;subst bZ
   exact(cN (z+6) 28 [D.ref (a aN.kt),ff (aP.a j),D.tup (eB E [fT])] n rfl rfl _ rfl _ rfl _ rfl _ rfl _ rfl _ (al.oi M) _ rfl _ _ e))
  λ⟨c,l,aw,aB⟩=>by
   subst aw;subst aB
   exact(cN (z+6) 28 [D.ref (a aN.kt),ff (aP.g c l),D.tup (eB E ks)] n rfl rfl _ rfl _ rfl _ (al.oi M) _ rfl _ _ e)) g
end
end
end Mine
end
section
namespace Mine
variable{l cf:B D}{step:D→aX→St→Y (e0×St)}{env:aX}{x:Y a0}{r:aN}{H:aT}{m:C}{o:a0}{aC:B aP}{ks:B C}{bE:B ap}{t:ap}
section
variable{dn:Type}[nA dn][oM dn]{O:B (dn×D)}{k ct:dn}{v:D}
theorem AY{dn:Type}[nA dn]{O:B (dn×D)}{k:dn}{v:D}:(c8 O k v).length≤O.length+1:=by
 unfold c8
 split
 ·exact lu (dh (cG ..))
 ·exact dh (fh ..)
theorem pq{a:dn}{b:D}{O:B (dn×D)}:((a,b)::O).lookup k=bif k==a then some b else O.lookup k:=by
 rw[l1]
 cases k==a<;>rfl
theorem acP(L:(ct==k)=false):(O.map λ e=>if e.1==k then(e.1,v)else e).lookup ct=O.lookup ct:=by
 induction O with
 |nil=>rfl
 |cons x O aZ=>
  have f:∀b:D,(bif ct==x.1 then some b else(O.map λ e=>if e.1==k then(e.1,v)else e).lookup ct)=bif ct==x.1 then some b else O.lookup ct:=λ b=>an (λ o=>bif ct==x.1 then some b else o) aZ
  by_cases w:(x.1==k)=true
  ·have y:(ct==x.1)=false:=eq_of_beq w▸L
   exact(an (λ p=>yI ct (p::_)) (if_pos w)).trans (pq.trans (((an (λ c=>bif c then _ else _) y).trans aZ).trans (pq.trans (an (λ c=>bif c then _ else _) y)).symm))
  ·exact(an (λ p=>yI ct (p::_)) (if_neg w)).trans (pq.trans ((f x.2).trans pq.symm))
theorem acO(s:(O.lookup k).isSome=true):(O.map λ e=>if e.1==k then(e.1,v)else e).lookup k=some v:=by
 induction O with
 |nil=>exact nomatch s
 |cons x O aZ=>
  by_cases w:(x.1==k)=true
  ·exact(an (λ p=>yI k (p::_)) (if_pos w)).trans (pq.trans (an (λ c=>bif c then _ else _) (show(k==x.1)=true from eq_of_beq w▸lE k)))
  ·have y:(k==x.1)=false:=ma.mpr λ e=>w (e▸lE x.1)
   exact(an (λ p=>yI k (p::_)) (if_neg w)).trans (pq.trans ((an (λ c=>bif c then _ else _) y).trans (aZ ((an pY (pq.trans (an (λ c=>bif c then some x.2 else O.lookup k) y))).symm.trans s))))
theorem N9:(c8 O k v).lookup ct=bif ct==k then some v else O.lookup ct:=by
 unfold c8
 by_cases s:(O.lookup k).isSome=true
 ·rw[if_pos s]
  by_cases L:(ct==k)=true
  ·rw[L,eq_of_beq L];exact acO s
  ·have L:=rX.mpr L
   rw[L];exact acP L
 ·rw[if_neg s,yJ]
  by_cases L:(ct==k)=true
  ·rw[L,eq_of_beq L,we.mpr λ v e=>s (an pY e)]
   exact pq.trans (an (λ c=>bif c then _ else _) (lE k))
  ·have L:=rX.mpr L
   rw[L]
   exact(an ((O.lookup ct).or) (pq.trans (an (λ c=>bif c then _ else _) L))).trans (RC ..)
theorem qy:(c8 O k v).lookup k=some v:=N9.trans (an (λ c=>bif c then _ else _) (lE k))
theorem nk(h:ct≠k):(c8 O k v).lookup ct=O.lookup ct:=N9.trans (an (λ c=>bif c then _ else _) (ma.mpr h))
end
section
variable{a:bH}{h:aT}{n:St}{T:B aP}{ag W bL:B C}{z:C}
theorem DS: @fE (live (.tup l) cf) (e1 (.tup l) cf) step [] env n=some (.br env,n):=if_pos trivial
theorem wX{x:D}{r:B D}{aF:aX}{J:St}(e:step x env n=some (.br aF,J)): @fE (live (.tup l) cf) (e1 (.tup l) cf) step (x::r) env n= @fE (live (.tup l) cf) (e1 (.tup l) cf) step r aF J:=fd trivial e rfl
noncomputable def hS:aN→av
 | .kt=>true
 |r=>gZ r
theorem c6.off(al:c6 a h T)(q:∀r o,hS r=true→h r=some o→H r=some o):c6 a H T:=
 al.b7 λ ag W bL K I=>⟨⟨ag,W,bL,⟨q _ _ rfl K.kt,q _ _ rfl K.r,q _ _ rfl K.i,q _ _ rfl K.d,q _ _ rfl K.w,q _ _ rfl K.o,K.len,K.small⟩,I⟩,al.x'⟩
theorem mJ{h:aT}(e:h r=some o)(a4:r≠ .a6 m):up h (.a6 m) x r=some o:=(bP _ _ a4).trans e
theorem ZB(q:hS r=true):r≠ .a6 m:=λ e=>jw ((an hS e).symm.trans q)
theorem c6.mH(al:c6 a h T):c6 a (up h (.a6 m) x) T:=al.off λ r o q e=>mJ e (ZB q)
theorem tn{c0:C}(h:m≠c0):aN.a6 m≠ .a6 c0:=λ e=>h (aN.a6.inj e)
theorem afP{h:aT}{bw:aN}(e:up h r none bw=some o)(q:bw≠r→h bw=some o→H bw=some o):up H r x bw=some o:=
 (f9 (bw=r)).elim (λ L=>nomatch(L▸cR h r none:up h r none bw=none).symm.trans e) λ L=>(bP _ _ L).trans (q L ((bP _ _ L).symm.trans e))
noncomputable def d1(T:B aP):B C→B ap→Prop
 | [],[]=>True
 |k::ks,t::bE=>ba T k t∧d1 T ks bE
 |_,_=>False
@[elab_as_elim] theorem d1.b7{ak:B C→B ap→Prop}(z:ak [] [])(c:∀k ks t bE,ba T k t→d1 T ks bE→ak ks bE→ak (k::ks) (t::bE)):∀{bE:B ap} {ks:B C},d1 T ks bE→ak ks bE
 | [],[],_=>z
 |_::_,_::_,q=>c _ _ _ _ q.1 q.2 (d1.b7 z c q.2)
 | [],_::_,q=>q.elim
 |_::_,[],q=>q.elim
theorem d1.more(m:∀{k:C} {t:ap},ba T k t→ba aC k t)(q:d1 T ks bE):d1 aC ks bE:=q.b7 trivial λ _ _ _ _ q _ i=>⟨m q,i⟩
theorem d1.len(q:d1 T ks bE):ks.length=bE.length:=q.b7 rfl λ _ _ _ _ _ _ i=>an l2 i
theorem d1.pick{i k:C}(q:d1 T ks bE)(p:ba T k t):ba T (ks.getD i k) (bE.getD i t):=
 (q.b7 (ak:=λ ks bE=>∀i,ba T (ks.getD i k) (bE.getD i t)) (λ _=>p) λ _ _ _ _ q _ r i=>match i with
  |0=>q
  |i+1=>r i) i
noncomputable def kn(T:B aP)(l:B ap)(S:B (am×D)):Prop:=∀(k:C) (v:D),S.lookup (k:am)=some v→∃t e7,ba T k t∧v=E e7∧ba T e7 (t.sub l)
structure iV(a:bH)(h:aT)(T:B aP)(l:B ap)(S:B (am×D))(b m:C)(J:St)(aC:B aP)(H:aT)(fC:B (am×D)):Prop where
 bT:c6 a H aC
 good:Good a H J
 ext:∃X,aC=T++X
 le:aC.length≤T.length+b
 seen:H (.a6 m)=some (.cq fC)
 ok:kn aC l fC
 dQ:fC.length≤S.length+b
 off:∀r o,gZ r=false→r≠ .a6 m→h r=some o→H r=some o
theorem iV.eT{l:B ap}{S fC:B (am×D)}{b:C}(c:iV a h T l S b m n aC H fC){k:C}(q:ba T k t):ba aC k t:=let⟨_,e⟩:=c.ext;e▸q.more
noncomputable def vZ(a:bH)(nn:C)(h:aT)(n:St)(T:B aP)(k m:C)(ks:B C)(l:B ap)(S:B (am×D))(t:ap)(b:C):Prop:=∀{X:Prop},(∀fl J aC H fC,runN ac nn 27 [.ref (a .kt),E k,.tup (ks.map E),.tup [],.ref m] n=some (E fl,J)→ba aC fl (t.sub l)→iV a h T l S b m J aC H fC→X)→X
noncomputable def rZ(a:bH)(t:ap):Prop:=∀{z:C} {h:aT} {n:St} {T:B aP} {k m:C} {ks:B C} {l:B ap} {S:B (am×D)},c6 a h T→Good a h n→ba T k t→d1 T ks l→ks.length≤2→(t.sub l).size≤24→T.length+t.size<500000→
 h (.a6 m)=some (.cq S)→kn T l S→S.length+t.size<1000→vZ a (z+t.size+8) h n T k m ks l S t t.size
noncomputable def Ds:bk:=.cons (.ex (.append (.v 6) (.call 27 (.cons (.v 0) (.cons (.v 7) (.cons (.v 2) (.cons (.v 3) (.cons (.v 4) .nil)))))))) .nil
noncomputable def sy(a:bH)(k m gO:C)(ks:B C)(r:aP)(bm:Y D):aX:=[some (.ref (a .kt)),some (E k),some (.tup (ks.map E)),some (.tup []),some (.ref m),some (ff r),some (.ref gO),bm]
theorem df(M:Good a h n)(e:h (.a6 m)=some o):n[m]? =some o:=M.a6 m▸M.at_ _ _ e
theorem UY{u:ap}(cU:rZ a u){nn k j gO:C}{l:B ap}{S:B (am×D)}{r:aP}{acc:B D}{bm:Y D}(al:c6 a h T)(M:Good a h n)(q:ba T j u)(fL:d1 T ks l)(hl:ks.length≤2)(hs:(u.sub l).size≤24)(a3:T.length+u.size<500000)
  (hm:h (.a6 m)=some (.cq S))(ok:kn T l S)(c7:S.length+u.size<1000)(ay:h (.a6 gO)=some (.li acc))(ne:gO≠m)(re:acc.length<10)(cy:nn=z+u.size+8){X:Prop}
  (f:∀fl J aC H fC,(di false [7] (E j) (sy a k m gO ks r bm)).bind (λ dH=>bS ac (runN ac nn) Ds dH n)=some (.br (sy a k m gO ks r (some (E j))),J)→ba aC fl (u.sub l)→H (.a6 gO)=some (.li (acc++[E fl]))→
   iV a (up h (.a6 gO) none) T l S u.size m J aC H fC→X):X:=by
 subst cy
 refine cU (z:=z) al M q fL hl hs a3 hm ok c7 λ fl aa bX aI bU e gm V=>?_
 have En:=V.off _ _ rfl (tn ne) ay
 obtain⟨ao,eA,dA,_⟩:=wC V.good En (E fl) (fa re (aE rfl))
 rw[V.good.a6]at eA
 have ZY:ml n (.ref gO)=true:=by simp only[ml,Ao,df M ay]
 refine f fl ao bX (up aI (.a6 gO) (some (.li (acc++[E fl])))) bU (aR (a:=sy a k m gO ks r (some (E j))) rfl ?_) gm (cR ..) ⟨V.bT.mH,dA,V.ext,V.le,mJ V.seen (tn ne.symm),V.ok,V.dQ,λ hX o c2 dW bC=>afP bC λ _ e=>V.off _ _ c2 dW e⟩
 exact dm (z+u.size+8) Ds (sy a k m gO ks r (some (E j))) n ZY _ _ e _ eA
end
end Mine
end
section
namespace Mine
variable{m k:C}{l:B ap}{t:ap}{b:C}{bU:B (am×D)}{bX:B aP}{aI:aT}{cL:B aP}{x y d s:C}{r:aP}{ks:B C}
section
variable{a:bH}{h:aT}{n:St}{T:B aP}{ag W bL:B C}{z:C}
theorem Am{S:B (am×D)}(e:n[m]? =some (.cq S)):cY .pk (E k) (.ref m) n=some (S.lookup (k:am)).isSome:=by simp only[cY,Al,E,e,jO]
theorem L3{S:B (am×D)}(e:n[m]? =some (.cq S)):de n (.ref m) (E k)=S.lookup (k:am):=an (rj (E k)) e
theorem kn.b7{S:B (am×D)}(ok:kn T l S){v:D}(e:S.lookup (k:am)=some v){X:Prop}(f:∀t e7,ba T k t→v=E e7→ba T e7 (t.sub l)→X):X:=let⟨t,e7,q,L,ep⟩:=ok k v e;f t e7 q L ep
theorem kn.more{aC:B aP}{S:B (am×D)}(m:∀{k:C} {t:ap},ba T k t→ba aC k t)(ok:kn T l S):kn aC l S:=λ k v e=>ok.b7 e λ t e7 q L ep=>⟨t,e7,m q,L,m ep⟩
theorem kn.put{S:B (am×D)}(ok:kn T l S){fl:C}(q:ba T k t)(ep:ba T fl (t.sub l)):kn T l (c8 S (k:am) (E fl)):=λ ct v e=>
 (f9 ((ct:am)=k)).elim (λ L=>⟨t,fl,tK L▸q,(ll (L▸qy) e).symm,ep⟩) λ L=>ok ct v ((nk L).symm.trans e)
theorem iV.refl{S:B (am×D)}(al:c6 a h T)(M:Good a h n)(hm:h (.a6 m)=some (.cq S))(ok:kn T l S):iV a h T l S b m n T h S:=
 ⟨al,M,⟨[],(eZ T).symm⟩,d2 ..,hm,ok,d2 ..,λ _ _ _ _ e=>e⟩
theorem iV.less{S:B (am×D)}{h₀:aT}(x:iV a h T l S b m n bX aI bU)(q:∀r o,gZ r=false→r≠ .a6 m→h₀ r=some o→h r=some o):iV a h₀ T l S b m n bX aI bU:=
 ⟨x.bT,x.good,x.ext,x.le,x.seen,x.ok,x.dQ,λ r o c2 dW e=>x.off r o c2 dW (q r o c2 dW e)⟩
theorem me{T:B aP}(x:∃X,bX=T++X)(y:∃X,cL=bX++X):∃X,cL=T++X:=let⟨X,e⟩:=x;let⟨he,f⟩:=y;⟨X++he,f.trans ((an (· ++he) e).trans (jy ..))⟩
theorem of{L:C}(p:y≤x+b)(q:L≤y+d):L≤x+(b+d):=a' q (a' (hb p d) (dh (mQ ..)))
theorem iV.trans{S du:B (am×D)}{aa ao:St}{bJ:aT}(x:iV a h T l S b m aa bX aI bU)(y:iV a aI bX l bU d m ao cL bJ du):iV a h T l S (b+d) m ao cL bJ du:=
 ⟨y.bT,y.good,me x.ext y.ext,of x.le y.le,y.seen,y.ok,of x.dQ y.dQ,λ r o c2 dW e=>y.off r o c2 dW (x.off r o c2 dW e)⟩
noncomputable def Jh(r bw:aP)(fK:B C):Prop:=(∃j fT,r= .a j∧bw= .a fT∧fK=[fT])∨∃c l,r= .g c l∧bw= .g c fK
noncomputable def Kk(a:bH)(nn:C)(n:St)(k m gO:C)(ks:B C)(r:aP)(ae lY:B D)(l:B D)(bm:Y D):Y (e0×St):=@fE (live (.tup ae) lY) (e1 (.tup ae) lY) (λ x aF J=>(di false [7] x aF).bind λ dH=>bS ac (runN ac nn) Ds dH J) l (sy a k m gO ks r bm) n
theorem E4(h:x+(s+y)<b):x+s<b:=cn (fB (d2 ..) _) h
theorem xx(p:y≤x+s)(h:x+s<b):y<b:=cn p h
theorem AC{ht:C}(p:ht≤x+s)(h:x+(s+y)<b):ht+y<b:=cn (hb p y) (cn (dh (mQ ..)) h)
theorem UX{nn:C}{S:B (am×D)}(al:c6 a h T)(M:Good a h n)(q:ba T k t)(e:T[k]? =some r)(be:t.open=1)(aj:ja r=4∨ja r=2)
  (hm:h (.a6 m)=some (.cq S))(nl:S.lookup (k:am)=none)(c7:S.length+b<1000)(hs:(t.sub l).size≤24)(a3:T.length+b<500000)(X1:(gG r).length≤2)
  (AB:∀{X:Prop},(∀fK bw ao cL bJ du bm,Kk a (nn+7) (n++[.li []]) k m n.length ks r ((gG r).map E) ((gG r).map E) ((gG r).map E) none=
    some (.br (sy a k m n.length ks r bm),ao)→iV a h T l S b m ao cL bJ du→bJ (.a6 n.length)=some (.li (fK.map E))→k1 cL bw (t.sub l)→Jh r bw fK→X)→X):vZ a (nn+8) h n T k m ks l S t (b+1):=λ f=>by
 refine AB λ fK bw ao cL bJ du bm gN V li mE vw=>af2 (z:=nn) V.bT V.good vw mE hs (xx V.le a3) λ fl bW bZ gL=>gL.b7 λ lB cQ j8 Hx d0 gL=>?_
 have LN:=gL.off _ _ rfl V.seen
 have S5:=df d0 LN
 have hZ:=d0.set (c3:=.cq (c8 du (k:am) (E fl))) LN
 rw[d0.a6]at hZ
 have st:j' bW (.ref m) (E k) (E fl)=some (bW.set m (.cq (c8 du (k:am) (E fl)))):=
  (an (rL bW m (E k) (E fl)) S5).trans (if_pos (fa (xx V.dQ c7) (aE rfl)))
 have Ws:=(L3 (k:=k) (df hZ (cR _ _ _))).trans qy
 have cm:=(al.opens M).1
 have oo:=be▸(al.opens M).2.1 q
 have nt:=nl▸Am (k:=k) (df M hm)
 have Ge:cY .eq (E (ja r)) (.ii 6) n=some false:=by rcases aj with L|L<;>rw[L]<;>rfl
 have adM:cY .eq (E (ja r)) (.ii 7) n=some false:=by rcases aj with L|L<;>rw[L]<;>rfl
 have X2:((gG r).map E).length≤100000:=cG (as:=gG r) E▸a' X1 (aE rfl)
 refine f fl _ lB _ (c8 du (k:am) (E fl)) (cN (nn+7) 27 [D.ref (a aN.kt),E k,D.tup (eB E ks),D.tup [],D.ref m] n rfl rfl _ cm _ oo _ rfl _ nt _ (al.JH M) _ (al.rowAt M e) _ (nr r) _ Ge _ (nr r) _ adM _ _ (An (z:=nn+6) r) _ rfl X2 _ _ gN _ (GN (df V.good li)) _ _ bZ _ st _ Ws) j8 ⟨Hx.mH,hZ,me V.ext gL.ext,of V.le gL.le,cR _ _ _,(kn.more (λ q=>gL.eT q) V.ok).put (gL.eT (V.eT q)) j8,a' AY (gq V.dQ),λ hX o c2 dW bC=>(bP _ _ dW).trans (gL.off _ _ c2 (V.off _ _ c2 dW bC))⟩
theorem G3{h:aT}{r bw:aN}{o:a0}(e:up h r none bw=some o):bw≠r∧h bw=some o:=
 have L:bw≠r:=λ L=>nomatch(L▸cR h r none:up h r none bw=none).symm.trans e
 ⟨L,(bP _ _ L).symm.trans e⟩
noncomputable def qE:B ap→C
 | []=>0
 |t::bE=>t.size+qE bE
theorem UW{nn gO:C}{ae lY:B D}(hl:ks.length≤2)(ne:gO≠m){dg:B ap}:∀{eS:B C} {h:aT} {n:St} {T:B aP} {S:B (am×D)} {acc:B D} {bm:Y D},(∀u∈dg,rZ a u∧(u.sub l).size≤24∧8+u.size≤nn)→c6 a h T→Good a h n→d1 T eS dg→d1 T ks l→
  T.length+qE dg<500000→h (.a6 m)=some (.cq S)→kn T l S→S.length+qE dg<1000→h (.a6 gO)=some (.li acc)→acc.length+dg.length≤9→
  ∀{X:Prop},(∀fK J aC H fC mA,Kk a nn n k m gO ks r ae lY (eS.map E) bm=some (.br (sy a k m gO ks r mA),J)→
   d1 aC fK (dg.map (ap.sub l))→H (.a6 gO)=some (.li (acc++fK.map E))→iV a (up h (.a6 gO) none) T l S (qE dg) m J aC H fC→X)→X:=by
 induction dg with
 |nil=>
  intro eS h n T S acc bm _ al M q _ _ hm ok _ ay _ X f
  cases eS with
  |nil=>exact f [] n T h S bm DS trivial (ay.trans (an (λ l=>some (a0.li l)) (eZ acc).symm)) ((iV.refl al M hm ok).less λ r o _ _ e=>(G3 e).2)
  |cons _ _=>exact q.elim
 |cons u dg aZ=>
  intro eS h n T S acc bm cU al M q fL a3 hm ok c7 ay re X f
  cases eS with
  |nil=>exact q.elim
  |cons j eS=>
  have ec:=cU u (.head _)
  refine UY (z:=nn-8-u.size) (nn:=nn) (k:=k) (r:=r) (bm:=bm) ec.1 al M q.1 fL hl ec.2.1 (E4 a3) hm ok (E4 c7) ay ne (by have:(u::dg).length=dg.length+1:=rfl;omega) (by have:=ec.2.2;omega) λ fl aa bX aI bU e gm En V=>?_
  refine aZ (bm:=some (E j)) (λ u dS=>cU u (.tail _ dS)) V.bT V.good (q.2.more λ q=>V.eT q) (fL.more λ q=>V.eT q) (AC V.le a3) V.seen V.ok (AC V.dQ c7) En (by have:(u::dg).length=dg.length+1:=rfl;rw[fh,Q4];omega) λ fK ao cL bJ du mA aB cO XS HA=>?_
  refine f (fl::fK) ao cL bJ du mA ((wX e).trans aB) ⟨HA.eT gm,cO⟩ (XS.trans (an (λ l=>some (a0.li l)) (jy ..))) (iV.trans ⟨V.bT.mH,V.good.less λ r o e=>(G3 e).2,V.ext,V.le,mJ V.seen (tn ne.symm),V.ok,V.dQ,λ r o c2 dW e=>(bP _ _ (G3 e).1).trans (V.off r o c2 dW e)⟩ HA)
end
end Mine
end
section
namespace Mine
variable{t:ap}{k m:C}{ks:B C}{l:B ap}{b:C}{α:Type}{P:α→Prop}{x:α}{X:Prop}
section
variable{a:bH}{h:aT}{n:St}{T:B aP}{ag W bL:B C}{z:C}
theorem Kn{nn:C}{S:B (am×D)}(al:c6 a h T)(M:Good a h n)(q:ba T k t)(hm:h (.a6 m)=some (.cq S))(ok:kn T l S)(c:t.open=0∨∃v,S.lookup (k:am)=some v):vZ a (nn+1) h n T k m ks l S t b:=λ f=>by
 have cm:=(al.opens M).1
 by_cases L:t.open=0
 ·have oo:=L▸(al.opens M).2.1 q
  exact f k n T h S (cN nn 27 [D.ref (a aN.kt),E k,D.tup (eB E ks),D.tup [],D.ref m] n rfl rfl _ cm _ oo _ rfl) ((Pf L).symm▸q) (iV.refl al M hm ok)
 ·have oo:=(rE t).resolve_left L▸(al.opens M).2.1 q
  obtain⟨v,e⟩:=c.resolve_left L
  refine ok.b7 e λ cB e7 d' w cO=>?_
  have nt:=(Am (k:=k) (df M hm)).trans (an (λ o=>some o.isSome) e)
  have aea:=(L3 (k:=k) (df M hm)).trans (w▸e)
  exact f e7 n T h S (cN nn 27 [D.ref (a aN.kt),E k,D.tup (eB E ks),D.tup [],D.ref m] n rfl rfl _ cm _ oo _ rfl _ nt _ aea) (q.a6 d'▸cO) (iV.refl al M hm ok)
theorem Kl{nn:C}{S:B (am×D)}(al:c6 a h T)(M:Good a h n)(q:ba T k t)(hm:h (.a6 m)=some (.cq S))(ok:kn T l S)(f:t.open=1→S.lookup (k:am)=none→vZ a (nn+1) h n T k m ks l S t b):vZ a (nn+1) h n T k m ks l S t b:=
 (f9 (t.open=0∨∃v,S.lookup (k:am)=some v)).elim (λ c=>Kn al M q hm ok c) λ c=>f ((rE t).resolve_left λ L=>c (.inl L)) (we.mpr λ v e=>c (.inr ⟨v,e⟩))
theorem Dt{dg:B ap}(cU:∀u∈dg,rZ a u)(dS:dg.length≤2)(uN:t.size=qE dg+1)(Yp:∀l,∀u∈dg,(u.sub l).size≤(t.sub l).size)(w5:∀u∈dg,u.size≤qE dg)
  (a4:∀{T:B aP} {k:C},ba T k t→∀{X:Prop},(∀r,T[k]? =some r→d1 T (gG r) dg→(ja r=4∨ja r=2)→(∀{aC:B aP} {fK:B C} {l:B ap},d1 aC fK (dg.map (ap.sub l))→∃bw,k1 aC bw (t.sub l)∧Jh r bw fK)→X)→X):rZ a t:=by
 intro z h n T k m ks l S al M q fL hl hs a3 hm ok c7
 refine Kl al M q hm ok λ L nl=>a4 q λ r e Oh aj mE=>?_
 rw[uN]at a3 c7⊢
 refine UX (nn:=z+(qE dg+1)) (b:=qE dg) (ks:=ks) (l:=l) al M q e L aj hm nl (mR c7) hs (mR a3) (Oh.len▸dS) λ f=>?_
 have ne:n.length≠m:=λ e=>absurd (M.lt (r:=.a6 m) (by rw[hm];rfl)) (by rw[M.a6];exact Rs (dh e))
 refine UW (a:=a) (nn:=z+(qE dg+1)+7) (k:=k) (m:=m) (gO:=n.length) (r:=r) (ae:=(gG r).map E) (lY:=(gG r).map E) (acc:=[]) (bm:=none) hl ne (λ u dS=>⟨cU u dS,a' (Yp l u dS) hs,by have:=w5 u dS;omega⟩) (al.mH (m:=n.length) (x:=some (.li []))) (M.mH (.li [])) Oh fL (mR a3) (mJ hm (tn ne.symm)) ok (mR c7) (cR _ _ _) (a' (dh (jj _)) (a' dS (aE rfl))) λ fK ao cL bJ du bm gN gm li V=>?_
 obtain⟨bw,adq,vw⟩:=mE gm
 exact f fK bw ao cL bJ du bm gN (V.less λ r o c2 dW e=>
  have L:r≠ .a6 n.length:=λ L=>nomatch(L▸M.fresh (cJ _):h r=none).symm.trans e
  (bP _ _ L).trans ((bP _ _ L).trans e)) li adq vw
theorem U0(i:C){nn:C}{S:B (am×D)}(al:c6 a h T)(M:Good a h n)(q:ba T k (.v i))(hl:ks.length≤2)(hm:h (.a6 m)=some (.cq S))(nl:S.lookup (k:am)=none):
  runN ac (nn+2) 27 [.ref (a .kt),E k,.tup (ks.map E),.tup [],.ref m] n=some (E (ks.getD i k),n):=by
 have cm:=(al.opens M).1
 have oo:=(al.opens M).2.1 q
 have nt:=nl▸Am (k:=k) (df M hm)
 exact(cN (nn+1) 27 [D.ref (a aN.kt),E k,D.tup (eB E ks),D.tup [],D.ref m] n rfl rfl _ cm _ oo _ rfl _ nt _ (al.JH M) _ (al.rowAt M q) _ rfl _ rfl _ rfl _ _ (acK (n:=n) (z:=nn) (i:=i) (k:=k) hl))
theorem UZ(i:C):rZ a (.v i):=λ{z h n T k m ks l S} al M q fL hl hs a3 hm ok c7=>Kl (nn:=z+1+7) al M q hm ok λ _ nl _ f=>f (ks.getD i k) n T h S (U0 i al M q hl hm nl) (fL.pick q) (iV.refl al M hm ok)
theorem Km(L:t.open=0):rZ a t:=λ al M q fL hl hs a3 hm ok c7=>Kn al M q hm ok (.inl L)
theorem jk(h:P x):∀y∈ [x],P y:=λ y bI=>jA.mp bI▸h
theorem oX{L:α}(h:P x)(g:P L):∀y∈ [x,L],P y:=λ y bI=>(kh.mp bI).elim (λ e=>e▸h) λ bI=>jk g y bI
theorem d1.one(q:d1 T ks [t])(f:∀j,ks=[j]→ba T j t→X):X:=match ks,q with
 | [j],q=>f j rfl q.1
theorem d1.two{u:ap}(q:d1 T ks [t,u])(f:∀i j,ks=[i,j]→ba T i t→ba T j u→X):X:=match ks,q with
 | [i,j],q=>f i j rfl q.1 q.2.1
theorem U3(t:ap):rZ a t:=by
 induction t with
 |k c=>exact Km rfl
 |v i=>exact UZ i
 |b2 c=>exact Km rfl
 |a u aZ=>exact Dt (dg:=[u]) (jk aZ) (h5 1) rfl (λ l=>jk (h5 _)) (jk (cJ _)) λ q _ f=>q.oW λ j e q=>f _ e ⟨q,trivial⟩ (.inl rfl) λ gm=>gm.one λ fT L p=>⟨.a fT,⟨fT,rfl,p⟩,.inl ⟨j,fT,rfl,rfl,L⟩⟩
 |g1 c u aZ=>exact Dt (dg:=[u]) (jk aZ) (h5 1) rfl (λ l=>jk (h5 _)) (jk (cJ _)) λ q _ f=>q.n2 λ j o e q=>f _ e ⟨q,trivial⟩ (.inr rfl) λ gm=>gm.one λ fT L p=>⟨.g c [fT],⟨o,fT,rfl,p⟩,.inr ⟨c,[j],rfl,L▸rfl⟩⟩
 |g2 c u v aZ ih2=>
  exact Dt (dg:=[u,v]) (oX aZ ih2) (cJ 2) rfl (λ l=>oX (lu (d2 ..)) (lu (iI ..))) (oX (d2 ..) (iI ..)) λ q _ f=>q.n3 λ i j o e q ep=>f _ e ⟨q,ep,trivial⟩ (.inr rfl) λ gm=>gm.two λ jN fT L p f4=>⟨.g c [jN,fT],⟨o,jN,fT,rfl,p,f4⟩,.inr ⟨c,[i,j],rfl,L▸rfl⟩⟩
end
end Mine
end
section
namespace Mine
variable{aI:aT}{bX:B aP}{b d:C}{aa:St}{k:C}{t:ap}{r:aN}{o:a0}{m:C}{J:St}{xs:B D}{v:D}{dr:St→Prop}{jm:qM dr}{step:D→St→Y (B D×St)}{acc:B D}{l:B ap}{ks:B C}
section
variable{a:bH}{h:aT}{n:St}{T:B aP}{ag W bL:B C}{z:C}
structure b0(a:bH)(h:aT)(T:B aP)(b:C)(J:St)(aC:B aP)(H:aT):Prop where
 good:Good a H J
 bT:c6 a H aC
 jn:jY h T H aC b
theorem b0.refl(al:c6 a h T)(M:Good a h n):b0 a h T 0 n T h:=⟨M,al,jY.refl h T⟩
theorem b0.trans{bJ:aT}{cL:B aP}{ao:St}(x:b0 a h T b aa bX aI)(y:b0 a aI bX d ao cL bJ):b0 a h T (b+d) ao cL bJ:=⟨y.good,y.bT,x.jn.trans y.jn⟩
theorem b0.mono(x:b0 a h T b aa bX aI)(q:b≤d):b0 a h T d aa bX aI:=⟨x.good,x.bT,x.jn.mono q⟩
theorem b0.eT(x:b0 a h T b aa bX aI)(q:ba T k t):ba bX k t:=x.jn.eT q
theorem b0.xn(x:b0 a h T b aa bX aI){k:B C}{t:B ap}(q:d1 T k t):d1 bX k t:=q.more λ q=>x.jn.eT q
theorem b0.le(x:b0 a h T b aa bX aI):bX.length≤T.length+b:=x.jn.le
theorem b0.off(x:b0 a h T b aa bX aI)(q:gZ r=false)(e:h r=some o):aI r=some o:=x.jn.off r o q e
theorem b0.a6(x:b0 a h T b aa bX aI)(e:h (.a6 m)=some o):aI (.a6 m)=some o∧aa[m]? =some o:=⟨x.off rfl e,df x.good (x.off rfl e)⟩
theorem b0.s6(g:Gives a h T b t k J){X:Prop}(f:∀aC H,ba aC k t→b0 a h T b J aC H→X):X:=g.b7 λ aC H q al M g=>f aC H q ⟨M,al,g⟩
theorem GI{h:aT}(L:h (.a6 m)=none)(e:h r=some o):r≠ .a6 m:=λ q=>nomatch(q▸L:h r=none).symm.trans e
theorem DT(M:Good a h n)(hm:n.length≤m)(e:h r=some o):r≠ .a6 m:=GI (M.fresh hm) e
theorem b0.kE(x:b0 a h T b aa bX aI)(o:a0):b0 a h T b (aa++[o]) bX aI:=⟨x.good.kE o,x.bT,x.jn⟩
theorem b0.start(al:c6 a h T)(M:Good a h n)(o:a0):b0 a h T 0 (n++[o]) T (up h (.a6 n.length) (some o))∧(up h (.a6 n.length) (some o)) (.a6 n.length)=some o:=
 ⟨⟨M.mH o,al.mH,⟨[],(eZ T).symm⟩,cJ _,λ r c3 _ e=>mJ e (DT M (cJ _) e)⟩,cR _ _ _⟩
theorem b0.put{c3:a0}(x:b0 a h T b aa bX aI)(e:aI (.a6 m)=some o)(hm:h (.a6 m)=none):b0 a h T b (aa.set m c3) bX (up aI (.a6 m) (some c3))∧(up aI (.a6 m) (some c3)) (.a6 m)=some c3:=
 ⟨⟨by have M:=x.good.set (c3:=c3) e;rw[x.good.a6]at M;exact M,x.bT.mH,x.jn.ext,x.jn.le,λ r o k bC=>mJ (x.jn.off r o k bC) (GI hm bC)⟩,cR _ _ _⟩
theorem m0(e:n[m]? =some (.li xs))(hl:xs.length<room):l8 n (.ref m) v=some (n.set m (.li (xs++[v]))):=(an (sT λ xs=>if xs.length<room then some (n.set m (.li (xs++[v])))else none) e).trans (if_pos hl)
theorem hQ(e:n[m]? =some (.li xs)):ml n (.ref m)=true:=an (λ o:Y a0=>match o with|some (.li _)=>true|_=>false) e
theorem PD(e:n[m]? =some (.li xs)):rO n (.ref m)=some (.tup xs):=GN e
theorem hg{step:D→aX→St→Y (e0×St)}{env:aX}(h:dr n): @fE dr jm step [] env n=some (.br env,n):=if_pos h
theorem jF(h:dr n): @lF dr jm step [] acc n=some (acc,n):=if_pos h
theorem h8{out:B D}{x:D}{r:B D}{R:Y (B D×St)}(h:dr n)(e:step x n=some (out,J))(q: @lF dr jm step r (acc++out) J=R): @lF dr jm step (x::r) acc n=R:=(if_pos h).trans (aR e q)
theorem aec(t:ap):t.size≤(t.sub l).size:=by
 induction t with
 |k _=>exact cJ _
 |v _=>exact Bi _
 |a t i=>exact gq i
 |b2 _=>exact cJ _
 |g1 _ t i=>exact gq i
 |g2 _ t u i j=>exact gq (hv i j)
section
variable{X:Prop}
theorem Ko(al:c6 a h T)(M:Good a h n)(q:ba T k t)(fL:d1 T ks l)(hl:ks.length≤2)(hs:(t.sub l).size≤24)(a3:T.length+24<500000)
  (f:∀fl J aC H,runN ac (z+33) 26 [.ref (a .kt),E k,.tup (ks.map E),.tup []] n=some (E fl,J)→ba aC fl (t.sub l)→b0 a h T 24 J aC H→X):X:=by
 have cm:=(al.opens M).1
 have ru:=al.ru M
 have qh:=a' (aec (l:=l) t) hs
 refine q.LB λ r cH=>(rE t).elim (λ L=>?_) λ L=>?_
 ·have oo:=L▸(al.opens M).2.1 q
  exact f k n T h (cN (z+32) 26 [D.ref (a aN.kt),E k,D.tup (eB E ks),D.tup []] n rfl rfl _ ru _ _ (al.row (z:=z+31) M cH) _ cm _ oo _ rfl) ((Pf L).symm▸q) ((b0.refl al M).mono (fu _))
 ·have oo:=L▸(al.opens M).2.1 q
  refine U3 (a:=a) t (z:=z+24-t.size) (k:=k) (m:=n.length) (ks:=ks) (l:=l) (S:=[]) (al.mH (m:=n.length) (x:=some (.cq []))) (M.mH (.cq [])) q fL hl hs (cn (fB qh _) a3) (cR _ _ _) (λ k v e=>nomatch e) (by rw[List.length_nil,jj];omega) λ fl J aC H fC e gm V=>?_
  have e:=(an (λ m=>runN ac (m+8) 27 [.ref (a .kt),E k,.tup (ks.map E),.tup [],D.ref n.length] (n++[a0.cq []])) (Cr (a' qh (iI ..):t.size≤z+24))).symm.trans e
  exact f fl J aC H (cN (z+32) 26 [D.ref (a aN.kt),E k,D.tup (eB E ks),D.tup []] n rfl rfl _ ru _ _ (al.row (z:=z+31) M cH) _ cm _ oo _ rfl _ _ e) gm ⟨V.good,V.bT,V.ext,a' V.le (fB qh _),λ r o c2 e=>V.off r o c2 (DT M (cJ _) e) (mJ e (DT M (cJ _) e))⟩
theorem U4(al:c6 a h T)(M:Good a h n):runN ac (z+2) 26 [.ref (a .kt),E 0,v,.tup []] n=some (E 0,n):=al.b7 λ ag W bL K I=>by
 exact(cN (z+1) 26 [D.ref (a aN.kt),E 0,v,D.tup []] n rfl rfl _ (al.ru M) _ _ (A6 (z:=z) K M (I.prim 0 (aE rfl))) _ ((al.opens M).1) _ ((al.opens M).2.2 0 (aE rfl)) _ rfl)
noncomputable def Dm:bk:=.cons (.ex (.append (.v 4) (.call 26 (.cons (.v 0) (.cons (.v 5) (.cons (.v 2) (.cons (.v 3) .nil))))))) .nil
noncomputable def wL(a:bH)(k:C)(ks:B C)(m:C)(o:Y D):aX:=[some (.ref (a .kt)),some (.tup [E k]),some (.tup (ks.map E)),some (.tup []),some (.ref m),o]
theorem U2(al:c6 a h T)(M:Good a h n)(q:ba T k t)(fL:d1 T ks l)(hl:ks.length≤2)(hs:(t.sub l).size≤24)(a3:T.length+24<500000)
  (f:∀fl J aC H,runN ac (z+34) 30 [.ref (a .kt),.tup [E k],.tup (ks.map E),.tup []] n=some (.tup [E fl],J)→ba aC fl (t.sub l)→b0 a h T 24 J aC H→X):X:=by
 have b2:=(b0.start al M (.li [])).1
 refine Ko (z:=z) b2.bT b2.good q fL hl hs a3 λ fl aa bX aI e gm go=>?_
 have g1:=go.a6 (cR h (.a6 n.length) (some (.li [])))
 have g2:=((b2.trans go).put (c3:=.li ([]++[E fl])) g1.1 (M.fresh (cJ _)))
 have hh:ml (n++[.li []]) (.ref n.length)=true:=hQ (i1 rfl)
 have eA:=m0 (v:=E fl) g1.2 (aE rfl)
 have st:bS ac (runN ac (z+33)) Dm (wL a k ks n.length (some (E k))) (n++[a0.li []])=some (.br (wL a k ks n.length (some (E k))),_):=dm (z+33) Dm (wL a k ks n.length (some (E k))) (n++[a0.li []]) hh _ _ e _ eA
 have gN:=fd (dr:=live (.tup [E k]) [E k]) (jm:=e1 _ _) (step:=λ x aF J=>(di false [5] x aF).bind λ dH=>bS ac (runN ac (z+33)) Dm dH J) (env:=wL a k ks n.length none) trivial (aR (a:=wL a k ks n.length (some (E k))) rfl st) (hg trivial)
 exact f fl _ _ _ (cN (z+33) 30 [D.ref (a aN.kt),D.tup [E k],D.tup (eB E ks),D.tup []] n rfl rfl _ rfl (aE rfl) _ _ gN _ (PD (df g2.1.good g2.2))) gm (g2.1.mono (dh (jj _)))
end
end
end Mine
end
section
namespace Mine
variable{c:C}{α:Type}{i d ae:C}
noncomputable def bd:ap→D
 | .k c=>.tup [.ss [107],E c]
 | .v i=>.tup [.ss [118],E i]
 | .a t=>.tup [.ss [97],bd t]
 | .b2 c=>.tup [.ss [103],E c,.tup []]
 | .g1 c t=>.tup [.ss [103],E c,.tup [bd t]]
 | .g2 c t u=>.tup [.ss [103],E c,.tup [bd t,bd u]]
noncomputable def gY(c:C):B ap→ap
 | [t]=>.g1 c t
 | [t,u]=>.g2 c t u
 |_=>.b2 c
noncomputable def ap.ar(m:C):ap→Prop
 | .k _=>True
 | .v i=>i<m
 | .a t=>t.ar m
 | .b2 _=>True
 | .g1 _ t=>t.ar m
 | .g2 _ t u=>t.ar m∧u.ar m
noncomputable def ap.wf:ap→Prop
 | .k c=>c=7∨c=12∨c=13
 | .v _=>True
 | .a t=>t.wf
 | .b2 c=>iC c
 | .g1 c t=>iC c∧t.wf
 | .g2 c t u=>iC c∧t.wf∧u.wf
structure b5 where
 ah:C
 nm:C
 aM:C
 eM:av
structure cw where
 many:C→C
 up:C→B ap
noncomputable def cw.own(W:cw)(l:C):B ap:=(ck (W.many l)).map .v
noncomputable def cw.dK(W:cw)(ae:C):C→B ap
 |0=>W.own ae
 |d+1=>(W.up (ae-d)).map (ap.sub (W.dK ae d))
structure cw.ok(W:cw):Prop where
 many:∀l,W.many l≤2
 up:∀l,l<3→(W.up (l+1)).length=W.many l∧∀t∈W.up (l+1),t.ar (W.many (l+1))∧t.wf∧t.size≤2
section
variable{ak:B ap→Prop}
@[elab_as_elim] theorem uA(l:B ap)(ec:ak [])(ax:∀t,ak [t])(aH:∀t u,ak [t,u])(cI:∀t u v l,ak (t::u::v::l)):ak l:=match l with
 | []=>ec
 | [t]=>ax t
 | [t,u]=>aH t u
 |t::u::v::l=>cI t u v l
@[elab_as_elim] theorem zX(l:B ap)(h:l.length≤2)(ec:ak [])(ax:∀t,ak [t])(aH:∀t u,ak [t,u]):ak l:=
 uA (ak:=λ l=>l.length≤2→ak l) l (λ _=>ec) (λ t _=>ax t) (λ t u _=>aH t u) (λ _ _ _ l h=>absurd h (Cq (iI 3 l.length))) h
end
theorem WS{l:B ap}(h:l.length≤2):bd (gY c l)= .tup [.ss [103],E c,.tup (l.map bd)]:=zX l h rfl (λ _=>rfl) λ _ _=>rfl
theorem WR{l m:B ap}:(gY c l).sub m=gY c (l.map (ap.sub m)):=uA l rfl (λ _=>rfl) (λ _ _=>rfl) λ _ _ _ _=>rfl
noncomputable def ap.uC:ap→C
 | .b2 c=>c
 | .g1 c _=>c
 | .g2 c _ _=>c
 |_=>0
noncomputable def ap.gl:ap→B ap
 | .g1 _ t=>[t]
 | .g2 _ t u=>[t,u]
 |_=>[]
variable{l m:B ap}{t:ap}
theorem Lf:(gY c l).uC=c:=uA l rfl (λ _=>rfl) (λ _ _=>rfl) λ _ _ _ _=>rfl
theorem Ll(h:l.length≤2):(gY c l).gl=l:=zX l h rfl (λ _=>rfl) λ _ _=>rfl
theorem D1{ug:C}{cf:B ap}(h:l.length≤2)(H:cf.length≤2)(e:gY c l=gY ug cf):c=ug∧l=cf:=
 ⟨Lf.symm.trans ((an ap.uC e).trans Lf),(Ll h).symm.trans ((an ap.gl e).trans (Ll H))⟩
theorem WU(o:iC c):(∀t∈l,t.wf)→(gY c l).wf:=uA l (λ _=>o) (λ t h=>⟨o,h t (.head _)⟩) (λ t u h=>⟨o,h t (.head _),h u (.tail _ (.head _))⟩) λ _ _ _ _ _=>o
theorem WQ{s:C}:(∀t∈l,t.size≤s)→(gY c l).size≤s+s+1:=
 uA l (λ _=>iI ..) (λ t h=>gq (Ia (h t (.head _)))) (λ t u h=>gq (hv (h t (.head _)) (h u (.tail _ (.head _))))) λ _ _ _ _ _=>iI ..
theorem sD{l:B α}{x d:α}(e:l[i]? =some x):l.getD i d=x:=(jz ..).trans (an (Cw · d) e)
theorem WY(ay:i<l.length):(l.map (ap.sub m)).getD i (.v i)=(l.getD i (.v i)).sub m:=sD (i9 (getD_at ay))
theorem Pg:t.ar l.length→(t.sub l).sub m=t.sub (l.map (ap.sub m)):=by
 induction t with
 |k _=>exact λ _=>rfl
 |v i=>exact λ h=>(WY h).symm
 |a t i=>exact λ h=>an ap.a (i h)
 |b2 _=>exact λ _=>rfl
 |g1 c t i=>exact λ h=>an (ap.g1 c) (i h)
 |g2 c t u i j=>exact λ h=>cD (ap.g2 c) (i h.1) (j h.2)
theorem D3{P:α→Prop}{l:B α}{d:α}(hl:∀t∈l,P t)(a1:i<l.length∨P d):P (l.getD i d):=by
 cases e:l[i]? with
 |none=>rw[Li e];exact a1.elim (λ h=>nomatch(h2 h).symm.trans e) id
 |some t=>rw[sD e];exact hl _ (h3 e)
theorem PW{m:C}(hl:∀t∈l,t.ar m):t.ar l.length→(t.sub l).ar m:=by
 induction t with
 |k _=>exact λ _=>trivial
 |v i=>exact λ h=>D3 hl (.inl h)
 |a t i=>exact i
 |b2 _=>exact λ _=>trivial
 |g1 _ t i=>exact i
 |g2 _ t u i j=>exact λ h=>⟨i h.1,j h.2⟩
theorem PZ(hl:∀t∈l,t.wf):t.wf→(t.sub l).wf:=by
 induction t with
 |k _=>exact id
 |v i=>exact λ h=>D3 hl (.inr trivial)
 |a t i=>exact i
 |b2 _=>exact id
 |g1 _ t i=>exact λ h=>⟨h.1,i h.2⟩
 |g2 _ t u i j=>exact λ h=>⟨h.1,i h.2.1,j h.2.2⟩
theorem O0(hc:1≤c)(hl:∀t∈l,t.size≤c):t.size≤1→(t.sub l).size≤c:=by
 have f:∀{X:Prop} {t:ap},t.size+1≤1→X:=@λ _ t h=>absurd (Ib h:t.size≤0) (Cq (Bi t))
 cases t with
 |k _=>exact λ _=>hc
 |v i=>exact λ _=>D3 (P:=λ t:ap=>t.size≤c) hl (.inr hc)
 |a t=>exact f
 |b2 _=>exact λ _=>hc
 |g1 _ t=>exact f
 |g2 _ t u=>exact λ h=>f (t:=t) (a' (gq (d2 ..)) h)
theorem O1(hc:1≤c)(hl:∀t∈l,t.size≤c):t.size≤2→(t.sub l).size≤c+1:=by
 have f:∀{t:ap},t.size≤1→(t.sub l).size≤c+1:=λ h=>lu (O0 hc hl h)
 have g:∀{t:ap},t.size+1≤2→(t.sub l).size+1≤c+1:=λ h=>gq (O0 hc hl (Ib h))
 cases t with
 |a t=>exact g
 |g1 _ t=>exact g
 |g2 _ t u=>exact λ h=>absurd (a' (hv (Bi t) (Bi u)) (Ib h)) (Nat.not_succ_le_self 1)
 |k c=>exact λ _=>f (t:=.k c) (cJ _)
 |v c=>exact λ _=>f (t:=.v c) (cJ _)
 |b2 c=>exact λ _=>f (t:=.b2 c) (cJ _)
theorem Jt{c4:Type}{P:c4→Prop}{f:α→c4}{l:B α}(h:∀x∈l,P (f x)):∀y∈l.map f,P y:=λ y bI=>let⟨x,aA,e⟩:=hu.mp bI;e▸h x aA
theorem GA(h:d+1≤ae):ae- (d+1)+1=ae-d:=Nat.succ_pred_eq_of_pos (Nat.sub_pos_of_lt h)
theorem cw.N1{W:cw}{l:C}:(W.own l).length=W.many l:=(cG ..).trans gB
theorem cw.ok.arg{W:cw}(K:W.ok)(cC:ae≤3):d≤ae→(W.dK ae d).length=W.many (ae-d)∧∀t∈W.dK ae d,t.ar (W.many ae)∧t.wf∧t.size≤d+1:=by
 induction d with
 |zero=>exact λ _=>⟨W.N1,Jt λ i ay=>⟨ga.mp ay,trivial,cJ _⟩⟩
 |succ d aZ=>
  intro a1
  have h:=aZ (yN a1)
  have u:=K.up (ae- (d+1)) (fa (Cs (fa d.succ_pos a1) d.succ_pos) cC)
  rw[GA a1]at u
  exact⟨(cG ..).trans u.1,Jt λ t bD=>⟨PW (λ t bD=>(h.2 t bD).1) (h.1▸(u.2 t bD).1),PZ (λ t bD=>(h.2 t bD).2.1) (u.2 t bD).2.1,O1 (iI ..) (λ t bD=>(h.2 t bD).2.2) (u.2 t bD).2.2⟩⟩
theorem cw.ok.lD{W:cw}(K:W.ok)(cC:ae≤3)(a1:d≤ae):(W.dK ae d).length≤2:=(K.arg cC a1).1▸K.many _
variable{W:cw}
theorem aaJ{l:C}(h:m.length=W.many l):(W.own l).map (ap.sub m)=m:=by
 refine HP ((cG ..).trans (cw.N1.trans h.symm)) λ i ax aH=>?_
 simp only[cw.own,HY,HZ]
 exact sD (h2 aH)
theorem JC(K:W.ok)(cC:ae≤3)(a1:d≤ae){e:C}:d+e≤ae→(W.dK (ae-d) e).map (ap.sub (W.dK ae d))=W.dK ae (d+e):=by
 induction e with
 |zero=>exact λ _=>aaJ (K.arg cC a1).1
 |succ e aZ=>
  intro b3
  have LJ:d+e≤ae:=yN b3
  have u:=(K.up (ae- (d+e+1)) (fa (Cs (fa (d+e).succ_pos b3) (d+e).succ_pos) cC)).2
  have xq:=(K.arg (ae:=ae-d) (a' (nJ ..) cC) (d:=e) (Nat.le_sub_of_add_le' LJ)).1
  rw[Ic]at xq
  rw[GA (d:=d+e) b3]at u
  show((W.up (ae-d-e)).map (ap.sub (W.dK (ae-d) e))).map (ap.sub (W.dK ae d))=(W.up (ae- (d+e))).map (ap.sub (W.dK ae (d+e)))
  rw[tQ,Ic,←aZ LJ]
  exact pS λ t bD=>Pg (xq▸(u t bD).1)
end Mine
end
section
namespace Mine
variable{b9:B a0}{aI:aT}{bX:B aP}{b:C}{aa:St}{v:D}{t u m:C}{H:aT}
section
variable{a:bH}{h:aT}{n:St}{T:B aP}{ag W bL:B C}{z:C}
theorem Good.mm:∀{n:St},Good a h n→Good a h (n++b9):=by
 induction b9 with
 |nil=>exact λ{n} M=>(eZ n).symm▸M
 |cons o b9 aZ=>exact λ{n} M=>jy n [o] b9▸aZ (M.kE o)
theorem b0.mm(x:b0 a h T b aa bX aI)(b9:B a0):b0 a h T b (aa++b9) bX aI:=⟨x.good.mm,x.bT,x.jn⟩
theorem Of:cY .eq (.ss [118]) (.ss [118]) n=some true:=rfl
theorem Od:cY .eq (.ss [97]) (.ss [97]) n=some true:=rfl
theorem vq:cY .eq (.ss [103]) (.ss [103]) n=some true:=rfl
theorem vr:cY .eq (.ss [107]) (.ss [118]) n=some false:=rfl
theorem Oe:cY .eq (.ss [97]) (.ss [118]) n=some false:=rfl
theorem nq:cY .eq (.ss [103]) (.ss [118]) n=some false:=rfl
theorem j2{P:iY}{V:jh}{many:av}{xs:B C}{x:D}{env aF:aX}{b7:ab}{J:St}(e:di many xs x env=some aF)(q:ci P V b7 aF n=some (v,J)):
  ((di many xs x env).bind λ aF=>(hp P V .nil aF n).bind λ q=>if q.1=true then(ci P V b7 aF q.2).bind λ r=>some ([r.1],r.2)else some ([],q.2))=some ([v],J):=aR e (aR rfl ((if_pos rfl).trans (aR q rfl)))
theorem oZ(k:C){z:C}:z+u+k+t=z+k+(t+u):=by rw[pV z u k,mQ (z+k),qT u t]
theorem JB(k:C){z:C}:z+t+k+u=z+k+(t+u):=by rw[pV z t k,mQ (z+k)]
theorem qB{c0 f:C}{b6:B D}{r:Y (D×St)}(q:m=c0)(e:runN ac m f b6 n=r):runN ac c0 f b6 n=r:=q▸e
theorem nv{xs:B D}:rO (n++[.li xs]) (.ref n.length)=some (.tup xs):=GN (i1 rfl)
theorem Fe{K:B a0}:some (v,n++b9++K)=some (v,n++(b9++K)):=an (λ s=>some (v,s)) (jy ..)
noncomputable def u5:ab:=.call 53 (.cons (.v 2) (.cons (.v 1) .nil))
theorem ZM{l:B ap}(hl:l.length≤2){t:ap}:∀{z:C} {n:St},t.ar l.length→∃b9,runN ac (z+1+t.size) 53 [bd t,.tup (l.map bd)] n=some (bd (t.sub l),n++b9):=by
 induction t with
 |k c=>
  intro z n cP
  exact⟨[],v2 (b:=some (bd (.k c),n)) (cN (z+1) 53 [bd (ap.k c),D.tup (eB bd l)] n rfl rfl _ rfl _ vr _ rfl _ vr _ rfl _ vr) (an (λ s=>some (bd (.k c),s)) (eZ n).symm)⟩
 |v i=>
  intro z n cP
  have x:de n (.tup (l.map bd)) (E i)=some (bd (l.getD i (.v i))):=Ak (cG (as:=l) bd▸a' hl (aE rfl)) (i9 (getD_at cP))
  exact⟨[],v2 (b:=some (bd (l.getD i (.v i)),n)) (cN (z+1) 53 [bd (ap.v i),D.tup (eB bd l)] n rfl rfl _ rfl _ Of _ rfl _ x) (an (λ s=>some (bd (l.getD i (.v i)),s)) (eZ n).symm)⟩
 |a t aZ=>
  intro z n cP
  obtain⟨b9,e⟩:=aZ (z:=z) (n:=n) cP
  exact⟨b9,show runN ac (z+1+t.size+1) 53 [bd (.a t),.tup (l.map bd)] n=some (bd (.a (t.sub l)),n++b9)from(cN (z+1+t.size) 53 [bd t.a,D.tup (eB bd l)] n rfl rfl _ rfl _ Oe _ rfl _ Od _ rfl _ _ e)⟩
 |b2 c=>
  intro z n cP
  exact⟨[.li []],show runN ac (z+1+0+1) 53 [bd (.b2 c),.tup (l.map bd)] n=some (bd (.b2 c),n++[.li []])from(cN (z+1) 53 [bd (ap.b2 c),D.tup (eB bd l)] n rfl rfl _ rfl _ nq _ rfl _ nq _ rfl _ vq _ rfl _ rfl _ rfl (aE rfl) _ _ (jF (acc:=[]) trivial) _ nv)⟩
 |g1 c t aZ=>
  intro z n cP
  obtain⟨b9,e⟩:=aZ (z:=z) (n:=n) cP
  have st:ci ac (runN ac (z+1+t.size)) u5 [some (bd (.g1 c t)),some (.tup (l.map bd)),some (bd t)] n=some (bd (t.sub l),n++b9):=(hI (z+1+t.size) u5 [some (bd (ap.g1 c t)),some (D.tup (eB bd l)),some (bd t)] n _ _ e)
  exact⟨b9++[.li [bd (t.sub l)]],v2 (show runN ac (z+1+t.size+1) 53 [bd (.g1 c t),.tup (l.map bd)] n=some (bd (.g1 c (t.sub l)),n++b9++[.li [bd (t.sub l)]])from(cN (z+1+t.size) 53 [bd (ap.g1 c t),D.tup (eB bd l)] n rfl rfl _ rfl _ nq _ rfl _ nq _ rfl _ vq _ rfl _ rfl _ rfl (aE rfl) _ _ (h8 trivial (j2 (aF:=[some (bd (.g1 c t)),some (.tup (l.map bd)),some (bd t)]) rfl st) (jF trivial)) _ nv)) Fe⟩
 |g2 c t u aZ ih2=>
  intro z n cP
  obtain⟨b9,e⟩:=aZ (z:=z+u.size) (n:=n) cP.1
  obtain⟨v8,aB⟩:=ih2 (z:=z+t.size) (n:=n++b9) cP.2
  have e:=qB (oZ 1) e
  have aB:=qB (JB 1) aB
  have eF:ci ac (runN ac (z+1+(t.size+u.size))) u5 [some (bd (.g2 c t u)),some (.tup (l.map bd)),some (bd t)] n=some (bd (t.sub l),n++b9):=(hI (z+1+(t.size+u.size)) u5 [some (bd (ap.g2 c t u)),some (D.tup (eB bd l)),some (bd t)] n _ _ e)
  have jU:ci ac (runN ac (z+1+(t.size+u.size))) u5 [some (bd (.g2 c t u)),some (.tup (l.map bd)),some (bd u)] (n++b9)=some (bd (u.sub l),n++b9++v8):=(hI (z+1+(t.size+u.size)) u5 [some (bd (ap.g2 c t u)),some (D.tup (eB bd l)),some (bd u)] (n++b9) _ _ aB)
  exact⟨b9++(v8++[.li [bd (t.sub l),bd (u.sub l)]]),v2 (show runN ac (z+1+(t.size+u.size)+1) 53 [bd (.g2 c t u),.tup (l.map bd)] n=some (bd (.g2 c (t.sub l) (u.sub l)),n++b9++v8++[.li [bd (t.sub l),bd (u.sub l)]])from(cN (z+1+(t.size+u.size)) 53 [bd (ap.g2 c t u),D.tup (eB bd l)] n rfl rfl _ rfl _ nq _ rfl _ nq _ rfl _ vq _ rfl _ rfl _ rfl (aE rfl) _ _ (h8 trivial (j2 (aF:=[some (bd (.g2 c t u)),some (.tup (l.map bd)),some (bd t)]) rfl eF) (h8 trivial (j2 (aF:=[some (bd (.g2 c t u)),some (.tup (l.map bd)),some (bd u)]) rfl jU) (jF trivial))) _ nv)) (Fe.trans Fe)⟩
noncomputable def qi:B Nat:=[115,116,111,114,101]
noncomputable def Ar:B Nat:=[109,97,110,121]
noncomputable def As:B Nat:=[117,112]
structure fP(a:bH)(h:aT)(W:cw):Prop where
 w:∃O,h .w=some (.ds O)∧O.lookup qi=some (.ref (a .store))∧O.lookup Ar=some (.ref (a .eb))∧O.lookup As=some (.ref (a .fA))
 store:∃aG,h .store=some (.bF 3 aG)∧aG.lookup 35=some (.ref (a .kt))
 many:h .eb=some (.li [E (W.many 0),E (W.many 1),E (W.many 2),E (W.many 3)])
 up:h .fA=some (.li [.tup [],.tup ((W.up 1).map bd),.tup ((W.up 2).map bd),.tup ((W.up 3).map bd)])
 ok:W.ok
variable{W:cw}
noncomputable def Nc:aN→av
 | .w| .store| .eb| .fA=>true
 |_=>false
theorem fP.keep(ae:fP a h W)(q:∀r o,Nc r=true→h r=some o→H r=some o):fP a H W:=
 ⟨let⟨O,e,k⟩:=ae.w;⟨O,q _ _ rfl e,k⟩,let⟨aG,e,k⟩:=ae.store;⟨aG,q _ _ rfl e,k⟩,q _ _ rfl ae.many,q _ _ rfl ae.up,ae.ok⟩
theorem fP.mH(ae:fP a h W){x:Y a0}:fP a (Mine.up h (.a6 m) x) W:=ae.keep λ r o k e=>mJ e λ L=>jw ((an Nc L).symm.trans k)
theorem fP.off(ae:fP a h W)(q:∀r o,gZ r=false→h r=some o→H r=some o):fP a H W:=
 ⟨let⟨O,e,k⟩:=ae.w;⟨O,q _ _ rfl e,k⟩,let⟨aG,e,k⟩:=ae.store;⟨aG,q _ _ rfl e,k⟩,q _ _ rfl ae.many,q _ _ rfl ae.up,ae.ok⟩
theorem fP.go(ae:fP a h W)(x:b0 a h T b aa bX aI):fP a aI W:=ae.off λ r o k e=>x.off k e
theorem uT{s:B C}{O:B (B C×D)}(e:n[m]? =some (.ds O)):de n (.ref m) (.ss s)=O.lookup s:=an (rj (.ss s)) e
theorem fP.kt(ae:fP a h W)(M:Good a h n):de n (.ref (a .w)) (.ss [115,116,111,114,101])=some (.ref (a .store))∧d7 n (.ref (a .store)) 35=some (.ref (a .kt)):=
 let⟨_,e,k,_⟩:=ae.w
 let⟨_,f,ct⟩:=ae.store
 ⟨(uT (M.at_ _ _ e)).trans k,(fk (M.at_ _ _ f)).trans ct⟩
end
end Mine
end
section
namespace Mine
section
variable{a:bH}{h:aT}{n:St}{T:B aP}{z:C}{W:cw}
theorem b0.oi{aI:aT}{bX:B aP}{b:C}{aa:St}(x:b0 a h T b aa bX aI):mu ac aa 76 (.ref (a .kt))=some 2:=x.bT.oi x.good
noncomputable def HN(a:bH)(m:C)(h:aT)(n:St)(T:B aP)(t:ap)(b:C):Prop:=∀{X:Prop},(∀k J aC H,runN ac m 54 [.ref (a .w),bd t] n=some (E k,J)→ba aC k t→b0 a h T b J aC H→X)→X
noncomputable def u3:ab:=.call 54 (.cons (.v 0) (.cons (.v 3) .nil))
noncomputable def ql(a:bH)(t:ap)(o:Y D):aX:=[some (.ref (a .w)),some (bd t),some (.ref (a .kt)),o]
theorem ZI{t:ap}:∀{z:C} {h:aT} {n:St} {T:B aP},fP a h W→c6 a h T→Good a h n→t.wf→t.size≤24→T.length+t.size<500000→HN a (z+7+t.size) h n T t t.size:=by
 induction t with
 |k c=>
  intro z h n T ae al M wf hs a3 X f
  have dy:=(ae.kt M).1
  have eE:=(ae.kt M).2
  refine f c n T h (cN (z+7) 54 [D.ref (a aN.w),bd (ap.k c)] n rfl rfl _ dy _ eE _ rfl _ vr _ rfl _ vr _ rfl _ vr _ rfl) ?_ ((b0.refl al M).mono (fu _))
  exact al.b7 λ ag y' bL K I=>⟨rfl,wf,I.prim c (by have:c=7∨c=12∨c=13:=wf;omega)⟩
 |v i=>
  intro z h n T ae al M wf hs a3 X f
  have dy:=(ae.kt M).1
  have eE:=(ae.kt M).2
  exact rG (z:=z+1) al M (r:=.v i) (t:=.v i) rfl hs (mR a3) λ k J e g=>b0.s6 g λ aC H q go=>f k J aC H (cN (z+7) 54 [D.ref (a aN.w),bd (ap.v i)] n rfl rfl _ dy _ eE _ rfl _ Of _ (al.oi M) _ rfl _ _ e) q go
 |a t aZ=>
  intro z h n T ae al M wf hs a3 X f
  have dy:=(ae.kt M).1
  have eE:=(ae.kt M).2
  have a3:=mR a3
  refine aZ (z:=z) ae al M wf (yN hs) a3 λ k aa bX aI e q go=>?_
  refine rG (z:=z+1+t.size) go.bT go.good (r:=.a k) (t:=.a t) ⟨k,rfl,q⟩ hs (xx go.le a3) λ ct ao aB g=>b0.s6 g λ cL bJ cO b8=>?_
  have aB:=qB (pV (z+1) t.size 6) aB
  exact f ct ao cL bJ (show runN ac (z+7+t.size+1) 54 [.ref (a .w),bd (.a t)] n=some (E ct,ao)from(cN (z+7+t.size) 54 [D.ref (a aN.w),bd t.a] n rfl rfl _ dy _ eE _ rfl _ Oe _ rfl _ Od _ (al.oi M) _ rfl _ _ e _ _ aB)) cO (go.trans b8)
 |b2 c=>
  intro z h n T ae al M wf hs a3 X f
  have dy:=(ae.kt M).1
  have eE:=(ae.kt M).2
  have b2:=(b0.start al M (.li [])).1
  refine rG (z:=z+1) b2.bT b2.good (r:=.g c []) (t:=.b2 c) ⟨wf,rfl⟩ hs (mR a3) λ ct ao aB g=>b0.s6 g λ cL bJ cO b8=>?_
  exact f ct ao cL bJ (cN (z+7) 54 [D.ref (a aN.w),bd (ap.b2 c)] n rfl rfl _ dy _ eE _ rfl _ nq _ rfl _ nq _ rfl _ vq _ (al.oi M) _ rfl _ rfl _ rfl (aE rfl) _ _ (jF (acc:=[]) trivial) _ nv _ _ aB) cO (b2.trans b8)
 |g1 c t aZ=>
  intro z h n T ae al M wf hs a3 X f
  have dy:=(ae.kt M).1
  have eE:=(ae.kt M).2
  have a3:=mR a3
  refine aZ (z:=z) ae al M wf.2 (yN hs) a3 λ k aa bX aI e q go=>?_
  have en:=(b0.start go.bT go.good (.li [E k])).1
  refine rG (z:=z+1+t.size) en.bT en.good (r:=.g c [k]) (t:=.g1 c t) ⟨wf.1,k,rfl,q⟩ hs (xx go.le a3) λ ct ao aB g=>b0.s6 g λ cL bJ cO b8=>?_
  have aB:=qB (pV (z+1) t.size 6) aB
  have eF:ci ac (runN ac (z+7+t.size)) u3 (ql a (.g1 c t) (some (bd t))) n=some (E k,aa):=(hI (z+7+t.size) u3 (ql a (ap.g1 c t) (some (bd t))) n _ _ e)
  exact f ct ao cL bJ (show runN ac (z+7+t.size+1) 54 [.ref (a .w),bd (.g1 c t)] n=some (E ct,ao)from(cN (z+7+t.size) 54 [D.ref (a aN.w),bd (ap.g1 c t)] n rfl rfl _ dy _ eE _ rfl _ nq _ rfl _ nq _ rfl _ vq _ (al.oi M) _ rfl _ rfl _ rfl (aE rfl) _ _ (h8 trivial (j2 (aF:=ql a (.g1 c t) (some (bd t))) rfl eF) (jF trivial)) _ nv _ _ aB)) cO ((go.trans (en.trans b8)).mono (dh (an (t.size+·) (jj 1))))
 |g2 c t u aZ ih2=>
  intro z h n T ae al M wf hs a3 X f
  have dy:=(ae.kt M).1
  have eE:=(ae.kt M).2
  have a3:=mR a3
  have jM:t.size+u.size≤24:=yN hs
  refine aZ (z:=z+u.size) ae al M wf.2.1 (a' (d2 ..) jM) (E4 a3) λ k aa bX aI e q go=>?_
  refine ih2 (z:=z+t.size) (ae.go go) go.bT go.good wf.2.2 (a' (iI ..) jM) (AC go.le a3) λ d9 ao cL bJ aB cO b8=>?_
  have en:=(b0.start b8.bT b8.good (.li [E k,E d9])).1
  have qf:=go.trans b8
  refine rG (z:=z+1+(t.size+u.size)) en.bT en.good (r:=.g c [k,d9]) (t:=.g2 c t u) ⟨wf.1,k,d9,rfl,b8.eT q,cO⟩ hs (xx qf.le a3) λ ct bW bZ g=>b0.s6 g λ lB cQ j8 jL=>?_
  have bZ:=qB (pV (z+1) (t.size+u.size) 6) bZ
  have e:=qB (oZ 7) e
  have aB:=qB (JB 7) aB
  have eF:ci ac (runN ac (z+7+(t.size+u.size))) u3 (ql a (.g2 c t u) (some (bd t))) n=some (E k,aa):=(hI (z+7+(t.size+u.size)) u3 (ql a (ap.g2 c t u) (some (bd t))) n _ _ e)
  have jU:ci ac (runN ac (z+7+(t.size+u.size))) u3 (ql a (.g2 c t u) (some (bd u))) aa=some (E d9,ao):=(hI (z+7+(t.size+u.size)) u3 (ql a (ap.g2 c t u) (some (bd u))) aa _ _ aB)
  exact f ct bW lB cQ (show runN ac (z+7+(t.size+u.size)+1) 54 [.ref (a .w),bd (.g2 c t u)] n=some (E ct,bW)from(cN (z+7+(t.size+u.size)) 54 [D.ref (a aN.w),bd (ap.g2 c t u)] n rfl rfl _ dy _ eE _ rfl _ nq _ rfl _ nq _ rfl _ vq _ (al.oi M) _ rfl _ rfl _ rfl (aE rfl) _ _ (h8 trivial (j2 (aF:=ql a (.g2 c t u) (some (bd t))) rfl eF) (h8 trivial (j2 (aF:=ql a (.g2 c t u) (some (bd u))) rfl jU) (jF trivial))) _ nv _ _ bZ)) j8 ((qf.trans (en.trans jL)).mono (dh (an (t.size+u.size+·) (jj 1))))
end
end Mine
end
section
namespace Mine
variable{k l:C}{t:ap}{o:Y D}{P:C→Prop}{ae:C}{lT:aX→St→Y (av×St)}{body:aX→St→Y (e0×St)}{f:C}{env:aX}{aa:St}
section
variable{a:bH}{h:aT}{n:St}{T:B aP}{z:C}{W:cw}
theorem Pe{s c:C}(h:s≤c):z+c-s+k+s=z+k+c:=by rw[pV,Cr (Ia h),pV]
theorem ES{l:B ap}(hl:l.length≤2)(hs:t.size≤24)(cP:t.ar l.length):∃b9,runN ac (z+25) 53 [bd t,.tup (l.map bd)] n=some (bd (t.sub l),n++b9):=
 let⟨b9,e⟩:=ZM hl (t:=t) (z:=z+24-t.size) (n:=n) cP
 ⟨b9,qB (Pe hs) e⟩
theorem xr(ae:fP a h W)(al:c6 a h T)(M:Good a h n)(wf:t.wf)(hs:t.size≤24)(a3:T.length+24<500000):HN a (z+31) h n T t 24:=λ f=>
 ZI (z:=z+24-t.size) ae al M wf hs (cn (fB hs _) a3) λ k J aC H e q go=>f k J aC H (qB (Pe hs) e) q (go.mono hs)
noncomputable def qD(bi aV:D)(l:B ap)(aW:D)(o:Y D):aX:=[some bi,some aV,some (.tup (l.map bd)),some aW,o]
noncomputable def Gl:ab:=.call 53 (.cons (.v 4) (.cons (.v 2) .nil))
noncomputable def adZ(z:C)(bi aV:D)(l:B ap)(aW:D)(aO cf dg acc:B D)(o:Y D)(n:St):Y (B D×St):=@lF (live (.tup aO) cf) (e1 (.tup aO) cf) (λ x ao=>(di false [4] x (qD bi aV l aW o)).bind λ aF=>(hp ac (runN ac (z+25)) .nil aF ao).bind λ q=>if q.1=true then(ci ac (runN ac (z+25)) Gl aF q.2).bind λ r=>some ([r.1],r.2)else some ([],q.2)) dg acc n
theorem ad0{l:B ap}(hl:l.length≤2){bi aV aW:D}{aO:B D}{cf:B D}{dg:B ap}:∀{acc:B D} {n:St},(∀t∈dg,t.ar l.length∧t.size≤24)→∃b9,adZ z bi aV l aW aO cf (dg.map bd) acc o n=some (acc++(dg.map (ap.sub l)).map bd,n++b9):=by
 induction dg with
 |nil=>exact λ{acc n} _=>⟨[],v2 (b:=some (acc,n)) (jF trivial) (by rw[eZ];exact an (λ l=>some (l,n)) (eZ acc).symm)⟩
 |cons u dg aZ=>
  intro acc n dS
  obtain⟨b9,e⟩:=ES (z:=z) (n:=n) hl (dS u (.head _)).2 (dS u (.head _)).1
  obtain⟨v8,aB⟩:=aZ (acc:=acc++[bd (u.sub l)]) (n:=n++b9) (λ t bD=>dS t (.tail _ bD))
  have eF:ci ac (runN ac (z+25)) Gl (qD bi aV l aW (some (bd u))) n=some (bd (u.sub l),n++b9):=(hI (z+25) Gl (qD bi aV l aW (some (bd u))) n _ _ e)
  exact⟨b9++v8,(h8 trivial (j2 (aF:=qD bi aV l aW (some (bd u))) rfl eF) aB).trans (by rw[jy,jy];rfl)⟩
@[elab_as_elim] theorem nb(l:C)(hl:l≤3)(rF:P 0)(gk:P 1)(fU:P 2)(eN:P 3):P l:=match l,hl with
 |0,_=>rF
 |1,_=>gk
 |2,_=>fU
 |3,_=>eN
@[elab_as_elim] theorem sS(l:C)(hl:l≤2)(rF:P 0)(gk:P 1)(fU:P 2):P l:=match l,hl with
 |0,_=>rF
 |1,_=>gk
 |2,_=>fU
theorem fP.zi(ae:fP a h W)(M:Good a h n):de n (.ref (a .w)) (.ss [109,97,110,121])=some (.ref (a .eb))∧∀l,l≤3→de n (.ref (a .eb)) (E l)=some (E (W.many l)):=
 ⟨let⟨_,e,_,k,_⟩:=ae.w;(uT (M.at_ _ _ e)).trans k,λ l hl=>j7 (M.at_ _ _ ae.many) (nb l hl rfl rfl rfl rfl)⟩
theorem fP.JJ(ae:fP a h W)(M:Good a h n):de n (.ref (a .w)) (.ss [117,112])=some (.ref (a .fA))∧∀l,l<3→de n (.ref (a .fA)) (E (l+1))=some (.tup ((W.up (l+1)).map bd)):=
 ⟨let⟨_,e,_,_,k⟩:=ae.w;(uT (M.at_ _ _ e)).trans k,λ l hl=>j7 (M.at_ _ _ ae.up) (sS l (ls hl) rfl rfl rfl)⟩
noncomputable def aak:ab:=.tup (.cons (.ss [118]) (.cons (.v 2) .nil))
theorem ZL(ae:fP a h W)(M:Good a h n)(hl:l≤3):∃b9,runN ac (z+1) 56 [.ref (a .w),E l] n=some (.tup ((W.own l).map bd),n++b9):=by
 have eJ:=(ae.zi M).1
 have dN:=(ae.zi M).2 l hl
 have hm:=ae.ok.many l
 have st:∀i o,(di false [2] (E i) [some (.ref (a .w)),some (E l),o]).bind _=some ([bd (.v i)],n):=λ i o=>j2 (aF:=[some (.ref (a .w)),some (E l),some (E i)]) (b7:=aak) (V:=runN ac z) (P:=ac) rfl rfl
 unfold cw.own
 generalize W.many l=m at*
 refine sS (P:=λ m=>de n (.ref (a .eb)) (E l)=some (E m)→∃b9,runN ac (z+1) 56 [.ref (a .w),E l] n=some (.tup (((ck m).map ap.v).map bd),n++b9)) m hm (λ dN=>?_) (λ dN=>?_) (λ dN=>?_) dN
 ·exact⟨[.li []],cN z 56 [D.ref (a aN.w),E l] n rfl rfl _ eJ _ dN _ rfl _ rfl (aE rfl) _ _ (jF (acc:=[]) trivial) _ nv⟩
 ·exact⟨[.li [bd (.v 0)]],cN z 56 [D.ref (a aN.w),E l] n rfl rfl _ eJ _ dN _ rfl _ rfl (aE rfl) _ _ (h8 trivial (st 0 _) (jF trivial)) _ nv⟩
 ·exact⟨[.li [bd (.v 0),bd (.v 1)]],cN z 56 [D.ref (a aN.w),E l] n rfl rfl _ eJ _ dN _ rfl _ rfl (aE rfl) _ _ (h8 trivial (st 0 _) (h8 trivial (st 1 _) (jF trivial))) _ nv⟩
noncomputable def lL(W:cw)(ae k:C):B D:=(ck k).map λ d=>.tup [E (ae-d),.tup ((W.dK ae d).map bd)]
theorem M1:lL W ae (k+1)=lL W ae k++[.tup [E (ae-k),.tup ((W.dK ae k).map bd)]]:=by
 unfold lL;rw[Ch,nF];rfl
theorem Y2:kD .sub (E (l+1)) (.ii 1)=some (E l):=an (λ i=>some (D.ii i)) (QK l 1)
theorem W':cY .gt (E (l+1)) (.ii 0) n=some true:=an some (iO (QM.mpr l.succ_pos))
theorem Ha{aF:aX}{ao:St}{R:Y (e0×St)}(t:lT env n=some (true,aa))(b:body env aa=some (.br aF,ao))(r:oC lT body f aF ao=R):oC lT body (f+1) env n=R:=aR t ((if_pos rfl).trans (aR b r))
theorem P0(t:lT env n=some (false,aa)):oC lT body (f+1) env n=some (.br env,aa):=aR t (if_neg mM)
noncomputable def M3:bk:=.cons (.asg 2 (.jc (.comp (.call 53 (.cons (.v 4) (.cons (.v 2) .nil))) [4] false (.aq (.aq (.v 0) (.ss [117,112])) (.v 1)) (.nil)))) (.cons (.aug 1 .sub (.ii 1)) (.cons (.ex (.append (.v 3) (.tup (.cons (.v 1) (.cons (.v 2) .nil))))) .nil))
noncomputable def EZ:Mine.T:=.cmp .gt (.v 1) (.ii 0)
theorem Z3{m:C}(cC:ae≤3)(hm:h (.a6 m)=none){X:Prop}:∀{d f:C} {n:St} {aI:aT},l+d=ae→fP a aI W→b0 a h T 0 n T aI→aI (.a6 m)=some (.li (lL W ae (d+1)))→
  (∀v J H,oC (fs ac (runN ac (z+25)) EZ) (bS ac (runN ac (z+25)) M3) (f+l+1) (qD (.ref (a .w)) (E l) (W.dK ae d) (.ref m) o) n=some (.br (qD (.ref (a .w)) (E 0) v (.ref m) o),J)→b0 a h T 0 J T H→H (.a6 m)=some (.li (lL W ae (ae+1)))→X)→X:=by
 induction l with
 |zero=>
  intro d f n aI e lZ go aA k
  exact k _ n aI (P0 (je (z+25) EZ (qD (.ref (a .w)) (E 0) (W.dK ae d) (.ref m) o) n _ rfl)) go ((jj d).symm.trans e▸aA)
 |succ l aZ=>
  intro d f n aI e lZ go aA k
  have pb:ae-d=l+1:=Nat.sub_eq_of_eq_add e.symm
  have Vw:ae- (d+1)=l:=an Nat.pred pb
  have pm:l<3:=fa (e▸d2 (l+1) d) cC
  have afL:=(lZ.JJ go.good).1
  have jd:=(lZ.JJ go.good).2 l pm
  have hf:=(lZ.ok.arg cC (d:=d) (e▸iI ..)).1
  have p:=lZ.ok.up l pm
  have oZ:(W.up (l+1)).map (ap.sub (W.dK ae d))=W.dK ae (d+1):=pb▸rfl
  obtain⟨b9,q'⟩:=ad0 (z:=z) (bi:=.ref (a .w)) (aV:=E (l+1)) (aW:=.ref m) (o:=o) (aO:=(W.up (l+1)).map bd) (cf:=(W.up (l+1)).map bd) (acc:=[]) (n:=n) (l:=W.dK ae d) (dg:=W.up (l+1)) (hf▸lZ.ok.many _) (λ t bD=>⟨hf▸pb▸(p.2 t bD).1,a' (p.2 t bD).2.2 (aE rfl)⟩)
  rw[oZ]at q'
  have a3:((W.up (l+1)).map bd).length≤100000:=(cG (as:=W.up (l+1)) bd).symm▸p.1.symm▸a' (lZ.ok.many l) (aE rfl)
  have cW:=(go.mm b9).kE (.li ((W.dK ae (d+1)).map bd))
  have LW:=df cW.good aA
  have eA:=m0 (v:=.tup [E l,.tup ((W.dK ae (d+1)).map bd)]) LW (by unfold lL;rw[cG,gB];exact cn (gq (a' (e▸iI d (l+1)) cC)) (aE rfl))
  have b8:=cW.put (c3:=.li (lL W ae (d+1)++[.tup [E l,.tup ((W.dK ae (d+1)).map bd)]])) aA hm
  refine aZ (d:=d+1) (f:=f) ((pV ..).trans e) lZ.mH b8.1 (b8.2.trans (by rw[M1 (k:=d+1),Vw])) λ v J H kx hN sP=>k v J H (Ha (aa:=n) ?_ ?_ kx) hN sP
  ·exact(je (z+25) EZ (qD (D.ref (a aN.w)) (E (l+1)) (W.dK ae d) (D.ref m) o) n _ W')
  ·exact(dm (z+25) M3 (qD (D.ref (a aN.w)) (E (l+1)) (W.dK ae d) (D.ref m) o) n _ afL _ jd _ rfl a3 _ _ q' _ nv _ Y2 (hQ LW) _ eA)
end
end Mine
end
section
namespace Mine
variable{x m i:C}{xs:B C}
section
variable{a:bH}{h:aT}{n:St}{T:B aP}{z:C}{W:cw}{X:Prop}
theorem Lc(M:Good a h n){b9:B a0}:h (.a6 (n++b9).length)=none:=M.fresh (fh (as:=n)▸d2 ..)
theorem ER(ae:fP a h W)(al:c6 a h T)(M:Good a h n){l:C}(hl:l≤3)(f:∀m J H,runN ac (z+26) 57 [.ref (a .w),E l] n=some (.ref m,J)→b0 a h T 0 J T H→H (.a6 m)=some (.li (lL W l (l+1)))→h (.a6 m)=none→X):X:=by
 obtain⟨b9,e⟩:=ZL (z:=z+24) ae M hl
 have b2:=(b0.start al (M.mm (b9:=b9)) (.li (lL W l 1)))
 refine Z3 (z:=z) (ae:=l) (m:=(n++b9).length) (h:=h) hl (Lc M) (l:=l) (d:=0) (f:=59-l) (o:=none) rfl (ae.go b2.1) b2.1 b2.2 λ v J H kx hN aA=>?_
 rw[Cr (a' hl (aE rfl))]at kx
 exact f (n++b9).length J H (cN (z+25) 57 [D.ref (a aN.w),E l] n rfl rfl _ _ e _ _ kx) hN aA (Lc M)
theorem zm:fH .add (E x) (.ii 1)=some (E (x+1)):=rfl
theorem sr(hm:0<m):fH .mod (E x) (E m)=some (E (x%m)):=
 (if_neg (Int.natCast_ne_zero_iff_pos.mpr hm)).trans (an (λ i=>some (D.ii i)) (Int.fmod_eq_emod_of_nonneg _ (yy m)))
noncomputable def pl:B Nat:=[105,110]
noncomputable def i7:B Nat:=[97,116]
noncomputable def K5:B Nat:=[0,1,1,0,0,1,3,0,0,2,0,1,0,0,1,1,0,0,0,0,2,0,0]
theorem Ps{l:B C}(hl:l.length≤1000)(ay:i<l.length):de n (.tup (l.map E)) (E i)=some (E (l.getD i 0)):=Ak (cG (as:=l) E▸hl) (i9 (getD_at ay))
theorem YJ(e:n[m]? =some (.li (xs.map E)))(ay:i<xs.length):de n (.ref m) (E i)=some (E (xs.getD i 0)):=j7 e (i9 (getD_at ay))
theorem a5{r bw:aN}(h:(r.ctorIdx==bw.ctorIdx)=false):r≠bw:=λ e=>jw (((lE r.ctorIdx).symm.trans (an (λ L:aN=>r.ctorIdx==L.ctorIdx) e)).trans h)
theorem YQ{α:Type}(f:am→am→Y α)(i j:am):kC f (.ii i) (.ii j)=f i j:=rfl
theorem Um(x y:D):fH .mul x y=kC AH x y:=rfl
theorem T4(h:x<100000):fH .mul (.ii 5) (E x)=some (E (5*x)):=by
 have:(small 5&&small (x:am))=true:=by unfold small;simp;omega
 unfold E
 rw[Um,YQ,AH,if_pos this]
 congr 2
theorem MU{O:B (B C×D)}{at_:C}(M:Good a h n)(cS:h .w=some (.ds O))(aA:h .dR=some (.li (xs.map E)))(dy:O.lookup i7=some (E at_))(eE:(c8 O i7 (E (at_+1))).lookup pl=some (.ref (a .dR)))(j6:at_<100000)(sH:O.length<1000)(hm:0<m)
  (f:∀x J,x<m→runN ac (z+1) 52 [.ref (a .w),E m] n=some (E x,J)→Good a (up h .w (some (.ds (c8 O i7 (E (at_+1)))))) J→X):X:=by
 have dG:=M.set (c3:=.ds (c8 O i7 (E (at_+1)))) cS
 have jo:=(uT (s:=i7) (M.at_ _ _ cS)).trans dy
 have eF:j' n (.ref (a .w)) (.ss i7) (E (at_+1))=some (n.set (a .w) (.ds (c8 O i7 (E (at_+1))))):=(an (rL n (a .w) (.ss i7) (E (at_+1))) (M.at_ _ _ cS)).trans (if_pos (fa sH (aE rfl)))
 have uQ:=(uT (s:=pl) (dG.at_ _ _ (cR _ _ _))).trans eE
 have kQ:=dG.at_ .dR _ ((bP _ _ (a5 rfl)).trans aA)
 have len:=(rp kQ).trans (an (λ z:C=>some (z:am)) (cG E))
 by_cases q:at_<xs.length
 ·exact f (xs.getD at_ 0%m) _ (tU _ hm) (cN z 52 [D.ref (a aN.w),E m] n rfl rfl _ jo _ zm _ eF _ uQ _ len _ (jG m1 q) _ uQ _ (YJ kQ q) _ (sr hm)) dG
 ·by_cases cO:at_<23
  ·exact f (K5.getD at_ 0%m) _ (tU _ hm) (cN z 52 [D.ref (a aN.w),E m] n rfl rfl _ jo _ zm _ eF _ uQ _ len _ (iN m1 q) _ rfl _ (jG (m1 (y:=23)) cO) _ (Ps (l:=K5) (aE rfl) cO) _ (sr hm)) dG
  ·exact f ((5*at_+3)%m) _ (tU _ hm) (cN z 52 [D.ref (a aN.w),E m] n rfl rfl _ jo _ zm _ eF _ uQ _ len _ (iN m1 q) _ rfl _ (iN (m1 (y:=23)) cO) _ (T4 j6) _ zm _ (sr hm)) dG
end
end Mine
end
section
namespace Mine
variable{x y:C}{X:Prop}{m:C}{q:aN→Prop}{r bw:aN}{o:Y a0}{aI:aT}{b:C}{cx:bH}
section
variable{a:bH}{h:aT}{n:St}{T:B aP}{z:C}{W:cw}
theorem pickK:de n (.tup [.ii 7,.ii 13,.ii 12]) (E (x%3))=some (E ([7,13,12].getD (x%3) 0)):=Ps (l:=[7,13,12]) (aE rfl) (tU _ (aE rfl))
theorem acJ:ap.wf (.k ([7,13,12].getD (x%3) 0)):=sS (P:=λ k=>ap.wf (.k ([7,13,12].getD k 0))) _ (ls (tU _ (aE rfl))) (.inl rfl) (.inr (.inr rfl)) (.inr (.inl rfl))
theorem mb:cY .eq (E x) (.ii y) n=some (decide (x=y)):=an some (q9.mpr Int.ofNat_inj)
theorem nV:cY .gt (E x) (.ii y) n=some (decide (y<x)):=an some (q9.mpr B4)
theorem ZO{O:B (B C×D)}{xs:B C}{at_:C}(M:Good a h n)(cS:h .w=some (.ds O))(aA:h .dR=some (.li (xs.map E)))(dy:O.lookup i7=some (E at_))(eE:(c8 O i7 (E (at_+1))).lookup pl=some (.ref (a .dR)))(j6:at_<100000)(sH:O.length<1000)
  (f:∀t J,runN ac (z+2) 55 [.ref (a .w),E m] n=some (bd t,J)→Good a (up h .w (some (.ds (c8 O i7 (E (at_+1)))))) J→t.ar m∧t.wf∧t.size≤2→X):X:=by
 refine MU (z:=z) (m:=6) M cS aA dy eE j6 sH (aE rfl) λ x J ag' e dG=>?_
 have iM:=sr (x:=x) (m:=3) (aE rfl)
 have q:∀p:ap,p.ar m∧p.wf∧p.size≤1→(p.ar m∧p.wf∧p.size+1≤2)∧(p.ar m∧(iC 70∧p.wf)∧p.size+1≤2)∧p.ar m∧p.wf∧p.size≤2:=λ p ⟨v,w,s⟩=>⟨⟨v,w,gq s⟩,⟨v,⟨.inr ⟨aE rfl,cJ _⟩,w⟩,gq s⟩,v,w,lu s⟩
 have gm:=q (.k ([7,13,12].getD (x%3) 0)) ⟨trivial,acJ,cJ _⟩
 by_cases oF:x=3
 ·by_cases c:0<m
  ·have uh:x<4:=oF▸cJ 4
   have A3:=q (.v (x%m)) ⟨tU _ c,trivial,cJ _⟩
   exact f (.a (.v (x%m))) J (cN (z+1) 55 [D.ref (a aN.w),E m] n rfl rfl _ _ e _ iM _ pickK _ (jG (nV (y:=0)) c) _ (jG (m1 (y:=4)) uh) _ (sr c) _ (jG (mb (y:=3)) oF)) dG A3.1
  ·exact f (.a (.k ([7,13,12].getD (x%3) 0))) J (cN (z+1) 55 [D.ref (a aN.w),E m] n rfl rfl _ _ e _ iM _ pickK _ (iN (nV (y:=0)) c) _ (jG (mb (y:=3)) oF)) dG gm.1
 ·by_cases c:0<m∧x<4
  ·have A3:=q (.v (x%m)) ⟨tU _ c.1,trivial,cJ _⟩
   by_cases d5:x=2
   ·exact f (.g1 70 (.v (x%m))) J (cN (z+1) 55 [D.ref (a aN.w),E m] n rfl rfl _ _ e _ iM _ pickK _ (jG (nV (y:=0)) c.1) _ (jG (m1 (y:=4)) c.2) _ (sr c.1) _ (iN (mb (y:=3)) oF) _ (jG (mb (y:=2)) d5)) dG A3.2.1
   ·exact f (.v (x%m)) J (cN (z+1) 55 [D.ref (a aN.w),E m] n rfl rfl _ _ e _ iM _ pickK _ (jG (nV (y:=0)) c.1) _ (jG (m1 (y:=4)) c.2) _ (sr c.1) _ (iN (mb (y:=3)) oF) _ (iN (mb (y:=2)) d5)) dG A3.2.2
  ·by_cases p9:0<m
   ·have uh:¬x<4:=λ L=>c ⟨p9,L⟩
    have d5:¬x=2:=λ L=>uh (L▸aE rfl)
    exact f (.k ([7,13,12].getD (x%3) 0)) J (cN (z+1) 55 [D.ref (a aN.w),E m] n rfl rfl _ _ e _ iM _ pickK _ (jG (nV (y:=0)) p9) _ (iN (m1 (y:=4)) uh) _ (iN (mb (y:=3)) oF) _ (iN (mb (y:=2)) d5)) dG gm.2.2
   ·by_cases d5:x=2
    ·exact f (.g1 70 (.k ([7,13,12].getD (x%3) 0))) J (cN (z+1) 55 [D.ref (a aN.w),E m] n rfl rfl _ _ e _ iM _ pickK _ (iN (nV (y:=0)) p9) _ (iN (mb (y:=3)) oF) _ (jG (mb (y:=2)) d5)) dG gm.2.1
    ·exact f (.k ([7,13,12].getD (x%3) 0)) J (cN (z+1) 55 [D.ref (a aN.w),E m] n rfl rfl _ _ e _ iM _ pickK _ (iN (nV (y:=0)) p9) _ (iN (mb (y:=3)) oF) _ (iN (mb (y:=2)) d5)) dG gm.2.2
noncomputable def bY(q:aN→Prop)(a:bH)(h:aT)(aY:bH)(H:aT):Prop:=∀r,q r→aY r=a r∧∀o,h r=some o→H r=some o
theorem bY.ne(z:¬q r)(k:q bw):bw≠r:=λ e=>z (e▸k)
theorem bY.new(z:¬q r):bY q a h (up a r m) (up h r o):=λ bw k=>⟨bP _ _ (bY.ne z k),λ o e=>(bP _ _ (bY.ne z k)).trans e⟩
theorem bY.set(z:¬q r):bY q a h a (up h r o):=λ bw k=>⟨rfl,λ o e=>(bP _ _ (bY.ne z k)).trans e⟩
theorem bY.go{bX:B aP}{aa:St}(x:b0 a h T b aa bX aI)(z:∀r,q r→gZ r=false):bY q a h a aI:=λ r k=>⟨rfl,λ o e=>x.off (z r k) e⟩
theorem bY.trans{ed:bH}{bJ:aT}(x:bY q a h cx aI)(y:bY q cx aI ed bJ):bY q a h ed bJ:=λ r k=>⟨(y r k).1.trans (x r k).1,λ o e=>(y r k).2 o ((x r k).2 o e)⟩
theorem bY.sub{p:aN→Prop}(x:bY q a h cx aI)(s:∀r,p r→q r):bY p a h cx aI:=λ r k=>x r (s r k)
theorem PQ{α:Type}{f:aN→α}{x y:α}(e:up f r x bw=y)(p:bw=r→x=y→X)(q:bw≠r→f bw=y→X):X:=
 (f9 (bw=r)).elim (λ L=>p L ((cR f r x).symm.trans (L▸e))) λ L=>q L ((bP _ _ L).symm.trans e)
theorem Good.adopt{o:a0}(M:Good a h n)(lt:∀r,(h r).isSome=true→a r<b)(hm:b≤m)(e:n[m]? =some o)(ho:∀m,r≠ .a6 m):
  Good (up a r m) (up h r (some o)) n∧∀bw,(up h r (some o) bw).isSome=true→up a r m bw<m+1:=by
 have ae:∀bw,bw≠r→(up h r (some o) bw).isSome=true→up a r m bw<m:=λ bw L H=>by
  rw[bP _ _ L]at H⊢;exact fa (lt _ H) hm
 refine⟨⟨λ bw x bC=>PQ bC (λ L w=>?_) λ L w=>?_,λ fV gP ax aH q=>?_,λ m=>(bP _ _ λ e=>ho m e.symm).trans (M.a6 m)⟩,λ bw H=>(f9 (bw=r)).elim (λ L=>?_) λ L=>pX (ae bw L H)⟩
 ·rw[L,cR];exact e.trans w
 ·rw[bP _ _ L];exact M.at_ bw x w
 ·by_cases d4:fV=r<;>by_cases d5:gP=r
  ·rw[d4,d5]
  ·have:=ae gP d5 aH
   rw[←q,d4,cR]at this
   exact absurd this (oR m)
  ·have:=ae fV d4 ax
   rw[q,d5,cR]at this
   exact absurd this (oR m)
  ·rw[bP _ _ d4]at ax q
   rw[bP _ _ d5]at aH q
   exact M.inj _ _ ax aH q
 ·rw[L,cR];exact qU m
theorem Good.E2(M:Good a h n):∀r,(h r).isSome=true→a r<n.length:=λ r e=>M.lt e
noncomputable def ac8(r:aN):Prop:=hS r=true
theorem c6.bx{aY:bH}{H:aT}(al:c6 a h T)(m:bY ac8 a h aY H):c6 aY H T:=al.b7 λ ag W bL K I=>
 have f:∀r,hS r=true→aY r=a r∧∀o,h r=some o→H r=some o:=m
 ⟨⟨ag,W,bL,⟨(f .kt rfl).2 _ (by rw[(f .la rfl).1,(f .jq rfl).1,(f .mo rfl).1,(f .mq rfl).1,(f .kF rfl).1];exact K.kt),(f .la rfl).2 _ K.r,(f .jq rfl).2 _ K.i,(f .mo rfl).2 _ K.d,(f .mq rfl).2 _ K.w,(f .kF rfl).2 _ K.o,K.len,K.small⟩,I⟩,al.x'⟩
end
end Mine
end
section
namespace Mine
variable{A:B D}{ns:B am}{al:B D}{k:C}
section
variable{z:C}
noncomputable def sR:B Nat:=[114,111,119,115]
noncomputable def xl:B Nat:=[104,111,115,116]
noncomputable def EM:B Nat:=[103,105,118,101,110]
noncomputable def rK(ns:B am):B Nat:=ns.map λ z=>(z.fmod 1000003).toNat
noncomputable def uk(ns:B am)(o:Y D):aX:=[some (.fw ns),none,none,none,none,none,none,none,none,none,none,none,o,none,none,none,none]
noncomputable def Bd:ab:=.bin .mod (.v 12) (.ii 1000003)
theorem aaM{z:am}:fH .mod (.ii z) (.ii 1000003)=some (E ((z.fmod 1000003).toNat)):=
 (show(if(1000003:am)=0 then none else some (D.ii (z.fmod 1000003)))=some (D.ii (((z.fmod 1000003).toNat:C):am))from(if_neg (by decide)).trans (an (λ i=>some (D.ii i)) (Int.toNat_of_nonneg (Int.fmod_nonneg_of_pos z (by decide))).symm))
theorem adV{xK:B am}{o:Y D}{n:St}(n':n[0]? =some (.li A)):∀{acc:B D},@lF (live (.ref 0) A) (e1 (.ref 0) A) (λ x ao=>(di false [12] x (uk xK o)).bind λ aF=>(hp ac (runN ac z) .nil aF ao).bind λ q=>if q.1=true then(ci ac (runN ac z) Bd aF q.2).bind λ r=>some ([r.1],r.2)else some ([],q.2)) (ns.map .ii) acc n=some (acc++(rK ns).map E,n):=by
 induction ns with
 |nil=>exact λ{acc}=>(jF n').trans (an (λ l=>some (l,n)) (eZ acc).symm)
 |cons i ns aZ=>
  intro acc
  have eF:ci ac (runN ac z) Bd (uk xK (some (.ii i))) n=some (E ((i.fmod 1000003).toNat),n):=hI z Bd (uk xK (some (.ii i))) n _ aaM
  exact h8 n' (j2 (aF:=uk xK (some (.ii i))) rfl eF) (aZ.trans (an (λ l=>some (l,n)) (jy ..)))
noncomputable def wv:B aP:=(ck 16).map .p
noncomputable def sm:bH
 | .dR=>1| .gA=>2| .store=>3| .kt=>4| .la=>5| .jq=>6| .mo=>7| .mq=>8| .kF=>9| .meths=>12| .w=>15| .host=>16| .fF=>17
 | .a6 m=>m
 |_=>0
noncomputable def EI:C→aN
 |1=>.dR|2=>.gA|3=>.store|4=>.kt|5=>.la|6=>.jq|7=>.mo|8=>.mq|9=>.kF|12=>.meths|15=>.w|16=>.host|_=>.fF
noncomputable def O9:B (C×D):=[(35,.ref 4),(36,.ref 10),(37,.ref 11),(15,.ref 12),(38,.ref 13),(39,.ref 14),(40,.ii 0)]
noncomputable def LO:B (C×D):=[(35,.ref 4),(70,.ref 17),(10,.ref 18),(71,.ref 19),(12,.ref 20),(72,.ref 21),(13,.ref 22),(73,.ref 23),(74,.ref 24)]
noncomputable def afY:B (B C×D):=[(pl,.ref 1),(i7,.ii 0),(sR,.ref 2),(qi,.ref 3),(xl,.ref 16)]
noncomputable def Zz:B (C×D):=[(0,.ref 5),(1,.ref 6),(2,.ref 7),(3,.ref 8),(4,.ref 9)]
noncomputable def Zy:B a0:=[.bF 0 Zz,.li (wv.map ff),.h' (wv.zipIdx.map λ p=>(hY p.1,E p.2)),.li ((dx 16 1).map E),.li ((dx 16 1).map E),.li ((dx 16 0).map E)]
noncomputable def vT(A al:B D):St:=[.li A,.li al,.li [],.bF 3 O9]++Zy++[.li [.nn],.li [.nn],.li [.nn],.cq [],.li []]
noncomputable def vU(A al:B D):St:=vT A al++[.ds afY,.bF 9 LO,.cq [],.cq [],.cq [],.cq [],.cq [],.cq [],.cq [],.cq []]
noncomputable def Na:aN→av
 | .dR| .gA| .store| .kt| .la| .jq| .mo| .mq| .kF| .meths| .w| .host| .fF=>true
 |_=>false
noncomputable def ec(A al:B D)(r:aN):Y a0:=bif Na r then(vU A al)[sm r]? else none
theorem aax{r:aN}(h:Na r=true):EI (sm r)=r:=by cases r<;>first|rfl|exact nomatch h
theorem Kw{α:Type}{b:av}{x:Y α}{o:α}(h:(bif b then x else none)=some o):b=true∧x=some o:=by
 cases b
 ·exact nomatch h
 ·exact⟨rfl,h⟩
theorem W7:Good sm (ec A al) (vU A al) where
 at_:=λ r o e=>(Kw e).2
 inj:=λ r bw e bC q=>
  have f:∀r,(ec A al r).isSome=true→EI (sm r)=r:=λ r e=>let⟨_,w⟩:=oT.mp e;aax (Kw w).1
  (f r e).symm.trans ((an EI q).trans (f bw bC))
 a6:=λ _=>rfl
theorem Jk(h:k<16):wv[k]? =some (.p k):=i9 (yF h)
theorem Jl{r:aP}(e:wv[k]? =some r){X:Prop}(f:k<16→r= .p k→X):X:=
 have h:k<16:=mr e
 f h (ll e (Jk h))
theorem afb:c6 sm (ec A al) wv where
 ex:=by
  have F8:∀{k x:C},k<16→(dx 16 x)[k]? =some x:=λ hk=>by rw[HW,if_pos hk]
  refine⟨dx 16 1,dx 16 1,dx 16 0,⟨rfl,rfl,rfl,rfl,rfl,rfl,⟨rfl,rfl,rfl⟩,aE rfl⟩,⟨?_,λ i ay=>Jk ay,λ k r e=>Jl e λ h L=>by subst L;exact⟨F8 h,F8 h,F8 h⟩,λ k r e=>Jl e λ h L=>by subst L;exact λ _ h=>nomatch h⟩⟩
  exact tR.mpr (wc.imp λ x e=>x (aP.p.inj e))
 x':=aE rfl
noncomputable def ra(ns:B am):aX:=some (.fw ns)::dx 16 none
theorem abm{env:aX}:ou ac (runN ac (z+5)) (.cons (.ii 0) (.cons (.lst .nil) (.cons (.new 3 .nil) .nil))) env [.li A,.li al]=some ([.ii 0,.ref 2,.ref 3],vT A al):=by kernel_rfl
noncomputable def A8:S:=.asg 1 (.m4 [[105,110],[97,116],[114,111,119,115],[115,116,111,114,101]] (.cons (.comp (.bin .mod (.v 12) (.ii 1000003)) [12] false (.mF (.v 0) (.ii 63)) (.nil)) (.cons (.ii 0) (.cons (.lst .nil) (.cons (.new 3 .nil) .nil)))))
noncomputable def OA:S:=.asg 2 (.aq (.v 1) (.ss [115,116,111,114,101]))
noncomputable def OB:S:=.gJ (.v 1) (.ss [104,111,115,116]) (.new 9 (.cons (.at (.v 2) 35) .nil))
noncomputable def KS(ns:B am):aX:=some (.fw ns)::some (.ref 15)::dx 15 none
noncomputable def sB(ns:B am):aX:=some (.fw ns)::some (.ref 15)::some (.ref 3)::dx 14 none
noncomputable def OP:ab:=.comp Bd [12] false (.mF (.v 0) (.ii 63)) .nil
theorem aeX(hl:ns.length≤63):ci ac (runN ac z) OP (uk ns none) []=some (.ref 1,[.li (ns.map .ii),.li ((rK ns).map E)]):=by
 have u:rR [] (.fw ns) (.ii 63)=some (.inr (ns.map .ii)):=(if_pos ⟨by decide,by decide,a' hl (aE rfl)⟩).trans (an (λ l=>some (Sum.inr (l.map D.ii))) (Rd hl))
 have uI:(ns.map D.ii).length≤100000:=cG (as:=ns) D.ii▸a' hl (aE rfl)
 have c:=adV (z:=z) (xK:=ns) (o:=none) (A:=ns.map .ii) (n:=[.li (ns.map .ii)]) rfl (ns:=ns) (acc:=[])
 exact(hI z OP (uk ns none) [] _ u _ rfl uI _ _ c)
theorem aeT(hl:ns.length≤63):jT ac (runN ac (z+5)) A8 (ra ns) []=some (.br (KS ns),vT (ns.map .ii) ((rK ns).map E)++[.ds [(pl,.ref 1),(i7,.ii 0),(sR,.ref 2),(qi,.ref 3)]]):=
 aR (aR (aR (aeX (z:=z+5) hl) (aR abm rfl)) rfl) rfl
theorem aeU{V:jh}:jT ac V OA (KS ns) (vT A al++[.ds [(pl,.ref 1),(i7,.ii 0),(sR,.ref 2),(qi,.ref 3)]])=some (.br (sB ns),vT A al++[.ds [(pl,.ref 1),(i7,.ii 0),(sR,.ref 2),(qi,.ref 3)]]):=by kernel_rfl
theorem aeV:jT ac (runN ac (z+5)) OB (sB ns) (vT A al++[.ds [(pl,.ref 1),(i7,.ii 0),(sR,.ref 2),(qi,.ref 3)]])=some (.br (sB ns),vU A al):=by kernel_rfl
theorem aeW(hl:ns.length≤63){r:bk}:bS ac (runN ac (z+5)) (.cons A8 (.cons OA (.cons OB r))) (ra ns) []=bS ac (runN ac (z+5)) r (sB ns) (vU (ns.map .ii) ((rK ns).map E)):=
 (Gn (aeT hl)).trans ((Gn aeU).trans (Gn aeV))
end
end Mine
end
section
namespace Mine
variable{i:C}{o:a0}{xs:B D}{e2 name:D}{cp:B C}
section
variable{z:C}{env:aX}{n:St}{c f:C}{aG:B (C×D)}{l b9:B a0}{v:D}
theorem MX:(n++(.bF c aG::l)).length=n.length+(l.length+1):=fh
theorem NO:(n++(.bF c aG::l))[n.length]? =some (.bF c aG):=(yC (cJ _)).trans (by rw[r8];rfl)
theorem NP:(n++(.bF c aG::l))[n.length+(i+1)]? =l[i]? :=(yC (d2 ..)).trans (by rw[wd];rfl)
theorem ad7:(n++(.bF c aG::l)).set n.length o=n++(o::l):=(H8 _ _ (cJ _)).trans (by rw[r8];rfl)
theorem ad9:(n++(.bF c aG::l)).set (n.length+(i+1)) o=n++(.bF c aG::l.set i o):=(H8 _ _ (d2 ..)).trans (by rw[wd];rfl)
noncomputable def FG{α:Type}(f:C→B (C×D)→Y α):Y a0→Y α
 |some (.bF c aG)=>f c aG
 |_=>none
theorem x6{m:C}(e:n[m]? =some (.bF c aG))(ax:ac.fld c f=true)(aH:aG.length<200):lj ac n (.ref m) f v=some (n.set m (.bF c (c8 aG f v))):=
 (an (FG λ c aG=>if ac.fld c f=true∧aG.length<200 then some (n.set m (.bF c (c8 aG f v)))else none) e).trans (if_pos ⟨ax,aH⟩)
theorem eU(ax:ac.fld c f=true)(aH:H' aG.length 200=true)(cI:(aG.lookup f).isSome=false):lj ac (n++(.bF c aG::l)) (.ref n.length) f v=some (n++(.bF c (aG++[(f,v)])::l)):=
 (x6 NO ax (Nat.blt_eq.mp aH)).trans (by rw[ad7,c8,cI];rfl)
theorem ON(ax:ac.fld c f=true)(aH:H' aG.length 200=true)(cI:(aG.lookup f).isSome=false):lj ac (n++(.bF c aG::l)++b9) (.ref n.length) f v=some (n++(.bF c (aG++[(f,v)])::(l++b9))):=by
 rw[jy];exact eU ax aH cI
theorem gn(ax:ac.fld c f=true)(aH:H' aG.length 200=true)(cI:(aG.lookup f).isSome=false):lj ac (n++(.bF c aG::l)++b9) (.ref n.length) f (.ref (n++(.bF c aG::l)).length)=some (n++(.bF c (aG++[(f,.ref (n.length+(l.length+1)))])::(l++b9))):=by
 rw[MX];exact ON ax aH cI
theorem C'{v:D}(h:aG.lookup f=some v):d7 (n++(.bF c aG::l)) (.ref n.length) f=some v:=(fk NO).trans h
theorem EH(h:l[i]? =some (.li xs)):ml (n++(.bF c aG::l)) (.ref (n.length+(i+1)))=true:=hQ (NP.trans h)
theorem C5(h:l[i]? =some (.li xs))(aA:xs.length<room):l8 (n++(.bF c aG::l)) (.ref (n.length+(i+1))) v=some (n++(.bF c aG::l.set i (.li (xs++[v])))):=(m0 (NP.trans h) aA).trans (an some ad9)
noncomputable def tz:B C→B D:=eB λ c=>.ss [c]
noncomputable def GO(N:C)(e2 name par:D):B (C×D):=[(5,e2),(6,name),(7,.ii 1),(8,.ii 0),(9,.ii (-1)),(10,.ref (N+1)),(11,.ref (N+2)),(12,.ref (N+3)),(13,.ref (N+4)),(14,.ref (N+5)),(15,.ref (N+6)),(16,.ii 1),(17,.ii 0),(18,.ii (-1)),(19,.ref (N+7)),(20,.ref (N+8)),(21,.ref (N+9)),(22,.ii 0),(23,.ii 0)]
noncomputable def Bz(N:C)(e2 name:D)(cp:B C):B a0:=[.bF 1 (GO N e2 name (.ss cp)),.li [],.li (tz cp),.li (cp.map λ _=>.ii 0),.li (cp.map λ _=>.tup [.ii 0,.tup []]),.li [],.li [],.li [],.li [],.li []]
noncomputable def PJ:bk:=(.cons (.ex (.append (.at (.v 0) 11) (.v 8))) (.cons (.ex (.append (.at (.v 0) 12) (.gl [86,65,95,78,79,78,69] (.ii 0)))) (.cons (.ex (.append (.at (.v 0) 13) (.tup (.cons (.ii 0) (.cons (.tup .nil) .nil))))) .nil)))
noncomputable def vN(N:C)(e2 name:D)(cp:B C)(o:Y D):aX:=[some (.ref N),some e2,some name,some (.ii 1),some (.ii 0),some (.ii (-1)),some (.ss cp),some (.ii 1),o]
noncomputable def yk(N:C)(e2 name:D)(cp:B C)(kP kQ ih:B D):B a0:=.bF 1 ((GO N e2 name (.ss cp)).take 9)::[.li [],.li kP,.li kQ,.li ih]
noncomputable def PK(z:C)(x:D)(env:aX)(n:St):Y (e0×St):=(di false [8] x env).bind λ dH=>bS ac (runN ac z) PJ dH n
theorem GP{eK:Y D}{x:D}{kP kQ ih:B D}(ax:kP.length<room)(aH:kQ.length<room)(cI:ih.length<room):
  PK z x (vN n.length e2 name cp eK) (n++yk n.length e2 name cp kP kQ ih)=some (.br (vN n.length e2 name cp (some x)),n++yk n.length e2 name cp (kP++[x]) (kQ++[.ii 0]) (ih++[.tup [.ii 0,.tup []]])):=
 aR (a:=vN n.length e2 name cp (some x)) rfl (dm z PJ (vN n.length e2 name cp (some x)) (n++yk n.length e2 name cp kP kQ ih) _ (C' rfl) (EH (i:=1) rfl) _ (C5 rfl ax) _ (C' rfl) (EH (i:=2) rfl) _ (C5 rfl aH) _ (C' rfl) (EH (i:=3) rfl) _ (C5 rfl cI))
theorem afE(hl:cp.length≤2):∃o,@fE (live (.ss cp) (tz cp)) (e1 _ _) (PK z) (tz cp) (vN n.length e2 name cp none) (n++yk n.length e2 name cp [] [] [])=some (.br (vN n.length e2 name cp o),n++yk n.length e2 name cp (tz cp) (cp.map λ _=>.ii 0) (cp.map λ _=>.tup [.ii 0,.tup []])):=match cp,hl with
 | [],_=>⟨_,hg trivial⟩
 | [_],_=>⟨_,fd trivial (GP (aE rfl) (aE rfl) (aE rfl)) (hg trivial)⟩
 | [_,_],_=>⟨_,fd trivial (GP (aE rfl) (aE rfl) (aE rfl)) (fd trivial (GP (aE rfl) (aE rfl) (aE rfl)) (hg trivial))⟩
theorem Zd{s:B C}(h:s.all (decide<|· <128)=true):hR n (.ss s)=some (tz s):=if_pos h
theorem PL(hl:cp.length≤2)(bM:cp.all (decide<|· <128)=true):runN ac (z+1) 3 [.ref n.length,e2,name,.ii 1,.ii 0,.ii (-1),.ss cp,.ii 1] (n++[.bF 1 []])=some (.nn,n++Bz n.length e2 name cp):=by
 obtain⟨o,gN⟩:=afE (z:=z) (n:=n) (e2:=e2) (name:=name) hl
 have uK:(tz cp).length≤100000:=cG (as:=cp) _▸a' hl (aE rfl)
 exact(cN z 3 [D.ref (f' n),e2,name,D.ii 1,D.ii 0,D.ii (-1),D.ss cp,D.ii 1] (n++[a0.bF 1 []]) rfl rfl _ (eU rfl rfl rfl) _ (eU rfl rfl rfl) _ (eU rfl rfl rfl) _ (eU rfl rfl rfl) _ (eU rfl rfl rfl) _ (gn rfl rfl rfl) _ (gn rfl rfl rfl) _ (gn rfl rfl rfl) _ (gn rfl rfl rfl) _ (Zd bM) uK _ _ gN _ (gn rfl rfl rfl) _ (gn rfl rfl rfl) _ (eU rfl rfl rfl) _ (eU rfl rfl rfl) _ rfl _ (eU rfl rfl rfl) _ (gn rfl rfl rfl) _ (gn rfl rfl rfl) _ (gn rfl rfl rfl) _ (eU rfl rfl rfl) _ (eU rfl rfl rfl))
end
end Mine
end
section
namespace Mine
variable{k:D}{s:C}{o0:D}{u:C}
section
variable{z:C}{n:St}{c:C}{aG:B (C×D)}{l:B a0}
theorem ad8{o c3:a0}:(n++[o]).set n.length c3=n++[c3]:=(H8 _ _ (cJ _)).trans (by rw[r8];rfl)
noncomputable def FU:bk:=.cons (.ex (.append (.v 1) (.bin .add (.ss [112]) (.strOf (.v 2))))) .nil
noncomputable def xS(m:C)(o:Y D):aX:=[some (.ii 1),some (.ref m),o]
theorem acN:runN ac (z+1) 31 [.ii 1] n=some (.tup [.ss [112,48]],n++[.li [.ss [112,48]]]):=by
 have eA:l8 (n++[.li []]) (.ref n.length) (.ss [112,48])=some (n++[.li [.ss [112,48]]]):=(m0 (i1 rfl) (aE rfl)).trans (an some ad8)
 have st:bS ac (runN ac z) FU (xS n.length (some (.ii 0))) (n++[a0.li []])=some (.br (xS n.length (some (.ii 0))),n++[a0.li [.ss [112,48]]]):=(dm z FU (xS (f' n) (some (D.ii 0))) (n++[a0.li []]) (hQ (i1 rfl)) _ rfl _ rfl _ eA)
 have gN:=fd (dr:=live (.ew 0 1) [.ii 0]) (jm:=e1 _ _) (step:=λ x aF J=>(di false [2] x aF).bind λ dH=>bS ac (runN ac z) FU dH J) (env:=xS n.length none) (x:=.ii 0) trivial (aR (a:=xS n.length (some (.ii 0))) rfl st) (hg trivial)
 exact(cN z 31 [D.ii 1] n rfl rfl _ rfl _ rfl (aE rfl) _ _ gN _ nv)
theorem abC{aV aQ aW bp:D}:runN ac (z+1) 6 [.ref n.length,k,aV,aQ,aW,bp] (n++[.bF 4 []])=some (.nn,n++[.bF 4 [(41,k),(42,aV),(43,aQ),(44,aW),(45,bp),(46,.ii 0)]]):=by
 exact(cN z 6 [D.ref (f' n),k,aV,aQ,aW,bp] (n++[a0.bF 4 []]) rfl rfl _ (eU rfl rfl rfl) _ (eU rfl rfl rfl) _ (eU rfl rfl rfl) _ (eU rfl rfl rfl) _ (eU rfl rfl rfl) _ (eU rfl rfl rfl))
theorem Vk:runN ac (z+1) 7 [.ref n.length] (n++[.bF 5 []])=some (.nn,n++[.bF 5 [(0,.ref (n.length+1))],.li []]):=by
 exact(cN z 7 [D.ref (f' n)] (n++[a0.bF 5 []]) rfl rfl _ (gn rfl rfl rfl))
noncomputable def u7(N:C)(lf vk name ua ut ret k:D):B (C×D):=[(24,lf),(25,vk),(6,name),(26,ua),(8,ut),(27,.ii 0),(28,.ref (N+1)),(29,.ref (N+2)),(30,ret),(11,.tup [k]),(31,.tup [.ss [112,48]]),(32,.tup [.ii 0]),(33,.nn),(34,.ii 0)]
theorem aaO{lf vk name ua ut ret:D}:runN ac (z+2) 4 [.ref n.length,lf,vk,name,ua,ut,ret,.tup [k]] (n++[.bF 2 []])=some (.nn,n++[.bF 2 (u7 n.length lf vk name ua ut ret k),.li [],.li [],.li [.ss [112,48]]]):=by
 exact(cN (z+1) 4 [D.ref (f' n),lf,vk,name,ua,ut,ret,D.tup [k]] (n++[a0.bF 2 []]) rfl rfl _ (eU rfl rfl rfl) _ (eU rfl rfl rfl) _ (eU rfl rfl rfl) _ (eU rfl rfl rfl) _ (eU rfl rfl rfl) _ (eU rfl rfl rfl) _ (gn rfl rfl rfl) _ (gn rfl rfl rfl) _ (eU rfl rfl rfl) _ rfl _ (eU rfl rfl rfl) _ rfl _ _ (acN (z:=z)) _ (ON rfl rfl rfl) _ rfl _ rfl _ (eU rfl rfl rfl) _ (eU rfl rfl rfl) _ (eU rfl rfl rfl))
noncomputable def PP(N:C)(s o0:D):B (C×D):=[(47,s),(16,o0),(48,.ref (N+1)),(49,.ref (N+2)),(50,.ref (N+3)),(51,.ref (N+4)),(52,.ref (N+6)),(53,.ref (N+7)),(54,.ref (N+8))]
theorem Vj{b9:B a0}(e:(n++(.bF c aG::l)).length+1=n.length+(l.length+1)+1:=an l2 MX):runN ac (z+1) 7 [.ref (n++(.bF c aG::l)).length] (n++(.bF c aG::l)++[.bF 5 []])=some (.nn,n++(.bF c aG::l)++[.bF 5 [(0,.ref (n.length+(l.length+1)+1))],.li []]):=e▸Vk
theorem afN{s:D}:runN ac (z+2) 8 [.ref n.length,s,o0] (n++[.bF 6 []])=some (.nn,n++[.bF 6 (PP n.length s o0),.li [.nn],.li [.nn],.cq [],.bF 5 [(0,.ref (n.length+5))],.li [],.cq [],.cq [],.cq []]):=by
 exact(cN (z+1) 8 [D.ref (f' n),s,o0] (n++[a0.bF 6 []]) rfl rfl _ (eU rfl rfl rfl) _ (eU rfl rfl rfl) _ (gn rfl rfl rfl) _ (gn rfl rfl rfl) _ (gn rfl rfl rfl) _ rfl _ (Vj (z:=z) (b9:=[])) _ (gn rfl rfl rfl) _ (gn rfl rfl rfl) _ (gn rfl rfl rfl) _ (gn rfl rfl rfl))
noncomputable def Hq(N:C)(u s k be o0:D):B (C×D):=[(55,u),(47,s),(35,k),(56,be),(16,o0),(57,.ref (N+1)),(58,.ref (N+2)),(59,.ref (N+3)),(60,.ref (N+4)),(25,.ii 0),(24,.ii 0),(61,.ii 0),(62,.ii 0)]
theorem p7{m f:C}{v:D}(e:d7 n (.ref m) f=some v):d7 (n++l) (.ref m) f=some v:=by
 have e:sp f n[m]? =some v:=e
 show sp f (n++l)[m]? =some v
 cases h:n[m]? with
 |none=>exact nomatch(h▸e:sp f none=some v)
 |some o=>rw[qR (mr h)];exact e
theorem agn{be:D}(aw:d7 n (.ref u) 47=some (.ref s))(aB:d7 n (.ref s) 35=some k):runN ac (z+2) 9 [.ref n.length,.ref u,be,o0] (n++[.bF 7 []])=some (.nn,n++[.bF 7 (Hq n.length (.ref u) (.ref s) k be o0),.cq [],.cq [],.li [],.cq []]):=by
 exact(cN (z+1) 9 [D.ref (f' n),D.ref u,be,o0] (n++[a0.bF 7 []]) rfl rfl _ (eU rfl rfl rfl) _ (p7 aw) _ (eU rfl rfl rfl) _ (p7 aw) _ (p7 aB) _ (eU rfl rfl rfl) _ (eU rfl rfl rfl) _ (eU rfl rfl rfl) _ (gn rfl rfl rfl) _ (gn rfl rfl rfl) _ (gn rfl rfl rfl) _ (gn rfl rfl rfl) _ (eU rfl rfl rfl) _ (eU rfl rfl rfl) _ (eU rfl rfl rfl) _ (eU rfl rfl rfl))
noncomputable def KE(N:C)(u nX s k:D):B (C×D):=[(55,u),(63,nX),(47,s),(35,k),(36,.ref (N+1)),(64,.ref (N+2)),(54,.ref (N+3)),(65,.ref (N+4)),(66,.ref (N+5)),(67,.ref (N+6)),(68,.ref (N+7)),(69,.ref (N+8)),(53,.ii 0)]
theorem Vg{nX:D}(aw:d7 n (.ref u) 47=some (.ref s))(aB:d7 n (.ref s) 35=some k):runN ac (z+2) 10 [.ref n.length,.ref u,nX] (n++[.bF 8 []])=some (.nn,n++[.bF 8 (KE n.length (.ref u) nX (.ref s) k),.li [],.li [],.cq [],.li [],.li [],.li [],.cq [],.cq []]):=by
 exact(cN (z+1) 10 [D.ref (f' n),D.ref u,nX] (n++[a0.bF 8 []]) rfl rfl _ (eU rfl rfl rfl) _ (eU rfl rfl rfl) _ (p7 aw) _ (eU rfl rfl rfl) _ (p7 aw) _ (p7 aB) _ (eU rfl rfl rfl) _ (gn rfl rfl rfl) _ (gn rfl rfl rfl) _ (gn rfl rfl rfl) _ (gn rfl rfl rfl) _ (gn rfl rfl rfl) _ (gn rfl rfl rfl) _ (gn rfl rfl rfl) _ (gn rfl rfl rfl) _ (eU rfl rfl rfl))
end
end Mine
end
section
namespace Mine
variable{l:B aN}{r:aN}{m:C}{o:Y a0}{α:Type}{x y:α}{t k:C}{xs:B C}{O:B (B C×D)}{s:B C}{v:D}{aV:Y D}
section
variable{a:bH}{h:aT}{n:St}{T:B aP}{z:C}{W:cw}{X:Prop}
noncomputable def dE(a:bH)(t k:C):B (B C×D):=[(pl,.ref (a .dR)),(i7,E t),(sR,.ref (a .gA)),(qi,.ref (a .store)),(xl,.ref (a .host)),(Ar,.ref (a .eb)),(As,.ref (a .fA)),(EM,.ref (a .hH))].take k
noncomputable def dB(l:B aN)(r:aN):Prop:=r∉l
theorem bo(h:(l.all λ q=>!(q.ctorIdx==r.ctorIdx))=true):dB l r:=λ m=>jw ((an not (lE r.ctorIdx)).symm.trans (g'.mp h r m))
theorem gI{cf:B aN}(h:∀r,r∈l→r∈cf):∀r,dB cf r→dB l r:=λ r z m=>z (h r m)
theorem bY.refl{q:aN→Prop}:bY q a h a h:=λ r _=>⟨rfl,λ o e=>e⟩
theorem bY.mx(z:r∈l):bY (dB l) a h (up a r m) (up h r o):=bY.new λ k=>k z
theorem bY.kK(z:r∈l):bY (dB l) a h a (up h r o):=bY.set λ k=>k z
theorem xz:y∈ [x,y]:=.tail _ (.head _)
theorem AE:∀r,r∈ [x]→r∈ [x,y]:=λ _ h=>jA.mp h▸.head _
theorem PX:c8 (dE a t (k+2)) i7 (E (t+1))=dE a (t+1) (k+2):=
 an (λ l=>(pl,D.ref (a .dR))::(i7,E (t+1))::l) (Q8 (f:=λ e:B C×D=>if e.1==i7 then(e.1,E (t+1))else e) (l:=[(sR,.ref (a .gA)),(qi,.ref (a .store)),(xl,.ref (a .host)),(Ar,.ref (a .eb)),(As,.ref (a .fA)),(EM,.ref (a .hH))]) (i:=k))
theorem yq:(dE a t k).length<1000:=cn (List.length_take_le' ..) (aE rfl)
theorem yi(M:Good a h n)(cS:h .w=some (.ds (dE a t (k+2))))(aA:h .dR=some (.li (xs.map E)))(bD:t<100000)(hm:0<m)
  (f:∀x J H,x<m→runN ac (z+1) 52 [.ref (a .w),E m] n=some (E x,J)→Good a H J→H .w=some (.ds (dE a (t+1) (k+2)))→bY (dB [.w]) a h a H→X):X:=
 MU (z:=z) (m:=m) (at_:=t) M cS aA rfl rfl bD yq hm λ x J sP e dG=>f x J _ sP e dG ((cR _ _ _).trans (an (λ l=>some (a0.ds l)) PX)) (bY.kK (.head _))
theorem gx(e:n[m]? =some (.ds O))(l:O.lookup s=some v):de n (.ref m) (.ss s)=some v:=(uT e).trans l
theorem pG{z:C}(h:z<1000):z<room:=fa h (aE rfl)
theorem x9(e:n[m]? =some (.ds O))(l:O.length<1000):j' n (.ref m) (.ss s) v=some (n.set m (.ds (c8 O s v))):=(an (rL n m (.ss s) v) e).trans (if_pos (pG l))
theorem Good.l9{xs:B D}(M:Good a h n)(e:h r=some (.li xs))(hl:xs.length<1000)(f:∀J,l8 n (.ref (a r)) v=some J→Good a (Mine.up h r (some (.li (xs++[v])))) J→X):X:=f _ (m0 (M.at_ _ _ e) (pG hl)) (M.set e)
noncomputable def E8:bk:=(.cons (.ex (.append (.aq (.v 0) (.ss [109,97,110,121])) (.call 52 (.cons (.v 0) (.cons (.ii 3) .nil))))) .nil)
noncomputable def ev(w:C)(aV bu aW bp bq bh bj:Y D):aX:=[some (.ref w),aV,bu,aW,bp,bq,bh,bj]
theorem E'{fm:B D}{aW bp bq bh bj:Y D}{bu:Y D}(M:Good a h n)(cS:h .w=some (.ds (dE a t (k+6))))(aA:h .dR=some (.li (xs.map E)))(hm:h .eb=some (.li fm))(bD:t<100000)(hl:fm.length<1000)
  (f:∀x J H,x<3→(di false [2] v (ev (a .w) aV bu aW bp bq bh bj)).bind (λ aF=>bS ac (runN ac (z+1)) E8 aF n)=some (.br (ev (a .w) aV (some v) aW bp bq bh bj),J)→Good a H J→H .w=some (.ds (dE a (t+1) (k+6)))→H .eb=some (.li (fm++[E x]))→bY (dB [.w,.eb]) a h a H→X):X:=
 yi (z:=z) (k:=k+4) (m:=3) M cS aA bD (aE rfl) λ x aa aI LY e dJ sO bx=>dJ.l9 (v:=E x) ((bx .eb (bo rfl)).2 _ hm) hl λ ao eA dA=>
  f x ao _ LY (aR (a:=ev (a .w) aV (some v) aW bp bq bh bj) rfl (dm (z+1) E8 (ev (a aN.w) aV (some v) aW bp bq bh bj) n _ (gx (M.at_ _ _ cS) rfl) (hQ (M.at_ _ _ hm)) _ _ e _ eA)) dA ((bP _ _ (a5 rfl)).trans sO) (cR _ _ _) ((bx.sub (gI AE)).trans (bY.kK xz))
noncomputable def Hc:bk:=.cons (.gJ (.v 0) (.ss [109,97,110,121]) (.lst (.cons (.bin .add (.ii 1) (.call 52 (.cons (.v 0) (.cons (.ii 2) .nil)))) .nil))) (.cons (.dd [2] false (.tup (.cons (.ii 1) (.cons (.ii 2) (.cons (.ii 3) .nil)))) E8) .nil)
theorem aga(M:Good a h n)(cS:h .w=some (.ds (dE a t 5)))(aA:h .dR=some (.li (xs.map E)))(bD:t<90000)
  (f:∀eJ dN dI eh J H aY bu,eJ≤2→dN≤2→dI≤2→eh≤2→bS ac (runN ac (z+1)) Hc (ev (a .w) aV none none none none none none) n=some (.br (ev (a .w) aV bu none none none none none),J)→Good aY H J→H .w=some (.ds (dE aY (t+4) 6))→H .eb=some (.li [E eJ,E dN,E dI,E eh])→bY (dB [.w,.eb]) a h aY H→aY .w=a .w→X):X:=by
 have bD:∀{j},j≤4→t+j<100000:=λ bt=>fa (r6 bD bt) (aE rfl)
 refine yi (z:=z) (k:=3) (m:=2) M cS aA (bD (fu 4)) (aE rfl) λ x aa aI LX e dJ sO hB=>?_
 have gd:up a .eb aa.length .w=a .w:=bP _ _ (a5 rfl)
 have first:∀{X:Prop},(∀bW cQ ek,j' (aa++[.li [E (1+x)]]) (.ref (a .w)) (.ss [109,97,110,121]) (.ref aa.length)=some bW→Good ek cQ bW→cQ .w=some (.ds (dE ek (t+1) 6))→cQ .eb=some (.li [E (1+x)])→bY (dB [.w,.eb]) a h ek cQ→ek .w=a .w→X)→X:=λ f=>by
  have dA:=dJ.new .eb (λ _=>a5 rfl) (.li [E (1+x)])
  have pi:(up aI .eb (some (.li [E (1+x)]))) .w=some (.ds (dE a (t+1) 5)):=(bP _ _ (a5 rfl)).trans sO
  have at2:=dA.at_ _ _ pi
  have d0:=dA.set (c3:=.ds (c8 (dE a (t+1) 5) [109,97,110,121] (.ref aa.length))) pi
  rw[gd]at at2 d0
  have dt:c8 (dE a (t+1) 5) [109,97,110,121] (.ref aa.length)=dE (up a .eb aa.length) (t+1) 6:=by
   unfold dE
   rw[cR,bP _ _ (a5 rfl),bP _ _ (a5 rfl),bP _ _ (a5 rfl),bP _ _ (a5 rfl)];rfl
  rw[dt]at d0
  exact f _ _ _ ((x9 at2 yq).trans (by rw[dt])) d0 (cR _ _ _) ((bP _ _ (a5 rfl)).trans (cR _ _ _)) (((hB.sub (gI AE)).trans (bY.mx xz)).trans (bY.kK (.head _))) gd
 refine first λ bW cQ ek st d0 ih eh ng gd=>?_
 refine E' (z:=z) (k:=0) (aV:=aV) (aW:=none) (bp:=none) (bq:=none) (bh:=none) (bj:=none) (bu:=none) (v:=.ii 1) d0 ih ((ng .dR (bo rfl)).2 _ aA) eh (bD (aE rfl)) (aE rfl) λ oD eP hP Yy dL hZ tv oh f2=>?_
 have f2:=ng.trans f2
 refine E' (z:=z) (k:=0) (aV:=aV) (aW:=none) (bp:=none) (bq:=none) (bh:=none) (bj:=none) (bu:=some (.ii 1)) (v:=.ii 2) hZ tv ((f2 .dR (bo rfl)).2 _ aA) oh (bD (aE rfl)) (aE rfl) λ tE jW i5 Yz fI h0 tw aaE hn=>?_
 have hn:=f2.trans hn
 refine E' (z:=z) (k:=0) (aV:=aV) (aW:=none) (bp:=none) (bq:=none) (bh:=none) (bj:=none) (bu:=some (.ii 2)) (v:=.ii 3) h0 tw ((hn .dR (bo rfl)).2 _ aA) aaE (bD (aE rfl)) (aE rfl) λ Ho qK xd YA j4 pQ G' aaF xD=>?_
 rw[gd]at dL fI j4
 exact f (1+x) oD tE Ho qK xd ek (some (.ii 3)) (fB (ls LX) 1) (ls Yy) (ls Yz) (ls YA) (dm (z+1) Hc (ev (a aN.w) aV none none none none none none) n _ _ e _ rfl _ st _ rfl (aE rfl) _ _ (fd trivial dL (fd trivial fI (fd trivial j4 (hg trivial))))) pQ G' aaF (hn.trans xD) gd
end
end Mine
end
section
namespace Mine
variable{xs:B C}{t k m eJ dN dI eh l:C}{aV aW bp bh bj:Y D}{V:jh}{env:aX}{v:D}
section
variable{a:bH}{h:aT}{n:St}{T:B aP}{z:C}{W:cw}{X:Prop}
theorem Pp(M:Good a h n)(cS:h .w=some (.ds (dE a t (k+2))))(aA:h .dR=some (.li (xs.map E)))(bD:t<100000)
  (f:∀u J H,runN ac (z+2) 55 [.ref (a .w),E m] n=some (bd u,J)→(u.ar m∧u.wf∧u.size≤2)→Good a H J→H .w=some (.ds (dE a (t+1) (k+2)))→bY (dB [.w]) a h a H→X):X:=
 ZO (z:=z) (m:=m) (at_:=t) M cS aA rfl rfl bD yq λ u J e dG q=>f u J _ e q dG ((cR _ _ _).trans (an (λ l=>some (a0.ds l)) PX)) (bY.kK (.head _))
theorem adA(hm:m≤2)(f:∀ae,ae.length=m→(∀n,hR n (.ew 0 (m:am))=some ae)→ov (E m)=some (.ew 0 (m:am))→X):X:=
 sS (P:=λ m=>(∀ae,ae.length=m→(∀n,hR n (.ew 0 (m:am))=some ae)→ov (E m)=some (.ew 0 (m:am))→X)→X) m hm (λ f=>f _ rfl (λ _=>rfl) rfl) (λ f=>f _ rfl (λ _=>rfl) rfl) (λ f=>f _ rfl (λ _=>rfl) rfl) f
noncomputable def jQ(eJ dN dI eh:C):C→C
 |0=>eJ|1=>dN|2=>dI|3=>eh|_=>0
theorem E9(M:Good a h n)(hm:h .eb=some (.li [E eJ,E dN,E dI,E eh]))(hl:l≤3):de n (.ref (a .eb)) (E l)=some (E (jQ eJ dN dI eh l)):=j7 (M.at_ _ _ hm) (nb l hl rfl rfl rfl rfl)
noncomputable def GF:ab:=.call 55 (.cons (.v 0) (.cons (.aq (.aq (.v 0) (.ss [109,97,110,121])) (.v 2)) .nil))
noncomputable def afd(z:C)(w aO:C)(aV aW bp o5 bh bj:Y D)(lo ay:am)(cf oa acc:B D)(n:St):Y (B D×St):=@lF (live (.ew lo ay) cf) (e1 (.ew lo ay) cf) (λ x ao=>(di false [5] x (ev w aV (some (E aO)) aW bp o5 bh bj)).bind λ aF=>(hp ac (runN ac (z+2)) .nil aF ao).bind λ q=>if q.1=true then(ci ac (runN ac (z+2)) GF aF q.2).bind λ r=>some ([r.1],r.2)else some ([],q.2)) oa acc n
theorem afe{lo ay:am}{cf:B D}{aO:C}{o5:Y D}(hl:aO≤3){oa:B D}:∀{acc:B D} {n:St} {h:aT} {t:C},Good a h n→h .w=some (.ds (dE a t (k+6)))→h .dR=some (.li (xs.map E))→h .eb=some (.li [E eJ,E dN,E dI,E eh])→t+oa.length<100000→
  (∀(dg:B ap) (J:St) (H:aT),afd z (a .w) aO aV aW bp o5 bh bj lo ay cf oa acc n=some (acc++dg.map bd,J)→dg.length=oa.length→(∀u∈dg,u.ar (jQ eJ dN dI eh aO)∧u.wf∧u.size≤2)→Good a H J→H .w=some (.ds (dE a (t+oa.length) (k+6)))→bY (dB [.w]) a h a H→X)→X:=by
 induction oa with
 |nil=>exact λ{acc n h t} M cS aA hm bD f=>f [] n h ((jF trivial).trans (an (λ l=>some (l,n)) (eZ acc).symm)) rfl (λ u dS=>nomatch dS) M cS bY.refl
 |cons bb oa aZ=>
  intro acc n h t M cS aA hm bD f
  refine Pp (z:=z) (k:=k+4) (m:=jQ eJ dN dI eh aO) M cS aA (cn (d2 ..) bD) λ u aa aI e q dJ sO hB=>?_
  have b7:t+1+oa.length=t+(oa.length+1):=pV ..
  refine aZ (acc:=acc++[bd u]) dJ sO ((hB .dR (bo rfl)).2 _ aA) ((hB .eb (bo rfl)).2 _ hm) (b7▸bD) λ dg ao bJ aB eE cO dA pi sZ=>?_
  have st:ci ac (runN ac (z+2)) GF (ev (a .w) aV (some (E aO)) aW bp (some bb) bh bj) n=some (bd u,aa):=(hI (z+2) GF (ev (a aN.w) aV (some (E aO)) aW bp (some bb) bh bj) n _ (gx (M.at_ _ _ cS) rfl) _ (E9 M hm hl) _ _ e)
  exact f (u::dg) ao bJ (h8 trivial (j2 (aF:=ev (a .w) aV (some (E aO)) aW bp (some bb) bh bj) rfl st) (aB.trans (an (λ l=>some (l,ao)) (jy ..)))) (an l2 eE) (λ v cP=>(kh.mp cP).elim (λ L=>L▸q) λ cP=>cO v cP) dA (b7▸pi) (hB.trans sZ)
theorem qz{x:C}(e:env[x]? =some (some v)):ci ac V (.v x) env n=some (v,n):=aR (an Option.join e) rfl
theorem vt{bb:ab}{b:bk}{bf:B C}{many:av}{aa:St}{l:B D}{o:Y (e0×St)}(ay:ci ac V bb env n=some (v,aa))(hl:hR aa v=some l)(a3:l.length≤1000)
  (hc: @fE (live v l) (e1 v l) (λ x aF J=>(di many bf x aF).bind λ dH=>bS ac V b dH J) l env aa=o):jT ac V (.dd bf many bb b) env n=o:=aR ay (aR hl ((if_pos (a' a3 (aE rfl))).trans hc))
theorem JP:fH .sub (E (l+1)) (.ii 1)=some (E l):=an (λ i=>some (D.ii i)) (QK l 1)
noncomputable def GZ:bk:=(.cons (.ex (.append (.aq (.v 0) (.ss [117,112])) (.jc (.comp (.call 55 (.cons (.v 0) (.cons (.aq (.aq (.v 0) (.ss [109,97,110,121])) (.v 2)) .nil))) [5] false (.gQ (.aq (.aq (.v 0) (.ss [109,97,110,121])) (.bin .sub (.v 2) (.ii 1)))) (.nil))))) .nil)
theorem G4{dg:B D}{bq:Y D}{bu:Y D}(hl:l<3)(iy:∀l,jQ eJ dN dI eh l≤2)(M:Good a h n)(cS:h .w=some (.ds (dE a t (k+7))))(aA:h .dR=some (.li (xs.map E)))(hm:h .eb=some (.li [E eJ,E dN,E dI,E eh]))(dS:h .fA=some (.li dg))(bD:t<90000)(Yv:dg.length<1000)
  (f:∀(bE:B ap) (cB:C) (J:St) (H:aT),cB≤t+2→(di false [2] (E (l+1)) (ev (a .w) aV bu aW bp bq bh bj)).bind (λ aF=>bS ac (runN ac (z+2)) GZ aF n)=some (.br (ev (a .w) aV (some (E (l+1))) aW bp bq bh bj),J)→Good a H J→H .w=some (.ds (dE a cB (k+7)))→H .fA=some (.li (dg++[.tup (bE.map bd)]))→bY (dB [.w,.fA]) a h a H→(bE.length=jQ eJ dN dI eh l∧∀u∈bE,u.ar (jQ eJ dN dI eh (l+1))∧u.wf∧u.size≤2)→X):X:=by
 refine adA (iy l) λ ae Ly cC a4=>?_
 have eE:ae.length≤2:=Ly▸iy l
 refine afe (z:=z) (a:=a) (aV:=aV) (aW:=aW) (bp:=bp) (bh:=bh) (bj:=bj) (o5:=bq) (lo:=0) (ay:=(jQ eJ dN dI eh l:am)) (cf:=ae) (k:=k+1) (aO:=l+1) hl (oa:=ae) (acc:=[]) M cS aA hm (fa (r6 bD eE) (aE rfl)) λ bE aa aI e dy q dJ sO hB=>?_
 refine(dJ.kE (.li (bE.map bd))).l9 (v:=.tup (bE.map bd)) ((hB .fA (bo rfl)).2 _ dS) Yv λ bW eA d0=>?_
 refine f bE (t+ae.length) bW _ (fB eE t) (aR (a:=ev (a .w) aV (some (E (l+1))) aW bp bq bh bj) rfl ?_) d0 ((bP _ _ (a5 rfl)).trans sO) (cR _ _ _) ((hB.sub (gI AE)).trans (bY.kK xz)) ⟨dy.trans Ly,q⟩
 have a3:ae.length≤100000:=a' eE (aE rfl)
 exact(dm (z+2) GZ (ev (a aN.w) aV (some (E (l+1))) aW bp bq bh bj) n _ (gx (M.at_ _ _ cS) rfl) (hQ (M.at_ _ _ dS)) _ (gx (M.at_ _ _ cS) rfl) _ JP _ (E9 M hm (h4 hl)) _ a4 _ (cC _) a3 _ _ e _ nv _ eA)
end
end Mine
end
section
namespace Mine
section
variable{a:bH}{h:aT}{n:St}{T:B aP}{z:C}{W:cw}{X:Prop}
theorem th{P:iY}{V:jh}{s:S}{r:bk}{env aF:aX}{aa ao:St}{x:e0}(h:jT P V s env n=some (.br aF,aa))(k:bS P V r aF aa=some (x,ao)):bS P V (.cons s r) env n=some (x,ao):=aR h k
noncomputable def G0(jd kN oA:B ap):C→B ap
 |1=>jd|2=>kN|3=>oA|_=>[]
noncomputable def He:bk:=.cons (.gJ (.v 0) (.ss [117,112]) (.lst (.cons (.tup .nil) .nil))) (.cons (.dd [2] false (.tup (.cons (.ii 1) (.cons (.ii 2) (.cons (.ii 3) .nil)))) GZ) .nil)
theorem agb{xs:B C}{t eJ dN dI eh:C}{aV bu:Y D}(iy:∀l,jQ eJ dN dI eh l≤2)(M:Good a h n)(cS:h .w=some (.ds (dE a t 6)))(aA:h .dR=some (.li (xs.map E)))(hm:h .eb=some (.li [E eJ,E dN,E dI,E eh]))(bD:t<80000)
  (f:∀(jd kN oA:B ap) (cB:C) (J:St) (H:aT) (aY:bH) (s2:Y D),cB≤t+6→bS ac (runN ac (z+2)) He (ev (a .w) aV bu none none none none none) n=some (.br (ev (a .w) aV s2 none none none none none),J)→Good aY H J→H .w=some (.ds (dE aY cB 7))→H .fA=some (.li [.tup [],.tup (jd.map bd),.tup (kN.map bd),.tup (oA.map bd)])→bY (dB [.w,.fA]) a h aY H→aY .w=a .w→(⟨jQ eJ dN dI eh,G0 jd kN oA⟩:cw).ok→X):X:=by
 have le:∀{s i j},s≤t+i→t+i≤t+j→j≤10→s<90000:=λ p q r=>cn (a' p q) (fa (r6 bD r) (aE rfl))
 have first:∀{X:Prop},(∀bW cQ ek,j' (n++[.li [.tup []]]) (.ref (a .w)) (.ss [117,112]) (.ref n.length)=some bW→Good ek cQ bW→cQ .w=some (.ds (dE ek t 7))→cQ .fA=some (.li [.tup []])→bY (dB [.w,.fA]) a h ek cQ→ek .w=a .w→X)→X:=λ f=>by
  have gd:up a .fA n.length .w=a .w:=bP _ _ (a5 rfl)
  have dA:=M.new .fA (λ _=>a5 rfl) (.li [.tup []])
  have pi:(up h .fA (some (.li [.tup []]))) .w=some (.ds (dE a t 6)):=(bP _ _ (a5 rfl)).trans cS
  have at2:=dA.at_ _ _ pi
  have d0:=dA.set (c3:=.ds (c8 (dE a t 6) [117,112] (.ref n.length))) pi
  rw[gd]at at2 d0
  have dt:c8 (dE a t 6) [117,112] (.ref n.length)=dE (up a .fA n.length) t 7:=by
   unfold dE
   rw[cR,bP _ _ (a5 rfl),bP _ _ (a5 rfl),bP _ _ (a5 rfl),bP _ _ (a5 rfl),bP _ _ (a5 rfl)];rfl
  rw[dt]at d0
  exact f _ _ _ ((x9 at2 yq).trans (by rw[dt])) d0 (cR _ _ _) ((bP _ _ (a5 rfl)).trans (cR _ _ _)) ((bY.mx xz).trans (bY.kK (.head _))) gd
 refine first λ bW cQ ek st d0 ih oA ng gd=>?_
 refine G4 (z:=z) (k:=0) (l:=0) (aV:=aV) (aW:=none) (bp:=none) (bq:=none) (bh:=none) (bj:=none) (bu:=bu) (aE rfl) iy d0 ih ((ng .dR (bo rfl)).2 _ aA) ((ng .eb (bo rfl)).2 _ hm) oA (le (cJ (t+0)) (cJ _) (fu _)) (aE rfl) λ PT er eP hP LU dL hZ tv afM f2 xY=>?_
 have f2:=ng.trans f2
 refine G4 (z:=z) (k:=0) (l:=1) (aV:=aV) (aW:=none) (bp:=none) (bq:=none) (bh:=none) (bj:=none) (bu:=some (.ii 1)) (aE rfl) iy hZ tv ((f2 .dR (bo rfl)).2 _ aA) ((f2 .eb (bo rfl)).2 _ hm) afM (le LU (cJ _) (aE rfl)) (aE rfl) λ PU eO jW i5 Ad fI h0 tw GV hn jS=>?_
 have hn:=f2.trans hn
 have Ad:eO≤t+4:=a' Ad (hb LU 2)
 refine G4 (z:=z) (k:=0) (l:=2) (aV:=aV) (aW:=none) (bp:=none) (bq:=none) (bh:=none) (bj:=none) (bu:=some (.ii 2)) (aE rfl) iy h0 tw ((hn .dR (bo rfl)).2 _ aA) ((hn .eb (bo rfl)).2 _ hm) GV (le Ad (cJ _) (aE rfl)) (aE rfl) λ afR hr qK xd Yr j4 pQ G' GW xD td=>?_
 rw[gd]at dL fI j4
 exact f PT PU afR hr qK xd ek (some (.ii 3)) (a' Yr (hb Ad 2)) (dm (z+2) He (ev (a aN.w) aV bu none none none none none) n _ st _ rfl (aE rfl) _ _ (fd trivial dL (fd trivial fI (fd trivial j4 (hg trivial))))) pQ G' GW (hn.trans xD) gd ⟨iy,λ l hl=>sS l (ls hl) xY jS td⟩
end
end Mine
end
section
namespace Mine
variable{l:C}{r:aN}{eJ dN dI eh t k:C}{bu:Y D}{aG:B (C×D)}
section
variable{a:bH}{h:aT}{n:St}{T:B aP}{z:C}{W:cw}{X:Prop}
structure l6(a:bH)(h:aT)(l m:C):Prop where
 bF:∃aG,h (.ty l)=some (.bF 1 aG)∧aG.lookup 7=some (.ii 1)∧aG.lookup 11=some (.ref (a (.tyP l)))∧aG.lookup 15=some (.ref (a (.dw l)))∧aG.lookup 19=some (.ref (a (.cM l)))
 par:∃cp,h (.tyP l)=some (.li cp)∧cp.length=m
noncomputable def A1(l:C)(r:aN):Prop:=r= .ty l∨r= .tyP l∨r= .dw l∨r= .cM l
theorem l6.bx{aY:bH}{H:aT}{l m:C}(P:l6 a h l m)(bx:bY (A1 l) a h aY H):l6 aY H l m:=
 let⟨aG,aw,aB,bZ,dL,fI⟩:=P.bF
 let⟨cp,gk,fU⟩:=P.par
 ⟨⟨aG,(bx _ (.inl rfl)).2 _ aw,aB,by rw[(bx _ (.inr (.inl rfl))).1];exact bZ,by rw[(bx _ (.inr (.inr (.inl rfl)))).1];exact dL,by rw[(bx _ (.inr (.inr (.inr rfl)))).1];exact fI⟩,⟨cp,(bx _ (.inr (.inl rfl))).2 _ gk,fU⟩⟩
noncomputable def kb(l:C):B aN:=[.ty l,.tyP l,.dw l,.cM l]
noncomputable def dc:aN→C
 | .ty l| .tyP l| .dw l| .cM l=>l+1
 |_=>0
theorem F'(m:r∈kb l):dc r=l+1:=(show∀r∈kb l,dc r=l+1 from yB.mpr ⟨rfl,yB.mpr ⟨rfl,oX (P:=λ r=>dc r=l+1) rfl rfl⟩⟩) r m
theorem abq(h:dc r≠l+1)(k:r.ctorIdx≠aN.types.ctorIdx):dB (.types::kb l) r:=λ m=>(kh.mp m).elim (λ L=>k (an aN.ctorIdx L)) λ m=>h (F' m)
theorem A2(q:A1 l r):dc r=l+1∧r.ctorIdx≠aN.types.ctorIdx:=by rcases q with rfl|rfl|rfl|rfl<;>exact⟨rfl,tV rfl⟩
theorem l'{b9:B a0}{i:C}:(n++b9)[n.length+i]? =b9[i]? :=(yC (d2 ..)).trans (by rw[wd])
theorem lc{α:Type}{x y:α}{l:B α}:y∈x::y::l:=.tail _ (.head _)
theorem afD{e2 name:D}{cp:B C}(M:Good a h n)(f:∀aY H,Good aY H (n++Bz n.length e2 name cp)→aY (.ty l)=n.length→l6 aY H l cp.length→H (.dw l)=some (.li [])→H (.cM l)=some (.li [])→bY (dB (kb l)) a h aY H→X):X:=by
 have mO:Good a h (n++Bz n.length e2 name cp):=M.mm
 obtain⟨iW,dy⟩:=mO.adopt (r:=.ty l) (m:=n.length+0) (b:=n.length) M.E2 (cJ _) (l'.trans rfl) (λ _=>a5 rfl)
 obtain⟨ji,eE⟩:=iW.adopt (r:=.tyP l) (m:=n.length+2) dy (h5 _) (l'.trans rfl) (λ _=>a5 rfl)
 obtain⟨pO,pm⟩:=ji.adopt (r:=.dw l) (m:=n.length+6) eE (fB (aE rfl:3≤6) n.length) (l'.trans rfl) (λ _=>a5 rfl)
 obtain⟨pP,uX⟩:=pO.adopt (r:=.cM l) (m:=n.length+7) pm (cJ _) (l'.trans rfl) (λ _=>a5 rfl)
 have iB:∀{α:Type} {g:aN→α} {x y L:α},up (up (up g (.tyP l) x) (.dw l) y) (.cM l) L (.ty l)=g (.ty l):=(bP _ _ (a5 rfl)).trans ((bP _ _ (a5 rfl)).trans (bP _ _ (a5 rfl)))
 have kH:∀{α:Type} {g:aN→α} {x y L:α},up (up (up g (.tyP l) x) (.dw l) y) (.cM l) L (.tyP l)=x:=(bP _ _ (a5 rfl)).trans ((bP _ _ (a5 rfl)).trans (cR _ _ _))
 have ol:∀{α:Type} {g:aN→α} {y L:α},up (up g (.dw l) y) (.cM l) L (.dw l)=y:=(bP _ _ (a5 rfl)).trans (cR _ _ _)
 refine f _ _ pP (iB.trans (cR _ _ _)) ⟨⟨GO n.length e2 name (.ss cp),iB.trans (cR _ _ _),rfl,?_,?_,?_⟩,⟨tz cp,kH,cG ..⟩⟩ ol (cR _ _ _) ((((bY.mx (.head _)).trans (bY.mx lc)).trans (bY.mx (.tail _ lc))).trans (bY.mx (.tail _ (.tail _ lc))))
 ·rw[kH];rfl
 ·rw[ol];rfl
 ·rw[cR];rfl
noncomputable def By:bk:=(.cons (.ex (.append (.at (.v 1) 36) (.new 1 (.cons (.bin .add (.ii 66) (.v 2)) (.cons (.aq (.ss [65,66,67,68]) (.v 2)) (.cons (.ii 1) (.cons (.ii 0) (.cons (.neg (.ii 1)) (.cons (.mF (.ss [84,85]) (.aq (.aq (.v 0) (.ss [109,97,110,121])) (.v 2))) (.cons (.ii 1) .nil)))))))))) .nil)
theorem Dh:fH .add (.ii 66) (E l)=some (E (66+l)):=rfl
theorem aft{m:C}(hm:m≤2)(f:∀cp:B C,cp.length=m→cp.all (decide<|· <128)=true→(∀n,rR n (.ss [84,85]) (E m)=some (.inl (.ss cp)))→X):X:=
 sS (P:=λ m=>(∀cp:B C,cp.length=m→cp.all (decide<|· <128)=true→(∀n,rR n (.ss [84,85]) (E m)=some (.inl (.ss cp)))→X)→X) m hm (λ f=>f _ rfl rfl λ _=>rfl) (λ f=>f _ rfl rfl λ _=>rfl) (λ f=>f _ rfl rfl λ _=>rfl) f
theorem afF{aW bp bq bh bj:Y D}{rP:B D}(hl:l≤3)(iy:∀l,jQ eJ dN dI eh l≤2)(M:Good a h n)(cS:h .w=some (.ds (dE a t (k+6))))(hm:h .eb=some (.li [E eJ,E dN,E dI,E eh]))(hs:h .store=some (.bF 3 aG))(cl:aG.lookup 36=some (.ref (a .types)))(bD:h .types=some (.li rP))(Ys:rP.length<1000)
  (f:∀J H aY,(di false [2] (E l) (ev (a .w) (some (.ref (a .store))) bu aW bp bq bh bj)).bind (λ aF=>bS ac (runN ac (z+1)) By aF n)=some (.br (ev (a .w) (some (.ref (a .store))) (some (E l)) aW bp bq bh bj),J)→Good aY H J→l6 aY H l (jQ eJ dN dI eh l)→H (.dw l)=some (.li [])→H (.cM l)=some (.li [])→H .types=some (.li (rP++[.ref (aY (.ty l))]))→bY (dB (.types::kb l)) a h aY H→aY .types=a .types→X):X:=by
 obtain⟨nm,cy⟩:∃nm,de n (.ss [65,66,67,68]) (E l)=some nm:=nb l hl ⟨_,rfl⟩ ⟨_,rfl⟩ ⟨_,rfl⟩ ⟨_,rfl⟩
 refine aft (iy l) λ cp LR bM Yw=>?_
 have e:=PL (z:=z) (n:=n) (e2:=E (66+l)) (name:=nm) (LR▸iy l) bM
 refine afD (l:=l) (e2:=E (66+l)) (name:=nm) (cp:=cp) M λ aY H dG C2 afn rc dk bx=>?_
 have JG:=(bx .types (λ m=>Ry l (F' m).symm)).1
 refine dG.l9 (v:=.ref n.length) ((bx .types (λ m=>Ry l (F' m).symm)).2 _ bD) Ys λ ao eA dA=>?_
 rw[JG]at eA
 exact f ao _ aY (aR (a:=ev (a .w) (some (.ref (a .store))) (some (E l)) aW bp bq bh bj) rfl (dm (z+1) By (ev (a aN.w) (some (D.ref (a aN.store))) (some (E l)) aW bp bq bh bj) n _ ((fk (M.at_ _ _ hs)).trans cl) (hQ (M.at_ _ _ bD)) _ rfl _ Dh _ cy _ rfl _ (gx (M.at_ _ _ cS) rfl) _ (E9 M hm hl) _ (Yw n) _ e _ eA)) dA (LR▸afn.bx (bY.set λ q=>(A2 q).2 rfl)) ((bP _ _ (a5 rfl)).trans rc) ((bP _ _ (a5 rfl)).trans dk) ((cR _ _ _).trans (by rw[C2])) ((bx.sub (gI λ r a4=>.tail _ a4)).trans (bY.kK (.head _))) JG
structure ko(a:bH)(h:aT):Prop where
 bF:∃aG,h .store=some (.bF 3 aG)∧aG.length<20∧aG.lookup 35=some (.ref (a .kt))∧aG.lookup 36=some (.ref (a .types))∧aG.lookup 15=some (.ref (a .meths))
noncomputable def vM:B aN:=.types::(kb 0++kb 1++kb 2++kb 3)
noncomputable def Hf:bk:=.cons (.cc (.v 1) 36 (.pE (.lst (.cons (.nn) .nil)) (.ii 66))) (.cons (.dd [2] false (.gQ (.ii 4)) By) (.cons (.ex (.append (.at (.v 1) 36) (.new 1 (.cons (.ii 70) (.cons (.ss [71]) (.cons (.ii 1) (.cons (.ii 0) (.cons (.neg (.ii 1)) (.cons (.ss [84]) (.cons (.ii 1) .nil)))))))))) .nil))
theorem tx{q:B aN}{ed:bH}{bJ:aT}(bx:bY (dB q) a h ed bJ)(z:([aN.dR,.gA,.store,.host,.eb,.fA,.hH].all λ r=>q.all λ p=>!(p.ctorIdx==r.ctorIdx))=true):dE ed t k=dE a t k:=by
 have f:∀r,r∈ [aN.dR,.gA,.store,.host,.eb,.fA,.hH]→ed r=a r:=λ r m=>(bx r (bo (g'.mp z r m))).1
 unfold dE
 rw[f .dR (.head _),f .gA (.tail _ (.head _)),f .store (.tail _ (.tail _ (.head _))),f .host (.tail _ (.tail _ (.tail _ (.head _)))),f .eb (.tail _ (.tail _ (.tail _ (.tail _ (.head _))))),f .fA (.tail _ (.tail _ (.tail _ (.tail _ (.tail _ (.head _)))))),f .hH (.tail _ (.tail _ (.tail _ (.tail _ (.tail _ (.tail _ (.head _)))))))]
noncomputable def si(a:bH)(h:aT)(l m:C):Prop:=l6 a h l m∧h (.dw l)=some (.li [])∧h (.cM l)=some (.li [])
theorem si.bx{l m:C}{aY:bH}{H:aT}(Q:si a h l m)(bx:bY (A1 l) a h aY H):si aY H l m:=⟨Q.1.bx bx,(bx _ (.inr (.inr (.inl rfl)))).2 _ Q.2.1,(bx _ (.inr (.inr (.inr rfl)))).2 _ Q.2.2⟩
structure CX(a:bH)(h:aT)(t k eJ dN dI eh:C)(aG:B (C×D))(l:C):Prop where
 w:h .w=some (.ds (dE a t (k+6)))
 m:h .eb=some (.li [E eJ,E dN,E dI,E eh])
 s:h .store=some (.bF 3 aG)
 f:aG.lookup 36=some (.ref (a .types))
 y:h .types=some (.li (dx 66 .nn++(ck l).map λ i=>.ref (a (.ty i))))
 q:∀i,i<l→si a h i (jQ eJ dN dI eh i)
theorem BA(hl:l≤3)(iy:∀l,jQ eJ dN dI eh l≤2)(M:Good a h n)(S:CX a h t k eJ dN dI eh aG l)
  (f:∀J H aY,(di false [2] (E l) (ev (a .w) (some (.ref (a .store))) bu none none none none none)).bind (λ aF=>bS ac (runN ac (z+1)) By aF n)=some (.br (ev (a .w) (some (.ref (a .store))) (some (E l)) none none none none none),J)→Good aY H J→CX aY H t k eJ dN dI eh aG (l+1)→bY (dB (.types::kb l)) a h aY H→aY .w=a .w→aY .store=a .store→X):X:=by
 refine afF (z:=z) (bu:=bu) (aW:=none) (bp:=none) (bq:=none) (bh:=none) (bj:=none) hl iy M S.w S.m S.s S.f S.y (by rw[fh,cG,gB,Cd];omega) λ J H aY e dG P ak I agk bx S8=>?_
 have lo:∀{i r},i<l→A1 i r→dB (.types::kb l) r:=λ ay q=>abq (λ L=>mS ay (oS ((A2 q).1.symm.trans L))) (A2 q).2
 refine f J H aY e dG ⟨(tx bx rfl).symm▸(bx .w (bo rfl)).2 _ S.w,(bx .eb (bo rfl)).2 _ S.m,(bx .store (bo rfl)).2 _ S.s,S8▸S.f,agk.trans ?_,λ i ay=>(Rr.mp ay).elim (λ ay=>(S.q i ay).bx (bx.sub λ r q=>lo ay q)) λ L=>by subst L;exact⟨P,ak,I⟩⟩ bx (bx .w (bo rfl)).1 (bx .store (bo rfl)).1
 rw[Ch,nF,jy]
 exact an (λ ae=>some (a0.li (dx 66 .nn++(ae++[.ref (aY (.ty l))])))) (pS λ i ay=>an D.ref (bx (.ty i) (lo (ga.mp ay) (.inl rfl))).1.symm)
theorem adc{v:D}:vs (n++[.li [v]]) (.ref n.length) (.ii 66)=some (dx 66 v):=
 (an (λ o:Y a0=>match o with|some (.li [x])=>if(0:am)≤66∧(66:am)<1000 then some (dx (66:am).toNat x)else none|_=>none) (i1 rfl:(n++[a0.li [v]])[n.length]? =some (.li [v]))).trans rfl
theorem BE(hl:l≤3):∀r,r∈ .types::kb l→r∈ .store::vM:=λ r m=>.tail _ ((kh.mp m).elim (λ L=>L▸.head _) λ m=>.tail _ (nb (P:=λ l=>r∈kb l→r∈kb 0++kb 1++kb 2++kb 3) l hl (λ m=>oO _ (oO _ (oO _ m))) (λ m=>oO _ (oO _ (wb _ m))) (λ m=>oO _ (wb _ m)) (λ m=>wb _ m) m))
theorem agc(iy:∀l,jQ eJ dN dI eh l≤2)(M:Good a h n)(cS:h .w=some (.ds (dE a t (k+6))))(hm:h .eb=some (.li [E eJ,E dN,E dI,E eh]))(hs:h .store=some (.bF 3 aG))(z8:aG.length<19)(D9:aG.lookup 35=some (.ref (a .kt)))(D7:aG.lookup 15=some (.ref (a .meths)))
  (f:∀J H aY s2 x,bS ac (runN ac (z+1)) Hf (ev (a .w) (some (.ref (a .store))) bu none none none none none) n=some (.br (ev (a .w) (some (.ref (a .store))) s2 none none none none none),J)→Good aY H J→ko aY H→(∀l,l<4→si aY H l (jQ eJ dN dI eh l))→H .types=some (.li (dx 66 .nn++[.ref (aY (.ty 0)),.ref (aY (.ty 1)),.ref (aY (.ty 2)),.ref (aY (.ty 3)),x]))→bY (dB (.store::vM)) a h aY H→aY .store=a .store→X):X:=by
 have first:∀{X:Prop},(∀bW cQ ek ux,lj ac (n++[.li [.nn]]++[.li (dx 66 .nn)]) (.ref (a .store)) 36 (.ref (n++[a0.li [.nn]]).length)=some bW→Good ek cQ bW→CX ek cQ t k eJ dN dI eh ux 0→(ux.length<20∧ux.lookup 35=some (.ref (a .kt))∧ux.lookup 15=some (.ref (a .meths)))→bY (dB (.store::vM)) a h ek cQ→ek .w=a .w→ek .store=a .store→X)→X:=λ f=>by
  have dA:=(M.kE (.li [.nn])).new .types (λ _=>a5 rfl) (.li (dx 66 .nn))
  have as:up a .types (n++[a0.li [.nn]]).length .store=a .store:=bP _ _ (a5 rfl)
  have xa:(up h .types (some (.li (dx 66 .nn)))) .store=some (.bF 3 aG):=(bP _ _ (a5 rfl)).trans hs
  have d0:=dA.set (c3:=.bF 3 (c8 aG 36 (.ref (n++[a0.li [.nn]]).length))) xa
  have at2:=dA.at_ _ _ xa
  rw[as]at at2 d0
  have mw:bY (dB [.types]) a h (up a .types (n++[a0.li [.nn]]).length) (up h .types (some (.li (dx 66 .nn)))):=bY.mx (.head _)
  have g3:=(mw.sub (gI (AE (y:=.store)))).trans (bY.kK (r:=.store) (o:=some (.bF 3 (c8 aG 36 (.ref (n++[a0.li [.nn]]).length)))) xz)
  refine f _ _ _ (c8 aG 36 (.ref (n++[a0.li [.nn]]).length)) (x6 at2 rfl (fi z8 (aE rfl))) d0 ⟨?_,(g3 .eb (bo rfl)).2 _ hm,cR _ _ _,?_,?_,λ i ay=>absurd ay (yO i)⟩ ⟨cn AY (Rx z8),(nk (by decide)).trans D9,(nk (by decide)).trans D7⟩ (g3.sub (gI (oX (.tail _ (.head _)) (.head _)))) (bP _ _ (a5 rfl)) as
  ·rw[tx mw rfl];exact(g3 .w (bo rfl)).2 _ cS
  ·exact qy.trans (an (λ x=>some (D.ref x)) (cR _ _ _).symm)
  ·exact(bP _ _ (a5 rfl)).trans (cR _ _ _)
 refine first λ bW cQ ek ux bZ d0 y7 cl g3 sq q2=>?_
 refine BA (z:=z) (l:=0) (bu:=bu) (aE rfl) iy d0 y7 λ eP hP kq dL hZ Sp f2 Dc zf=>?_
 refine BA (z:=z) (l:=1) (bu:=some (E 0)) (aE rfl) iy hZ Sp λ jW i5 k5 fI h0 Sq hn JL C7=>?_
 refine BA (z:=z) (l:=2) (bu:=some (E 1)) (aE rfl) iy h0 Sq λ qK xd o6 j4 pQ Sr xD zk JE=>?_
 refine BA (z:=z) (l:=3) (bu:=some (E 2)) (aE rfl) iy pQ Sr λ vV L1 JN wQ v6 sh aa2 ag0 zg=>?_
 have QH:Good JN L1 (vV++Bz vV.length (.ii 70) (.ss [71]) [84]):=v6.mm
 have ul:=PL (z:=z) (n:=vV) (e2:=.ii 70) (name:=.ss [71]) (cp:=[84]) (aE rfl) rfl
 have hT:=(((g3.trans (f2.sub (gI (BE (aE rfl))))).trans (hn.sub (gI (BE (aE rfl))))).trans (xD.sub (gI (BE (aE rfl))))).trans (aa2.sub (gI (BE (cJ 3))))
 have zg:=zg.trans (JE.trans (C7.trans (zf.trans q2)))
 have uS:=(fk (v6.at_ _ _ sh.s)).trans sh.f
 rw[zg]at uS
 rw[sq,q2]at dL
 rw[Dc,zf,sq,q2]at fI
 rw[JL,C7,Dc,zf,sq,q2]at j4
 rw[zk,JE,JL,C7,Dc,zf,sq,q2]at wQ
 refine QH.l9 (v:=.ref vV.length) sh.y (aE rfl) λ agr eA QI=>?_
 exact f agr _ JN (some (E 3)) (.ref vV.length) (dm (z+1) Hf (ev (a aN.w) (some (D.ref (a aN.store))) bu none none none none none) n _ adc _ bZ _ rfl _ rfl (aE rfl) _ _ (fd trivial dL (fd trivial fI (fd trivial j4 (fd trivial wQ (hg trivial))))) _ uS (hQ (v6.at_ _ _ sh.y)) _ rfl _ rfl _ ul _ eA) QI ⟨ux,(bP _ _ (a5 rfl)).trans sh.s,cl.1,(hT .kt (bo rfl)).1.symm▸cl.2.1,sh.f,(hT .meths (bo rfl)).1.symm▸cl.2.2⟩ (λ l hl=>(sh.q l hl).bx (bY.set λ q=>(A2 q).2 rfl)) (cR _ _ _) (hT.trans (bY.kK (.tail _ (.head _)))) zg
end
end Mine
end
section
namespace Mine
variable{l:B aN}{r:aN}{ae:C}{al:B (am×D)}{k:C}{v:D}{aC:B aP}{m:C}{aV aQ bq:Y D}{aY:bH}{H:aT}{ks:B C}{O:B (B C×D)}{bh bj:Y D}
section
variable{a:bH}{h:aT}{n:St}{T:B aP}{z:C}{W:cw}{X:Prop}
theorem nT{p:aN→av}(h:(l.all λ q=>!(p q))=true)(k:p r=true):dB l r:=λ m=>jw ((an not k).symm.trans (g'.mp h r m))
noncomputable def dM(W:cw)(ae d:C):ap:=gY (66+(ae-d)) (W.dK ae d)
theorem u0(K:W.ok)(cC:ae≤3){d:C}(a1:d≤ae):(dM W ae d).wf∧(dM W ae d).size≤9∧bd (dM W ae d)= .tup [.ss [103],E (66+(ae-d)),.tup ((W.dK ae d).map bd)]:=
 have bO:=(K.arg cC a1).2
 ⟨WU (.inr ⟨d2 ..,fB (a' (nJ ..) (a' cC (h5 3))) 66⟩) λ t bD=>(bO t bD).2.1,
  a' (WQ λ t bD=>(bO t bD).2.2) (gq (hv (gq (a' a1 cC)) (gq (a' a1 cC)))),WS (K.lD cC a1)⟩
noncomputable def lV(T:B aP)(W:cw)(al:B (am×D)):Prop:=∀(k:C) (v:D),al.lookup (k:am)=some v→∃l b6 e7,l<3∧b6.length≤2∧ba T k (gY (66+(l+1)) b6)∧v=E e7∧ba T e7 (gY (66+l) ((W.up (l+1)).map (ap.sub b6)))
theorem lV.b7(ok:lV T W al)(e:al.lookup (k:am)=some v)(f:∀l b6 e7,l<3→b6.length≤2→ba T k (gY (66+(l+1)) b6)→v=E e7→ba T e7 (gY (66+l) ((W.up (l+1)).map (ap.sub b6)))→X):X:=let⟨l,b6,e7,ax,aH,cI,gh,kz⟩:=ok k v e;f l b6 e7 ax aH cI gh kz
theorem lV.more(m:∀{k:C} {t:ap},ba T k t→ba aC k t)(ok:lV T W al):lV aC W al:=λ k v e=>ok.b7 e λ l b6 e7 ax aH cI gh kz=>⟨l,b6,e7,ax,aH,m cI,gh,m kz⟩
theorem lV.put(ok:lV T W al){eW c2 l:C}{b6:B ap}(ax:l<3)(aH:b6.length≤2)(cI:ba T eW (gY (66+(l+1)) b6))(kz:ba T c2 (gY (66+l) ((W.up (l+1)).map (ap.sub b6)))):lV T W (c8 al (eW:am) (E c2)):=λ k v e=>
 (f9 ((k:am)=eW)).elim (λ L=>⟨l,b6,c2,ax,aH,tK L▸cI,(ll (L▸qy) e).symm,kz⟩) λ L=>ok k v ((nk L).symm.trans e)
noncomputable def EN:ab:=.call 54 (.cons (.v 0) (.cons (.tup (.cons (.ss [103]) (.cons (.bin .add (.ii 66) (.v 6)) (.cons (.v 7) .nil)))) .nil))
noncomputable def Zn(z w m:C)(l:B D)(aV aQ aW bp bq bN bm:Y D)(ds acc:B D)(n:St):Y (B D×St):=@lF (live (.ref m) l) (e1 (.ref m) l) (λ x ao=>(di true [6,7] x (ev w aV aQ aW bp bq bN bm)).bind λ aF=>(hp ac (runN ac (z+31)) .nil aF ao).bind λ q=>if q.1=true then(ci ac (runN ac (z+31)) EN aF q.2).bind λ r=>some ([r.1],r.2)else some ([],q.2)) ds acc n
noncomputable def aai(W:cw)(ae d:C):D:=.tup [E (ae-d),.tup ((W.dK ae d).map bd)]
theorem Zu{l:B D}{aW bp bN bm:Y D}(cC:ae≤3){ds:B C}:∀{acc:B D} {n:St} {h:aT} {T:B aP},(∀d∈ds,d≤ae)→fP a h W→c6 a h T→Good a h n→h (.a6 m)=some (.li l)→T.length+24*(ds.length+1)<500000→
  (∀(ks:B C) (J:St) (aC:B aP) (H:aT),Zn z (a .w) m l aV aQ aW bp bq bN bm (ds.map (aai W ae)) acc n=some (acc++ks.map E,J)→d1 aC ks (ds.map (dM W ae))→b0 a h T (24*ds.length) J aC H→X)→X:=by
 induction ds with
 |nil=>exact λ{acc n h T} a1 lZ al M hm a3 f=>f [] n T h ((jF (df M hm)).trans (an (λ l=>some (l,n)) (eZ acc).symm)) trivial ((b0.refl al M).mono (fu _))
 |cons d ds aZ=>
  intro acc n h T a1 lZ al M hm a3 f
  have hl:(d::ds).length=ds.length+1:=rfl
  have t:=u0 lZ.ok cC (a1 d (.head _))
  refine xr (z:=z) lZ al M t.1 (a' t.2.1 (aE rfl)) (by omega) λ k aa bX aI e q go=>?_
  refine aZ (acc:=acc++[E k]) (λ d gw=>a1 d (.tail _ gw)) (lZ.go go) go.bT go.good (go.a6 hm).1 (by have:=go.le;omega) λ ks ao cL bJ aB cO b8=>?_
  rw[t.2.2]at e
  have st:ci ac (runN ac (z+31)) EN (ev (a .w) aV aQ aW bp bq (some (E (ae-d))) (some (.tup ((W.dK ae d).map bd)))) n=some (E k,aa):=(hI (z+31) EN (ev (a aN.w) aV aQ aW bp bq (some (E (ae-d))) (some (D.tup (eB bd (W.dK ae d))))) n _ Dh _ _ e)
  exact f (k::ks) ao cL bJ (h8 (df M hm) (j2 (aF:=ev (a .w) aV aQ aW bp bq (some (E (ae-d))) (some (.tup ((W.dK ae d).map bd)))) rfl st) (aB.trans (an (λ l=>some (l,ao)) (jy ..)))) ⟨b8.eT q,cO⟩ ((go.trans b8).mono (by omega))
structure qQ(a:bH)(h:aT):Prop where
 bF:∃aG,h .host=some (.bF 9 aG)∧aG.length<20∧aG.lookup 35=some (.ref (a .kt))∧aG.lookup 70=some (.ref (a .fF))∧aG.lookup 7=none∧aG.lookup 9=none
theorem qQ.bx(cU:qQ a h)(dN:∀o,h .host=some o→H .host=some o)(dI:aY .kt=a .kt)(eh:aY .fF=a .fF):qQ aY H:=let⟨aG,aw,aB,bZ,dL,fI⟩:=cU.bF;⟨aG,dN _ aw,aB,dI.symm▸bZ,eh.symm▸dL,fI⟩
theorem qQ.b(cU:qQ a h)(M:Good a h n):d7 n (.ref (a .host)) 70=some (.ref (a .fF)):=let⟨_,aw,_,_,dL,_⟩:=cU.bF;(fk (M.at_ _ _ aw)).trans dL
theorem L4{i:C}(e:n[m]? =some (.li (ks.map E)))(ay:ks[i]? =some k):de n (.ref m) (E i)=some (E k):=j7 e (i9 ay)
theorem OY{O:B (am×D)}(e:n[m]? =some (.cq O))(l:O.length<1000):j' n (.ref m) (E k) v=some (n.set m (.cq (c8 O (k:am) v))):=(an (rL n m (E k) v) e).trans (if_pos (pG l))
noncomputable def zo:bk:=(.cons (.gJ (.at (.aq (.v 0) (.ss [104,111,115,116])) 70) (.aq (.v 3) (.bin .sub (.v 4) (.ii 1))) (.aq (.v 3) (.v 4))) .nil)
theorem d1.get{bE:B ap}(q:d1 T ks bE):∀{i k:C} {t:ap},ks[i]? =some k→bE[i]? =some t→ba T k t:=
 q.b7 (ak:=λ ks bE=>∀{i k:C} {t:ap},ks[i]? =some k→bE[i]? =some t→ba T k t) (λ e=>nomatch e) λ _ _ _ _ q _ r {i _ _}=>match i with
  |0=>λ e bC=>ll e rfl▸ll bC rfl▸q
  |_+1=>λ e bC=>r e bC
theorem EY(sI:d1 T ks ((ck (ae+1)).map (dM W ae))){p:C}(bM:p<ae+1)(f:∀k,ks[p]? =some k→ba T k (dM W ae p)→X):X:=
 have e:p<ks.length:=by rw[sI.len,cG,gB];exact bM
 f _ (h2 e) (sI.get (h2 e) (i9 (yF bM)))
theorem aan{k ct:am}(e:(al.lookup k).isSome=true):((c8 al ct v).lookup k).isSome=true:=
 (f9 (k=ct)).elim (λ L=>L▸an pY qy) λ L=>(an pY (nk L)).trans e
noncomputable def Ut(z:C)(lo ay:am)(cf cp:B D)(env:aX)(n:St):Y (e0×St):=@fE (live (.ew lo ay) cf) (e1 (.ew lo ay) cf) (λ x aF J=>(di false [4] x aF).bind λ dH=>bS ac (runN ac z) zo dH J) cp env n
theorem Uj{lo ay:am}{cf:B D}(cC:ae≤3)(sI:d1 T ks ((ck (ae+1)).map (dM W ae)))(K:W.ok)(cy:T.Nodup){cp:B C}:∀{n:St} {h:aT} {al:B (am×D)} {cm:Y D},(∀p∈cp,p<ae)→Good a h n→h .w=some (.ds O)→O.lookup xl=some (.ref (a .host))→qQ a h→h (.a6 m)=some (.li (ks.map E))→h .fF=some (.cq al)→al.length+cp.length<900→lV T W al→
  (∀(J:St) (H:aT) (iG:B (am×D)) (js:Y D),Ut z lo ay cf (cp.map λ p=>E (p+1)) (ev (a .w) aV aQ (some (.ref m)) cm bq bh bj) n=some (.br (ev (a .w) aV aQ (some (.ref m)) js bq bh bj),J)→Good a H J→H .fF=some (.cq iG)→iG.length≤al.length+cp.length→lV T W iG→bY (dB [.fF]) a h a H→(∀p∈cp,∀k,ba T k (dM W ae p)→(iG.lookup (k:am)).isSome=true)→(∀k:am,(al.lookup k).isSome=true→(iG.lookup k).isSome=true)→X)→X:=by
 induction cp with
 |nil=>exact λ{n h al cm} bM M cS sH cU hm fF hl ok f=>f n h al cm (hg trivial) M fF (cJ _) ok bY.refl (λ p bM=>nomatch bM) λ k e=>e
 |cons p cp aZ=>
  intro n h al cm bM M cS sH cU hm fF hl ok f
  have n8:=bM p (.head _)
  refine EY sI (pX n8) λ eW md fy=>EY sI (Rx n8) λ c2 aw d'=>?_
  have hB:bY (dB [.fF]) a h a (up h .fF (some (.cq (c8 al (eW:am) (E c2))))):=bY.kK (.head _)
  have O:=GA n8
  have ab4:=ok.put (l:=ae- (p+1)) (b6:=W.dK ae p) (eW:=eW) (c2:=c2) (fa (Cs (fa p.succ_pos n8) p.succ_pos) cC) (K.lD cC (h4 n8)) (O.symm▸fy) (O.symm▸d')
  have ag7:(p::cp).length=cp.length+1:=rfl
  have lO:=AY (O:=al) (k:=(eW:am)) (v:=E c2)
  refine aZ (cm:=some (E (p+1))) (λ p rg=>bM p (.tail _ rg)) (M.set (c3:=.cq (c8 al (eW:am) (E c2))) fF) ((hB .w (bo rfl)).2 _ cS) sH (cU.bx (λ o e=>(hB .host (bo rfl)).2 _ e) rfl rfl) ((hB _ (bo rfl)).2 _ hm) (cR _ _ _) (by omega) ab4 λ ao bJ Hw js aB dA Xd eE ab5 sZ uy Lp=>?_
  have st:bS ac (runN ac z) zo (ev (a .w) aV aQ (some (.ref m)) (some (E (p+1))) bq bh bj) n=some (.br (ev (a .w) aV aQ (some (.ref m)) (some (E (p+1))) bq bh bj),n.set (a .fF) (.cq (c8 al (eW:am) (E c2)))):=(dm z zo (ev (a aN.w) aV aQ (some (D.ref m)) (some (E (p+1))) bq bh bj) n _ (L4 (df M hm) aw) _ (gx (M.at_ _ _ cS) sH) _ (cU.b M) _ JP _ (L4 (df M hm) md) _ (OY (k:=eW) (v:=E c2) (M.at_ _ _ fF) (cn (d2 ..) (fi hl (aE rfl)))))
  exact f ao bJ Hw js (fd trivial (aR (a:=ev (a .w) aV aQ (some (.ref m)) (some (E (p+1))) bq bh bj) rfl st) aB) dA Xd (by omega) ab5 (hB.trans sZ) (λ f4 rg k q=>(kh.mp rg).elim (λ L=>Lp _ (ba.inj cy (L▸q) fy▸an pY qy)) λ rg=>uy f4 rg k q) λ k e=>Lp k (aan e)
noncomputable def tT(l:B aN)(r:aN):Prop:=gZ r=false∧r∉l
theorem vc(k:gZ r=false)(h:(l.all λ q=>!(q.ctorIdx==r.ctorIdx))=true):tT l r:=⟨k,bo h⟩
theorem b0.bx{aI:aT}{bX:B aP}{b:C}{aa:St}(x:b0 a h T b aa bX aI):bY (tT l) a h a aI:=bY.go x λ r k=>k.1
noncomputable def sW:aN→av
 | .w| .store| .eb| .fA| .kt=>true
 |_=>false
theorem fP.bx(ae:fP a h W)(m:bY (λ r=>sW r=true) a h aY H):fP aY H W:=
 ⟨let⟨O,aw,aB,bZ,dL⟩:=ae.w;⟨O,(m .w rfl).2 _ aw,(m .store rfl).1.symm▸aB,(m .eb rfl).1.symm▸bZ,(m .fA rfl).1.symm▸dL⟩,let⟨aG,it,gD⟩:=ae.store;⟨aG,(m .store rfl).2 _ it,(m .kt rfl).1.symm▸gD⟩,(m .eb rfl).2 _ ae.many,(m .fA rfl).2 _ ae.up,ae.ok⟩
structure nR(a:bH)(h:aT)(T:B aP)(W:cw)(O:B (B C×D))(al:B (am×D)):Prop where
 lw:fP a h W
 bT:c6 a h T
 w:h .w=some (.ds O)
 zJ:O.lookup xl=some (.ref (a .host))
 be:qQ a h
 az:h .fF=some (.cq al)
 ok:lV T W al
noncomputable def oJ(T:B aP)(W:cw)(al:B (am×D))(ae:C):Prop:=∀d,d<ae→∃k,ba T k (dM W ae d)∧(al.lookup (k:am)).isSome=true
theorem oJ.more{iG:B (am×D)}(m:∀{k:C} {t:ap},ba T k t→ba aC k t)(g:∀k:am,(al.lookup k).isSome=true→(iG.lookup k).isSome=true)(ok:oJ T W al ae):oJ aC W iG ae:=λ d a1=>let⟨k,q,e⟩:=ok d a1;⟨k,m q,g _ e⟩
noncomputable def ET:bk:=(.cons (.asg 3 (.comp (.call 54 (.cons (.v 0) (.cons (.tup (.cons (.ss [103]) (.cons (.bin .add (.ii 66) (.v 6)) (.cons (.v 7) .nil)))) .nil))) [6,7] true (.call 57 (.cons (.v 0) (.cons (.v 2) .nil))) (.nil))) (.cons (.dd [4] false (.pF (.ii 1) (.len (.v 3))) zo) .nil))
theorem Oo(cC:ae≤3):vx (.ii 1) (.ii ((ae+1:C):am))=some (.ew 1 ((ae+1:C):am))∧∀n,hR n (.ew 1 ((ae+1:C):am))=some ((ck ae).map λ p=>E (p+1)):=
 nb ae cC ⟨rfl,λ _=>rfl⟩ ⟨rfl,λ _=>rfl⟩ ⟨rfl,λ _=>rfl⟩ ⟨rfl,λ _=>rfl⟩
theorem Ay{bu cX cm:Y D}(cC:ae≤3)(M:Good a h n)(wl:nR a h T W O al)(a3:T.length+200<500000)(fF:al.length<800)
  (f:∀(J:St) (aC:B aP) (H:aT) (iG:B (am×D)) (hU js:Y D),(di false [2] (E ae) (ev (a .w) aV bu cX cm bq bh bj)).bind (λ aF=>bS ac (runN ac (z+31)) ET aF n)=some (.br (ev (a .w) aV (some (E ae)) hU js bq bh bj),J)→Good a H J→nR a H aC W O iG→iG.length≤al.length+3→(∃X,aC=T++X)→aC.length≤T.length+96→bY (tT [.fF]) a h a H→oJ aC W iG ae→(∀k:am,(al.lookup k).isSome=true→(iG.lookup k).isSome=true)→X):X:=by
 refine ER (z:=z+5) wl.lw wl.bT M (l:=ae) cC λ m aa aI aw cW hO cl=>?_
 have da:(ck (ae+1)).length=ae+1:=gB
 refine Zu (z:=z) (m:=m) (l:=lL W ae (ae+1)) (aV:=aV) (aQ:=some (E ae)) (aW:=cX) (bp:=cm) (bq:=bq) (bN:=bh) (bm:=bj) cC (ds:=ck (ae+1)) (acc:=[]) (λ d a1=>ls (ga.mp a1)) (wl.lw.go cW) cW.bT cW.good hO (by rw[da];omega) λ ks ao cL bJ aB cO b8=>?_
 have en:=b0.start b8.bT b8.good (.li (ks.map E))
 have fY:b0 a h T 96 (ao++[.li (ks.map E)]) cL _:=((cW.trans b8).trans en.1).mono (by rw[da];omega)
 have i4:ks.length=ae+1:=cO.len.trans ((cG ..).trans da)
 refine fY.bT.b7 λ _ _ _ _ I=>Uj (z:=z+31) (m:=ao.length) (ae:=ae) (ks:=ks) (O:=O) (aV:=aV) (aQ:=some (E ae)) (bq:=bq) (bh:=bh) (bj:=bj) (lo:=1) (ay:=((ae+1:C):am)) (cf:=(ck ae).map λ p=>E (p+1)) cC cO wl.lw.ok I.nodup (cp:=ck ae) (cm:=cm) (λ p bM=>ga.mp bM) fY.good (fY.off rfl wl.w) wl.zJ (wl.be.bx (λ o e=>fY.off rfl e) rfl rfl) en.2 (fY.off rfl wl.az) (by rw[gB];omega) (wl.ok.more λ q=>fY.eT q) λ jW i5 Qv js fI h0 Xw MS ab1 hn wT wZ=>?_
 rw[gB]at MS
 have lM:lb (ao++[.li (ks.map E)]) (.ref ao.length)=some ((ae+1:C):am):=(rp (i1 rfl)).trans (by rw[cG,i4])
 have Ew:(lL W ae (ae+1)).length≤100000:=by unfold lL;rw[cG,da];omega
 have uP:((ck ae).map λ p=>E (p+1)).length≤100000:=by rw[cG,gB];omega
 refine f jW cL i5 Qv (some (.ref ao.length)) js (aR (a:=ev (a .w) aV (some (E ae)) cX cm bq bh bj) rfl (dm (z+31) ET (ev (a aN.w) aV (some (E ae)) cX cm bq bh bj) n _ _ aw _ (iz (df cW.good hO)) Ew _ _ aB _ lM _ ((Oo cC).1) _ ((Oo cC).2 _) uP _ _ fI)) h0 ⟨(wl.lw.go fY).bx (hn.sub λ r k=>nT rfl k),fY.bT.bx (hn.sub λ r k=>nT (p:=hS) rfl k),(hn .w (bo rfl)).2 _ (fY.off rfl wl.w),wl.zJ,wl.be.bx (λ o e=>(hn .host (bo rfl)).2 _ (fY.off rfl e)) rfl rfl,Xw,ab1⟩ (a' MS (fB cC _)) fY.jn.ext fY.le (fY.bx.trans (hn.sub λ r k=>k.2)) (λ d a1=>?_) wZ
 exact EY cO (pX a1) λ k _ q=>⟨k,q,wT d (ga.mpr a1) k q⟩
end
end Mine
end
section
namespace Mine
variable{b c:av}{O:B (B C×D)}
noncomputable def bk.app:bk→bk→bk
 | .nil,r=>r
 | .cons s t,r=>.cons s (t.app r)
theorem j9{P:iY}{V:jh}{r:bk}{aF:aX}{J:St}:∀{s:bk} {env:aX} {n:St},bS P V s env n=some (.br aF,J)→bS P V (s.app r) env n=bS P V r aF J
 | .nil,env,n,e=>by cases e;rfl
 | .cons s t,env,n,e=>b1 e λ p aw aB=>match p,aw,aB with
  | (.br uo,aa),aw,aB=>aR aw (j9 (s:=t) aB)
  | (.f5 v,aa),_,aB=>nomatch aB
section
variable{a:bH}{h:aT}{n:St}{T:B aP}{z:C}{W:cw}{X:Prop}
theorem A7{f:C}{d:oL}{b6:B D}{r:e0}{J:St}(a1:ac.fns f=some d)(hl:b6.length=d.np)(e:bS ac (runN ac z) d.body (b6.map some++dx (d.nl-d.np) none) n=some (r,J)):runN ac (z+1) f b6 n=some (r.val,J):=aR a1 (bb hl (aR e (by cases r<;>rfl)))
noncomputable def Hg:bk:=.cons (.dd [2] false (.gQ (.ii 4)) ET) .nil
noncomputable def Yc:aN→av
 | .host| .fF=>true
 |_=>false
noncomputable def af7(r:aN):Bool:=sW r||(hS r||Yc r)
theorem ab'(h:c=true):(b||c)=true:=by
 cases b
 ·exact h
 ·rfl
theorem NV(h:b=true):(b||c)=true:=an (· ||c) h
theorem nR.bx{aY:bH}{H:aT}{al:B (am×D)}(w:nR a h T W O al)(m:bY (λ r=>af7 r=true) a h aY H):nR aY H T W O al:=
 ⟨w.lw.bx (m.sub λ r k=>NV k),w.bT.bx (m.sub λ r k=>ab' (NV k)),(m .w rfl).2 _ w.w,(m .host rfl).1.symm▸w.zJ,w.be.bx (m .host rfl).2 (m .kt rfl).1 (m .fF rfl).1,(m .fF rfl).2 _ w.az,w.ok⟩
noncomputable def P2:B aN:=[.w,.eb,.fA,.fF]++(.store::vM)
theorem DJ{aC:B aP}(x:∃X,aC=T++X){k:C}{t:ap}(q:ba T k t):ba aC k t:=let⟨_,e⟩:=x;e▸q.more
theorem agd{aV bu:Y D}(M:Good a h n)(wl:nR a h T W O [])(a3:T.length<1000)
  (f:∀(J:St) (aC:B aP) (H:aT) (iG:B (am×D)) (aF:aX),bS ac (runN ac (z+31)) Hg (ev (a .w) aV bu none none none none none) n=some (.br aF,J)→Good a H J→nR a H aC W O iG→(∃X,aC=T++X)→aC.length≤T.length+400→bY (tT [.fF]) a h a H→(∀ae,ae≤3→oJ aC W iG ae)→X):X:=by
 refine Ay (z:=z) (ae:=0) (aV:=aV) (bq:=none) (bh:=none) (bj:=none) (bu:=bu) (cX:=none) (cm:=none) (fu 3) M wl (by omega) (aE rfl) λ aa bX aI Qu cX cm aw dJ Hb dy er d4 hB it g1=>?_
 have dy:Qu.length≤3:=dy
 refine Ay (z:=z) (ae:=1) (aV:=aV) (bq:=none) (bh:=none) (bj:=none) (bu:=some (E 0)) (cX:=cX) (cm:=cm) (aE rfl) dJ Hb (by omega) (by omega) λ ao cL bJ Hw eN acp aB dA af8 eE eO d5 sZ gD g2=>?_
 refine Ay (z:=z) (ae:=2) (aV:=aV) (bq:=none) (bh:=none) (bj:=none) (bu:=some (E 1)) (cX:=eN) (cm:=acp) (aE rfl) dA af8 (by omega) (by omega) λ bW lB cQ Hx j8 xY bZ d0 af9 pm hr oF ng us gL=>?_
 refine Ay (z:=z) (ae:=3) (aV:=aV) (bq:=none) (bh:=none) (bj:=none) (bu:=some (E 2)) (cX:=j8) (cm:=xY) (cJ 3) d0 af9 (by omega) (by omega) λ eP sj hP B0 ot te dL hZ af' uX kM Qa aa4 sC mg=>?_
 have gN:=dm (z+31) Hg (ev (a .w) aV bu none none none none none) n _ rfl _ rfl (aE rfl) _ _ (fd (R:=some (.br (ev (a .w) aV (some (E 3)) ot te none none none),eP)) trivial aw (fd trivial aB (fd trivial bZ (fd trivial dL (hg trivial)))))
 exact f eP sj hP B0 (ev (a .w) aV (some (E 3)) ot te none none none) gN hZ af' (me er (me eO (me hr kM))) (by omega) (((hB.trans sZ).trans ng).trans aa4) λ ae cC=>nb ae cC (λ d a1=>absurd a1 (yO d)) (gD.more (λ q=>DJ kM (DJ hr q)) λ k e=>mg k (gL k e)) (us.more (λ q=>DJ kM q) λ k e=>mg k e) sC
theorem aaH{eJ dN dI eh:C}(De:eJ≤2)(gf:dN≤2)(i2:dI≤2)(iM:eh≤2)(l:C):jQ eJ dN dI eh l≤2:=match l with
 |0=>De|1=>gf|2=>i2|3=>iM|_+4=>fu 2
theorem ZP{xs:B C}{t:C}{aG:B (C×D)}(M:Good a h n)(al:c6 a h T)(a3:T.length<900)(cS:h .w=some (.ds (dE a t 5)))(aA:h .dR=some (.li (xs.map E)))(bD:t<10000)(hs:h .store=some (.bF 3 aG))(z8:aG.length<19)(D9:aG.lookup 35=some (.ref (a .kt)))(D7:aG.lookup 15=some (.ref (a .meths)))(be:qQ a h)(az:h .fF=some (.cq []))
  (f:∀(W:cw) (J:St) (aC:B aP) (H:aT) (aY:bH) (iG:B (am×D)) (cB:C) (x:D),runN ac (z+32) 58 [.ref (a .w)] n=some (.nn,J)→Good aY H J→nR aY H aC W (dE aY cB 7) iG→cB≤t+10→ko aY H→(∀l,l<4→si aY H l (W.many l))→H .types=some (.li (dx 66 .nn++[.ref (aY (.ty 0)),.ref (aY (.ty 1)),.ref (aY (.ty 2)),.ref (aY (.ty 3)),x]))→aC.length≤T.length+400→bY (tT P2) a h aY H→(∀ae,ae≤3→oJ aC W iG ae)→aY .w=a .w→aY .store=a .store→X):X:=by
 refine aga (z:=z+30) (aV:=some (.ref (a .store))) M cS aA (fi bD (aE rfl)) λ eJ dN dI eh aa aI cx bu De gf i2 iM aw dJ kP Nk mw zj=>?_
 have iy:=aaH De gf i2 iM
 refine agb (z:=z+29) (aV:=some (.ref (a .store))) (bu:=bu) iy dJ kP ((mw .dR (bo rfl)).2 _ aA) Nk (by omega) λ jd kN oA eO ao bJ ed s2 eE aB dA kQ pK xC wD ok=>?_
 have xB:bY (dB [.w,.eb,.fA]) a h ed bJ:=bY.trans (q:=dB [.w,.eb,.fA]) (mw.sub (gI (oX (.head _) lc))) (xC.sub (gI (oX (.head _) (.tail _ lc))))
 have Nl:=(xC .eb (bo rfl)).2 _ Nk
 have ze:=(xB .store (bo rfl)).1
 refine agc (z:=z+30) (k:=1) (bu:=s2) iy dA kQ Nl ((xB .store (bo rfl)).2 _ hs) z8 ((xB .kt (bo rfl)).1.symm▸D9) ((xB .meths (bo rfl)).1.symm▸D7) λ bW cQ ek abR x bZ d0 y7 afA afI g3 q2=>?_
 have u9:bY (dB ([.w,.eb,.fA]++(.store::vM))) a h ek cQ:=bY.trans (q:=dB ([.w,.eb,.fA]++(.store::vM))) (xB.sub (gI λ r m=>oO _ m)) (g3.sub (gI λ r m=>wb _ m))
 have sq:=(g3 .w (bo rfl)).1
 have afX:dE ek eO 7=dE ed eO 7:=by
  unfold dE
  rw[(g3 .dR (bo rfl)).1,(g3 .gA (bo rfl)).1,q2,(g3 .host (bo rfl)).1,(g3 .eb (bo rfl)).1,(g3 .fA (bo rfl)).1,(g3 .hH (bo rfl)).1]
 have ih:cQ .w=some (.ds (dE ek eO 7)):=afX.symm▸(g3 .w (bo rfl)).2 _ kQ
 have af5:nR ek cQ T ⟨jQ eJ dN dI eh,G0 jd kN oA⟩ (dE ek eO 7) []:=
  ⟨⟨⟨_,ih,rfl,rfl,rfl⟩,let⟨DV,eF,_,pH,_⟩:=y7.bF;⟨DV,eF,pH⟩,(g3 .eb (bo rfl)).2 _ Nl,(g3 .fA (bo rfl)).2 _ pK,ok⟩,al.bx (u9.sub λ r k=>nT (p:=hS) rfl k),ih,rfl,be.bx (u9 .host (bo rfl)).2 (u9 .kt (bo rfl)).1 (u9 .fF (bo rfl)).1,(u9 .fF (bo rfl)).2 _ az,λ k v e=>nomatch e⟩
 refine agd (z:=z) (aV:=some (.ref (a .store))) (bu:=abR) d0 af5 (fi a3 (aE rfl)) λ eP sj hP B0 KR dL hZ af6 bp Qa f2 sC=>?_
 have kJ:jT ac (runN ac (z+31)) (.asg 1 (.aq (.v 0) (.ss [115,116,111,114,101]))) (ev (a .w) none none none none none none none) n=some (.br (ev (a .w) (some (.ref (a .store))) none none none none none none),n):=aR (aR rfl (aR rfl (aR (gx (M.at_ _ _ cS) rfl) rfl))) rfl
 rw[zj]at aB
 rw[wD,zj,ze]at bZ
 rw[sq,wD,zj]at dL
 refine f ⟨jQ eJ dN dI eh,G0 jd kN oA⟩ eP sj hP ek B0 eO x (A7 (z:=z+31) (f:=58) (b6:=[.ref (a .w)]) (r:=.br KR) rfl rfl (show bS ac (runN ac (z+31)) (.cons (.asg 1 (.aq (.v 0) (.ss [115,116,111,114,101]))) (Hc.app (He.app (Hf.app Hg)))) (ev (a .w) none none none none none none none) n=some (.br KR,eP)from aR kJ ((j9 aw).trans ((j9 aB).trans ((j9 bZ).trans dL))))) hZ af6 (by omega) ?_ (λ l hl=>(afA l hl).bx (f2.sub λ r k=>?_)) ((f2 .types (vc rfl rfl)).2 _ afI) Qa ?_ sC (sq.trans (wD.trans zj)) (q2.trans ze)
 ·exact let⟨DV,eF,s⟩:=y7.bF;⟨DV,(f2 .store (vc rfl rfl)).2 _ eF,s⟩
 ·rcases k with rfl|rfl|rfl|rfl<;>exact vc rfl rfl
 ·exact bY.trans (q:=tT P2) (u9.sub λ r k a4=>k.2 ((nG.mp a4).elim (λ m=>oO _ ((kh.mp m).elim (λ L=>L▸.head _) λ m=>oX (P:=(· ∈_)) lc (.tail _ lc) r m)) (wb _))) (f2.sub λ r k=>⟨k.1,λ a4=>k.2 (jA.mp a4▸oO _ (.tail _ (.tail _ lc)))⟩)
end
end Mine
end
section
namespace Mine
variable{j:C}{r:b5}{p:b5→av}{F:C}{aY:bH}{H:aT}
noncomputable def af(R:B b5)(j:C):b5:=R.getD j ⟨0,0,0,false⟩
noncomputable def k'(R:B b5)(p:b5→av):B Nat:=(ck R.length).filter λ j=>p (af R j)
theorem adG{R:B b5}(h:j<R.length):af (R++[r]) j=af R j:=by
 unfold af;rw[jz,jz,qR h]
theorem adF{R:B b5}:af (R++[r]) R.length=r:=sD (i1 rfl)
theorem adE{R:B b5}(h:R[j]? =some r):af R j=r:=sD h
theorem L2{R:B b5}:k' (R++[r]) p=k' R p++if p r then [R.length]else []:=by
 unfold k'
 rw[fh,Q4,Ch,r3]
 refine cD (· ++·) (HQ λ j bt=>?_) ?_
 ·rw[adG (ga.mp bt)]
 ·rw[QY,adF];rfl
theorem Fa{R:B b5}:j∈k' R p↔j<R.length∧p (af R j)=true:=oP.trans (and_congr_left' ga)
theorem Ez{R:B b5}:(k' R p).length≤R.length:=a' (H0 ..) (dh gB)
noncomputable def eD(r:b5):Nat:=(if r.eM then 2 else 6)+128*r.aM
noncomputable def jt(W:cw)(aU:C→ap)(r:b5):ap:=(aU r.nm).sub (W.dK r.ah r.ah)
noncomputable def Mw:B Nat:=[108,101,118,101,108]
noncomputable def My:B Nat:=[110,97,109,101]
noncomputable def MB:B Nat:=[115,111,114,116]
noncomputable def Mx:B Nat:=[109,105,100]
noncomputable def Mv:B Nat:=[102,108,97,103,115]
noncomputable def MC:B Nat:=[115,116,97,110,100,115]
noncomputable def MA:B Nat:=[111,118,101,114]
noncomputable def ow(a:bH)(j:C)(r:b5)(F:C):B (B C×D):=[(Mw,E r.ah),(My,.ss [r.nm]),(MB,E r.aM),(Mx,E (j+1)),(Mv,E F),(MC,.ref (a (.st j))),(MA,.cj r.eM)]
noncomputable def lm(p:ap×C):D:=.tup [bd p.1,E p.2]
section
variable{a:bH}{h:aT}{n:St}{T:B aP}{z:C}{W:cw}{aU:C→ap}{R:B b5}
structure pU(aG:B (C×D))(g dt j:C)(r:b5)(F:C):Prop where
 len:aG.length<30
 DK:aG.lookup 24=some (E (j+1))
 nZ:aG.lookup 6=some (.ss [r.nm])
 uu:aG.lookup 26=some (.ii 6)
 f8:aG.lookup 8=some (E F)
 zN:aG.lookup 27=some (.ii 0)
 DL:aG.lookup 29=some (.ref g)
 zO:aG.lookup 30=some (.ii 0)
 zM:aG.lookup 11=some (.tup [E dt])
 zP:aG.lookup 32=some (.tup [.ii 0])
 KZ:aG.lookup 25=some (E (66+r.ah))
structure ki(a:bH)(h:aT)(T:B aP)(W:cw)(aU:C→ap)(j:C)(r:b5)(F:C):Prop where
 bF:∃aG g dt,h (.bl j)=some (.bF 2 aG)∧pU aG g dt j r F∧ba T dt (jt W aU r)∧h (.a6 g)=some (.li [])
theorem ki.b7(ak:ki a h T W aU j r F){X:Prop}(f:∀aG g dt,h (.bl j)=some (.bF 2 aG)→pU aG g dt j r F→ba T dt (jt W aU r)→h (.a6 g)=some (.li [])→X):X:=let⟨aG,g,dt,aw,aB,bZ,dL⟩:=ak.bF;f aG g dt aw aB bZ dL
theorem ki.bx{aC:B aP}(ak:ki a h T W aU j r F)(dN:∀o,h (.bl j)=some o→H (.bl j)=some o)(dI:∀g o,h (.a6 g)=some o→H (.a6 g)=some o)(k:∀{k:C} {t:ap},ba T k t→ba aC k t):ki aY H aC W aU j r F:=ak.b7 λ aG g dt aw aB bZ dL=>⟨aG,g,dt,dN _ aw,aB,k bZ,dI _ _ dL⟩
structure nN(a:bH)(h:aT)(j:C)(r:b5)(F:C)(S:B (ap×C)):Prop where
 row:h (.row j)=some (.ds (ow a j r F))
 st:h (.st j)=some (.li (S.map lm))
theorem nN.bx{S:B (ap×C)}(x:nN a h j r F S)(m:bY (λ r=>r= .row j∨r= .st j) a h aY H):nN aY H j r F S:=
 ⟨by unfold ow;rw[(m (.st j) (.inr rfl)).1];exact(m _ (.inl rfl)).2 _ x.row,(m _ (.inr rfl)).2 _ x.st⟩
structure iJ(a:bH)(h:aT)(T:B aP)(W:cw)(al:B (am×D))(aU:C→ap)(R:B b5)(xs:B C)(t:C):Prop where
 wl:nR a h T W (dE a t 8) al
 dR:h .dR=some (.li (xs.map E))
 aM:ko a h
 ty:∀l,l<4→l6 a h l (W.many l)
 cM:∀l,l<4→h (.cM l)=some (.li [])
 types:∃x,h .types=some (.li (dx 66 .nn++[.ref (a (.ty 0)),.ref (a (.ty 1)),.ref (a (.ty 2)),.ref (a (.ty 3)),x]))
 given:h .hH=some (.ds [([109],bd (aU 109)),([110],bd (aU 110))])
 lH:∀c,(aU c).ar (W.many 0)∧(aU c).wf∧(aU c).size≤2
 meths:h .meths=some (.li (.nn::(ck R.length).map λ j=>.ref (a (.bl j))))
 dw:∀l,l<4→h (.dw l)=some (.li ((k' R λ r=>r.ah==l).map λ j=>E (j+1)))
 rows:h .gA=some (.li ((ck R.length).map λ j=>.ref (a (.row j))))
 bl:∀j r,R[j]? =some r→ki a h T W aU j r (eD r)
 row:∀j r,R[j]? =some r→nN a h j r (eD r) []
 eY:∀r∈R,r.ah≤3∧(r.nm=109∨r.nm=110)∧r.aM≤1
 kr:∀ae,ae≤3→oJ T W al ae
theorem GQ{x:D}{l:C}(hl:l<4)(M:Good a h n)(e:h .types=some (.li (dx 66 .nn++[.ref (a (.ty 0)),.ref (a (.ty 1)),.ref (a (.ty 2)),.ref (a (.ty 3)),x]))):de n (.ref (a .types)) (E (66+l))=some (.ref (a (.ty l))):=j7 (M.at_ _ _ e) (nb l (ls hl) rfl rfl rfl rfl)
theorem fP.vQ{O:B (B C×D)}(ae:fP a h W)(w:∃O,H .w=some (.ds O)∧O.lookup qi=some (.ref (a .store))∧O.lookup Ar=some (.ref (a .eb))∧O.lookup As=some (.ref (a .fA)))(f:∀r o,r≠ .w→h r=some o→H r=some o):fP a H W:=
 ⟨w,let⟨aG,it,gD⟩:=ae.store;⟨aG,f _ _ (a5 rfl) it,gD⟩,f _ _ (a5 rfl) ae.many,f _ _ (a5 rfl) ae.up,ae.ok⟩
theorem xI{r bw:aN}(z:bw≠r):dB [r] bw:=λ m=>z (jA.mp m)
theorem iJ.take{al:B (am×D)}{xs:B C}{t cB:C}(p:iJ a h T W al aU R xs t)(cS:H .w=some (.ds (dE a cB 8)))(bx:bY (dB [.w]) a h a H):iJ a H T W al aU R xs cB:=
 have f:∀r o,r≠ .w→h r=some o→H r=some o:=λ r o z e=>(bx r (xI z)).2 o e
 {wl:=⟨p.wl.lw.vQ (O:=[]) ⟨_,cS,rfl,rfl,rfl⟩ f,p.wl.bT.bx (bx.sub λ r k=>nT (p:=hS) rfl k),cS,rfl,p.wl.be.bx (λ o e=>f _ _ (a5 rfl) e) rfl rfl,f _ _ (a5 rfl) p.wl.az,p.wl.ok⟩
  dR:=f _ _ (a5 rfl) p.dR
  aM:=let⟨aG,eF,s⟩:=p.aM.bF;⟨aG,f _ _ (a5 rfl) eF,s⟩
  ty:=λ l hl=>(p.ty l hl).bx (bx.sub λ r k=>by rcases k with rfl|rfl|rfl|rfl<;>exact bo rfl)
  cM:=λ l hl=>f _ _ (a5 rfl) (p.cM l hl)
  types:=let⟨x,e⟩:=p.types;⟨x,f _ _ (a5 rfl) e⟩
  given:=f _ _ (a5 rfl) p.given
  lH:=p.lH
  meths:=f _ _ (a5 rfl) p.meths
  dw:=λ l hl=>f _ _ (a5 rfl) (p.dw l hl)
  rows:=f _ _ (a5 rfl) p.rows
  bl:=λ j r e=>(p.bl j r e).bx (λ o=>f _ _ (a5 rfl)) (λ g o=>f _ _ (a5 rfl)) λ q=>q
  row:=λ j r e=>(p.row j r e).bx (bx.sub λ r k=>by rcases k with rfl|rfl<;>exact bo rfl)
  eY:=p.eY
  kr:=p.kr}
end
end Mine
end
section
namespace Mine
variable{m:C}{ak:C→Prop}{F:C}{fm rP:B D}{nm j l dt:C}
section
variable{a:bH}{h:aT}{n:St}{T:B aP}{z:C}{W:cw}{aU:C→ap}{R:B b5}{X:Prop}
theorem Good.SP{b:C}{o:a0}(M:Good a h n)(lt:∀r,(h r).isSome=true→a r<b)(hm:b≤m)(e:n[m]? =some o):Good a (Mine.up h (.a6 m) (some o)) n where
 at_:=λ bw x bC=>PQ bC (λ L w=>by rw[L,M.a6];exact e.trans w) λ _ w=>M.at_ bw x w
 inj:=λ fV gP ax aH q=>by
  have ae:∀bw,bw≠ .a6 m→(Mine.up h (.a6 m) (some o) bw).isSome=true→a bw<m:=λ bw L H=>by
   rw[bP _ _ L]at H;exact fa (lt _ H) hm
  by_cases d4:fV= .a6 m<;>by_cases d5:gP= .a6 m
  ·rw[d4,d5]
  ·have:=ae gP d5 aH
   rw[←q,d4,M.a6]at this
   exact absurd this (oR m)
  ·have:=ae fV d4 ax
   rw[q,d5,M.a6]at this
   exact absurd this (oR m)
  ·rw[bP _ _ d4]at ax
   rw[bP _ _ d5]at aH
   exact M.inj _ _ ax aH q
 a6:=M.a6
noncomputable def rC(F:C):Prop:=F=2∨F=6∨F=130∨F=134
theorem rC.b7(h:rC F)(rF:ak 2)(gk:ak 6)(fU:ak 130)(eN:ak 134):ak F:=by rcases h with rfl|rfl|rfl|rfl<;>assumption
theorem ro{k:C}(h:k≤1)(rF:ak 0)(gk:ak 1):ak k:=match k,h with
 |0,_=>rF
 |1,_=>gk
theorem Wz{r:b5}(h:r.aM≤1):rC (eD r):=by
 unfold eD
 cases r.eM
 ·exact ro (ak:=λ k=>rC ((if false=true then 2 else 6)+128*k)) h (.inr (.inl rfl)) (.inr (.inr (.inr rfl)))
 ·exact ro (ak:=λ k=>rC ((if true=true then 2 else 6)+128*k)) h (.inl rfl) (.inr (.inr (.inl rfl)))
theorem Zo(m8:rC F):runN ac (z+1) 32 [E F] n=some (E F,n):=by
 have gf:fH .band (E F) (.ii 96)=some (.ii 0):=m8.b7 (ak:=λ F=>fH .band (E F) (.ii 96)=some (.ii 0)) rfl rfl rfl rfl
 exact(cN z 32 [E F] n rfl rfl _ rfl _ gf _ rfl)
theorem Ey{i:C}{xs:B D}{v:D}(e:n[m]? =some (.li xs))(ay:xs[i]? =some v):de n (.ref m) (E i)=some v:=j7 e ay
theorem ko.at_(aM:ko a h)(M:Good a h n):d7 n (.ref (a .store)) 15=some (.ref (a .meths))∧d7 n (.ref (a .store)) 36=some (.ref (a .types))∧d7 n (.ref (a .store)) 35=some (.ref (a .kt)):=
 let⟨_,eF,_,pH,tf,vz⟩:=aM.bF
 ⟨(fk (M.at_ _ _ eF)).trans vz,(fk (M.at_ _ _ eF)).trans tf,(fk (M.at_ _ _ eF)).trans pH⟩
theorem ko.bx{aY:bH}{H:aT}(aM:ko a h)(m:∀o,h .store=some o→H .store=some o)(aw:aY .kt=a .kt)(aB:aY .types=a .types)(bZ:aY .meths=a .meths):ko aY H:=
 let⟨aG,eF,jU,pH,tf,vz⟩:=aM.bF
 ⟨aG,m _ eF,jU,aw.symm▸pH,aB.symm▸tf,bZ.symm▸vz⟩
theorem abK{e2 lf N c:C}{k:D}{qG:D}(M:Good a h n)(aM:ko a h)(bD:h .types=some (.li rP))(Ae:rP[e2]? =some qG)(hm:h .meths=some (.li fm))(iy:fm[lf]? =some (.ref (a (.bl c))))(cy:nm=109∨nm=110)(m8:rC F)(be:h (.bl c)=some (.bF 2 (u7 N (E lf) (E e2) (.ss [nm]) (.ii 6) (E F) (.ii 0) k))):
  runN ac (z+1) 34 [.ref (a .store),E lf] n=some (.nn,n):=by
 have s:=aM.at_ M
 have YF:d7 n (.ref (a (.bl c))) 25=some (E e2):=fk (M.at_ _ _ be)
 have xe:d7 n (.ref (a (.bl c))) 8=some (E F):=fk (M.at_ _ _ be)
 have YG:d7 n (.ref (a (.bl c))) 6=some (.ss [nm]):=fk (M.at_ _ _ be)
 have gf:fH .band (E F) (.ii 64)=some (.ii 0):=m8.b7 (ak:=λ F=>fH .band (E F) (.ii 64)=some (.ii 0)) rfl rfl rfl rfl
 have cD:cY .eq (.ss [nm]) (.ss [70,105,110,97,108,105,122,101]) n=some false:=by rcases cy with rfl|rfl<;>rfl
 exact(cN z 34 [D.ref (a aN.store),E lf] n rfl rfl _ s.1 _ (Ey (M.at_ _ _ hm) iy) _ s.2.1 _ YF _ (Ey (M.at_ _ _ bD) Ae) _ xe _ gf _ rfl _ YG _ cD)
theorem aaN(M:Good a h n)(f:∀aa cx aI,n++[a0.bF 2 (u7 n.length (E (j+1)) (E (66+l)) (.ss [nm]) (.ii 6) (E F) (.ii 0) (E dt)),.li [],.li [],.li [.ss [112,48]]]=aa→Good cx aI aa→cx (.bl j)=n.length→aI (.bl j)=some (.bF 2 (u7 n.length (E (j+1)) (E (66+l)) (.ss [nm]) (.ii 6) (E F) (.ii 0) (E dt)))→aI (.a6 (n.length+2))=some (.li [])→bY (dB [.bl j]) a h cx aI→X):X:=by
 have mO:Good a h (n++[a0.bF 2 (u7 n.length (E (j+1)) (E (66+l)) (.ss [nm]) (.ii 6) (E F) (.ii 0) (E dt)),.li [],.li [],.li [.ss [112,48]]]):=M.mm
 obtain⟨iW,dy⟩:=mO.adopt (r:=.bl j) (m:=n.length+0) (b:=n.length) M.E2 (cJ _) (l'.trans rfl) (λ _=>a5 rfl)
 have ji:=iW.SP (m:=n.length+2) dy (h5 _) (l'.trans rfl)
 exact f _ _ _ rfl ji (cR _ _ _) ((bP _ _ (a5 rfl)).trans (cR _ _ _)) (cR _ _ _) (bY.trans (q:=dB [.bl j]) (bY.mx (.head _)) λ r k=>⟨rfl,λ o e=>mJ e (GI ((bP _ _ (a5 rfl)).trans (M.fresh (d2 ..))) e)⟩)
theorem aaR{α:Type}{x y L:α}:∀r,r∈ [x]→r∈ [x,y,L]:=λ _ h=>jA.mp h▸.head _
theorem SO{to:B D}(hl:l<4)(M:Good a h n)(aM:ko a h)(ty:l6 a h l (W.many l))(bD:h .types=some (.li rP))(Ae:rP[66+l]? =some (.ref (a (.ty l))))(rc:h (.dw l)=some (.li to))(hm:h .meths=some (.li fm))(bt:fm.length=j+1)(ag6:j<100)(Yt:to.length<100)(cy:nm=109∨nm=110)(m8:rC F)
  (f:∀(J:St) (aY:bH) (H:aT) (N:C),runN ac (z+3) 33 [.ref (a .store),E (66+l),.ss [nm],.ii 6,E F,.ii 0,.tup [E dt]] n=some (E (j+1),J)→Good aY H J→H .meths=some (.li (fm++[.ref (aY (.bl j))]))→H (.dw l)=some (.li (to++[E (j+1)]))→H (.bl j)=some (.bF 2 (u7 N (E (j+1)) (E (66+l)) (.ss [nm]) (.ii 6) (E F) (.ii 0) (E dt)))→H (.a6 (N+2))=some (.li [])→bY (dB [.bl j,.meths,.dw l]) a h aY H→aY .meths=a .meths→aY (.dw l)=a (.dw l)→X):X:=by
 obtain⟨vG,er,_,_,kM,_⟩:=ty.bF
 have e:=aaO (z:=z) (n:=n) (lf:=E (j+1)) (vk:=E (66+l)) (name:=.ss [nm]) (ua:=.ii 6) (ut:=E F) (ret:=.ii 0) (k:=E dt)
 refine aaN (j:=j) (l:=l) (nm:=nm) (F:=F) (dt:=dt) M λ aa cx aI n' ji ww dN g1 bx=>?_
 rw[n']at e
 have so:cx .meths=a .meths:=(bx .meths (bo rfl)).1
 have t':cx (.dw l)=a (.dw l):=(bx (.dw l) (bo rfl)).1
 refine ji.l9 (v:=.ref n.length) ((bx .meths (bo rfl)).2 _ hm) (by omega) λ ao Jx dA=>?_
 have Lq:(up aI .meths (some (.li (fm++[.ref n.length])))) (.dw l)=some (.li to):=(bP _ _ (a5 rfl)).trans ((bx (.dw l) (bo rfl)).2 _ rc)
 refine dA.l9 (v:=E (j+1)) Lq (fi Yt (aE rfl)) λ bW wB d0=>?_
 have Lr:(up (up aI .meths (some (.li (fm++[.ref n.length])))) (.dw l) (some (.li (to++[E (j+1)])))) .meths=some (.li (fm++[.ref (cx (.bl j))])):=ww▸(bP _ _ (a5 rfl)).trans (cR _ _ _)
 have g3:bY (dB [.bl j,.meths,.dw l]) a h cx (up (up aI .meths (some (.li (fm++[.ref n.length])))) (.dw l) (some (.li (to++[E (j+1)])))):=bY.trans (q:=dB [.bl j,.meths,.dw l]) (bY.trans (q:=dB [.bl j,.meths,.dw l]) (bx.sub (gI aaR)) (bY.kK lc)) (bY.kK (.tail _ lc))
 have Ls:=(bP (up aI .meths (some (.li (fm++[.ref n.length])))) (r:=.dw l) (some (.li (to++[E (j+1)]))) (a5 rfl)).trans ((bP (r:=.meths) _ _ (a5 rfl)).trans dN)
 have s:=aM.at_ M
 have g4:=abK (z:=z+1) (e2:=66+l) (lf:=j+1) (c:=j) d0 (aM.bx (g3 .store (bo rfl)).2 (bx .kt (bo rfl)).1 (bx .types (bo rfl)).1 so) ((g3 .types (bo rfl)).2 _ bD) Ae Lr (i1 bt) cy m8 Ls
 rw[(bx .store (bo rfl)).1]at g4
 have len:=rp (M.at_ _ _ hm)
 rw[bt]at len
 have aQ:=dA.at_ (.ty l) _ ((bP _ _ (a5 rfl)).trans ((bx (.ty l) (bo rfl)).2 _ er))
 have aW:=dA.at_ _ _ Lq
 rw[(bx (.ty l) (bo rfl)).1]at aQ
 rw[t']at wB aW
 rw[so]at Jx
 exact f bW cx _ n.length (cN (z+2) 33 [D.ref (a aN.store),E (66+l),D.ss [nm],D.ii 6,E F,D.ii 0,D.tup [E dt]] n rfl rfl _ s.2.1 _ (Ey (M.at_ _ _ bD) Ae) _ s.1 _ len _ s.1 (hQ (M.at_ _ _ hm)) _ rfl _ _ (Zo (z:=z+1) (n:=n) m8) _ e _ Jx _ ((fk aQ).trans kM) (hQ aW) _ wB _ _ g4) d0 Lr (cR _ _ _) Ls ((bP _ _ (a5 rfl)).trans ((bP _ _ (a5 rfl)).trans g1)) g3 so t'
end
end Mine
end
section
namespace Mine
variable{al:B (am×D)}{xs:B C}{t:C}{H:aT}{α:Type}{x:α}{l i j:C}
section
variable{a:bH}{h:aT}{n:St}{T:B aP}{z:C}{W:cw}{aU:C→ap}{R:B b5}
theorem iJ.go{b:C}{aC:B aP}{J:St}(p:iJ a h T W al aU R xs t)(x:b0 a h T b J aC H):iJ a H aC W al aU R xs t:=
 have f:∀r o,gZ r=false→h r=some o→H r=some o:=λ r o z e=>x.off z e
 have bx:∀{q:aN→Prop},(∀r,q r→gZ r=false)→bY q a h a H:=λ k=>bY.go x k
 {wl:=⟨p.wl.lw.go x,x.bT,f _ _ rfl p.wl.w,p.wl.zJ,p.wl.be.bx (λ o e=>f _ _ rfl e) rfl rfl,f _ _ rfl p.wl.az,p.wl.ok.more λ q=>x.eT q⟩
  dR:=f _ _ rfl p.dR
  aM:=p.aM.bx (λ o e=>f _ _ rfl e) rfl rfl rfl
  ty:=λ l hl=>(p.ty l hl).bx (bx λ r k=>by rcases k with rfl|rfl|rfl|rfl<;>rfl)
  cM:=λ l hl=>f _ _ rfl (p.cM l hl)
  types:=let⟨x,e⟩:=p.types;⟨x,f _ _ rfl e⟩
  given:=f _ _ rfl p.given
  lH:=p.lH
  meths:=f _ _ rfl p.meths
  dw:=λ l hl=>f _ _ rfl (p.dw l hl)
  rows:=f _ _ rfl p.rows
  bl:=λ j r e=>(p.bl j r e).bx (λ o=>f _ _ rfl) (λ g o=>f _ _ rfl) λ q=>x.eT q
  row:=λ j r e=>(p.row j r e).bx (bx λ r k=>by rcases k with rfl|rfl<;>rfl)
  eY:=p.eY
  kr:=λ ae cC=>(p.kr ae cC).more (λ q=>x.eT q) λ k e=>e}
noncomputable def qs(j l:C):B aN:=[.bl j,.row j,.st j,.meths,.gA,.dw l]
theorem ms{y:α}{l:B α}{X:Prop}(m:x∈y::l)(f:x=y→X)(g:x∈l→X):X:=(kh.mp m).elim f g
theorem NI(h:i≠j):dB (qs j l) (.bl i):=λ m=>ms m (λ e=>h (aN.bl.inj e)) (bo (l:=[.row j,.st j,.meths,.gA,.dw l]) rfl)
theorem NJ(h:i≠j):dB (qs j l) (.row i):=λ m=>ms m (a5 rfl) λ m=>ms m (λ e=>h (aN.row.inj e)) (bo (l:=[.st j,.meths,.gA,.dw l]) rfl)
theorem abP(h:i≠j):dB (qs j l) (.st i):=λ m=>ms m (a5 rfl) λ m=>ms m (a5 rfl) λ m=>ms m (λ e=>h (aN.st.inj e)) (bo (l:=[.meths,.gA,.dw l]) rfl)
theorem NK(h:i≠l):dB (qs j l) (.dw i):=λ m=>ms m (a5 rfl) λ m=>ms m (a5 rfl) λ m=>ms m (a5 rfl) λ m=>ms m (a5 rfl) λ m=>ms m (a5 rfl) λ m=>h (aN.dw.inj (jA.mp m))
theorem F3{f g:C→α}{z:C}(h:∀j,j<z→g j=f j)(e:g z=x):(ck (z+1)).map g=(ck z).map f++[x]:=by
 rw[Ch,nF]
 exact cD (· ++·) (pS λ j bt=>h j (ga.mp bt)) (an (λ x=>[x]) e)
theorem iJ.add{aY:bH}{r:b5}(p:iJ a h T W al aU R xs t)(a4:r.ah≤3∧(r.nm=109∨r.nm=110)∧r.aM≤1)(bx:bY (dB (qs R.length r.ah)) a h aY H)(so:aY .gA=a .gA∧aY .meths=a .meths∧aY (.dw r.ah)=a (.dw r.ah))
  (aw:H .meths=some (.li ((.nn::(ck R.length).map λ j=>.ref (a (.bl j)))++[.ref (aY (.bl R.length))])))(aB:H (.dw r.ah)=some (.li (((k' R λ x=>x.ah==r.ah).map λ j=>E (j+1))++[E (R.length+1)])))(bZ:H .gA=some (.li (((ck R.length).map λ j=>.ref (a (.row j)))++[.ref (aY (.row R.length))])))
  (m:ki aY H T W aU R.length r (eD r))(w:nN aY H R.length r (eD r) []):iJ aY H T W al aU (R++[r]) xs t:=by
 have f:∀{x o},dB (qs R.length r.ah) x→h x=some o→H x=some o:=λ{x o} k e=>(bx x k).2 o e
 have aK:∀{x},dB (qs R.length r.ah) x→aY x=a x:=λ{x} k=>(bx x k).1
 have Ff:dE aY t 8=dE a t 8:=by
  unfold dE
  rw[aK (x:=.dR) (bo rfl),so.1,aK (x:=.store) (bo rfl),aK (x:=.host) (bo rfl),aK (x:=.eb) (bo rfl),aK (x:=.fA) (bo rfl),aK (x:=.hH) (bo rfl)]
 have len:(R++[r]).length=R.length+1:=fh ..
 have lt:∀{j:C},j<R.length→j≠R.length:=λ h=>mS h
 refine
 {wl:=Ff.symm▸p.wl.bx (bx.sub λ x k=>nT rfl k)
  dR:=f (bo rfl) p.dR
  aM:=p.aM.bx (λ o e=>f (bo rfl) e) (aK (bo rfl)) (aK (bo rfl)) so.2.1
  ty:=λ l hl=>?_
  cM:=λ l hl=>f (bo rfl) (p.cM l hl)
  types:=?_
  given:=f (bo rfl) p.given
  lH:=p.lH
  meths:=aw.trans (by rw[len,List.cons_append,F3 (f:=λ j=>D.ref (a (.bl j))) (λ j bt=>an D.ref (aK (NI (lt bt)))) rfl])
  dw:=λ l hl=>?_
  rows:=bZ.trans (by rw[len,F3 (f:=λ j=>D.ref (a (.row j))) (λ j bt=>an D.ref (aK (NJ (lt bt)))) rfl])
  bl:=λ j x e=>Bk e (λ e=>(p.bl j x e).bx (λ o=>f (NI (lt (mr e)))) (λ g o=>f (bo rfl)) λ q=>q) λ L q=>by subst L;subst q;exact m
  row:=λ j x e=>Bk e (λ e=>(p.row j x e).bx (bx.sub λ q k=>k.elim (λ L=>L▸NJ (lt (mr e))) λ L=>L▸abP (lt (mr e)))) λ L q=>by subst L;subst q;exact w
  eY:=λ x aA=>(nG.mp aA).elim (p.eY x) λ aA=>jA.mp aA▸a4
  kr:=p.kr}
 ·obtain⟨vG,er,eO,hr,kM,lS⟩:=(p.ty l hl).bF
  obtain⟨cp,gk,fU⟩:=(p.ty l hl).par
  have t':aY (.dw l)=a (.dw l):=(f9 (l=r.ah)).elim (λ L=>by rw[L];exact so.2.2) λ L=>aK (NK L)
  exact⟨⟨vG,f (bo rfl) er,eO,(aK (x:=.tyP l) (bo rfl)).symm▸hr,t'.symm▸kM,(aK (x:=.cM l) (bo rfl)).symm▸lS⟩,⟨cp,f (bo rfl) gk,fU⟩⟩
 ·obtain⟨x,e⟩:=p.types
  refine⟨x,?_⟩
  rw[aK (x:=.ty 0) (bo rfl),aK (x:=.ty 1) (bo rfl),aK (x:=.ty 2) (bo rfl),aK (x:=.ty 3) (bo rfl)]
  exact f (bo rfl) e
 ·by_cases L:l=r.ah
  ·subst L
   rw[aB,L2,if_pos (lE _),nF];rfl
  ·rw[f (NK L) (p.dw l hl),L2,if_neg (λ q=>L (eq_of_beq q).symm),eZ]
end
end Mine
end
section
namespace Mine
variable{r:b5}
section
variable{a:bH}{h:aT}{n:St}{T:B aP}{z:C}{W:cw}{aU:C→ap}{R:B b5}{X:Prop}
theorem FZ(K:W.ok)(hl:r.ah≤3)(g:(aU r.nm).ar (W.many 0)∧(aU r.nm).wf∧(aU r.nm).size≤2):(jt W aU r).wf∧(jt W aU r).size≤5∧(jt W aU r).ar (W.many r.ah):=
 have a:=K.arg hl (d:=r.ah) (cJ _)
 ⟨PZ (λ t bD=>(a.2 t bD).2.1) g.2.1,a' (O1 (iI ..) (λ t bD=>(a.2 t bD).2.2) g.2.2) (hb hl 2),PW (λ t bD=>(a.2 t bD).1) (by rw[a.1,r8];exact g.1)⟩
theorem W0{l:B D}{x:D}:n4 (l++[x]) (-1)=some x:=by
 unfold n4
 rw[if_neg (by decide),if_pos (by rw[fh];show(0:am)≤ -1+((l.length+1:C):am);omega),fh]
 have:(-1+((l.length+1:C):am)).toNat=l.length:=by omega
 exact(an (λ z=>(l++[x])[z]?) this).trans (i1 rfl)
noncomputable def og(w:C)(aV aQ aW bp:D)(bq bh bj bK bB:Y D):aX:=[some (.ref w),some aV,some aQ,some aW,some bp,bq,bh,bj,bK,bB]
noncomputable def DN:ab:=.bin .add (.ite (.e (.v 4)) (.ii 2) (.ii 6)) (.bin .mul (.ii 128) (.v 3))
theorem Wx{V:jh}{w s:C}{b:av}{aV aQ:D}{bq bh bj bK bB:Y D}(hs:s≤1):jT ac V (.asg 7 DN) (og w aV aQ (E s) (.cj b) bq bh bj bK bB) n=some (.br (og w aV aQ (E s) (.cj b) bq bh (some (E ((if b then 2 else 6)+128*s))) bK bB),n):=
 ro (ak:=λ s=>jT ac V (.asg 7 DN) (og w aV aQ (E s) (.cj b) bq bh bj bK bB) n=some (.br (og w aV aQ (E s) (.cj b) bq bh (some (E ((if b then 2 else 6)+128*s))) bK bB),n)) hs (by cases b<;>rfl) (by cases b<;>rfl)
noncomputable def Gb(m j:C)(r:b5)(F:C):B (B C×D):=[(Mw,E r.ah),(My,.ss [r.nm]),(MB,E r.aM),(Mx,E (j+1)),(Mv,E F),(MC,.ref m),(MA,.cj r.eM)]
theorem adH{j F:C}(M:Good a h n)(f:∀k5 i5,Good k5 i5 (n++[a0.li []]++[.ds (Gb n.length j r F)])→k5 (.row j)=(n++[a0.li []]).length→nN k5 i5 j r F []→bY (dB [.st j,.row j]) a h k5 i5→X):X:=by
 have h0:=(M.new (.st j) (λ _=>a5 rfl) (.li [])).new (.row j) (λ _=>a5 rfl) (.ds (Gb n.length j r F))
 have S3:up (up a (.st j) n.length) (.row j) (n++[a0.li []]).length (.st j)=n.length:=(bP _ _ (a5 rfl)).trans (cR ..)
 exact f _ _ h0 (cR ..) ⟨(cR ..).trans (an (λ m=>some (a0.ds (Gb m j r F))) S3.symm),(bP _ _ (a5 rfl)).trans (cR ..)⟩ (bY.trans (q:=dB [.st j,.row j]) (bY.mx (.head _)) (bY.mx lc))
noncomputable def E1:bk:=.cons (.asg 8 (.call 33 (.cons (.aq (.v 0) (.ss [115,116,111,114,101])) (.cons (.bin .add (.ii 66) (.v 1)) (.cons (.v 2) (.cons (.ii 6) (.cons (.v 7) (.cons (.gl [86,79,73,68] (.ii 0)) (.cons (.tup (.cons (.call 54 (.cons (.v 0) (.cons (.v 6) .nil))) .nil)) .nil))))))))) (.cons (.asg 9 (.m4 [[108,101,118,101,108],[110,97,109,101],[115,111,114,116],[109,105,100],[102,108,97,103,115],[115,116,97,110,100,115],[111,118,101,114]] (.cons (.v 1) (.cons (.v 2) (.cons (.v 3) (.cons (.v 8) (.cons (.v 7) (.cons (.lst .nil) (.cons (.v 4) .nil))))))))) (.cons (.ex (.append (.aq (.v 0) (.ss [114,111,119,115])) (.v 9))) .nil))
noncomputable def M6:bk:=.cons (.asg 5 (.call 57 (.cons (.v 0) (.cons (.v 1) .nil)))) (.cons (.asg 6 (.call 53 (.cons (.aq (.aq (.v 0) (.ss [103,105,118,101,110])) (.v 2)) (.cons (.aq (.aq (.v 5) (.neg (.ii 1))) (.ii 1)) .nil)))) .nil)
theorem MT{al:B (am×D)}{xs:B C}{t:C}(p:iJ a h T W al aU R xs t)(M:Good a h n)(a4:r.ah≤3∧(r.nm=109∨r.nm=110)∧r.aM≤1)(fR:R.length<50)(a3:T.length<400000)
  (f:∀(J:St) (aY:bH) (H:aT) (aC:B aP),runN ac (z+32) 59 [.ref (a .w),E r.ah,.ss [r.nm],E r.aM,.cj r.eM] n=some (.nn,J)→Good aY H J→iJ aY H aC W al aU (R++[r]) xs t→aC.length≤T.length+24→aY .w=a .w→aY .store=a .store→X):X:=by
 have K:=p.wl.lw.ok
 refine ER (z:=z+5) p.wl.lw p.wl.bT M a4.1 λ m aa aI aw cW hO cl=>?_
 have gk:=p.go cW
 have hf:(W.dK r.ah r.ah).length=W.many 0:=(K.arg a4.1 (cJ _)).1.trans (by rw[r8])
 have g:=p.lH r.nm
 obtain⟨b9,aB⟩:=ES (z:=z+6) (n:=aa) (K.lD a4.1 (cJ r.ah)) (t:=aU r.nm) (a' g.2.2 (aE rfl)) (hf▸g.1)
 have b8:=cW.mm b9
 have fU:=p.go b8
 have q:=FZ K a4.1 g
 refine xr (z:=z) fU.wl.lw b8.bT b8.good q.1 (a' q.2.1 (aE rfl)) (by have:=b8.le;omega) λ dt bW lB cQ bZ gm W6=>?_
 have jL:=b8.trans W6
 have eN:=p.go jL
 obtain⟨x,ty⟩:=eN.types
 have uJ:=pW a4.1
 have u4:((.nn::(ck R.length).map λ j=>D.ref (a (.bl j))):B D).length=R.length+1:=an l2 ((cG ..).trans gB)
 refine SO (z:=z+28) (l:=r.ah) (j:=R.length) (F:=eD r) (dt:=dt) uJ jL.good eN.aM (eN.ty _ uJ) ty (nb (P:=λ l=>(dx 66 D.nn++[.ref (a (.ty 0)),.ref (a (.ty 1)),.ref (a (.ty 2)),.ref (a (.ty 3)),x])[66+l]? =some (.ref (a (.ty l)))) _ a4.1 rfl rfl rfl rfl) (eN.dw _ uJ) eN.meths u4 (fi fR (aE rfl)) (cG (as:=k' R _) _▸cn Ez (fi fR (aE rfl))) a4.2.1 (Wz a4.2.2) λ eP kq hP N dL hZ oh Rg cm mg f2 SV SG=>?_
 refine adH (j:=R.length) (F:=eD r) (r:=r) hZ λ k5 i5 h0 oZ Ow hn=>?_
 have hT:bY (dB [.bl R.length,.meths,.dw r.ah,.st R.length,.row R.length]) a cQ k5 i5:=bY.trans (q:=dB [.bl R.length,.meths,.dw r.ah,.st R.length,.row R.length]) (f2.sub (gI λ _ m=>oO [aN.st R.length,aN.row R.length] m)) (hn.sub (gI λ _ m=>wb [aN.bl R.length,aN.meths,aN.dw r.ah] m))
 have Oq:=(hT .gA (bo rfl)).2 _ eN.rows
 refine h0.l9 (v:=.ref (k5 (.row R.length))) Oq (cG (as:=ck R.length) _▸gB▸fi fR (aE rfl)) λ qK eA pQ=>?_
 have Jn:k5 .gA=a .gA:=(hT .gA (bo rfl)).1
 have gd:k5 .w=a .w:=(hT .w (bo rfl)).1
 have xE:bY (dB (qs R.length r.ah)) a cQ k5 (up i5 .gA (some (.li (((ck R.length).map λ j=>.ref (a (.row j)))++[.ref (k5 (.row R.length))])))):=bY.trans (q:=dB (qs R.length r.ah)) (hT.sub (gI (yB.mpr ⟨.head _,yB.mpr ⟨.tail _ (.tail _ (.tail _ (.head _))),yB.mpr ⟨.tail _ (.tail _ (.tail _ (.tail _ lc))),oX (.tail _ lc) lc⟩⟩⟩))) (bY.kK (.tail _ (.tail _ (.tail _ lc))))
 have BB:∀{x o c3},dB [.st R.length,.row R.length] x→x≠ .gA→hP x=some o→up i5 .gA c3 x=some o:=λ k L e=>(bP _ _ L).trans ((hn _ k).2 _ e)
 have hV:=eN.add (r:=r) a4 xE ⟨Jn,(hn _ (bo rfl)).1.trans SV,(hn _ (bo rfl)).1.trans SG⟩ ((hn (.bl R.length) (bo rfl)).1.symm▸BB (bo rfl) (a5 rfl) oh) (BB (bo rfl) (a5 rfl) Rg) (cR ..)
  ⟨⟨_,_,dt,BB (bo rfl) (a5 rfl) cm,⟨aE rfl,rfl,rfl,rfl,rfl,rfl,rfl,rfl,rfl,rfl,rfl⟩,gm,BB (bo rfl) (a5 rfl) mg⟩⟩ ⟨(bP _ _ (a5 rfl)).trans Ow.row,(bP _ _ (a5 rfl)).trans Ow.st⟩
 refine f qK k5 _ lB ?_ pQ hV jL.le gd (hT .store (bo rfl)).1
 have uQ:de aa (.ref (a .hH)) (.ss [r.nm])=some (bd (aU r.nm)):=gx (cW.good.at_ _ _ gk.given) (by rcases a4.2.1 with q|q<;>rw[q]<;>rfl)
 have YE:de aa (.ref m) (.ii (-1))=some (.tup [E 0,.tup ((W.dK r.ah r.ah).map bd)]):=by rw[Ai (df cW.good hO),M1,r8,W0]
 have aB:runN ac (z+31) 53 [bd (aU r.nm),.tup ((W.dK r.ah r.ah).map bd)] aa=some (bd (jt W aU r),aa++b9):=aB
 have bq:=h0.at_ _ _ ((hT .w (bo rfl)).2 _ eN.wl.w)
 have bh:=h0.at_ _ _ Oq
 rw[gd]at bq
 rw[Jn]at bh eA
 rw[oZ]at eA
 have eF:bS ac (runN ac (z+31)) M6 (og (a .w) (E r.ah) (.ss [r.nm]) (E r.aM) (.cj r.eM) none none none none none) n=some (.br (og (a .w) (E r.ah) (.ss [r.nm]) (E r.aM) (.cj r.eM) (some (.ref m)) (some (bd (jt W aU r))) none none none),aa++b9):=(dm (z+31) M6 (og (a aN.w) (E r.ah) (D.ss [r.nm]) (E r.aM) (D.cj r.eM) none none none none none) n _ _ aw _ (gx (cW.good.at_ _ _ gk.wl.w) rfl) _ uQ _ rfl _ YE _ rfl _ _ aB)
 have jU:bS ac (runN ac (z+31)) E1 (og (a .w) (E r.ah) (.ss [r.nm]) (E r.aM) (.cj r.eM) (some (.ref m)) (some (bd (jt W aU r))) (some (E (eD r))) none none) (aa++b9)=some (.br (og (a .w) (E r.ah) (.ss [r.nm]) (E r.aM) (.cj r.eM) (some (.ref m)) (some (bd (jt W aU r))) (some (E (eD r))) (some (E (R.length+1))) (some (.ref (eP++[a0.li []]).length))),qK):=(dm (z+31) E1 (og (a aN.w) (E r.ah) (D.ss [r.nm]) (E r.aM) (D.cj r.eM) (some (D.ref m)) (some (bd (jt W aU r))) (some (E (eD r))) none none) (aa++b9) _ (gx (b8.good.at_ _ _ fU.wl.w) rfl) _ Dh _ _ bZ _ _ dL _ (gx bq rfl) (hQ bh) _ eA)
 exact A7 (z:=z+31) (f:=59) (b6:=[.ref (a .w),E r.ah,.ss [r.nm],E r.aM,.cj r.eM]) (r:=.br (og (a .w) (E r.ah) (.ss [r.nm]) (E r.aM) (.cj r.eM) (some (.ref m)) (some (bd (jt W aU r))) (some (E (eD r))) (some (E (R.length+1))) (some (.ref (eP++[a0.li []]).length)))) rfl rfl ((j9 (r:=.cons (.asg 7 DN) E1) eF).trans (aR (Wx a4.2.2) jU))
end
end Mine
end
section
namespace Mine
variable{r:b5}{x j y:C}
noncomputable def iA(r:b5):C×C×Nat:=(r.ah,r.nm,r.aM)
structure ip(R:B b5)(c:C):Prop where
 uniq:(R.map iA).Nodup
 low:∀r∈R,109≤r.nm∧2*r.ah+(r.nm-109)<c
 sorted:R.Pairwise λ x y=>x.ah≤y.ah
 C3:∀r∈R,r.eM=true→∃q∈R,q.ah<r.ah∧q.nm=r.nm∧q.aM=r.aM
 cnt:∀l,(R.filter λ r=>r.ah==l).length≤4∧(R.filter λ r=>r.ah==l).length≤2*(c-2*l)
theorem ip.nil:ip [] 0:=⟨Cf,(λ r h=>nomatch h),agt,(λ r h=>nomatch h),λ l=>⟨fu _,fu _⟩⟩
theorem MM{q:b5}(e:iA r=iA q):r.ah=q.ah∧r.nm=q.nm∧r.aM=q.aM:=⟨an If e,an (·.2.1) e,an (·.2.2) e⟩
theorem ip.block{R Q:B b5}{l:C}(I:ip R (2*l+x))(aA:x=0∨x=1)(bz:∀r∈Q,r.ah=l∧r.nm=109+x)(hs:(Q.map λ r=>r.aM).Nodup)(hl:Q.length≤2)(bO:∀r∈Q,r.eM=true→∃q∈R,q.ah<r.ah∧q.nm=r.nm∧q.aM=r.aM):ip (R++Q) (2*l+x+1):=by
 have KL:∀r∈Q,2*r.ah+(r.nm-109)=2*l+x:=λ r a4=>by rw[(bz r a4).1,(bz r a4).2,wd]
 have old:∀r∈R,∀q∈Q,r.ah=q.ah→r.nm=q.nm→False:=λ r a4 q dv aw aB=>oR _ (KL q dv▸aw▸aB▸(I.low r a4).2)
 have aV:x≤1:=aA.elim (λ e=>e▸fu 1) λ e=>dh e
 refine⟨?_,λ r a4=>(nG.mp a4).elim (λ a4=>⟨(I.low r a4).1,pX (I.low r a4).2⟩) λ a4=>⟨(bz r a4).2▸d2 ..,KL r a4▸qU _⟩,?_,λ r a4 be=>?_,λ k=>?_⟩
 ·rw[nF,Ce]
  refine⟨I.uniq,tR.mpr ((tR.mp hs).imp λ q e=>q (MM e).2.2),λ k hk ct n6 e=>?_⟩
  obtain⟨r,a4,aw⟩:=hu.mp hk
  obtain⟨q,dv,aB⟩:=hu.mp n6
  have e:=MM (aw.trans (e.trans aB.symm))
  exact old r a4 q dv e.1 e.2.1
 ·refine List.pairwise_append.mpr ⟨I.sorted,List.pairwise_of_forall_mem_list λ r a4 q dv=>dh ((bz r a4).1.trans (bz q dv).1.symm),λ r a4 q dv=>(bz q dv).1.symm▸?_⟩
  have ax:2*r.ah<2*l+x:=cn (d2 ..) (I.low r a4).2
  exact Nat.le_of_mul_le_mul_left (ls (fa ax (fB aV _))) (Nat.succ_pos 1)
 ·obtain⟨q,dv,L⟩:=(nG.mp a4).elim (λ a4=>I.C3 r a4 be) λ a4=>bO r a4 be
  exact⟨q,oO _ dv,L⟩
 ·have c:=I.cnt k
  rw[r3,fh]
  by_cases L:k=l
  ·subst L
   have aH:=a' (H0 (λ r=>r.ah==k) Q) hl
   have ax:=c.2
   rw[wd]at ax
   rw[mQ,wd]
   have:=hv ax aH
   exact⟨a' this (hb (gU 2 aV) 2),this⟩
  ·rw[tO.mpr λ r a4 e=>L ((bz r a4).1▸(eq_of_beq e).symm)]
   exact⟨c.1,a' c.2 (gU 2 (Nat.sub_le_sub_right (h5 _) _))⟩
section
variable{a:bH}{h:aT}{n:St}{T:B aP}{z:C}{W:cw}{aU:C→ap}{R:B b5}
theorem sz{V:jh}{m:C}{l:B D}{env:aX}{f g:C→D}{p:C→av}{eo:fc}{b7:ab}(n':n[m]? =some (.li l)){eS:B C}:∀{acc:B D},(∀j∈eS,hp ac V eo (iR env x (f j)) n=some (p j,n)∧ci ac V b7 (iR env x (f j)) n=some (g j,n))→
  @lF (live (.ref m) l) (e1 (.ref m) l) (λ y ao=>(di false [x] y env).bind λ aF=>(hp ac V eo aF ao).bind λ q=>if q.1=true then(ci ac V b7 aF q.2).bind λ r=>some ([r.1],r.2)else some ([],q.2)) (eS.map f) acc n=some (acc++(eS.filter p).map g,n):=by
 induction eS with
 |nil=>exact λ{acc} _=>(jF n').trans (an (λ l=>some (l,n)) (eZ acc).symm)
 |cons j eS aZ=>
  intro acc cU
  have h:=cU j (.head _)
  have aZ:=λ acc=>aZ (acc:=acc) λ j bt=>cU j (.tail _ bt)
  rw[QY]
  cases q:p j with
  |true=>
   rw[q]at h
   exact h8 n' (aR rfl (aR h.1 ((if_pos rfl).trans (aR h.2 rfl)))) ((aZ _).trans (an (λ l=>some (l,n)) (jy ..)))
  |false=>
   rw[q]at h
   exact h8 n' (aR rfl (aR h.1 (if_neg mM))) ((aZ _).trans (by rw[eZ];rfl))
theorem nN.at_{F:C}{S:B (ap×C)}(x:nN a h j r F S)(M:Good a h n):de n (.ref (a (.row j))) (.ss [108,101,118,101,108])=some (E r.ah)∧de n (.ref (a (.row j))) (.ss [110,97,109,101])=some (.ss [r.nm])∧de n (.ref (a (.row j))) (.ss [115,111,114,116])=some (E r.aM)∧de n (.ref (a (.row j))) (.ss [109,105,100])=some (E (j+1))∧de n (.ref (a (.row j))) (.ss [102,108,97,103,115])=some (E F)∧de n (.ref (a (.row j))) (.ss [115,116,97,110,100,115])=some (.ref (a (.st j)))∧de n (.ref (a (.row j))) (.ss [111,118,101,114])=some (.cj r.eM):=by
 have e:=M.at_ _ _ x.row
 exact⟨gx e rfl,gx e rfl,gx e rfl,gx e rfl,gx e rfl,gx e rfl,gx e rfl⟩
theorem qd:cY .eq (E x) (E y) n=some (decide (x=y)):=mb
theorem M':cY .lt (E x) (E y) n=some (decide (x<y)):=m1
theorem iP{R:B b5}(h:j<R.length):R[j]? =some (af R j):=getD_at h
end
end Mine
end
section
namespace Mine
variable{V:jh}{t:C}{env:aX}{gf i2:av}{x y:C}{al:B (am×D)}{xs:B C}{nm aM ah:C}{bu bN bm:Y D}{d m c0:C}{l:B D}
section
variable{a:bH}{h:aT}{n:St}{T:B aP}{z:C}{W:cw}{aU:C→ap}{R:B b5}{X:Prop}
theorem qH{t:Mine.T}{r:fc}{b c:av}(h:fs ac V t env n=some (b,n))(k:hp ac V r env n=some (c,n)):hp ac V (.cons t r) env n=some (b&&c,n):=aR h (by
 cases b
 ·exact if_neg mM
 ·exact(if_pos rfl).trans k)
theorem SX{er eO hr:Mine.T}{iM:av}(ax:fs ac V er env n=some (gf,n))(aH:fs ac V eO env n=some (i2,n))(cI:fs ac V hr env n=some (iM,n)):hp ac V (.cons (.and (.cons er (.cons eO (.cons hr .nil)))) .nil) env n=some (gf&&i2&&iM,n):=
 (qH (t:=.and _) (qH ax (qH aH (qH cI rfl))) rfl).trans (by rw[vY,vY,Bool.and_assoc])
theorem SW{er eO:Mine.T}(ax:fs ac V er env n=some (gf,n))(aH:fs ac V eO env n=some (i2,n)):hp ac V (.cons (.and (.cons er (.cons eO .nil))) .nil) env n=some (gf&&i2,n):=
 (qH (t:=.and _) (qH ax (qH aH rfl)) rfl).trans (by rw[vY,vY])
theorem NR(aA:x<128):vf [x]=true:=an (λ b=>true&&(b&&true)) (iO aA)
theorem aex(aA:x<128)(bI:y<128):cY .eq (.ss [x]) (.ss [y]) n=some (decide (x=y)):=(if_pos (dF.mpr ⟨NR aA,NR bI⟩)).trans (an some (q9.mpr ⟨λ e=>(B7 e).1,λ e=>e▸rfl⟩))
theorem Nz(aA:x=109∨x=110):x<128:=aA.elim (λ e=>e▸aE rfl) λ e=>e▸aE rfl
theorem Ft(aA:x=109∨x=110)(bI:y=109∨y=110):cY .eq (.ss [x]) (.ss [y]) n=some (decide (x=y)):=aex (Nz aA) (Nz bI)
noncomputable def SJ:fc:=.cons (.and (.cons (.cmp .eq (.aq (.v 7) (.ss [110,97,109,101])) (.v 1)) (.cons (.cmp .eq (.aq (.v 7) (.ss [115,111,114,116])) (.v 3)) (.cons (.cmp .lt (.aq (.v 7) (.ss [108,101,118,101,108])) (.v 4)) .nil)))) .nil
noncomputable def CZ:ab:=(.comp (.v 7) [7] false (.aq (.v 0) (.ss [114,111,119,115])) (.cons (.and (.cons (.cmp .eq (.aq (.v 7) (.ss [110,97,109,101])) (.v 1)) (.cons (.cmp .eq (.aq (.v 7) (.ss [115,111,114,116])) (.v 3)) (.cons (.cmp .lt (.aq (.v 7) (.ss [108,101,118,101,108])) (.v 4)) .nil)))) .nil))
noncomputable def q1(R:B b5)(nm aM ah:C):B Nat:=k' R λ r=>decide (r.nm=nm)&&decide (r.aM=aM)&&decide (r.ah<ah)
noncomputable def k4(w nm aM ah:C)(bu o5 bN bm:Y D):aX:=[some (.ref w),some (.ss [nm]),bu,some (E aM),some (E ah),o5,bN,bm]
theorem SK{o5:Y D}(p:iJ a h T W al aU R xs t)(M:Good a h n)(cy:nm=109∨nm=110)(fR:R.length<100):
  ci ac (runN ac z) CZ (k4 (a .w) nm aM ah bu o5 bN bm) n=some (.ref n.length,n++[.li ((q1 R nm aM ah).map λ j=>.ref (a (.row j)))]):=by
 have gN:=sz (V:=runN ac z) (x:=7) (env:=k4 (a .w) nm aM ah bu o5 bN bm) (eo:=SJ) (b7:=.v 7) (acc:=[]) (eS:=ck R.length) (f:=λ j=>.ref (a (.row j))) (M.at_ _ _ p.rows) (p:=λ j=>(λ r:b5=>decide (r.nm=nm)&&decide (r.aM=aM)&&decide (r.ah<ah)) (af R j)) (g:=λ j=>.ref (a (.row j))) λ j bt=>by
  have e:=iP (ga.mp bt)
  have r:=(p.row j _ e).at_ M
  have hW:=p.eY _ (h3 e)
  have er:fs ac (runN ac z) (.cmp .eq (.aq (.v 7) (.ss [110,97,109,101])) (.v 1)) (k4 (a .w) nm aM ah bu o5 bN (some (.ref (a (.row j))))) n=some (decide ((af R j).nm=nm),n):=(je z (Mine.T.cmp jg.eq ((ab.v 7).aq (ab.ss [110,97,109,101])) (ab.v 1)) (k4 (a aN.w) nm aM ah bu o5 bN (some (D.ref (a (aN.row j))))) n _ r.2.1 _ (Ft hW.2.1 cy))
  have eO:fs ac (runN ac z) (.cmp .eq (.aq (.v 7) (.ss [115,111,114,116])) (.v 3)) (k4 (a .w) nm aM ah bu o5 bN (some (.ref (a (.row j))))) n=some (decide ((af R j).aM=aM),n):=(je z (Mine.T.cmp jg.eq ((ab.v 7).aq (ab.ss [115,111,114,116])) (ab.v 3)) (k4 (a aN.w) nm aM ah bu o5 bN (some (D.ref (a (aN.row j))))) n _ r.2.2.1 _ qd)
  have hr:fs ac (runN ac z) (.cmp .lt (.aq (.v 7) (.ss [108,101,118,101,108])) (.v 4)) (k4 (a .w) nm aM ah bu o5 bN (some (.ref (a (.row j))))) n=some (decide ((af R j).ah<ah),n):=(je z (Mine.T.cmp jg.lt ((ab.v 7).aq (ab.ss [108,101,118,101,108])) (ab.v 4)) (k4 (a aN.w) nm aM ah bu o5 bN (some (D.ref (a (aN.row j))))) n _ r.1 _ M')
  exact⟨SX er eO hr,qz rfl⟩
 have hl:((ck R.length).map λ j=>D.ref (a (.row j))).length≤100000:=by rw[cG,gB];exact a' (h4 fR) (aE rfl)
 exact(hI z CZ (k4 (a aN.w) nm aM ah bu o5 bN bm) n _ (gx (M.at_ _ _ p.wl.w) rfl) _ (iz (M.at_ _ _ p.rows)) hl _ _ gN)
noncomputable def KG(d:C):Bool:=!(decide ((4:am)=d)||(decide ((5:am)=d)||false))
theorem Vh:cY .my (E d) (.tup [.ii 4,.ii 5]) n=some (KG d):=rfl
noncomputable def AX:bk:=(.cons (.ex (.call 59 (.cons (.v 0) (.cons (.v 4) (.cons (.v 1) (.cons (.v 3) (.cons (.and (.cons (.cmp .ne (.v 6) (.lst .nil)) (.cons (.cmp .my (.v 5) (.tup (.cons (.ii 4) (.cons (.ii 5) .nil)))) .nil))) .nil))))))) .nil)
noncomputable def AW:bk:=.cons (.asg 6 CZ) AX
theorem SM(h:(q1 R nm aM ah).isEmpty=false):∃q∈R,q.ah<ah∧q.nm=nm∧q.aM=aM:=by
 obtain⟨j,bt⟩:=List.exists_mem_of_ne_nil _ (λ e=>nomatch(e▸h:([]:B C).isEmpty=false))
 have m:=Fa.mp bt
 have dI:=(dF.mp m.2)
 have dN:=(dF.mp dI.1)
 exact⟨af R j,h3 (iP m.1),gi dI.2,gi dN.1,gi dN.2⟩
theorem abu(e:n[m]? =some (.li l))(bC:n[c0]? =some (.li [])):s1 n (.ref m) (.ref c0)=some (!l.isEmpty):=
 (an (λ o:Y a0=>match o,n[c0]? with|some (.li xs),some (.li [])=>some (!xs.isEmpty)|_,_=>none) e).trans (an (λ o:Y a0=>match some (a0.li l),o with|some (.li xs),some (.li [])=>some (!xs.isEmpty)|_,_=>none) bC)
theorem Fl(e:n[m]? =some (.li l))(bC:n[c0]? =some (.li [])):cY .ne (.ref m) (.ref c0) n=some (!l.isEmpty):=an (λ o:Y av=>match o with|some r=>some r|none=>(m5 4 n (.ref m) (.ref c0)).map (!·)) (abu e bC)
theorem acT(p:iJ a h T W al aU R xs t)(M:Good a h n)(cy:nm=109∨nm=110)(hs:aM≤1)(hl:ah≤3)(a1:d<8)(fR:R.length<50)(a3:T.length<400000)
  (f:∀(J:St) (aY:bH) (H:aT) (aC:B aP) (r:b5) (gy:Y D),bS ac (runN ac (z+32)) AW (k4 (a .w) nm aM ah bu (some (E d)) bN bm) n=some (.br (k4 (a .w) nm aM ah bu (some (E d)) gy bm),J)→Good aY H J→iJ aY H aC W al aU (R++[r]) xs t→aC.length≤T.length+24→aY .w=a .w→aY .store=a .store→(r.ah=ah∧r.nm=nm∧r.aM=aM∧(r.eM=true→∃q∈R,q.ah<ah∧q.nm=nm∧q.aM=aM))→X):X:=by
 have aw:=SK (z:=z+32) (bu:=bu) (aM:=aM) (ah:=ah) (o5:=some (E d)) (bN:=bN) (bm:=bm) p M cy (fi fR (aE rfl))
 have g1:=(b0.start p.wl.bT M (.li ((q1 R nm aM ah).map λ j=>.ref (a (.row j)))))
 have g2:=(b0.start g1.1.bT g1.1.good (.li []))
 have ne:=Fl (df g2.1.good (g2.1.a6 g1.2).1) (df g2.1.good g2.2)
 rw[Q2]at ne
 have go:∀b:av,(∀{J:St},runN ac (z+32) 59 [.ref (a .w),E ah,.ss [nm],E aM,.cj b] (n++[a0.li ((q1 R nm aM ah).map λ j=>.ref (a (.row j)))]++[.li []])=some (D.nn,J)→bS ac (runN ac (z+32)) AX (k4 (a .w) nm aM ah bu (some (E d)) (some (.ref n.length)) bm) (n++[.li ((q1 R nm aM ah).map λ j=>.ref (a (.row j)))])=some (.br (k4 (a .w) nm aM ah bu (some (E d)) (some (.ref n.length)) bm),J))→(b=true→∃q∈R,q.ah<ah∧q.nm=nm∧q.aM=aM)→X:=λ b st wz=>
  MT (z:=z) (r:=⟨ah,nm,aM,b⟩) ((p.go g1.1).go g2.1) g2.1.good ⟨hl,cy,hs⟩ fR a3 λ J aY H aC e dG pZ L gd as=>f J aY H aC _ (some (.ref n.length)) (aR (aR aw rfl) (st e)) dG pZ L gd as ⟨rfl,rfl,rfl,wz⟩
 cases cP:(q1 R nm aM ah).isEmpty with
 |true=>
  rw[cP]at ne
  exact go false (λ e=>(dm (z+32) AX (k4 (a aN.w) nm aM ah bu (some (E d)) (some (D.ref (f' n))) bm) (n++[a0.li (eB (λ j=>D.ref (a (aN.row j))) (q1 R nm aM ah))]) _ ne _ rfl _ _ e)) (λ e=>nomatch e)
 |false=>
  rw[cP]at ne
  exact go (KG d) (λ e=>(dm (z+32) AX (k4 (a aN.w) nm aM ah bu (some (E d)) (some (D.ref (f' n))) bm) (n++[a0.li (eB (λ j=>D.ref (a (aN.row j))) (q1 R nm aM ah))]) _ ne _ rfl _ Vh _ _ e)) λ _=>SM cP
end
end Mine
end
section
namespace Mine
variable{x:C}{l:B (B C)}{d w s nm:C}{bu cm o5 bm:Y D}{ah k:C}{b:bk}{cf:B D}{N ie fO kJ:C}{cX bN:Y D}{env:aX}
section
variable{a:bH}{h:aT}{n:St}{T:B aP}{z:C}{W:cw}{aU:C→ap}{R:B b5}{al:B (am×D)}{xs:B C}{t:C}{X:Prop}
noncomputable def AV:bk:=(.cons (.ex (.call 59 (.cons (.v 0) (.cons (.ii 0) (.cons (.v 1) (.cons (.v 3) (.cons (.cj false) .nil))))))) .nil)
noncomputable def t9(s:B C):Prop:=(∀x∈s,x≤1)∧s.Nodup∧s.length≤2
theorem aee:t9 []:=⟨(λ _ h=>nomatch h),.nil,fu _⟩
theorem tj(h:x≤1):t9 [x]:=⟨jk h,.cons (λ _ h=>nomatch h) .nil,h5 1⟩
theorem Bj{y:C}(h:x≤1)(g:y≤1)(k:x≠y):t9 [x,y]:=⟨oX h g,.cons (jk k) (.cons (λ _ h=>nomatch h) .nil),cJ 2⟩
theorem ps{α:Type}{P:α→Prop}{x:α}{l:B α}(h:P x)(g:∀y∈l,P y):∀y∈x::l,P y:=λ y m=>ms m (λ e=>e▸h) (g y)
noncomputable def Pt:B (B C):=[[0],[1],[0,1],[1,0]]
noncomputable def Pu:B (B C):=[[],[0],[1],[0,1],[0],[1],[1,0],[0]]
theorem aef:∀s∈Pt,t9 s:=have L:=fu 1;have o:=cJ 1
 ps (tj L) (ps (tj o) (ps (Bj L o Ct) (jk (Bj o L Rt))))
theorem aeg:∀s∈Pu,t9 s:=have L:=fu 1;have o:=cJ 1
 ps aee (ps (tj L) (ps (tj o) (ps (Bj L o Ct) (ps (tj L) (ps (tj o) (ps (Bj o L Rt) (jk (tj L))))))))
noncomputable def Pw(l:B (B C)):D:=.tup (l.map λ l=>.tup (l.map E))
theorem afk(a1:d<l.length)(hl:l.length≤1000):de n (Pw l) (E d)=some (.tup ((l.getD d []).map E)):=Ak ((cG ..).symm▸hl) (i9 (getD_at a1))
noncomputable def jP(w nm:C)(bu cX cm o5 bN bm:Y D):aX:=[some (.ref w),some (.ss [nm]),bu,cX,cm,o5,bN,bm]
noncomputable def y6(z:C)(W:cw)(al:B (am×D))(aU:C→ap)(xs:B C)(t w s nm ah:C)(b:bk)(bu cm o5 bm:Y D):Prop:=
 ∀{a:bH} {h:aT} {n:St} {T:B aP} {R:B b5} {aM:C} {bN:Y D} {X:Prop},iJ a h T W al aU R xs t→Good a h n→a .w=w→a .store=s→R.length<50→T.length<400000→aM≤1→
  (∀(J:St) (aY:bH) (H:aT) (aC:B aP) (r:b5) (gy:Y D),bS ac (runN ac (z+32)) b (jP w nm bu (some (E aM)) cm o5 bN bm) n=some (.br (jP w nm bu (some (E aM)) cm o5 gy bm),J)→Good aY H J→iJ aY H aC W al aU (R++[r]) xs t→aC.length≤T.length+24→aY .w=w→aY .store=s→(r.ah=ah∧r.nm=nm∧r.aM=aM∧(r.eM=true→∃q∈R,q.ah<ah∧q.nm=nm∧q.aM=aM))→X)→X
theorem adC(cy:nm=109∨nm=110):y6 z W al aU xs t w s nm 0 AV bu cm o5 bm:=λ{a h n T R aM bN X} p M cS n9 fR a3 hs f=>
 MT (z:=z) (r:=⟨0,nm,aM,false⟩) p M ⟨fu _,cy,hs⟩ fR a3 λ J aY H aC e dG pZ L gd as=>f J aY H aC _ bN (by subst cS;exact(dm (z+32) AV (jP (a aN.w) nm bu (some (E aM)) cm o5 bN bm) n _ _ e)) dG pZ L (gd.trans cS) (as.trans n9) ⟨rfl,rfl,rfl,λ e=>nomatch e⟩
theorem adD(cy:nm=109∨nm=110)(hl:ah≤3)(a1:d<8):y6 z W al aU xs t w s nm ah AW bu (some (E ah)) (some (E d)) bm:=λ{a h n T R aM bN X} p M cS n9 fR a3 hs f=>by
 subst cS
 exact acT p M cy hs hl a1 fR a3 λ J aY H aC r gy e dG pZ L gd as q=>f J aY H aC r gy e dG pZ L gd (as.trans n9) q
theorem ZS{r:b5}:(R++[r]).length+k=R.length+(k+1):=by rw[fh,mQ,qT k];rfl
theorem ae8{ht b:C}(L:ht≤x+24)(h:x+24*(k+1)<b):ht+24*k<b:=AC L (cn (dh (an (x+·) (qT ..))) h)
theorem aap(P:y6 z W al aU xs t w s nm ah b bu cm o5 bm){l:B D}(ss:B C):∀{a:bH} {h:aT} {n:St} {T:B aP} {R:B b5} {cX bN:Y D} {X:Prop},(∀s∈ss,s≤1)→iJ a h T W al aU R xs t→Good a h n→a .w=w→a .store=s→R.length+ss.length<50→T.length+24*ss.length<400000→
  (∀(J:St) (aY:bH) (H:aT) (aC:B aP) (Q:B b5) (hU gy:Y D),@fE (live (.tup l) cf) (e1 (.tup l) cf) (λ x aF J=>(di false [3] x aF).bind λ dH=>bS ac (runN ac (z+32)) b dH J) (ss.map E) (jP w nm bu cX cm o5 bN bm) n=some (.br (jP w nm bu hU cm o5 gy bm),J)→Good aY H J→iJ aY H aC W al aU (R++Q) xs t→aC.length≤T.length+24*ss.length→aY .w=w→aY .store=s→(Q.map λ r=>r.aM)=ss→(∀r∈Q,(r.ah=ah∧r.nm=nm)∧(r.eM=true→∃q∈R,q.ah<r.ah∧q.nm=r.nm∧q.aM=r.aM))→X)→X:=by
 induction ss with
 |nil=>exact λ{a h n T R cX bN X} hs p M cS n9 fR a3 f=>f n a h T [] cX bN DS M ((eZ R).symm▸p) (cJ _) cS n9 rfl (λ _ h=>nomatch h)
 |cons aM ss aZ=>
  exact λ{a h n T R cX bN X} hs p M cS n9 fR a3 f=>P p M cS n9 (cn (d2 ..) fR) (cn (d2 ..) a3) (hs aM (.head _)) λ aa cx aI bX r gy e dJ ac3 L gd as q=>
   aZ (λ x m=>hs x (.tail _ m)) ac3 dJ gd as (ZS▸fR) (ae8 L a3) λ ao ed bJ cL Q hU abS aB dA F2 d5 wD ze d' cO=>
    f ao ed bJ cL (r::Q) hU abS ((wX e).trans aB) dA (mP R r Q▸F2) (a' (of L d5) (dh (an (T.length+·) (qT ..)))) wD ze (q.2.2.1▸d'▸rfl) λ x aA=>ms aA
     (λ k=>k▸⟨⟨q.1,q.2.1⟩,q.1▸q.2.1▸q.2.2.1▸q.2.2.2⟩)
     λ aA=>⟨(cO x aA).1,λ o=>((cO x aA).2 o).elim λ y v=>(nG.mp v.1).elim (λ m=>⟨y,m,v.2⟩) λ m=>absurd v.2.1 (by rw[jA.mp m,q.1,(cO x aA).1.1];exact oR _)⟩
structure oQ(N ie fO kJ:C)(W:cw)(al:B (am×D))(aU:C→ap)(xs:B C)(c:C)(a:bH)(h:aT)(T:B aP)(R:B b5)(t:C)(n:St):Prop where
 cp:iJ a h T W al aU R xs t
 good:Good a h n
 inv:ip R c
 w:a .w=fO
 s:a .store=kJ
 dc:R.length≤2*c
 lp:T.length≤N+48*c
 tt:t≤ie+c
theorem JX{m i:C}{bT:ab}{st:S}{ra:aX}{cO jS:C→Y D}(aA:x=0∨x=1)(pd:2*ah+x≤7)(u:oQ N ie fO kJ W al aU xs (2*ah+x) a h T R t n)(k9:N<3000)(bD:ie<9000)(hl:l.length=m)(hm:0<m)(ix:m≤1000)(aed:∀s∈l,t9 s)
  (hX:∀d<m,y6 z W al aU xs (t+1) fO kJ (109+x) ah b (cO d) cm (jS d) bm)
  (af3:∀d aa,runN ac (z+32) 52 [.ref fO,E m] n=some (E d,aa)→jT ac (runN ac (z+32)) st ra n=some (.br (jP fO (109+x) (cO d) cX cm (jS d) bN bm),aa))(afc:∀{env n},ci ac (runN ac (z+32)) bT env n=some (Pw l,n))(un:∀d,(jP fO (109+x) (cO d) cX cm (jS d) bN bm)[i]? =some (some (E d)))
  (f:∀(J:St) (aY:bH) (H:aT) (aC:B aP) (hJ:B b5) (cB d:C) (hU gy:Y D),bS ac (runN ac (z+32)) (.cons st (.cons (.dd [3] false (.aq bT (.v i)) b) .nil)) ra n=some (.br (jP fO (109+x) (cO d) hU cm (jS d) gy bm),J)→oQ N ie fO kJ W al aU xs (2*ah+x+1) aY H aC hJ cB J→X):X:=by
 refine yi (z:=z+31) (k:=6) (m:=m) u.good u.cp.wl.w u.cp.dR (cn (a' u.tt (hv (h4 bD) pd)) (aE rfl)) hm λ d aa aI a1 aw dJ vR bx=>?_
 have S:=aed (l.getD d []) (h3 (getD_at (hl▸a1)))
 have d4:R.length+(l.getD d []).length<50:=cn (hv (a' u.dc (gU 2 pd)) S.2.2) (aE rfl)
 have d5:T.length+24*(l.getD d []).length<400000:=cn (hv (a' u.lp (hv (h4 k9) (gU 48 pd))) (gU 24 S.2.2)) (aE rfl)
 refine aap (hX d a1) (l:=(l.getD d []).map E) (cf:=(l.getD d []).map E) (cX:=cX) (bN:=bN) _ S.1 (u.cp.take vR bx) dJ u.w u.s d4 d5 λ ao ed bJ cL Q hU gy aB dA F2 L gd as d' cO=>?_
 have M7:Q.length≤2:=by have:=S.2.2;rwa [←d',cG]at this
 refine f ao ed bJ cL (R++Q) (t+1) d hU gy (th (af3 d aa (u.w▸aw)) (th (vt (aR afc (aR (qz (un d)) (aR (afk (hl▸a1) (hl▸ix)) rfl))) rfl (a' (a' (dh (cG ..)) S.2.2) (aE rfl)) aB) rfl)) ⟨F2,dA,u.inv.block aA (λ r a4=>(cO r a4).1) (d'▸S.2.1) M7 (λ r a4 o=>(cO r a4).2 o),gd,as,?_,a' L (a' (hv u.lp (gU 24 S.2.2)) (dh (mQ ..))),hb u.tt 1⟩
 rw[fh]
 exact hv u.dc M7
noncomputable def Pn:ab:=(.tup (.cons (.tup (.cons (.ii 0) .nil)) (.cons (.tup (.cons (.ii 1) .nil)) (.cons (.tup (.cons (.ii 0) (.cons (.ii 1) .nil))) (.cons (.tup (.cons (.ii 1) (.cons (.ii 0) .nil))) .nil)))))
noncomputable def Po:ab:=(.tup (.cons (.tup .nil) (.cons (.tup (.cons (.ii 0) .nil)) (.cons (.tup (.cons (.ii 1) .nil)) (.cons (.tup (.cons (.ii 0) (.cons (.ii 1) .nil))) (.cons (.tup (.cons (.ii 0) .nil)) (.cons (.tup (.cons (.ii 1) .nil)) (.cons (.tup (.cons (.ii 1) (.cons (.ii 0) .nil))) (.cons (.tup (.cons (.ii 0) .nil)) .nil)))))))))
noncomputable def abz:bk:=(.cons (.asg 2 (.call 52 (.cons (.v 0) (.cons (.ii 4) .nil)))) (.cons (.dd [3] false (.aq Pn (.v 2)) AV) .nil))
noncomputable def Nx:bk:=(.cons (.asg 5 (.call 52 (.cons (.v 0) (.cons (.ii 8) .nil)))) (.cons (.dd [3] false (.aq Po (.v 5)) AW) .nil))
theorem JY(aA:x=0∨x=1)(Eu:x≤7)(m:oQ N ie fO kJ W al aU xs (2*0+x) a h T R t n)(k9:N<3000)(bD:ie<9000)
  (f:∀(J:St) (aY:bH) (H:aT) (aC:B aP) (hJ:B b5) (cB:C) (s2 hU gy:Y D),bS ac (runN ac (z+32)) abz (jP fO (109+x) bu cX cm o5 bN bm) n=some (.br (jP fO (109+x) s2 hU cm o5 gy bm),J)→oQ N ie fO kJ W al aU xs (2*0+x+1) aY H aC hJ cB J→X):X:=
 JX (z:=z) (ah:=0) (i:=2) (st:=.asg 2 (.call 52 (.cons (.v 0) (.cons (.ii 4) .nil)))) (b:=AV) (ra:=jP fO (109+x) bu cX cm o5 bN bm) (cm:=cm) (bm:=bm) (l:=Pt) (bT:=Pn) (cO:=λ d=>some (E d)) (jS:=λ _=>o5) (cX:=cX) (bN:=bN) aA (a' (dh (jj _)) Eu) m k9 bD rfl (aE rfl) (aE rfl) aef (λ d _=>adC (aA.elim (λ e=>.inl (e▸rfl)) λ e=>.inr (e▸rfl))) (λ d aa e=>aR (show ci ac (runN ac (z+32)) (.call 52 (.cons (.v 0) (.cons (.ii 4) .nil))) (jP fO (109+x) bu cX cm o5 bN bm) n=some (E d,aa)from(hI (z+32) (ab.call 52 (d6.cons (ab.v 0) (d6.cons (ab.ii 4) d6.nil))) (jP fO (109+x) bu cX cm o5 bN bm) n _ _ e)) rfl) rfl (λ d=>rfl) λ J aY H aC hJ cB d hU gy=>f J aY H aC hJ cB _ hU gy
theorem JZ(aA:x=0∨x=1)(hl:ah≤3)(Eu:2*ah+x≤7)(m:oQ N ie fO kJ W al aU xs (2*ah+x) a h T R t n)(k9:N<3000)(bD:ie<9000)
  (f:∀(J:St) (aY:bH) (H:aT) (aC:B aP) (hJ:B b5) (cB:C) (hU FA gy:Y D),bS ac (runN ac (z+32)) Nx (jP fO (109+x) bu cX (some (E ah)) o5 bN bm) n=some (.br (jP fO (109+x) bu hU (some (E ah)) FA gy bm),J)→oQ N ie fO kJ W al aU xs (2*ah+x+1) aY H aC hJ cB J→X):X:=
 JX (z:=z) (i:=5) (st:=.asg 5 (.call 52 (.cons (.v 0) (.cons (.ii 8) .nil)))) (b:=AW) (ra:=jP fO (109+x) bu cX (some (E ah)) o5 bN bm) (cm:=some (E ah)) (bm:=bm) (l:=Pu) (bT:=Po) (cO:=λ _=>bu) (jS:=λ d=>some (E d)) (cX:=cX) (bN:=bN) aA Eu m k9 bD rfl (aE rfl) (aE rfl) aeg (λ d a1=>adD (aA.elim (λ e=>.inl (e▸rfl)) λ e=>.inr (e▸rfl)) hl a1) (λ d aa e=>aR (show ci ac (runN ac (z+32)) (.call 52 (.cons (.v 0) (.cons (.ii 8) .nil))) (jP fO (109+x) bu cX (some (E ah)) o5 bN bm) n=some (E d,aa)from(hI (z+32) (ab.call 52 (d6.cons (ab.v 0) (d6.cons (ab.ii 8) d6.nil))) (jP fO (109+x) bu cX (some (E ah)) o5 bN bm) n _ _ e)) rfl) rfl (λ d=>rfl) λ J aY H aC hJ cB d hU gy=>f J aY H aC hJ cB hU _ gy
noncomputable def aay:bk:=(.cons (.dd [1] false (.ss [109,110]) Nx) .nil)
theorem zV{s:B C}{step:D→aX→St→Y (e0×St)}{x:D}{r:B D}{aF:aX}{J:St}(e:step x env n=some (.br aF,J)): @fE (live (.ss s) cf) (e1 (.ss s) cf) step (x::r) env n= @fE (live (.ss s) cf) (e1 (.ss s) cf) step r aF J:=fd trivial e rfl
theorem PF{KP KQ:aX}{aa ao:St}(aw:bS ac (runN ac (z+32)) b (iR env 1 (.ss [109])) n=some (.br KP,aa))(aB:bS ac (runN ac (z+32)) b (iR KP 1 (.ss [110])) aa=some (.br KQ,ao)):jT ac (runN ac (z+32)) (.dd [1] false (.ss [109,110]) b) env n=some (.br KQ,ao):=
 vt (v:=.ss [109,110]) (l:=[.ss [109],.ss [110]]) rfl rfl (aE rfl) ((zV aw).trans ((zV aB).trans (hg trivial)))
theorem EV{cT:Y D}(hl:ah≤3)(m:oQ N ie fO kJ W al aU xs (2*ah) a h T R t n)(k9:N<3000)(bD:ie<9000)
  (f:∀(J:St) (aY:bH) (H:aT) (aC:B aP) (hJ:B b5) (cB:C) (abQ hU FA gy:Y D),(di false [4] (E ah) [some (.ref fO),cT,bu,cX,cm,o5,bN,bm]).bind (λ aF=>bS ac (runN ac (z+32)) aay aF n)=some (.br [some (.ref fO),abQ,bu,hU,some (E ah),FA,gy,bm],J)→oQ N ie fO kJ W al aU xs (2*(ah+1)) aY H aC hJ cB J→X):X:=by
 refine JZ (z:=z) (x:=0) (bu:=bu) (cX:=cX) (o5:=o5) (bN:=bN) (bm:=bm) (.inl rfl) hl (a' (gU 2 hl) (h5 6)) m k9 bD λ aa cx aI bX Sl jV eN gz hV aw AI=>?_
 exact JZ (z:=z) (x:=1) (bu:=bu) (cX:=eN) (o5:=gz) (bN:=hV) (bm:=bm) (.inr rfl) hl (gq (gU 2 hl)) AI k9 bD λ ao ed bJ cL Ji ym j8 jS td aB pu=>
  f ao ed bJ cL Ji ym _ j8 jS td (th (PF aw aB) rfl) pu
theorem ZJ(m:oQ N ie fO kJ W al aU xs 0 a h T R t n)(k9:N<3000)(bD:ie<9000)
  (f:∀(J:St) (aY:bH) (H:aT) (aC:B aP) (hJ:B b5) (cB:C),runN ac (z+33) 60 [.ref fO] n=some (.nn,J)→oQ N ie fO kJ W al aU xs 8 aY H aC hJ cB J→X):X:=by
 refine JY (z:=z) (x:=0) (bu:=none) (cX:=none) (cm:=none) (o5:=none) (bN:=none) (bm:=none) (.inl rfl) (fu _) m k9 bD λ aa cx aI bX Sl jV fU eN hV aw AI=>?_
 refine JY (z:=z) (x:=1) (bu:=fU) (cX:=eN) (cm:=none) (o5:=none) (bN:=hV) (bm:=none) (.inr rfl) (aE rfl) AI k9 bD λ ao ed bJ cL Ji ym cO j8 td aB pu=>?_
 refine EV (z:=z) (ah:=1) (cT:=some (.ss [110])) (bu:=cO) (cX:=j8) (cm:=none) (o5:=none) (bN:=td) (bm:=none) (aE rfl) pu k9 bD λ bW ek cQ lB agY qJ fV ot ada adb bZ oj=>?_
 refine EV (z:=z) (ah:=2) (cT:=fV) (bu:=cO) (cX:=ot) (cm:=some (E 1)) (o5:=ada) (bN:=adb) (bm:=none) (aE rfl) oj k9 bD λ eP kq hP sj agZ ahs eF pH vz Ge dL aa5=>?_
 refine EV (z:=z) (ah:=3) (cT:=eF) (bu:=cO) (cX:=pH) (cm:=some (E 2)) (o5:=vz) (bN:=Ge) (bm:=none) (cJ 3) aa5 k9 bD λ jW k5 i5 CV Sm GR jd oA GV GW fI aa6=>?_
 exact f jW k5 i5 CV Sm GR (A7 (z:=z+32) (f:=60) (b6:=[.ref fO]) (r:=.br [some (.ref fO),jd,cO,oA,some (E 3),GV,GW,none]) rfl rfl (th (PF aw aB) (th (vt (v:=.tup [E 1,E 2,E 3]) (l:=[E 1,E 2,E 3]) rfl rfl (aE rfl) ((wX bZ).trans ((wX dL).trans ((wX fI).trans DS)))) rfl))) aa6
end
end Mine
end
section
namespace Mine
variable{H:aT}{aC:B aP}{r:aN}{m:C}{J:St}{b l c k:C}{bE:B ap}{ks:B C}
section
variable{a:bH}{h:aT}{n:St}{T:B aP}{z:C}{W:cw}{aU:C→ap}{R:B b5}{al:B (am×D)}{X:Prop}
noncomputable def Qy(a:bH)(aG en:B (C×D)):Prop:=aG.lookup 47=some (.ref (a .store))∧aG.lookup 35=some (.ref (a .kt))∧aG.lookup 63=some (.ref (a .ij))∧aG.lookup 65=some (.ref (a .h9))∧en.lookup 56=some (.ref (a .host))∧en.lookup 59=some (.ref (a .jv))
noncomputable def HB(a:bH)(aG:B (C×D)):Prop:=aG.lookup 35=some (.ref (a .kt))∧aG.lookup 70=some (.ref (a .fF))∧aG.lookup 71=some (.ref (a .c7))∧aG.lookup 7=none∧aG.lookup 9=none
structure HC(W:cw)(aU:C→ap)(R:B b5):Prop where
 iT:W.ok
 lH:∀c,(aU c).ar (W.many 0)∧(aU c).wf∧(aU c).size≤2
 eY:∀r∈R,r.ah≤3∧(r.nm=109∨r.nm=110)∧r.aM≤1
 inv:ip R 8
 dc:R.length≤16
structure c9(a:bH)(h:aT)(T:B aP)(W:cw)(al:B (am×D))(aU:C→ap)(R:B b5):Prop extends HC W aU R where
 aM:ko a h
 bT:c6 a h T
 ty:∀l,l<4→l6 a h l (W.many l)
 types:∃x,h .types=some (.li (dx 66 .nn++[.ref (a (.ty 0)),.ref (a (.ty 1)),.ref (a (.ty 2)),.ref (a (.ty 3)),x]))
 meths:h .meths=some (.li (.nn::(ck R.length).map λ j=>.ref (a (.bl j))))
 dw:∀l,l<4→h (.dw l)=some (.li ((k' R λ r=>r.ah==l).map λ j=>E (j+1)))
 be:∃aG,h .host=some (.bF 9 aG)∧HB a aG
 az:h .fF=some (.cq al)
 hs:h .c7=some (.cq [(34,.ii 3)])
 o7:lV T W al
 kr:∀ae,ae≤3→oJ T W al ae
 qb:∃aG en,h .eI=some (.bF 8 aG)∧h .ij=some (.bF 7 en)∧Qy a aG en
noncomputable def aa8:aN→av
 | .bl _| .cM _| .a6 _| .w| .h9=>false
 |_=>true
noncomputable def pC(r:aN):Bool:=!gZ r&&aa8 r
theorem c9.keep(ag:c9 a h T W al aU R)(f:∀r o,pC r=true→h r=some o→H r=some o)(bT:c6 a H aC)(k:∀{k:C} {t:ap},ba T k t→ba aC k t):c9 a H aC W al aU R:=
 let⟨aG,eF,s⟩:=ag.aM.bF
 let⟨x,ex⟩:=ag.types
 let⟨cl,ax,aH⟩:=ag.be
 let⟨ds,bf,q8,oD,DB⟩:=ag.qb
 ⟨ag.toHC,⟨aG,f _ _ rfl eF,s⟩,bT,λ l hl=>let⟨⟨aG,aw,e⟩,⟨cp,gk,p⟩⟩:=ag.ty l hl;⟨⟨aG,f _ _ rfl aw,e⟩,⟨cp,f _ _ rfl gk,p⟩⟩,⟨x,f _ _ rfl ex⟩,f _ _ rfl ag.meths,λ l hl=>f _ _ rfl (ag.dw l hl),⟨cl,f _ _ rfl ax,aH⟩,f _ _ rfl ag.az,f _ _ rfl ag.hs,ag.o7.more k,λ ae cC=>(ag.kr ae cC).more k λ k e=>e,⟨ds,bf,f _ _ rfl q8,f _ _ rfl oD,DB⟩⟩
theorem Oc(h:pC r=true):gZ r=false:=(tI _).mp (dF.mp h).1
theorem ac6(h:pC r=true):r≠ .a6 m:=λ e=>nomatch(e▸h:pC (.a6 m)=true)
theorem c9.go(ag:c9 a h T W al aU R)(x:b0 a h T b J aC H):c9 a H aC W al aU R:=ag.keep (λ r o q e=>x.off (Oc q) e) x.bT λ q=>x.eT q
theorem c9.put{o:a0}(ag:c9 a h T W al aU R)(bT:c6 a (up h (.a6 m) (some o)) T):c9 a (up h (.a6 m) (some o)) T W al aU R:=ag.keep (λ r o q e=>mJ e (ac6 q)) bT λ q=>q
noncomputable def j0(a:bH)(h:aT)(T:B aP)(W:cw)(aU:C→ap)(R:B b5)(F:C→C):Prop:=∀j,j<R.length→ki a h T W aU j (af R j) (F j)
theorem j0.go{F:C→C}(ak:j0 a h T W aU R F)(x:b0 a h T b J aC H):j0 a H aC W aU R F:=λ j bt=>(ak j bt).bx (λ o e=>x.off rfl e) (λ g o e=>x.off rfl e) λ q=>x.eT q
theorem c9.yl(ag:c9 a h T W al aU R)(M:Good a h n)(hl:l<4):de n (.ref (a .types)) (E (66+l))=some (.ref (a (.ty l))):=let⟨_,tq⟩:=ag.types;GQ hl M tq
theorem c9.qo(ag:c9 a h T W al aU R)(M:Good a h n){j:C}(bt:j<R.length):de n (.ref (a .meths)) (E (j+1))=some (.ref (a (.bl j))):=j7 (M.at_ _ _ ag.meths) (i9 (f:=λ j=>D.ref (a (.bl j))) (yF bt))
theorem c9.afB(ag:c9 a h T W al aU R)(M:Good a h n)(hl:l<4):d7 n (.ref (a (.ty l))) 7=some (.ii 1):=let⟨⟨_,er,eO,_⟩,_⟩:=ag.ty l hl;(fk (M.at_ _ _ er)).trans eO
theorem c9.afz(ag:c9 a h T W al aU R)(M:Good a h n)(hl:l<4):d7 n (.ref (a (.ty l))) 11=some (.ref (a (.tyP l))):=let⟨⟨_,er,_,hr,_⟩,_⟩:=ag.ty l hl;(fk (M.at_ _ _ er)).trans hr
theorem c9.afC(ag:c9 a h T W al aU R)(M:Good a h n)(hl:l<4):lb n (.ref (a (.tyP l)))=some ((W.many l:C):am):=let⟨_,_,gk,fU⟩:=ag.ty l hl;fU▸rp (M.at_ _ _ gk)
theorem c9.mc(ag:c9 a h T W al aU R)(M:Good a h n):d7 n (.ref (a .eI)) 47=some (.ref (a .store)):=let⟨_,_,e,_,d⟩:=ag.qb;(fk (M.at_ _ _ e)).trans d.1
theorem c9.zC(ag:c9 a h T W al aU R)(M:Good a h n):d7 n (.ref (a .eI)) 35=some (.ref (a .kt)):=let⟨_,_,e,_,d⟩:=ag.qb;(fk (M.at_ _ _ e)).trans d.2.1
theorem c9.zD(ag:c9 a h T W al aU R)(M:Good a h n):d7 n (.ref (a .eI)) 63=some (.ref (a .ij)):=let⟨_,_,e,_,d⟩:=ag.qb;(fk (M.at_ _ _ e)).trans d.2.2.1
theorem c9.zE(ag:c9 a h T W al aU R)(M:Good a h n):d7 n (.ref (a .eI)) 65=some (.ref (a .h9)):=let⟨_,_,e,_,d⟩:=ag.qb;(fk (M.at_ _ _ e)).trans d.2.2.2.1
theorem c9.BR(ag:c9 a h T W al aU R)(M:Good a h n):d7 n (.ref (a .ij)) 56=some (.ref (a .host)):=let⟨_,_,_,e,d⟩:=ag.qb;(fk (M.at_ _ _ e)).trans d.2.2.2.2.1
theorem c9.ahx(ag:c9 a h T W al aU R)(M:Good a h n):d7 n (.ref (a .ij)) 59=some (.ref (a .jv)):=let⟨_,_,_,e,d⟩:=ag.qb;(fk (M.at_ _ _ e)).trans d.2.2.2.2.2
theorem v'(hl:bE.length≤2)(f:∀ks,T[k]? =some (.g c ks)→d1 T ks bE→ks.length≤2→iC c→X):ba T k (gY c bE)→X:=
 zX (ak:=λ bE=>(∀ks,T[k]? =some (.g c ks)→d1 T ks bE→ks.length≤2→iC c→X)→ba T k (gY c bE)→X) bE hl (λ f q=>f [] q.2 trivial (fu _) q.1)
  (λ t f q=>q.n2 λ j o e q=>f [j] e ⟨q,trivial⟩ (h5 1) o) (λ t u f q=>q.n3 λ i j o e q ep=>f [i,j] e ⟨q,ep,trivial⟩ (cJ 2) o) f
theorem WP(o:iC c)(hl:bE.length≤2):d1 T ks bE→k1 T (.g c ks) (gY c bE):=
 zX (ak:=λ bE=>d1 T ks bE→k1 T (.g c ks) (gY c bE)) bE hl (λ q=>⟨o,by rw[List.length_eq_zero_iff.mp (d1.len q)]⟩) (λ t q=>q.one λ j e q=>e▸⟨o,j,rfl,q⟩) (λ t u q=>q.two λ i j e q ep=>e▸⟨o,i,j,rfl,q,ep⟩)
theorem FL(hl:l<4):iC (66+l):=.inr ⟨d2 ..,fB (h4 hl) 66⟩
theorem afj(hl:l<4):cY .pk (E (66+l)) (.cd o8) n=some false:=an some (rD (FL hl)).2
theorem Zt(ag:c9 a h T W al aU R)(M:Good a h n)(hl:l<4)(q:d1 T ks bE)(qh:bE.length≤2)(hs:(gY (66+l) bE).size≤24)(a3:T.length<500000)
  (f:∀k J aC H,runN ac (z+8) 38 [.ref (a .store),E (66+l),.tup (ks.map E)] n=some (E k,J)→ba aC k (gY (66+l) bE)→b0 a h T 1 J aC H→X):X:=
 U1 (z:=z) ag.bT M (WP (FL hl) qh q) (FL hl) hs a3 λ k J e g=>b0.s6 g λ aC H gm go=>
  f k J aC H (cN (z+7) 38 [D.ref (a aN.store),E (66+l),D.tup (eB E ks)] n rfl rfl _ ((ag.aM.at_ M).2.1) _ (ag.yl M hl) _ (ag.afB M hl) _ ((rfl:cY .eq (.ii 1) (.ii 2) n=some false)) _ ((rfl:cY .eq (.ii 1) (.ii 2) n=some false)) _ ((ag.aM.at_ M).2.2) _ _ e) gm go
noncomputable def Gq:bk:=(.cons (.ex (.append (.v 3) (.call 22 (.cons (.at (.v 0) 35) (.cons (.v 4) .nil))))) .nil)
theorem d1.snoc{t:ap}(q:d1 T ks bE)(p:ba T k t):d1 T (ks++[k]) (bE++[t]):=d1.b7 (ak:=λ ks bE=>d1 T (ks++[k]) (bE++[t])) ⟨p,trivial⟩ (λ _ _ _ _ q _ i=>⟨q,i⟩) q
theorem Gu{α c4:Type}{f:α→c4}{l:B α}{x:α}:l.map f++[f x]=(l++[x]).map f:=(nF (l₂:=[x])).symm
noncomputable def ya(a:bH)(aV aQ:Y D)(m:C)(cm:Y D):aX:=[some (.ref (a .store)),aV,aQ,some (.ref m),cm]
theorem aeh{h₀:aT}{CU:B aP}{aV aQ:Y D}{lo ay:am}{cf:B D}(cy:h₀ (.a6 m)=none)(a3:CU.length<490000)(is:B C):∀{n:St} {T:B aP} {h:aT} {ks:B C} {bE:B ap} {b:C} {cm:Y D},b+is.length<10→ks.length+is.length<10→c9 a h T W al aU R→b0 a h₀ CU b n T h→h (.a6 m)=some (.li (ks.map E))→d1 T ks bE→
  (∀fK J aC H js,@fE (live (.ew lo ay) cf) (e1 (.ew lo ay) cf) (λ x aF J=>(di false [4] x aF).bind λ dH=>bS ac (runN ac (z+8)) Gq dH J) (is.map E) (ya a aV aQ m cm) n=some (.br (ya a aV aQ m js),J)→b0 a h₀ CU (b+is.length) J aC H→H (.a6 m)=some (.li (fK.map E))→d1 aC fK (bE++is.map .v)→c9 a H aC W al aU R→X)→X:=by
 induction is with
 |nil=>exact λ{n T h ks bE b cm} az hk ag go hm q f=>f ks n T h cm (hg trivial) go hm ((eZ bE).symm▸q) ag
 |cons i is aZ=>
  exact λ{n T h ks bE b cm} az hk ag go hm q f=>afU (z:=z+1) ag.bT go.good i (cn go.le (fi (Nat.add_lt_add a3 (cn (d2 ..) az:b<10)) (aE rfl))) λ k aa e g=>b0.s6 g λ bX aI gm cW=>
   have aw:=cW.a6 hm
   have L:=(go.trans cW).put (c3:=.li (ks.map E++[E k])) aw.1 cy
   aZ (cn (dh (jB ..)) az) (cn (dh (by rw[fh];exact jB ..)) hk) ((ag.go cW).put L.1.bT) L.1 (L.2.trans (an (λ l=>some (a0.li l)) Gu)) ((cW.xn q).snoc gm) λ fK J aC H js bC w0 ib ep oK=>
    have st:bS ac (runN ac (z+8)) Gq (ya a aV aQ m (some (E i))) n=some (.br (ya a aV aQ m (some (E i))),aa.set m (.li (ks.map E++[E k]))):=(dm (z+8) Gq (ya a aV aQ m (some (E i))) n (hQ (df go.good hm)) _ ((ag.aM.at_ go.good).2.2) _ _ e _ (m0 aw.2 (pG (fi (cn (dh (cG ..)) (cn (d2 ..) hk)) (aE rfl)))))
    f fK J aC H js (fd trivial st bC) (w0.mono (dh (jB ..))) ib (mP bE (.v i) (is.map .v)▸ep) oK
theorem adz(hm:m≤2)(f:(∀n,hR n (.ew 0 (m:am))=some ((ck m).map E))→ov (E m)=some (.ew 0 (m:am))→X):X:=
 sS (P:=λ m=>((∀n,hR n (.ew 0 (m:am))=some ((ck m).map E))→ov (E m)=some (.ew 0 (m:am))→X)→X) m hm (λ f=>f (λ _=>rfl) rfl) (λ f=>f (λ _=>rfl) rfl) (λ f=>f (λ _=>rfl) rfl) f
theorem OS(ag:c9 a h T W al aU R)(M:Good a h n)(hl:l<4)(a3:T.length<490000)
  (f:∀k J aC H,runN ac (z+9) 37 [.ref (a .store),E (66+l)] n=some (E k,J)→ba aC k (dM W l 0)→b0 a h T 3 J aC H→X):X:=by
 have b2:=b0.start ag.bT M (.li [])
 have hm:=ag.iT.many l
 refine adz hm λ ay a4=>?_
 refine aeh (z:=z) (aV:=some (E (66+l))) (aQ:=some (.ref (a (.ty l)))) (lo:=0) (ay:=(W.many l:C)) (cf:=(ck (W.many l)).map E) (cm:=none) (ks:=[]) (bE:=[]) (M.fresh (cJ _)) a3 (ck (W.many l)) (cn (dh (by rw[gB,jj])) (cn hm (aE rfl))) (cn (dh (by rw[gB];exact jj _)) (cn hm (aE rfl))) (ag.go b2.1) b2.1 b2.2 trivial λ fK aa bX aI js aw cW hO d' pM=>?_
 have QQ:(W.own l).length=W.many l:=by unfold cw.own;rw[cG,gB]
 have i2:0+(ck (W.many l)).length≤2:=by rw[gB,jj];exact hm
 refine Zt (z:=z) pM cW.good hl (bE:=W.own l) d' (QQ.symm▸hm) (a' (u0 ag.iT (ae:=l) (ls hl) (fu _)).2.1 (aE rfl)) (cn cW.le (fa (r6 a3 i2) (aE rfl))) λ k ao cL bJ aB gm b8=>?_
 have g7:=ag.go b2.1
 have mO:=b2.1.good
 have agp:((ck (W.many l)).map E).length≤100000:=a' (dh (cG ..)) (a' (a' (dh gB) hm) (aE rfl))
 exact f k ao cL bJ (cN (z+8) 37 [D.ref (a aN.store),E (66+l)] n rfl rfl _ (afj hl) _ ((ag.aM.at_ M).2.1) _ (ag.yl M hl) _ (g7.afz mO hl) _ (g7.afC mO hl) _ a4 _ (ay _) agp _ _ aw _ (PD (df cW.good hO)) _ _ aB) gm ((cW.trans b8).mono (gq i2))
end
end Mine
end
section
namespace Mine
variable{m k:C}{O:B (am×D)}{d ae fm:C}
section
variable{a:bH}{h:aT}{n:St}{T:B aP}{z:C}{W:cw}{aU:C→ap}{R:B b5}{al:B (am×D)}{X:Prop}
theorem Lg{d:D}(e:n[m]? =some (.cq O)):uD n (.ref m) (E k) d=some ((O.lookup (k:am)).getD d):=an (w1 (E k) d) e
theorem Mj(e:n[m]? =some (.cq O)):rh n (.ref m)=true:=an (λ o:Y a0=>match o with|some (.cq _)|some (.h' _)=>true|_=>false) e
theorem Uh(ag:c9 a h T W al aU R)(M:Good a h n):mu ac n 9 (.ref (a .host))=some 12:=let⟨_,it,_,_,_,_,nZ⟩:=ag.be;(an (FG λ c aG=>if(aG.lookup 9).isNone then ac.pv c 9 else none) (M.at_ _ _ it)).trans (if_pos (an RB nZ))
theorem c9.Xc(ag:c9 a h T W al aU R)(M:Good a h n):d7 n (.ref (a .host)) 70=some (.ref (a .fF)):=let⟨_,it,_,us,_⟩:=ag.be;(fk (M.at_ _ _ it)).trans us
theorem Ui(ag:c9 a h T W al aU R)(M:Good a h n):runN ac (z+1) 12 [.ref (a .host),E k] n=some ((al.lookup (k:am)).getD (.ii (-1)),n):=by
 exact(cN z 12 [D.ref (a aN.host),E k] n rfl rfl _ (ag.Xc M) (Mj (M.at_ _ _ ag.az)) _ rfl _ (Lg (M.at_ _ _ ag.az)))
theorem Z2(K:W.ok)(cC:ae≤3){ku:C}(a1:d≤ae)(gw:ku≤ae)(e:dM W ae d=dM W ae ku):d=ku:=by
 rw[←r9 a1,←r9 gw,H9 (D1 (K.lD cC a1) (K.lD cC gw) e).1]
theorem abo(ag:c9 a h T W al aU R)(cC:ae≤3)(a1:d<ae)(q:ba T k (dM W ae d))(f:∀ct,al.lookup (k:am)=some (E ct)→ba T ct (dM W ae (d+1))→X):X:=
 ag.bT.b7 λ _ _ _ _ I=>let⟨eW,fy,md⟩:=ag.kr ae cC d a1
  let⟨v,e⟩:=oT.mp (ba.inj I.nodup q fy▸md)
  ag.o7.b7 e λ l b6 e7 dy eE d' DH cO=>f e7 (e.trans (an some DH)) (by
   have L:=D1 (ag.iT.lD cC (h4 a1)) eE (q.a6 d')
   show ba T e7 (gY (66+Nat.pred (ae-d)) ((W.up (ae-d)).map (ap.sub (W.dK ae d))))
   rw[H9 L.1,L.2]
   exact cO)
theorem ZF(ag:c9 a h T W al aU R)(cC:ae≤3)(q:ba T k (dM W ae ae)):al.lookup (k:am)=none:=
 we.mpr λ v e=>ag.o7.b7 e λ l b6 e7 dy eE d' _ _=>nomatch(r8 ae).symm.trans (H9 (D1 (ag.iT.lD cC (cJ _)) eE (q.a6 d')).1)
noncomputable def wG:Mine.T:=(.and (.cons (.cmp .ne (.v 1) (.neg (.ii 1))) (.cons (.cmp .my (.v 1) (.v 3)) .nil)))
noncomputable def zq:bk:=(.cons (.gJ (.v 3) (.v 1) (.ii 1)) (.cons (.ex (.append (.v 2) (.v 1))) (.cons (.asg 1 (.hj (.v 0) 9 (.cons (.v 1) .nil))) .nil)))
theorem abj:cY .ne (E k) (.ii (-1)) n=some true:=an (λ b=>some (!b)) (j3 (QN (QL (by decide:(-1:am)<0) (yy k))))
theorem abk:cY .ne (.ii (-1)) (.ii (-1)) n=some false:=rfl
theorem abw{S:B (am×D)}(e:n[m]? =some (.cq S))(nl:(S.lookup (k:am)).isSome=false):cY .my (E k) (.ref m) n=some true:=an (qV (!·)) ((Am e).trans (an some nl))
noncomputable def o9(a:bH)(m fm:C)(v:D):aX:=[some (.ref (a .host)),some v,some (.ref m),some (.ref fm)]
theorem Ol{α:Type}{f:C→α}:(ck d).map f++[f d]=(ck (d+1)).map f:=(F3 (λ _ _=>rfl) rfl).symm
theorem Ki{aI:aT}{ks:B C}{S:B (am×D)}(cC:ae≤3)(nn:m≠fm)(kB:h (.a6 m)=none)(z':h (.a6 fm)=none)(a1:d≤ae)(ag:c9 a aI T W al aU R)(go:b0 a h T 0 n T aI)(hm:aI (.a6 m)=some (.li (ks.map E)))(hs:aI (.a6 fm)=some (.cq S))(fL:d1 T ks ((ck d).map (dM W ae)))(q:ba T k (dM W ae d))(nt:∀ct:C,(S.lookup (ct:am)).isSome=true→∃ku,ku<d∧ba T ct (dM W ae ku))(dQ:S.length≤d)
  (f:∀(J:St) (H:aT),fs ac (runN ac (z+1)) wG (o9 a m fm (E k)) n=some (true,n)→(∀v,(al.lookup (k:am)).getD (.ii (-1))=v→bS ac (runN ac (z+1)) zq (o9 a m fm (E k)) n=some (.br (o9 a m fm v),J))→b0 a h T 0 J T H→H (.a6 m)=some (.li ((ks++[k]).map E))→H (.a6 fm)=some (.cq (c8 S (k:am) (.ii 1)))→c9 a H T W al aU R→X):X:=by
 have aha:=df go.good hm
 have L0:=df go.good hs
 have nl:(S.lookup (k:am)).isSome=false:=rX.mpr λ e=>let⟨ku,gw,ep⟩:=nt k e;Cp gw (Z2 ag.iT cC a1 (h4 (fa gw a1)) (q.a6 ep))
 have KA:=a' a1 cC
 have g1:=go.put (c3:=.cq (c8 S (k:am) (.ii 1))) hs z'
 have hO:=mJ (x:=some (.cq (c8 S (k:am) (.ii 1)))) hm (tn nn)
 have u1:(ks.map E).length<1000:=by rw[cG,fL.len,cG,gB];exact cn KA (aE rfl)
 have g2:=g1.1.put (c3:=.li (ks.map E++[E k])) hO kB
 have mN:=(ag.put g1.1.bT).put g2.1.bT
 have eA:=m0 (v:=E k) (df g1.1.good hO) (pG u1)
 refine f _ _ (je (z+1) wG (o9 a m fm (E k)) n _ rfl _ abj _ (abw L0 nl)) (λ v DH=>?_) g2.1 (g2.2.trans (an (λ l=>some (a0.li l)) Gu)) (mJ g1.2 (tn nn.symm)) mN
 subst DH
 exact(dm (z+1) zq (o9 a m fm (E k)) n _ (OY (k:=k) (v:=.ii 1) L0 (cn (a' dQ KA) (aE rfl))) (hQ (df g1.1.good hO)) _ eA _ (Uh mN g2.1.good) _ _ (Ui mN g2.1.good))
theorem UR(cC:ae≤3)(nn:m≠fm)(kB:h (.a6 m)=none)(z':h (.a6 fm)=none){g:C}(r:C):∀{d:C} {n:St} {aI:aT} {k:C} {ks:B C} {S:B (am×D)},r+d=ae→c9 a aI T W al aU R→b0 a h T 0 n T aI→aI (.a6 m)=some (.li (ks.map E))→aI (.a6 fm)=some (.cq S)→d1 T ks ((ck d).map (dM W ae))→ba T k (dM W ae d)→(∀ct:C,(S.lookup (ct:am)).isSome=true→∃ku,ku<d∧ba T ct (dM W ae ku))→S.length≤d→
  (∀(v:D) (J:St) (H:aT) (fK:B C),oC (fs ac (runN ac (z+1)) wG) (bS ac (runN ac (z+1)) zq) (g+r+2) (o9 a m fm (E k)) n=some (.br (o9 a m fm v),J)→b0 a h T 0 J T H→H (.a6 m)=some (.li (fK.map E))→d1 T fK ((ck (ae+1)).map (dM W ae))→X)→X:=by
 induction r with
 |zero=>
  intro d n aI k ks S a4 ag go hm hs fL q nt dQ f
  have pb:d=ae:=(jj d).symm.trans a4
  subst pb
  exact Ki cC nn kB z' (cJ _) ag go hm hs fL q nt dQ λ J H t b w0 ib jM oK=>
   f (.ii (-1)) J H _ (Ha t (b _ (an (Cw · (.ii (-1))) (ZF ag cC q))) (P0 (je (z+1) wG (o9 a m fm (D.ii (-1))) J _ rfl _ abk))) w0 ib (Ol▸fL.snoc q)
 |succ r aZ=>
  intro d n aI k ks S a4 ag go hm hs fL q nt dQ f
  have uM:r+(d+1)=ae:=(jB r d).symm.trans a4
  have a1:d<ae:=uM▸iI ..
  exact Ki cC nn kB z' (h4 a1) ag go hm hs fL q nt dQ λ J H t b w0 ib jM oK=>
   abo ag cC a1 q λ ct bC ep=>aZ uM oK w0 ib jM (Ol▸fL.snoc q) ep (λ Ms e=>(f9 ((Ms:am)=k)).elim (λ L=>⟨d,qU d,tK L▸q⟩) λ L=>let⟨ku,ax,aH⟩:=nt Ms (nk L▸e);⟨ku,pX ax,aH⟩) (a' AY (gq dQ))
    λ v ao bJ fK aB b8 ix cO=>f v ao bJ fK (Ha t (b (E ct) (an (Cw · (.ii (-1))) bC)) aB) b8 ix cO
theorem Kh(ag:c9 a h T W al aU R)(M:Good a h n)(cC:ae≤3)(q:ba T k (dM W ae 0))
  (f:∀(m:C) (J:St) (H:aT) (ks:B C),runN ac (z+2) 43 [.ref (a .host),E k] n=some (.ref m,J)→b0 a h T 0 J T H→H (.a6 m)=some (.li (ks.map E))→h (.a6 m)=none→d1 T ks ((ck (ae+1)).map (dM W ae))→X):X:=by
 have b2:=b0.start ag.bT M (.li [])
 have g1:=b0.start b2.1.bT b2.1.good (.cq [])
 have ne:n.length≠(n++[a0.li []]).length:=λ e=>mS (qU _) (e.trans fh)
 have Vs:58-ae+ae+2=60:=an (· +2) (Cr (a' cC (aE rfl)))
 exact UR (z:=z) (g:=58-ae) cC ne (M.fresh (cJ _)) (M.fresh (a' (d2 ..) (dh fh.symm))) ae (d:=0) (ks:=[]) (S:=[]) (Rk ae) ((ag.go b2.1).go g1.1) (b2.1.trans g1.1) (g1.1.a6 b2.2).1 g1.2 trivial q (λ ct e=>nomatch e) (fu _) λ v J H ks e go hm fL=>
  have e:oC (fs ac (runN ac (z+1)) wG) (bS ac (runN ac (z+1)) zq) 60 (o9 a n.length (n++[a0.li []]).length (E k)) (n++[a0.li []]++[a0.cq []])=some (.br (o9 a n.length (n++[a0.li []]).length v),J):=Vs▸e
  f n.length J H ks (cN (z+1) 43 [D.ref (a aN.host),E k] n rfl rfl _ _ e) go hm (M.fresh (cJ _)) fL
end
end Mine
end
section
namespace Mine
variable{l k:C}{ks:B C}{j nm:C}
section
variable{a:bH}{h:aT}{n:St}{T:B aP}{z:C}{W:cw}{aU:C→ap}{R:B b5}{al:B (am×D)}{F:C→C}{X:Prop}
theorem afH(ag:c9 a h T W al aU R)(M:Good a h n)(hl:l<4)(q:T[k]? =some (.g (66+l) ks)):runN ac (z+3) 39 [.ref (a .store),E k] n=some (.ref (a (.ty l)),n):=by
 have e:=GH (z:=z) ag.bT M q
 have len:lb n (.ref (a .types))=some 71:=let⟨_,tq⟩:=ag.types;rp (M.at_ _ _ tq)
 have LM:=ls hl
 have cz:cY .le (E (66+l)) (.ii 0) n=some false:=nb (P:=λ l=>cY .le (E (66+l)) (.ii 0) n=some false) l LM rfl rfl rfl rfl
 have cD:cY .ge (E (66+l)) (.ii 71) n=some false:=nb (P:=λ l=>cY .ge (E (66+l)) (.ii 71) n=some false) l LM rfl rfl rfl rfl
 exact(cN (z+2) 39 [D.ref (a aN.store),E k] n rfl rfl _ ((ag.aM.at_ M).2.2) _ _ e _ cz _ ((ag.aM.at_ M).2.1) _ len _ cD _ ((ag.aM.at_ M).2.1) _ (ag.yl M hl))
theorem ki.at_{F:C}{r:b5}(ak:ki a h T W aU j r F)(M:Good a h n)(f:∀aG g dt,pU aG g dt j r F→ba T dt (jt W aU r)→(∀{i:C} {v:D},aG.lookup i=some v→d7 n (.ref (a (.bl j))) i=some v)→X):X:=
 ak.b7 λ aG g dt aw aB bZ _=>f aG g dt aB bZ λ q=>(fk (M.at_ _ _ aw)).trans q
noncomputable def wV:bk:=(.cons (.b4 (.cmp .eq (.at (.aq (.at (.v 0) 15) (.v 4)) 6) (.v 2)) (.cons (.ex (.append (.v 3) (.v 4))) .nil) (.nil)) .nil)
noncomputable def rb(a:bH)(aV:Y D)(nm m:C)(cm:Y D):aX:=[some (.ref (a .store)),aV,some (.ss [nm]),some (.ref m),cm]
theorem WE{m:C}{dc:aN}{l:B D}{aV:Y D}(g7:c9 a h T W al aU R)(r4:j0 a h T W aU R F)(w8:gZ dc=false)(hl:h dc=some (.li l))(cy:nm=109∨nm=110)(kB:h (.a6 m)=none)(eS:B C):∀{n:St} {aI:aT} {acc:B D} {cm:Y D},(∀j∈eS,j<R.length)→b0 a h T 0 n T aI→aI (.a6 m)=some (.li acc)→acc.length+eS.length<900→
  (∀(J:St) (H:aT) (js:Y D),@fE (live (.ref (a dc)) l) (e1 (.ref (a dc)) l) (λ x aF J=>(di false [4] x aF).bind λ dH=>bS ac (runN ac z) wV dH J) (eS.map λ j=>E (j+1)) (rb a aV nm m cm) n=some (.br (rb a aV nm m js),J)→b0 a h T 0 J T H→H (.a6 m)=some (.li (acc++(eS.filter λ j=>decide ((af R j).nm=nm)).map λ j=>E (j+1)))→X)→X:=by
 induction eS with
 |nil=>exact λ{n aI acc cm} bt go hm bO f=>f n aI cm (hg (go.good.at_ _ _ (go.off w8 hl))) go ((eZ acc).symm▸hm)
 |cons j eS aZ=>
  intro n aI acc cm bt go hm bO f
  have ag:=g7.go go
  have kA:=bt j (.head _)
  have lI:∀j∈eS,j<R.length:=λ j m=>bt j (.tail _ m)
  have dr:=go.good.at_ _ _ (go.off w8 hl)
  refine((r4.go go) j kA).at_ go.good λ aG g dt bl rH at_=>?_
  have cz:=Ft (n:=n) (ag.eY _ (h3 (iP kA))).2.1 cy
  cases q:decide ((af R j).nm=nm)with
  |false=>
   rw[q]at cz
   have st:bS ac (runN ac z) wV (rb a aV nm m (some (E (j+1)))) n=some (.br (rb a aV nm m (some (E (j+1)))),n):=(dm z wV (rb a aV nm m (some (E (j+1)))) n _ ((ag.aM.at_ go.good).1) _ (ag.qo go.good kA) _ (at_ bl.nZ) _ cz)
   exact aZ lI go hm (cn (h5 _) bO) λ J H js e hN ib=>f J H js (fd dr st e) hN ((B8 (p:=λ j=>decide ((af R j).nm=nm)) (a:=j) (rX.mp q)).symm▸ib)
  |true=>
   rw[q]at cz
   have L:=go.put (c3:=.li (acc++[E (j+1)])) hm kB
   have st:bS ac (runN ac z) wV (rb a aV nm m (some (E (j+1)))) n=some (.br (rb a aV nm m (some (E (j+1)))),n.set m (.li (acc++[E (j+1)]))):=(dm z wV (rb a aV nm m (some (E (j+1)))) n _ ((ag.aM.at_ go.good).1) _ (ag.qo go.good kA) _ (at_ bl.nZ) _ cz (hQ (df go.good hm)) _ (m0 (df go.good hm) (pG (fi (cn (d2 ..) bO) (aE rfl)))))
   exact aZ lI L.1 L.2 (cn (dh (by rw[fh];exact jB ..)) bO) λ J H js e hN ib=>f J H js (fd dr st e) hN (by rw[B9 (p:=λ j=>decide ((af R j).nm=nm)) (a:=j) q,oN,mP];exact ib)
noncomputable def hi(R:B b5)(l nm:C):B Nat:=k' R λ r=>r.ah==l&&decide (r.nm=nm)
theorem Z0:(k' R λ r=>r.ah==l).filter (λ j=>decide ((af R j).nm=nm))=hi R l nm:=List.filter_filter.trans (HQ λ _ _=>Bool.and_comm ..)
theorem Wt(ag:c9 a h T W al aU R)(ak:j0 a h T W aU R F)(M:Good a h n)(hl:l<4)(cy:nm=109∨nm=110)
  (f:∀(m:C) (J:St) (H:aT),runN ac (z+1) 40 [.ref (a .store),E (66+l),.ss [nm]] n=some (.ref m,J)→b0 a h T 0 J T H→H (.a6 m)=some (.li ((hi R l nm).map λ j=>E (j+1)))→h (.a6 m)=none→X):X:=by
 have b2:=b0.start ag.bT M (.li [])
 have g7:=ag.go b2.1
 have rc:=ag.dw l hl
 have kM:d7 (n++[a0.li []]) (.ref (a (.ty l))) 15=some (.ref (a (.dw l))):=let⟨⟨_,er,_,_,kM,_⟩,_⟩:=g7.ty l hl;(fk (b2.1.good.at_ _ _ er)).trans kM
 have len:(k' R λ r=>r.ah==l).length≤16:=a' Ez ag.dc
 refine WE (z:=z) (F:=F) (aV:=some (E (66+l))) (cm:=none) (m:=n.length) (dc:=.dw l) ag ak rfl rc cy (M.fresh (cJ _)) (k' R λ r=>r.ah==l) (λ j bt=>(Fa.mp bt).1) b2.1 b2.2 (cn (dh (jj _)) (cn len (aE rfl))) λ J H js e go hm=>?_
 exact f n.length J H (cN z 40 [D.ref (a aN.store),E (66+l),D.ss [nm]] n rfl rfl _ ((g7.aM.at_ b2.1.good).2.1) _ (g7.yl b2.1.good hl) _ kM _ (iz (b2.1.good.at_ _ _ (b2.1.off rfl rc))) (a' (dh (cG ..)) (a' len (aE rfl))) _ _ e) go (hm.trans (by rw[Z0];rfl)) (M.fresh (cJ _))
theorem OZ(ag:c9 a h T W al aU R)(ak:j0 a h T W aU R F)(M:Good a h n){bE:B ap}(hl:l<4)(bt:j<R.length)(qh:bE.length≤2)(q:ba T k (gY (66+l) bE))(hs:((jt W aU (af R j)).sub bE).size≤24)(a3:T.length+24<500000)
  (f:∀(dt:C) (J:St) (aC:B aP) (H:aT),runN ac (z+35) 41 [.ref (a .store),.tup [E k,E (j+1),.tup []]] n=some (.tup [E 0,.tup [E dt]],J)→ba aC dt ((jt W aU (af R j)).sub bE)→b0 a h T 24 J aC H→X):X:=by
 refine v' qh (λ ks e fL xp _=>?_) q
 refine(ak j bt).at_ M λ aG g dt bl rH at_=>?_
 have oZ:=JD (z:=z+32) ag.bT M e
 have Vc:runN ac (z+34) 26 [.ref (a .kt),.ii 0,.tup (ks.map E),.tup []] n=some (E 0,n):=U4 (z:=z+32) (v:=.tup (ks.map E)) ag.bT M
 have p9:cY .eq (E (j+1)) (.ii 0) n=some false:=rfl
 refine U2 (z:=z) ag.bT M rH fL xp hs a3 λ fl J aC H q' xZ go=>f fl J aC H (cN (z+34) 41 [D.ref (a aN.store),D.tup [E k,E (j+1),D.tup []]] n rfl rfl _ rfl _ p9 _ ((ag.aM.at_ M).1) _ rfl _ (ag.qo M bt) _ p9 _ ((ag.aM.at_ M).2.2) _ rfl _ _ oZ _ ((ag.aM.at_ M).2.2) _ (at_ bl.zO) _ rfl _ _ Vc _ ((ag.aM.at_ M).2.2) _ (at_ bl.zM) _ rfl _ _ q') xZ go
theorem Xk(c:C)(f:∀i,(([(34,D.ii 3)]:B (am×D)).lookup (c:am)).getD (.ii 0)= .ii i→cY .eq (.ii i) (.ii 3) n=some (decide (c=34))→X):X:=
 (f9 (c=34)).elim (λ L=>f 3 (L▸rfl) (an some (iO L).symm)) λ L=>f 0 (an (Cw · (.ii 0)) (pq.trans (an (λ c=>bif c then _ else _) (ma.mpr λ e=>L (tK e))))) (an some (j3 L).symm)
theorem L6(ag:c9 a h T W al aU R)(M:Good a h n){c:C}(q:T[k]? =some (.g c ks)):runN ac (z+4) 42 [.ref (a .host),E k] n=some (.cj (decide (c=34)),n):=by
 have⟨aG,it,gD,us,sC,wT,nZ⟩:=ag.be
 have at_:=M.at_ _ _ it
 have KD:=M.at_ _ _ ag.hs
 have mt:mu ac n 7 (.ref (a .host))=some 13:=(an (FG λ c aG=>if(aG.lookup 7).isNone then ac.pv c 7 else none) at_).trans (if_pos (an RB wT))
 refine Xk (n:=n) c λ i en dp=>?_
 have O:runN ac (z+3) 13 [.ref (a .host),E k] n=some (.ii i,n):=by
  rw[←en]
  exact(cN (z+2) 13 [D.ref (a aN.host),E k] n rfl rfl _ ((fk at_).trans sC) (Mj KD) _ ((fk at_).trans gD) _ _ (GH (z:=z) ag.bT M q) _ (Lg KD))
 exact(cN (z+3) 42 [D.ref (a aN.host),E k] n rfl rfl _ ((fk at_).trans gD) _ _ (aeo (z:=z+1) ag.bT M q) _ ((rfl:cY .eq (E (ja (.g c ks))) (.ii 2) n=some true)) _ rfl _ mt _ _ O _ dp)
end
end Mine
end
section
namespace Mine
variable{x y:D}{m k:C}{xs:B D}{c0:C}{bf:B D}{d dt i l nm:C}
section
variable{a:bH}{h:aT}{n:St}{T:B aP}{z:C}{W:cw}{aU:C→ap}{R:B b5}{al:B (am×D)}{F:C→C}{X:Prop}
theorem aeb{m:D}(e:d7 n m 26=some (.ii 6)):runN ac (z+1) 49 [x,y,m] n=some (.cj true,n):=by
 exact(cN z 49 [x,y,m] n rfl rfl _ e _ ((rfl:cY .eq (.ii 6) (.ii 1) n=some false)) _ e _ ((rfl:cY .my (.ii 6) (.tup [.ii 3,.ii 2]) n=some true)) _ rfl)
theorem AP(e:n[m]? =some (.li xs)):eL n (k+1) (.ref m)=xs.all (eL n k):=an (λ o:Y a0=>match o with|some (.li xs)=>xs.all (eL n k)|_=>false) e
theorem KU(e:n[m]? =some (.li xs))(bC:n[c0]? =some (.li bf)):fJ n (k+1) (.ref m) (.ref c0)=k6 (fJ n k) xs bf:=
 (an (λ o:Y a0=>match o,n[c0]? with|some (.li xs),some (.li bf)=>k6 (fJ n k) xs bf|_,_=>false) e).trans (an (λ o:Y a0=>match some (a0.li xs),o with|some (.li xs),some (.li bf)=>k6 (fJ n k) xs bf|_,_=>false) bC)
theorem DG(e:n[m]? =some (.li xs))(bC:n[c0]? =some (.li bf))(o:xs.all (eL n 3)=true)(c3:bf.all (eL n 3)=true):cY .eq (.ref m) (.ref c0) n=some (k6 (fJ n 3) xs bf):=(if_pos (dF.mpr ⟨(AP e).trans o,(AP bC).trans c3⟩)).trans (an some (KU e bC))
theorem acf(aw:d7 n x 32=some (.tup [.ii 0]))(aB:∀b9,d7 (n++b9) y 32=some (.tup [.ii 0])):runN ac (z+1) 50 [x,y] n=some (.cj true,n++[.li [.ii 0]]++[.li [.ii 0]]):=by
 have dy:(n++[a0.li [.ii 0]]++[a0.li [.ii 0]])[n.length]? =some (.li [.ii 0]):=(an (·[n.length]?) (jy ..)).trans (l' (i:=0))
 have gf:fH .band (.ii 0) (.ii 1)=some (.ii 0):=rfl
 have eF:ci ac (runN ac z) (.bin .band (.v 2) (.gl [80,70,95,79,85,84] (.ii 1))) [some x,some y,some (.ii 0),none] n=some (.ii 0,n):=(hI z (ab.bin iU.band (ab.v 2) (ab.gl [80,70,95,79,85,84] (D.ii 1))) [some x,some y,some (D.ii 0),none] n _ gf)
 have jU:ci ac (runN ac z) (.bin .band (.v 3) (.gl [80,70,95,79,85,84] (.ii 1))) [some x,some y,none,some (.ii 0)] (n++[.li [.ii 0]])=some (.ii 0,n++[.li [.ii 0]]):=(hI z (ab.bin iU.band (ab.v 3) (ab.gl [80,70,95,79,85,84] (D.ii 1))) [some x,some y,none,some (D.ii 0)] (n++[a0.li [D.ii 0]]) _ gf)
 exact(cN z 50 [x,y] n rfl rfl _ aw _ rfl (aE rfl) _ _ (h8 trivial (j2 rfl eF) (jF trivial)) _ (aB _) _ rfl (aE rfl) _ _ (h8 trivial (j2 rfl jU) (jF trivial)) _ (DG dy (i1 rfl) rfl rfl))
noncomputable def qO(R:B b5)(F:C→C):Prop:=∀j,j<R.length→F j=2+128*(af R j).aM∨F j=6+128*(af R j).aM
theorem agj{x y s a9:C}(aA:x=2+128*s∨x=6+128*s)(bI:y=2+128*a9∨y=6+128*a9)(hs:s≤1)(jM:a9≤1):(∀L w,fH .bxor (E x) (E y)=some L→fH .band L (.ii 128)=some w→ig n w=some (!decide (s=a9))→X)→X:=
 ro (ak:=λ s=>(x=2+128*s∨x=6+128*s)→(∀L w,fH .bxor (E x) (E y)=some L→fH .band L (.ii 128)=some w→ig n w=some (!decide (s=a9))→X)→X) hs
  (ro (ak:=λ a9=>(y=2+128*a9∨y=6+128*a9)→(x=2∨x=6)→(∀L w,fH .bxor (E x) (E y)=some L→fH .band L (.ii 128)=some w→ig n w=some (!decide (0=a9))→X)→X) jM
   (λ bI aA f=>by rcases aA with rfl|rfl<;>rcases bI with rfl|rfl<;>exact f _ _ rfl rfl rfl) (λ bI aA f=>by rcases aA with rfl|rfl<;>rcases bI with rfl|rfl<;>exact f _ _ rfl rfl rfl) bI)
  (ro (ak:=λ a9=>(y=2+128*a9∨y=6+128*a9)→(x=130∨x=134)→(∀L w,fH .bxor (E x) (E y)=some L→fH .band L (.ii 128)=some w→ig n w=some (!decide (1=a9))→X)→X) jM
   (λ bI aA f=>by rcases aA with rfl|rfl<;>rcases bI with rfl|rfl<;>exact f _ _ rfl rfl rfl) (λ bI aA f=>by rcases aA with rfl|rfl<;>rcases bI with rfl|rfl<;>exact f _ _ rfl rfl rfl) bI) aA
theorem N7(K:W.ok){r bw:b5}(cC:r.ah≤3)(a1:d≤r.ah)(hl:bw.ah=r.ah-d)(cy:bw.nm=r.nm)(g:(aU r.nm).ar (W.many 0)):(jt W aU bw).sub (W.dK r.ah d)=jt W aU r:=by
 unfold jt
 have e:=Rj a1
 have xq:=(K.arg (ae:=r.ah-d) (a' (nJ ..) cC) (d:=r.ah-d) (cJ _)).1
 rw[r8]at xq
 rw[cy,hl,Pg (xq.symm▸g),JC K cC a1 (dh e),e]
noncomputable def Gv:bk:=(.cons (.b4 (.and (.cons (.cmp .eq (.at (.aq (.at (.at (.v 0) 47) 15) (.v 6)) 27) (.v 3)) (.cons (.cmp .eq (.aq (.call 41 (.cons (.at (.v 0) 47) (.cons (.tup (.cons (.v 1) (.cons (.v 6) (.cons (.tup .nil) .nil)))) .nil))) (.ii 1)) (.v 4)) .nil))) (.cons (.ex (.append (.v 5) (.v 6))) .nil) (.nil)) .nil)
noncomputable def yb(a:bH)(k:C)(aQ:Y D)(dt m:C)(bN:Y D):aX:=[some (.ref (a .eI)),some (E k),aQ,some (.ii 0),some (.tup [E dt]),some (.ref m),bN]
theorem VL:cY .eq (.tup [E k]) (.tup [E k]) n=some true:=an (λ b=>some (b&&true)) (iO rfl)
theorem rx{b x:C}:b+24+24*x=b+24*(x+1):=(mQ b 24 _).trans (an (b+·) (qT ..))
theorem aes{dI:C}{l:B D}{aQ:Y D}(g7:c9 a h T W al aU R)(r4:j0 a h T W aU R F)(ay:i<R.length)(a1:d≤(af R i).ah)(fy:ba T k (dM W (af R i).ah d))(rH:ba T dt (jt W aU (af R i)))(kB:h (.a6 m)=none)(ne:dI≠m)(eS:B C):∀{n:St} {bX:B aP} {aI:aT} {acc:B D} {bN:Y D} {b:C},(∀j∈eS,j<R.length∧(af R j).ah=(af R i).ah-d∧(af R j).nm=(af R i).nm)→b0 a h T b n bX aI→aI (.a6 m)=some (.li acc)→aI (.a6 dI)=some (.li l)→acc.length+eS.length<900→T.length+b+24*eS.length<480000→
  (∀(J:St) (aC:B aP) (H:aT) (gy:Y D),@fE (live (.ref dI) l) (e1 (.ref dI) l) (λ x aF J=>(di false [6] x aF).bind λ dH=>bS ac (runN ac (z+35)) Gv dH J) (eS.map λ j=>E (j+1)) (yb a k aQ dt m bN) n=some (.br (yb a k aQ dt m gy),J)→b0 a h T (b+24*eS.length) J aC H→H (.a6 m)=some (.li (acc++eS.map λ j=>E (j+1)))→X)→X:=by
 induction eS with
 |nil=>exact λ{n bX aI acc bN b} bt go hm ix bO a3 f=>f n bX aI bN (hg (df go.good ix)) go ((eZ acc).symm▸hm)
 |cons j eS aZ=>
  intro n bX aI acc bN b bt go hm ix bO a3 f
  have kA:=bt j (.head _)
  have ag:=g7.go go
  have ak:=r4.go go
  have hW:=ag.eY _ (h3 (iP ay))
  have g:=ag.lH (af R i).nm
  have cp:=N7 (aU:=aU) ag.iT hW.1 a1 kA.2.1 kA.2.2 g.1
  refine(ak j kA.1).at_ go.good λ aG qf ahl bl _ at_=>?_
  refine OZ (z:=z) ag ak go.good (l:=(af R i).ah-d) (j:=j) (k:=k) (bE:=W.dK (af R i).ah d) (pW (a' (nJ ..) hW.1)) kA.1 (ag.iT.lD hW.1 a1) (go.eT fy) (cp.symm▸a' (FZ (aU:=aU) ag.iT hW.1 g).2.1 (aE rfl)) (cn (hb go.le 24) (fa (nI (cn (d2 ..) a3) 24) (aE rfl))) λ AT ao cL bJ aB cO b8=>?_
  rw[cp]at cO
  refine b8.bT.b7 λ _ _ _ _ I=>?_
  have hL:AT=dt:=ba.inj I.nodup cO (b8.eT (go.eT rH))
  subst hL
  have ib:=b8.a6 hm
  have L:=(go.trans b8).put (c3:=.li (acc++[E (j+1)])) ib.1 kB
  have st:bS ac (runN ac (z+35)) Gv (yb a k aQ AT m (some (E (j+1)))) n=some (.br (yb a k aQ AT m (some (E (j+1)))),ao.set m (.li (acc++[E (j+1)]))):=(dm (z+35) Gv (yb a k aQ AT m (some (E (j+1)))) n _ (ag.mc go.good) _ ((ag.aM.at_ go.good).1) _ (ag.qo go.good kA.1) _ (at_ bl.zN) _ ((rfl:cY .eq (.ii 0) (.ii 0) n=some true)) _ (ag.mc go.good) _ _ aB _ rfl _ VL (hQ ib.2) _ (m0 ib.2 (pG (fi (cn (d2 ..) bO) (aE rfl)))))
  exact aZ (λ j m=>bt j (.tail _ m)) L.1 L.2 (mJ (b8.a6 ix).1 (tn ne)) (cn (dh (by rw[fh];exact jB ..)) bO) (cn (dh rx) a3)
   λ J aC H gy e hN X3=>f J aC H gy (fd (df go.good ix) st e) (hN.mono (dh rx)) (X3.trans (an (λ l=>some (a0.li l)) (mP ..).symm))
theorem xA{j:C}:j∈hi R l nm↔j<R.length∧(af R j).ah=l∧(af R j).nm=nm:=Fa.trans (and_congr_right' ((dF).trans (and_congr jl Vf)))
theorem Az(h:R.length≤16):(hi R l nm).length≤16:=a' Ez h
theorem acu(ag:c9 a h T W al aU R)(ak:j0 a h T W aU R F)(M:Good a h n)(ay:i<R.length)(a1:d≤(af R i).ah)(fy:ba T k (dM W (af R i).ah d))(rH:ba T dt (jt W aU (af R i)))(a3:T.length<400000)
  (f:∀(m:C) (J:St) (aC:B aP) (H:aT),runN ac (z+36) 51 [.ref (a .eI),E k,.ss [(af R i).nm],.ii 0,.tup [E dt]] n=some (.ref m,J)→b0 a h T 400 J aC H→H (.a6 m)=some (.li ((hi R ((af R i).ah-d) (af R i).nm).map λ j=>E (j+1)))→X):X:=by
 have hW:=ag.eY _ (h3 (iP ay))
 refine v' (ag.iT.lD hW.1 a1) (λ ks um fL xp _=>?_) fy
 have b2:=b0.start ag.bT M (.li [])
 have g7:=ag.go b2.1
 have mO:=b2.1.good
 refine Wt (z:=z+34) (F:=F) g7 (ak.go b2.1) mO (l:=(af R i).ah-d) (pW (a' (nJ ..) hW.1)) hW.2.1 λ dI ao bJ aB b8 ix cl=>?_
 have ne:dI≠n.length:=λ L=>nomatch(L▸cl).symm.trans b2.2
 have Pq:=GH (z:=z+33) g7.bT mO um
 have lM:(hi R ((af R i).ah-d) (af R i).nm).length≤16:=Az ag.dc
 refine aes (z:=z) (F:=F) (m:=n.length) (dI:=dI) (l:=(hi R ((af R i).ah-d) (af R i).nm).map λ j=>E (j+1)) (aQ:=some (.ss [(af R i).nm])) ag ak ay a1 fy rH (M.fresh (cJ _)) ne (hi R ((af R i).ah-d) (af R i).nm) (bN:=none) (λ j bt=>xA.mp bt) (b2.1.trans b8) (b8.a6 b2.2).1 ix (cn (dh (jj _)) (cn lM (aE rfl))) (fa (r6 a3 (gU 24 lM)) (aE rfl)) λ bW lB cQ bN bZ fY ph=>?_
 have qG:ig (n++[a0.li []]) (E (66+((af R i).ah-d)))=some true:=an some (iO (QN (QM.mpr (fa (Rz 65) (d2 ..)))))
 exact f n.length bW lB cQ (cN (z+35) 51 [D.ref (a aN.eI),E k,D.ss [(af R i).nm],D.ii 0,D.tup [E dt]] n rfl rfl _ (g7.zC mO) _ _ Pq _ qG _ (g7.mc mO) _ (g7.zC mO) _ _ Pq _ _ aB _ (iz (df b8.good ix)) (a' (dh (cG ..)) (a' lM (aE rfl))) _ _ bZ) (fY.mono (a' (fB (gU 24 lM) 0) (aE rfl))) ph
end
end Mine
end
section
namespace Mine
variable{V:jh}{r:fc}{env:aX}{aa:St}{many:av}{xs:B C}{x:D}{aF:aX}{b7:ab}{eo:fc}{m i:C}{aV aQ bp bh bj bK:Y D}{k d:C}{bB:Y D}
noncomputable def gv(R:B b5)(l nm aM:C):B Nat:=(hi R l nm).filter λ j=>decide ((af R j).aM=aM)
noncomputable def scan(R:B b5)(nm aM:C):C→av→Y (C×C×av)
 |0,_=>none
 |l+1,p=>match gv R l nm aM with
  |j::_=>some (l,j,p||decide ((gv R l nm aM).length< (hi R l nm).length))
  | []=>scan R nm aM l (p||decide (0< (hi R l nm).length))
section
variable{a:bH}{h:aT}{n:St}{T:B aP}{z:C}{W:cw}{aU:C→ap}{R:B b5}{al:B (am×D)}{F:C→C}{X:Prop}
noncomputable def K7:fc:=(.cons (.and (.cons (.e (.call 49 (.cons (.v 0) (.cons (.v 3) (.cons (.v 9) .nil))))) (.cons (.g4 (.e (.bin .band (.bin .bxor (.at (.v 9) 8) (.at (.v 3) 8)) (.gl [77,70,95,83,80,69,67,73,65,76] (.ii 128))))) (.cons (.e (.call 50 (.cons (.v 3) (.cons (.v 9) .nil)))) .nil)))) .nil)
theorem vL{t:Mine.T}{he:Y (av×St)}(e:fs ac V t env n=some (true,aa))(k:hp ac V r env aa=he):hp ac V (.cons t r) env n=he:=aR e ((if_pos rfl).trans k)
theorem PB{t:Mine.T}(e:fs ac V t env n=some (false,aa)):hp ac V (.cons t r) env n=some (false,aa):=aR e (if_neg mM)
theorem UH{v:D}{ao:St}(e:di many xs x env=some aF)(t:hp ac V eo aF n=some (true,aa))(q:ci ac V b7 aF aa=some (v,ao)):
  ((di many xs x env).bind λ aF=>(hp ac V eo aF n).bind λ q=>if q.1=true then(ci ac V b7 aF q.2).bind λ r=>some ([r.1],r.2)else some ([],q.2))=some ([v],ao):=aR e (aR t ((if_pos rfl).trans (aR q rfl)))
theorem UK(e:di many xs x env=some aF)(t:hp ac V eo aF n=some (false,aa)):
  ((di many xs x env).bind λ aF=>(hp ac V eo aF n).bind λ q=>if q.1=true then(ci ac V b7 aF q.2).bind λ r=>some ([r.1],r.2)else some ([],q.2))=some ([],aa):=aR e (aR t (if_neg mM))
noncomputable def gu(a:bH)(aV aQ:Y D)(i:C)(bp bq bh bj bK bB:Y D):aX:=[some (.ref (a .eI)),aV,aQ,some (.ref (a (.bl i))),bp,bq,bh,bj,bK,bB]
noncomputable def K6(z m:C)(l xs acc:B D)(env:aX)(n:St):Y (B D×St):=@lF (live (.ref m) l) (e1 (.ref m) l) (λ x ao=>(di false [9] x env).bind λ aF=>(hp ac (runN ac (z+1)) K7 aF ao).bind λ q=>if q.1=true then(ci ac (runN ac (z+1)) (.at (.v 9) 24) aF q.2).bind λ r=>some ([r.1],r.2)else some ([],q.2)) xs acc n
theorem Wv{b:C}{l:B D}{bq hC:Y D}(g7:c9 a h T W al aU R)(r4:j0 a h T W aU R F)(hx:qO R F)(ay:i<R.length)(eS:B C):∀{n:St} {bX:B aP} {aI:aT} {acc:B D},(∀j∈eS,j<R.length)→b0 a h T b n bX aI→aI (.a6 m)=some (.li l)→
  (∀(J:St),K6 z m l (eS.map λ j=>.ref (a (.bl j))) acc (gu a aV aQ i bp bq bh bj bK hC) n=some (acc++(eS.filter λ j=>decide ((af R j).aM=(af R i).aM)).map λ j=>E (j+1),J)→b0 a h T b J bX aI→X)→X:=by
 induction eS with
 |nil=>exact λ{n bX aI acc} bt go hm f=>f n ((jF (df go.good hm)).trans (an (λ l=>some (l,n)) (eZ acc).symm)) go
 |cons j eS aZ=>
  intro n bX aI acc bt go hm f
  have kA:=bt j (.head _)
  have lI:∀j∈eS,j<R.length:=λ j m=>bt j (.tail _ m)
  have ag:=g7.go go
  have ak:=r4.go go
  refine(ak j kA).at_ go.good λ aG g dt bl _ at_=>?_
  refine(ak i ay).at_ go.good λ ag3 uE ahm gO _ C1=>?_
  have dr:=df go.good hm
  have er:fs ac (runN ac (z+1)) (.e (.call 49 (.cons (.v 0) (.cons (.v 3) (.cons (.v 9) .nil))))) (gu a aV aQ i bp bq bh bj bK (some (.ref (a (.bl j))))) n=some (true,n):=(je (z+1) (Mine.T.e (ab.call 49 (d6.cons (ab.v 0) (d6.cons (ab.v 3) (d6.cons (ab.v 9) d6.nil))))) (gu a aV aQ i bp bq bh bj bK (some (D.ref (a (aN.bl j))))) n _ _ (aeb (z:=z) (x:=.ref (a .eI)) (y:=.ref (a (.bl i))) (at_ bl.uu)) _ rfl)
  refine agj (n:=n) (hx j kA) (hx i ay) (ag.eY _ (h3 (iP kA))).2.2 (ag.eY _ (h3 (iP ay))).2.2 λ L w aw aB bZ=>?_
  cases q:decide ((af R j).aM=(af R i).aM)with
  |false=>
   rw[q]at bZ
   have eO:fs ac (runN ac (z+1)) (.g4 (.e (.bin .band (.bin .bxor (.at (.v 9) 8) (.at (.v 3) 8)) (.gl [77,70,95,83,80,69,67,73,65,76] (.ii 128))))) (gu a aV aQ i bp bq bh bj bK (some (.ref (a (.bl j))))) n=some (false,n):=(je (z+1) ((Mine.T.e (ab.bin iU.band (ab.bin iU.bxor ((ab.v 9).at 8) ((ab.v 3).at 8)) (ab.gl [77,70,95,83,80,69,67,73,65,76] (D.ii 128)))).g4) (gu a aV aQ i bp bq bh bj bK (some (D.ref (a (aN.bl j))))) n _ (at_ bl.f8) _ (C1 gO.f8) _ aw _ aB _ bZ)
   exact aZ (acc:=acc++[]) lI go hm λ J e hN=>f J (h8 dr (UK rfl (PB (t:=.and _) (vL er (PB eO)))) (e.trans (by rw[B8 (p:=λ j=>decide ((af R j).aM=(af R i).aM)) (a:=j) (rX.mp q),eZ]))) hN
  |true=>
   rw[q]at bZ
   have b8:=(go.kE (.li [.ii 0])).kE (.li [.ii 0])
   have eO:fs ac (runN ac (z+1)) (.g4 (.e (.bin .band (.bin .bxor (.at (.v 9) 8) (.at (.v 3) 8)) (.gl [77,70,95,83,80,69,67,73,65,76] (.ii 128))))) (gu a aV aQ i bp bq bh bj bK (some (.ref (a (.bl j))))) n=some (true,n):=(je (z+1) ((Mine.T.e (ab.bin iU.band (ab.bin iU.bxor ((ab.v 9).at 8) ((ab.v 3).at 8)) (ab.gl [77,70,95,83,80,69,67,73,65,76] (D.ii 128)))).g4) (gu a aV aQ i bp bq bh bj bK (some (D.ref (a (aN.bl j))))) n _ (at_ bl.f8) _ (C1 gO.f8) _ aw _ aB _ bZ)
   have jU:=acf (z:=z) (n:=n) (x:=.ref (a (.bl i))) (y:=.ref (a (.bl j))) (C1 gO.zP) λ b9=>(ak j kA).at_ (go.mm b9).good λ _ _ _ bl _ at_=>at_ bl.zP
   have hr:fs ac (runN ac (z+1)) (.e (.call 50 (.cons (.v 3) (.cons (.v 9) .nil)))) (gu a aV aQ i bp bq bh bj bK (some (.ref (a (.bl j))))) n=some (true,n++[.li [.ii 0]]++[.li [.ii 0]]):=(je (z+1) (Mine.T.e (ab.call 50 (d6.cons (ab.v 3) (d6.cons (ab.v 9) d6.nil)))) (gu a aV aQ i bp bq bh bj bK (some (D.ref (a (aN.bl j))))) n _ _ jU _ rfl)
   have b7:ci ac (runN ac (z+1)) (.at (.v 9) 24) (gu a aV aQ i bp bq bh bj bK (some (.ref (a (.bl j))))) (n++[.li [.ii 0]]++[.li [.ii 0]])=some (E (j+1),n++[.li [.ii 0]]++[.li [.ii 0]]):=aR rfl ((ak j kA).at_ b8.good λ _ _ _ bl _ at_=>aR (at_ bl.DK) rfl)
   exact aZ (acc:=acc++[E (j+1)]) lI b8 hm λ J e hN=>f J (h8 dr (UH rfl (vL (t:=.and _) (vL er (vL eO (vL hr rfl))) rfl) b7) (e.trans (an (λ l=>some (l,J)) ((mP ..).symm.trans (an (λ l=>acc++eB (λ j=>E (j+1)) l) (B9 (p:=λ j=>decide ((af R j).aM=(af R i).aM)) (a:=j) q).symm))))) hN
noncomputable def EW:ab:=(.comp (.aq (.at (.at (.v 0) 47) 15) (.v 8)) [8] false (.call 51 (.cons (.v 0) (.cons (.v 5) (.cons (.at (.v 3) 6) (.cons (.at (.v 3) 27) (.cons (.at (.v 3) 11) .nil)))))) (.cons (.cmp .ne (.at (.aq (.at (.at (.v 0) 47) 15) (.v 8)) 26) (.gl [65,95,80,82,73,86,65,84,69] (.ii 1))) .nil))
noncomputable def DM:ab:=(.comp (.at (.v 9) 24) [9] false (.v 6) K7)
noncomputable def ue:bk:=(.cons (.b4 (.e (.v 7)) (.cons (.ret (.tup (.cons (.v 5) (.cons (.aq (.v 7) (.ii 0)) (.cons (.len (.v 7)) (.cons (.or (.cons (.v 4) (.cons (.cmp .gt (.len (.v 6)) (.len (.v 7))) .nil))) .nil)))))) .nil) (.nil)) (.cons (.asg 4 (.or (.cons (.v 4) (.cons (.cmp .gt (.len (.v 6)) (.ii 0)) .nil)))) .nil))
noncomputable def zs:bk:=(.cons (.asg 6 EW) (.cons (.asg 7 DM) ue))
noncomputable def pp(R:B b5)(i d:C):B Nat:=hi R ((af R i).ah-d) (af R i).nm
noncomputable def iv(R:B b5)(i d:C):B Nat:=gv R ((af R i).ah-d) (af R i).nm (af R i).aM
theorem Z1(ag:c9 a h T W al aU R)(ak:j0 a h T W aU R F)(M:Good a h n)(ay:i<R.length)(a1:d≤(af R i).ah)(fy:ba T k (dM W (af R i).ah d))(a3:T.length<400000)
  (f:∀(m:C) (J:St) (aC:B aP) (H:aT),ci ac (runN ac (z+36)) EW (gu a aV aQ i bp (some (E k)) bh bj bK bB) n=some (.ref m,J)→b0 a h T 400 J aC H→H (.a6 m)=some (.li ((pp R i d).map λ j=>.ref (a (.bl j))))→X):X:=by
 refine(ak i ay).at_ M λ aG g dt bl rH at_=>?_
 refine acu (z:=z) ag ak M ay a1 fy rH a3 λ m aa bX aI aw cW hO=>?_
 have pM:=ag.go cW
 have en:=b0.start cW.bT cW.good (.li ((pp R i d).map λ j=>.ref (a (.bl j))))
 have n':=df cW.good hO
 have gN:=sz (V:=runN ac (z+36)) (env:=gu a aV aQ i bp (some (E k)) bh bj bK bB) (x:=8) (eo:=.cons (.cmp .ne (.at (.aq (.at (.at (.v 0) 47) 15) (.v 8)) 26) (.gl [65,95,80,82,73,86,65,84,69] (.ii 1))) .nil) (b7:=.aq (.at (.at (.v 0) 47) 15) (.v 8)) (f:=λ j=>E (j+1)) (acc:=[]) (eS:=pp R i d) n' (p:=λ _=>true) (g:=λ j=>.ref (a (.bl j))) λ j bt=>by
  have lI:=(xA.mp bt).1
  have aq:=pM.qo cW.good lI
  have hf:=pM.mc cW.good
  have ir:=(pM.aM.at_ cW.good).1
  refine(ak.go cW j lI).at_ cW.good λ _ _ _ bl _ at_=>⟨vL (aa:=aa) ?_ rfl,?_⟩
  ·have t:fs ac (runN ac (z+36)) (.cmp .ne (.at (.aq (.at (.at (.v 0) 47) 15) (.v 8)) 26) (.gl [65,95,80,82,73,86,65,84,69] (.ii 1))) (gu a aV aQ i bp (some (E k)) bh bj (some (E (j+1))) bB) aa=some (true,aa):=(je (z+36) (Mine.T.cmp jg.ne (((((ab.v 0).at 47).at 15).aq (ab.v 8)).at 26) (ab.gl [65,95,80,82,73,86,65,84,69] (D.ii 1))) (gu a aV aQ i bp (some (E k)) bh bj (some (E (j+1))) bB) aa _ hf _ ir _ aq _ (at_ bl.uu) _ ((rfl:cY .ne (.ii 6) (.ii 1) aa=some true)))
   exact t
  ·have t:ci ac (runN ac (z+36)) (.aq (.at (.at (.v 0) 47) 15) (.v 8)) (gu a aV aQ i bp (some (E k)) bh bj (some (E (j+1))) bB) aa=some (.ref (a (.bl j)),aa):=(hI (z+36) ((((ab.v 0).at 47).at 15).aq (ab.v 8)) (gu a aV aQ i bp (some (E k)) bh bj (some (E (j+1))) bB) aa _ hf _ ir _ aq)
   exact t
 rw[B'.mpr (λ _ _=>rfl)]at gN
 exact f aa.length _ bX _ (hI (z+36) EW (gu a aV aQ i bp (some (E k)) bh bj bK bB) n _ (at_ bl.nZ) _ (at_ bl.zN) _ (at_ bl.zM) _ _ aw _ (iz n') (a' (dh (cG ..)) (a' (Az ag.dc) (aE rfl))) _ _ gN) ((cW.trans en.1).mono (cJ _)) en.2
theorem uY{α:Type}{f:α→D}{l:B α}(e:n[m]? =some (.li (l.map f))):lb n (.ref m)=some (l.length:am):=(rp e).trans (an (λ z:C=>some (z:am)) (cG f))
theorem UA(ag:c9 a h T W al aU R)(ak:j0 a h T W aU R F)(hx:qO R F)(M:Good a h n){p:av}{bN bm:Y D}(ay:i<R.length)(a1:d≤(af R i).ah)(fy:ba T k (dM W (af R i).ah d))(a3:T.length<400000)
  (f:∀(J:St) (aC:B aP) (H:aT) (gy mA:Y D),b0 a h T 400 J aC H→
   (∀j r,iv R i d=j::r→bS ac (runN ac (z+36)) zs (gu a aV aQ i (some (.cj p)) (some (E k)) bN bm bK bB) n=some (.f5 (.tup [E k,E (j+1),E (iv R i d).length,.cj (p||decide ((iv R i d).length< (pp R i d).length))]),J))→
   (iv R i d=[]→bS ac (runN ac (z+36)) zs (gu a aV aQ i (some (.cj p)) (some (E k)) bN bm bK bB) n=some (.br (gu a aV aQ i (some (.cj (p||decide (0< (pp R i d).length)))) (some (E k)) gy mA bK bB),J))→X):X:=by
 refine Z1 (z:=z) (aV:=aV) (aQ:=aQ) (bp:=some (.cj p)) (bh:=bN) (bj:=bm) (bK:=bK) (bB:=bB) ag ak M ay a1 fy a3 λ m aa bX aI aw cW hO=>?_
 refine Wv (z:=z+35) (m:=m) (l:=(pp R i d).map λ j=>.ref (a (.bl j))) (aV:=aV) (aQ:=aQ) (bp:=some (.cj p)) (bq:=some (E k)) (bh:=some (.ref m)) (bj:=bm) (bK:=bK) (hC:=bB) ag ak hx ay (pp R i d) (acc:=[]) (λ j bt=>(xA.mp bt).1) cW hO λ ao aB b8=>?_
 have en:=b0.start b8.bT b8.good (.li ((iv R i d).map λ j=>E (j+1)))
 have u4:=uY (df en.1.good (en.1.off (r:=.a6 m) rfl hO))
 have Af:=df en.1.good en.2
 have xt:=uY Af
 have aB:K6 (z+35) m ((pp R i d).map λ j=>.ref (a (.bl j))) ((pp R i d).map λ j=>.ref (a (.bl j))) [] (gu a aV aQ i (some (.cj p)) (some (E k)) (some (.ref m)) bm bK bB) aa=some ((iv R i d).map λ j=>E (j+1),ao):=aB
 have DE:ci ac (runN ac (z+36)) DM (gu a aV aQ i (some (.cj p)) (some (E k)) (some (.ref m)) bm bK bB) aa=some (.ref ao.length,ao++[.li ((iv R i d).map λ j=>E (j+1))]):=(hI (z+36) DM (gu a aV aQ i (some (D.cj p)) (some (E k)) (some (D.ref m)) bm bK bB) aa _ (iz (df cW.good hO)) (a' (dh (cG ..)) (a' (Az ag.dc) (aE rfl))) _ _ aB)
 have a1:∀{he},bS ac (runN ac (z+36)) ue (gu a aV aQ i (some (.cj p)) (some (E k)) (some (.ref m)) (some (.ref ao.length)) bK bB) (ao++[.li ((iv R i d).map λ j=>E (j+1))])=he→bS ac (runN ac (z+36)) zs (gu a aV aQ i (some (.cj p)) (some (E k)) bN bm bK bB) n=he:=λ e=>aR (aR aw rfl) (aR (aR DE rfl) e)
 refine f _ bX _ (some (.ref m)) (some (.ref ao.length)) (b8.trans en.1) (λ j r cl=>a1 ?_) λ cl=>a1 ?_
 ·have qG:=(GK Af).trans (an (λ l=>some (!(eB (λ j=>E (j+1)) l).isEmpty)) cl)
  have Mp:=j7 (k:=0) Af (i9 (cl▸rfl:(iv R i d)[0]? =some j))
  cases p with
  |false=>exact(dm (z+36) ue (gu a aV aQ i (some (D.cj false)) (some (E k)) (some (D.ref m)) (some (D.ref (f' ao))) bK bB) (ao++[a0.li (eB (λ j=>E (j+1)) (iv R i d))]) _ qG _ Mp _ xt _ rfl _ u4 _ xt _ nV)
  |true=>exact(dm (z+36) ue (gu a aV aQ i (some (D.cj true)) (some (E k)) (some (D.ref m)) (some (D.ref (f' ao))) bK bB) (ao++[a0.li (eB (λ j=>E (j+1)) (iv R i d))]) _ qG _ Mp _ xt _ rfl)
 ·have qG:=(GK Af).trans (an (λ l=>some (!(eB (λ j=>E (j+1)) l).isEmpty)) cl)
  cases p with
  |false=>exact(dm (z+36) ue (gu a aV aQ i (some (D.cj false)) (some (E k)) (some (D.ref m)) (some (D.ref (f' ao))) bK bB) (ao++[a0.li (eB (λ j=>E (j+1)) (iv R i d))]) _ qG _ rfl _ u4 _ (nV (y:=0)))
  |true=>exact(dm (z+36) ue (gu a aV aQ i (some (D.cj true)) (some (E k)) (some (D.ref m)) (some (D.ref (f' ao))) bK bB) (ao++[a0.li (eB (λ j=>E (j+1)) (iv R i d))]) _ qG _ rfl)
end
end Mine
end
section
namespace Mine
variable{l nm aM j:C}{p:av}{m i:C}
section
variable{a:bH}{h:aT}{n:St}{T:B aP}{z:C}{W:cw}{aU:C→ap}{R:B b5}{al:B (am×D)}{F:C→C}{X:Prop}
theorem rv:j∈gv R l nm aM↔j<R.length∧(af R j).ah=l∧(af R j).nm=nm∧(af R j).aM=aM:=
 oP.trans ((and_congr xA Vf).trans ⟨λ L=>⟨L.1.1,L.1.2.1,L.1.2.2,L.2⟩,λ L=>⟨⟨L.1,L.2.1,L.2.2.1⟩,L.2.2.2⟩⟩)
theorem K'{dr:St→Prop}{jm:qM dr}{step:D→aX→St→Y (e0×St)}{x v:D}{r:B D}{env:aX}{J:St}(h:dr n)(e:step x env n=some (.f5 v,J)): @fE dr jm step (x::r) env n=some (.f5 v,J):=(if_pos h).trans (aR e rfl)
theorem d1.sA{ks:B C}{t:ap}{bE:B ap}(q:d1 T ks (t::bE))(f:∀k fK,ks=k::fK→ba T k t→d1 T fK bE→X):X:=match ks,q with
 |k::ks,q=>f k ks rfl q.1 q.2
theorem pt{k b x:C}:b+k+k*x=b+k*(x+1):=(mQ b k _).trans (an (b+·) (qT ..))
theorem Be{r:B C}(cl:gv R l nm aM=j::r):scan R nm aM (l+1) p=some (l,j,p||decide ((gv R l nm aM).length< (hi R l nm).length)):=
 an (λ x:B C=>match x with|j::_=>some (l,j,p||decide ((gv R l nm aM).length< (hi R l nm).length))| []=>scan R nm aM l (p||decide (0< (hi R l nm).length))) cl
theorem x7(cl:gv R l nm aM=[]):scan R nm aM (l+1) p=scan R nm aM l (p||decide (0< (hi R l nm).length)):=
 an (λ x:B C=>match x with|j::_=>some (l,j,p||decide ((gv R l nm aM).length< (hi R l nm).length))| []=>scan R nm aM l (p||decide (0< (hi R l nm).length))) cl
theorem bm_loop{l:B D}{aV aQ bK bB:Y D}(g7:c9 a h T W al aU R)(r4:j0 a h T W aU R F)(hx:qO R F)(ay:i<R.length)(c:C):∀{d b:C} {p f4:av} {aO j:C} {ks:B C} {n:St} {bX:B aP} {aI:aT} {o5 bN bm:Y D},c+d=(af R i).ah+1→d1 bX ks ((pT d c).map (dM W (af R i).ah))→b0 a h T b n bX aI→aI (.a6 m)=some (.li l)→scan R (af R i).nm (af R i).aM c p=some (aO,j,f4)→T.length+b+400*c<400000→
  (∀(J:St) (aC:B aP) (H:aT) (k:C),@fE (live (.ref m) l) (e1 (.ref m) l) (λ x aF J=>(di false [5] x aF).bind λ dH=>bS ac (runN ac (z+36)) zs dH J) (ks.map E) (gu a aV aQ i (some (.cj p)) o5 bN bm bK bB) n=some (.f5 (.tup [E k,E (j+1),E (gv R aO (af R i).nm (af R i).aM).length,.cj f4]),J)→ba aC k (dM W (af R i).ah ((af R i).ah-aO))→aO<c→j∈gv R aO (af R i).nm (af R i).aM→b0 a h T (b+400*c) J aC H→X)→X:=by
 induction c with
 |zero=>exact λ{d b p f4 aO j ks n bX aI o5 bN bm} hc fL go hm hs=>nomatch hs
 |succ c aZ=>
  intro d b p f4 aO j ks n bX aI o5 bN bm hc fL go hm hs a3 f
  refine d1.sA (bE:=(pT (d+1) c).map (dM W (af R i).ah)) fL λ k fK dq fy xZ=>?_
  subst dq
  have a1:=oS ((Rw c d).symm.trans hc)
  have hl:(af R i).ah-d=c:=by rw[←a1,Ri]
  have Ew:bX.length<400000:=cn (a' go.le (d2 ..)) a3
  refine UA (z:=z) (p:=p) (aV:=aV) (aQ:=aQ) (bN:=bN) (bm:=bm) (bK:=bK) (bB:=bB) (g7.go go) (r4.go go) hx go.good ay (a1▸iI ..) fy Ew λ ao cL bJ gy mA b8 m9 Nj=>?_
  have Vv:iv R i d=gv R c (af R i).nm (af R i).aM:=an (λ l=>gv R l (af R i).nm (af R i).aM) hl
  have pb:pp R i d=hi R c (af R i).nm:=an (λ l=>hi R l (af R i).nm) hl
  rw[Vv,pb]at m9 Nj
  have dr:=df go.good hm
  have jL:=go.trans b8
  cases cl:gv R c (af R i).nm (af R i).aM with
  |cons fT r=>
   have L:=ll (Be cl) hs
   cases L
   exact f ao cL bJ k (K' dr (m9 _ _ cl)) ((by rw[←hl,r9 (a1▸iI ..)]:d=(af R i).ah-c)▸b8.eT fy) (qU c) (cl▸.head _) (jL.mono (fB (iI 400 (400*c)) b))
  |nil=>
   exact aZ (d:=d+1) (b:=b+400) (o5:=some (E k)) (bN:=gy) (bm:=mA) ((jB c d).symm.trans hc) (xZ.more λ q=>b8.eT q) jL (b8.a6 hm).1 ((x7 cl).symm.trans hs) (pt (k:=400) (b:=T.length+b)▸a3) λ J aC H ct aB cO eE dI g2=>
    f J aC H ct (fd dr (Nj cl) aB) cO (pX eE) dI (g2.mono (dh pt))
theorem DU{l:B D}(e:n[m]? =some (.li l)):uw n (.ref m) (.ii 1)=some (l.drop 1):=an (sT λ l=>some (l.drop 1)) e
theorem aaK(ag:c9 a h T W al aU R)(ak:j0 a h T W aU R F)(hx:qO R F)(M:Good a h n){aO:C}(ay:i<R.length)(hs:scan R (af R i).nm (af R i).aM (af R i).ah false=some (aO,j,p))(a3:T.length<300000)
  (f:∀(J:St) (aC:B aP) (H:aT) (k:C),runN ac (z+37) 48 [.ref (a .eI),E (66+(af R i).ah),E (i+1)] n=some (.tup [E k,E (j+1),E (gv R aO (af R i).nm (af R i).aM).length,.cj p],J)→ba aC k (dM W (af R i).ah ((af R i).ah-aO))→aO< (af R i).ah→j∈gv R aO (af R i).nm (af R i).aM→b0 a h T 1300 J aC H→X):X:=by
 have hW:=ag.eY _ (h3 (iP ay))
 refine OS (z:=z+27) ag M (l:=(af R i).ah) (pW hW.1) (fi a3 (aE rfl)) λ eW aa bX aI aw d' cW=>?_
 refine Kh (z:=z+34) (ag.go cW) cW.good hW.1 d' λ m ao bJ ks aB b8 hm cl fL=>?_
 rw[Cg]at fL
 refine d1.sA (bE:=(pT 1 (af R i).ah).map (dM W (af R i).ah)) fL λ eW fK dq _ Og=>?_
 subst dq
 have sF:=cW.trans b8
 have en:=b0.start sF.bT sF.good (.li (fK.map E))
 have uP:T.length+(3+0+0)+400*(af R i).ah<400000:=fa (r6 (nI a3 3) (gU 400 hW.1)) (aE rfl)
 refine bm_loop (z:=z) (m:=ao.length) (l:=fK.map E) (aV:=some (E (66+(af R i).ah))) (aQ:=some (E (i+1))) (bK:=none) (bB:=none) (o5:=none) (bN:=none) (bm:=none) ag ak hx ay (af R i).ah (d:=1) rfl Og (sF.trans en.1) en.2 hs uP λ J aC H k bZ j8 pm eh fY=>?_
 have xp:(fK.map E).length≤100000:=by rw[cG,Og.len,cG,Q3];exact a' hW.1 (aE rfl)
 exact f J aC H k (cN (z+36) 48 [D.ref (a aN.eI),E (66+(af R i).ah),E (i+1)] n rfl rfl _ (ag.mc M) _ ((ag.aM.at_ M).1) _ (ag.qo M ay) _ (ag.zD M) _ (ag.BR M) _ (ag.mc M) _ _ aw _ _ aB _ (DU (df b8.good hm)) _ (iz (df en.1.good en.2)) xp _ _ bZ) j8 pm eh (fY.mono (a' (fB (gU 400 hW.1) _) (aE rfl)))
end
end Mine
end
section
namespace Mine
variable{c i j l x s k:C}{xs:B D}{O:B (C×ap×C)}{e:C×ap×C}
section
variable{a:bH}{h:aT}{n:St}{T:B aP}{z:C}{W:cw}{aU:C→ap}{R:B b5}{al:B (am×D)}{F:C→C}{X:Prop}
theorem ip.same(I:ip R c)(ay:i<R.length)(bt:j<R.length)(aw:(af R i).ah=(af R j).ah)(aB:(af R i).nm=(af R j).nm)(bZ:(af R i).aM=(af R j).aM):i=j:=
 (Cb (l:=R.map iA) (by rw[cG];exact ay) I.uniq).mp ((i9 (iP ay)).trans (B1 ((i9 (iP bt)).trans (an some (by unfold iA;rw[aw,aB,bZ])))))
theorem Ww{nm aM:C}(I:ip R c):(gv R l nm aM).length≤1:=
 Ro λ h=>absurd ((Cb (l:=gv R l nm aM) (i:=0) (j:=1) (mR h) ((wc.filter _).filter _)).mp ((h2 (mR h)).trans (B1 ((h2 h).trans (an some
  (have p:=rv.mp (yH h);have q:=rv.mp (yH (mR h));I.same p.1 q.1 (p.2.1.trans q.2.1.symm) (p.2.2.1.trans q.2.2.1.symm) (p.2.2.2.trans q.2.2.2.symm))))))) Ct
@[elab_as_elim] theorem WD{ak:C→Prop}(aA:x=2+128*s∨x=6+128*s)(hs:s≤1)(rF:ak 2)(gk:ak 6)(fU:ak 130)(eN:ak 134):ak x:=
 ro (ak:=λ s=>(x=2+128*s∨x=6+128*s)→ak x) hs (λ aA=>aA.elim (λ e=>e▸rF) λ e=>e▸gk) (λ aA=>aA.elim (λ e=>e▸fU) λ e=>e▸eN) aA
theorem K8(aA:x=2+128*s∨x=6+128*s)(hs:s≤1):fH .band (E x) (.ii 2)=some (.ii 2)∧fH .band (E x) (.ii 1)=some (.ii 0)∧fH .band (E x) (.ii 16)=some (.ii 0)∧fH .band (E x) (.ii 8)=some (.ii 0):=
 WD (ak:=λ x=>fH .band (E x) (.ii 2)=some (.ii 2)∧fH .band (E x) (.ii 1)=some (.ii 0)∧fH .band (E x) (.ii 16)=some (.ii 0)∧fH .band (E x) (.ii 8)=some (.ii 0)) aA hs ⟨rfl,rfl,rfl,rfl⟩ ⟨rfl,rfl,rfl,rfl⟩ ⟨rfl,rfl,rfl,rfl⟩ ⟨rfl,rfl,rfl,rfl⟩
theorem abL(ag:c9 a h T W al aU R)(ak:j0 a h T W aU R F)(hx:qO R F)(M:Good a h n){aO len:C}{p:av}(ay:i<R.length)(bt:j<R.length)(e6:aO< (af R i).ah)(n5:(af R j).ah=aO)(XT:(af R j).nm=(af R i).nm)(q:ba T k (dM W (af R i).ah ((af R i).ah-aO)))(i4:len≤1)(a3:T.length<400000)
  (f:∀(J:St) (aC:B aP) (H:aT),runN ac (z+36) 47 [.ref (a .eI),.ref (a (.bl i)),.ref (a (.bl j)),.tup [E k,E (j+1),E len,.cj p]] n=some (.ii 0,J)→b0 a h T 24 J aC H→X):X:=by
 have hF:=ag.eY _ (h3 (iP ay))
 have adr:=ag.eY _ (h3 (iP bt))
 have b:=K8 (hx j bt) adr.2.2
 have pb:=r9 (h4 e6)
 have a1:=nJ (af R i).ah aO
 have cp:=N7 (aU:=aU) ag.iT (r:=af R i) (bw:=af R j) hF.1 a1 (n5.trans pb.symm) XT (ag.lH (af R i).nm).1
 have q:ba T k (gY (66+aO) (W.dK (af R i).ah ((af R i).ah-aO))):=by unfold dM at q;rwa [pb]at q
 refine(ak i ay).at_ M λ _ _ _ gO _ SR=>?_
 refine(ak j bt).at_ M λ _ _ _ Fc _ ww=>?_
 refine OZ (z:=z) ag ak M (l:=aO) (j:=j) (k:=k) (bE:=W.dK (af R i).ah ((af R i).ah-aO)) (fa e6 (lu hF.1)) bt (ag.iT.lD hF.1 a1) q (cp.symm▸a' (FZ (aU:=aU) ag.iT hF.1 (ag.lH (af R i).nm)).2.1 (aE rfl)) (fa (nI a3 24) (aE rfl)) λ dt J aC H e cO go=>?_
 refine((ak.go go) i ay).at_ go.good λ _ _ _ Ni _ Js=>?_
 refine((ak.go go) j bt).at_ go.good λ _ _ _ aa0 _ SS=>?_
 have cz:cY .eq (.ss [(af R i).nm]) (.ss [70,105,110,97,108,105,122,101]) n=some false:=hF.2.1.elim (λ L=>by rw[L];rfl) λ L=>by rw[L];rfl
 exact f J aC H (cN (z+35) 47 [D.ref (a aN.eI),D.ref (a (aN.bl i)),D.ref (a (aN.bl j)),D.tup [E k,E (j+1),E len,D.cj p]] n rfl rfl _ (SR gO.nZ) _ cz _ rfl _ (iN (nV (y:=1)) (r7.mpr i4)) _ (ww Fc.f8) _ b.1 _ rfl _ (ww Fc.f8) _ b.2.1 _ rfl _ (ww Fc.f8) _ b.2.2.1 _ rfl _ (ag.mc M) _ rfl _ rfl _ _ e _ rfl _ (Js Ni.zO) _ ((rfl:cY .ne (E 0) (.ii 0) J=some false)) _ (SS aa0.uu) _ ((rfl:cY .ne (E 0) (.ii 0) J=some false)) _ (Js Ni.uu) _ ((rfl:cY .ne (E 0) (.ii 0) J=some false))) go
noncomputable def es(T:B aP):B D→B (C×ap×C)→Prop
 | [],[]=>True
 |x::xs,e::O=>(∃k,x= .tup [E e.1,E k,E e.2.2]∧ba T k e.2.1)∧es T xs O
 |_,_=>False
noncomputable def iQ(e:C×ap×C)(k:C):D:=.tup [E e.1,E k,E e.2.2]
@[elab_as_elim] theorem es.b7{ak:B D→B (C×ap×C)→Prop}(z:ak [] [])(c:∀k e xs O,ba T k e.2.1→es T xs O→ak xs O→ak (iQ e k::xs) (e::O)):∀{O:B (C×ap×C)} {xs:B D},es T xs O→ak xs O
 | [],[],_=>z
 |e::O,x::xs,⟨⟨k,L,q⟩,r⟩=>L▸c k e xs O q r (es.b7 z c r)
theorem es.more{aC:B aP}(m:∀{k:C} {t:ap},ba T k t→ba aC k t)(I:es T xs O):es aC xs O:=I.b7 trivial λ k _ _ _ q _ r=>⟨⟨k,rfl,m q⟩,r⟩
theorem es.len(I:es T xs O):xs.length=O.length:=I.b7 rfl λ _ _ _ _ _ _ r=>an l2 r
theorem es.add(q:ba T k e.2.1)(I:es T xs O):es T (xs++[iQ e k]) (O++[e]):=I.b7 (ak:=λ xs O=>es T (xs++[iQ e k]) (O++[e])) ⟨⟨k,rfl,q⟩,trivial⟩ λ k _ _ _ q _ r=>⟨⟨k,rfl,q⟩,r⟩
theorem YU{f:C×ap×C}{ct:C}(cy:T.Nodup)(q:ba T k e.2.1)(ep:ba T ct f.2.1)(aa7:¬(f.1=e.1∧f.2.1=e.2.1∧f.2.2=e.2.2)):fJ n 2 (iQ f ct) (iQ e k)=false:=rX.mpr λ L=>by
 have L:(decide ((f.1:am)=e.1)&&(decide ((ct:am)=k)&&(decide ((f.2.2:am)=e.2.2)&&true)))=true:=L
 have d4:=dF.mp L
 have d5:=dF.mp d4.2
 have dq:=tK (gi d5.1)
 exact aa7 ⟨tK (gi d4.1),(dq▸ep).a6 q,tK (gi (dF.mp d5.2).1)⟩
theorem es.eL(I:es T xs O):xs.all (Mine.eL n 2)=true:=I.b7 rfl λ _ _ _ _ _ _ r=>r
theorem es.abJ(cy:T.Nodup)(q:ba T k e.2.1)(I:es T xs O):(∀x∈O,¬(x.1=e.1∧x.2.1=e.2.1∧x.2.2=e.2.2))→(xs.any λ x=>fJ n 2 x (iQ e k))=false:=
 I.b7 (ak:=λ xs O=>(∀x∈O,¬(x.1=e.1∧x.2.1=e.2.1∧x.2.2=e.2.2))→(xs.any λ x=>fJ n 2 x (iQ e k))=false) (λ _=>rfl) λ ct f xs O ep _ r ne=>Qs.mpr ⟨YU cy q ep (ne f (.head _)),r λ x m=>ne x (.tail _ m)⟩
theorem abx{m:C}{v:D}(e:n[m]? =some (.li xs))(o:xs.all (eL n 2)=true)(c3:eL n 2 v=true)(f:(xs.any λ x=>fJ n 2 x v)=false):cY .my v (.ref m) n=some true:=
 (an (λ o:Y a0=>qV (!·) (match o with|some (.li xs)=>xg n v xs|some (.cq O)=>jO (λ i=>some (O.lookup i).isSome) v|_=>none)) e).trans (an (qV (!·)) ((if_pos (dF.mpr ⟨o,c3⟩)).trans (an some f)))
theorem L8{e2:C}(M:Good a h n)(bT:c6 a h T)(jU:d7 n (.ref (a .store)) 36=some (.ref (a .types)))(tf:de n (.ref (a .types)) (E e2)=some (.ref (a (.ty l))))(lS:d7 n (.ref (a (.ty l))) 19=some (.ref (a (.cM l))))(dk:h (.cM l)=some (.li xs))(im:es T xs O)(q:ba T k e.2.1)(hl:O.length<900)(ne:∀x∈O,¬(x.1=e.1∧x.2.1=e.2.1∧x.2.2=e.2.2))
  (f:∀J,runN ac (z+2) 36 [.ref (a .store),E e2,E e.1,E k,E e.2.2] n=some (.nn,J)→Good a (up h (.cM l) (some (.li (xs++[iQ e k])))) J→X):X:=
 bT.b7 λ _ _ _ _ I=>M.l9 (v:=iQ e k) dk (im.len▸fi hl (aE rfl)) λ J eA dG=>by
  have at_:=M.at_ _ _ dk
  have hL:runN ac (z+1) 35 [.ref (a (.cM l)),iQ e k] n=some (.nn,J):=(cN z 35 [D.ref (a (aN.cM l)),iQ e k] n rfl rfl _ (abx at_ im.eL rfl (im.abJ I.nodup q ne)) (hQ at_) _ eA)
  exact f J (cN (z+1) 36 [D.ref (a aN.store),E e2,E e.fst,E k,E e.snd.snd] n rfl rfl _ jU _ tf _ lS _ _ hL) dG
end
end Mine
end
section
namespace Mine
variable{e:C×ap×C}{I:C→B (C×ap×C)}{c aO i j:C}{p:av}{xs:B D}{O:B (ap×C)}
section
variable{T:B aP}{W:cw}{R:B b5}{X:Prop}
structure nD(W:cw)(R:B b5)(I:C→B (C×ap×C))(c:C):Prop where
 each:∀l,l<4→∀e∈I l,(e.2.1= .b2 34∧e.2.2=900)∨∃r,r<R.length∧e.2.2=r+1∧(af R r).ah<l∧e.2.1=dM W l (l- (af R r).ah)
 dist:∀l,l<4→∀m,(((I l).filter λ e=>e.1==m&&e.2.2 != 900).map λ e=>e.2.2).Nodup
 cnt:∀l,l<4→∀m,((I l).filter λ e=>e.1==m&&e.2.2 != 900).length≤l
 len:∀l,l<4→(I l).length≤20+3*c
noncomputable def ho(W:cw)(R:B b5)(I:C→B (C×ap×C))(i aO j:C)(p:av):B (ap×C):=
 (if p=true then [(dM W (af R i).ah ((af R i).ah-aO),j+1)]else [])++((I aO).filter λ e=>e.1==j+1&&e.2.2 != 900).map λ e=>(e.2.1.sub (W.dK (af R i).ah ((af R i).ah-aO)),e.2.2)
theorem EX(K:W.ok){ae:C}(cC:ae≤3){d e:C}(LI:d+e≤ae):(dM W (ae-d) e).sub (W.dK ae d)=dM W ae (d+e):=by
 unfold dM
 rw[WR,JC K cC (a' (d2 ..) LI) LI,Ic]
theorem AF{m:C}{l:B (C×ap×C)}(h:e∈l.filter λ e=>e.1==m&&e.2.2 != 900):e∈l∧e.1=m∧e.2.2≠900:=
 have p:=oP.mp h;have q:=dF.mp p.2;⟨p.1,eq_of_beq q.1,p8.mp q.2⟩
theorem nD.own(ok:nD W R I c)(h:aO<4)(m:e∈I aO)(z:e.2.2≠900):∃r,r<R.length∧e.2.2=r+1∧(af R r).ah<aO∧e.2.1=dM W aO (aO- (af R r).ah):=(ok.each aO h e m).elim (λ L=>absurd L.2 z) id
theorem Fx(K:W.ok)(ok:nD W R I c)(cC:(af R i).ah≤3)(e6:aO< (af R i).ah)(bt:j<R.length)(n5:(af R j).ah=aO):∀x∈ho W R I i aO j p,∃r,r<R.length∧x.2=r+1∧(af R r).ah< (af R i).ah∧x.1=dM W (af R i).ah ((af R i).ah- (af R r).ah):=λ x aA=>
 (nG.mp aA).elim
  (λ aA=>match p,aA with
   |true,aA=>jA.mp aA▸⟨j,bt,rfl,n5.symm▸e6,n5.symm▸rfl⟩
   |false,aA=>nomatch(aA:x∈ []))
  λ aA=>(hu.mp aA).elim λ e L=>L.2▸(ok.own (fa e6 (lu cC)) (AF L.1).1 (AF L.1).2.2).elim λ r q=>⟨r,q.1,q.2.1,fi q.2.2.1 e6,by
   have s:=Ru (h4 e6) (h4 q.2.2.1)
   have t:=EX K cC (d:=(af R i).ah-aO) (e:=aO- (af R r).ah) (s▸nJ ..)
   rw[r9 (h4 e6),s]at t
   exact(an (ap.sub _) q.2.2.2).trans t⟩
theorem NE(ok:nD W R I c)(e6:aO<4)(n5:(af R j).ah=aO):((ho W R I i aO j p).map λ x=>x.2).Nodup:=by
 have nd:=ok.dist aO e6 (j+1)
 have e:(((I aO).filter λ e=>e.1==j+1&&e.2.2 != 900).map λ e=>(e.2.1.sub (W.dK (af R i).ah ((af R i).ah-aO)),e.2.2)).map (λ x=>x.2)=((I aO).filter λ e=>e.1==j+1&&e.2.2 != 900).map λ e=>e.2.2:=tQ
 cases p with
 |false=>exact e▸nd
 |true=>exact nH.mpr ⟨λ m=>(hu.mp (e▸m)).elim λ x L=>(ok.own e6 (AF L.1).1 (AF L.1).2.2).elim λ r q=>mS q.2.2.1 (oS (q.2.1.symm.trans L.2)▸n5),e▸nd⟩
theorem NG(ok:nD W R I c)(e6:aO<4):(ho W R I i aO j p).length≤aO+1:=by
 have k:=ok.cnt aO e6 (j+1)
 rw[←cG (f:=λ e:C×ap×C=>(e.2.1.sub (W.dK (af R i).ah ((af R i).ah-aO)),e.2.2))]at k
 cases p with
 |false=>exact lu k
 |true=>exact gq k
noncomputable def mI(R:B b5)(I:C→B (C×ap×C))(i:C)(d3:B (ap×C)):C→B (C×ap×C):=λ l=>if l=(af R i).ah then I l++d3.map λ x=>(i+1,x.1,x.2)else I l
theorem tu{l:C}{d3:B (ap×C)}(P:B (C×ap×C)→Prop)(y:l=(af R i).ah→P (I l)→P (I l++d3.map λ x=>(i+1,x.1,x.2)))(z:P (I l)):P (mI R I i d3 l):=
 (f9 (l=(af R i).ah)).elim (λ e=>(an P (if_pos e)).mpr (y e z)) λ e=>(an P (if_neg e)).mpr z
theorem PR(K:W.ok)(ok:nD W R I c)(cC:(af R i).ah≤3)(e6:aO< (af R i).ah)(bt:j<R.length)(n5:(af R j).ah=aO)(fR:R.length≤16)(rQ:∀e∈I (af R i).ah,e.1=i+1→e.2.2=900):nD W R (mI R I i (ho W R I i aO j p)) (c+1):=by
 have uJ:=fa e6 (lu cC)
 have ne:=Fx (p:=p) K ok cC e6 bt n5
 have nd:=NE (W:=W) (i:=i) (p:=p) ok uJ n5
 have nl:=NG (W:=W) (R:=R) (i:=i) (j:=j) (p:=p) ok uJ
 have Wp:((ho W R I i aO j p).map λ x=>(i+1,x.1,x.2)).filter (λ e=>e.1==i+1&&e.2.2 != 900)=(ho W R I i aO j p).map λ x=>(i+1,x.1,x.2):=B'.mpr λ e b3=>(hu.mp b3).elim λ x L=>L.2▸(ne x L.1).elim λ r q=>dF.mpr ⟨lE (i+1),p8.mpr (mS (q.2.1▸cn (a' q.1 fR) (aE rfl)))⟩
 have Wo:∀{m},m≠i+1→((ho W R I i aO j p).map λ x=>(i+1,x.1,x.2)).filter (λ e=>e.1==m&&e.2.2 != 900)=[]:=λ z=>tO.mpr λ e b3 y=>(hu.mp b3).elim λ x L=>z ((eq_of_beq (dF.mp y).1).symm.trans (an If L.2).symm)
 have Wq:(I (af R i).ah).filter (λ e=>e.1==i+1&&e.2.2 != 900)=[]:=tO.mpr λ e b3 y=>p8.mp (dF.mp y).2 (rQ e b3 (eq_of_beq (dF.mp y).1))
 have zQ:∀{l m},l=(af R i).ah→(m=i+1→(I l++(ho W R I i aO j p).map λ x=>(i+1,x.1,x.2)).filter (λ e=>e.1==m&&e.2.2 != 900)=(ho W R I i aO j p).map λ x=>(i+1,x.1,x.2))∧(m≠i+1→(I l++(ho W R I i aO j p).map λ x=>(i+1,x.1,x.2)).filter (λ e=>e.1==m&&e.2.2 != 900)=(I l).filter λ e=>e.1==m&&e.2.2 != 900):=λ L=>⟨λ y=>by rw[r3,y,Wp,L,Wq,H5],λ y=>by rw[r3,Wo y,eZ]⟩
 exact{
  each:=λ l hl=>tu (λ cf=>∀e∈cf,(e.2.1= .b2 34∧e.2.2=900)∨∃r,r<R.length∧e.2.2=r+1∧(af R r).ah<l∧e.2.1=dM W l (l- (af R r).ah)) (λ L k e b3=>(nG.mp b3).elim (k e) λ b3=>(hu.mp b3).elim λ x w=>w.2▸.inr (L▸ne x w.1)) (ok.each l hl)
  dist:=λ l hl m=>tu (λ cf=>((cf.filter λ e=>e.1==m&&e.2.2 != 900).map λ e=>e.2.2).Nodup) (λ L k=>(f9 (m=i+1)).elim (λ y=>by rw[(zQ L).1 y,tQ];exact nd) λ y=>by rw[(zQ L).2 y];exact k) (ok.dist l hl m)
  cnt:=λ l hl m=>tu (λ cf=>(cf.filter λ e=>e.1==m&&e.2.2 != 900).length≤l) (λ L k=>(f9 (m=i+1)).elim (λ y=>by rw[(zQ L).1 y,cG];exact a' nl (L▸e6)) λ y=>by rw[(zQ L).2 y];exact k) (ok.cnt l hl m)
  len:=λ l hl=>tu (λ cf=>cf.length≤20+3*(c+1)) (λ L _=>by rw[fh,cG];exact(hv (ok.len l hl) (a' nl (a' e6 cC)):_≤20+3*c+3)) (a' (ok.len l hl) (d2 _ 3))}
noncomputable def gV(T:B aP):B D→B (ap×C)→Prop
 | [],[]=>True
 |x::xs,e::O=>(∃k,x= .tup [E k,E e.2]∧ba T k e.1)∧gV T xs O
 |_,_=>False
@[elab_as_elim] theorem gV.b7{ak:B D→B (ap×C)→Prop}(z:ak [] [])(c:∀k e xs O,ba T k e.1→gV T xs O→ak xs O→ak (.tup [E k,E e.2]::xs) (e::O)):∀{O:B (ap×C)} {xs:B D},gV T xs O→ak xs O
 | [],[],_=>z
 |e::O,x::xs,⟨⟨k,L,q⟩,r⟩=>L▸c k e xs O q r (gV.b7 z c r)
theorem gV.more{aC:B aP}(m:∀{k:C} {t:ap},ba T k t→ba aC k t)(I:gV T xs O):gV aC xs O:=I.b7 trivial λ k _ _ _ q _ r=>⟨⟨k,rfl,m q⟩,r⟩
theorem gV.len(I:gV T xs O):xs.length=O.length:=I.b7 rfl λ _ _ _ _ _ _ r=>an l2 r
theorem gV.add{e:ap×C}{k:C}(q:ba T k e.1)(I:gV T xs O):gV T (xs++[.tup [E k,E e.2]]) (O++[e]):=I.b7 (ak:=λ xs O=>gV T (xs++[D.tup [E k,E e.2]]) (O++[e])) ⟨⟨k,rfl,q⟩,trivial⟩ λ k _ _ _ q _ r=>⟨⟨k,rfl,q⟩,r⟩
end
end Mine
end
section
namespace Mine
variable{xs:B D}{e:C×ap×C}{p:av}{ae aO j eW m len:C}{aV aQ bp bB:Y D}
section
variable{a:bH}{h:aT}{n:St}{T:B aP}{z:C}{W:cw}{aU:C→ap}{R:B b5}{al:B (am×D)}{F:C→C}{X:Prop}
noncomputable def vE:bk:=(.cons (.b4 (.and (.cons (.cmp .eq (.v 6) (.aq (.v 3) (.ii 1))) (.cons (.g4 (.e (.call 42 (.cons (.at (.at (.v 0) 63) 56) (.cons (.v 7) .nil))))) .nil))) (.cons (.ex (.append (.v 5) (.tup (.cons (.call 26 (.cons (.at (.v 0) 35) (.cons (.v 7) (.cons (.call 25 (.cons (.at (.v 0) 35) (.cons (.aq (.v 3) (.ii 0)) .nil))) (.cons (.tup .nil) .nil))))) (.cons (.v 8) .nil))))) .nil) (.nil)) .nil)
theorem es.sA{O:B (C×ap×C)}(I:es T xs (e::O))(f:∀k tD,xs=iQ e k::tD→ba T k e.2.1→es T tD O→X):X:=match xs,I with
 |x::xs,⟨⟨k,L,q⟩,r⟩=>f k xs (L▸rfl) q r
theorem es.AM(I:es T xs []):xs=[]:=match xs,I with
 | [],_=>rfl
noncomputable def eX(eW j len:C)(p:av):D:=.tup [E eW,E (j+1),E len,.cj p]
noncomputable def hq(a:bH)(aV aQ:Y D)(v:D)(bp:Y D)(m:C)(bN bm eK bB:Y D):aX:=[some (.ref (a .eI)),aV,aQ,some v,bp,some (.ref m),bN,bm,eK,bB]
noncomputable def xR(W:cw)(ae aO:C)(e:C×ap×C):ap×Nat:=(e.2.1.sub (W.dK ae (ae-aO)),e.2.2)
noncomputable def own(j:C)(e:C×ap×C):Bool:=e.1==j+1&&e.2.2 != 900
theorem Wr{α c4:Type}{p:α→av}{g:α→c4}{e:α}{O:B α}{l:B c4}:l++(if p e=true then [g e]else [])++(O.filter p).map g=l++((e::O).filter p).map g:=by
 cases h:p e with
 |true=>rw[B9 h,if_pos rfl];exact(mP ..).symm
 |false=>rw[B8 (rX.mp h),if_neg mM,eZ]
noncomputable def HE(W:cw)(R:B b5)(aO:C)(e:C×ap×C):Prop:=(e.2.1= .b2 34∧e.2.2=900)∨∃r,r<R.length∧e.2.2=r+1∧(af R r).ah<aO∧e.2.1=dM W aO (aO- (af R r).ah)
theorem aeB{k b:C}{aI:aT}{bX:B aP}{acc:B D}{d3:B (ap×C)}(g7:c9 a h T W al aU R)(cC:ae≤3)(e6:aO<ae)(fy:ba T eW (dM W ae (ae-aO)))(kB:h (.a6 m)=none)(q:ba T k e.2.1)(nY:HE W R aO e)(go:b0 a h T b n bX aI)(hm:aI (.a6 m)=some (.li acc))(pB:gV bX acc d3)(re:acc.length<900)(a3:T.length+b<400000)(fR:R.length≤16)
  (f:∀(ao:St) (cL:B aP) (bJ:aT) (zb:B D),bS ac (runN ac (z+33)) vE (hq a aV aQ (eX eW j len p) bp m (some (E e.1)) (some (E k)) (some (E e.2.2)) bB) n=some (.br (hq a aV aQ (eX eW j len p) bp m (some (E e.1)) (some (E k)) (some (E e.2.2)) bB),ao)→b0 a h T (b+24) ao cL bJ→bJ (.a6 m)=some (.li zb)→gV cL zb (d3++if own j e=true then [xR W ae aO e]else [])→zb.length≤acc.length+1→X):X:=by
 have ag:=g7.go go
 have d':=go.eT q
 have jo:de n (eX eW j len p) (.ii 1)=some (E (j+1)):=rfl
 have YD:de n (eX eW j len p) (.ii 0)=some (E eW):=rfl
 have no:own j e=false→gV bX acc (d3++if own j e=true then [xR W ae aO e]else []):=λ L=>by rw[L];exact(eZ d3).symm▸pB
 cases c:decide (e.1=j+1)with
 |false=>
  have cz:=(qd (n:=n) (x:=e.1) (y:=j+1)).trans (an some c)
  exact f n bX aI acc (dm (z+33) vE (hq a aV aQ (eX eW j len p) bp m (some (E e.fst)) (some (E k)) (some (E e.snd.snd)) bB) n _ jo _ cz) (go.mono (d2 ..)) hm (no (an (· &&e.2.2 != 900) (ma.mpr (of_decide_eq_false c)))) (h5 _)
 |true=>
  have cz:=(qd (n:=n) (x:=e.1) (y:=j+1)).trans (an some c)
  refine nY.elim (λ t=>?_) λ⟨r,fV,gP,ot,te⟩=>?_
  ·have d':ba bX k (.b2 34):=t.1▸d'
   have EC:=L6 (z:=z+29) ag go.good d'.2
   exact f n bX aI acc (dm (z+33) vE (hq a aV aQ (eX eW j len p) bp m (some (E e.fst)) (some (E k)) (some (E e.snd.snd)) bB) n _ jo _ cz _ (ag.zD go.good) _ (ag.BR go.good) _ _ EC _ ((rfl:ig n (.cj (decide (34=34)))=some true))) (go.mono (d2 ..)) hm (no ((an (λ x=>e.1==j+1&&x != 900) t.2).trans (Qp _))) (h5 _)
  ·have d':ba bX k (dM W aO (aO- (af R r).ah)):=te▸d'
   refine v' (ag.iT.lD (ae:=aO) (h4 (fa e6 cC)) (d:=aO- (af R r).ah) (nJ ..)) (λ ahc um ahn ahb ab0=>?_) d'
   refine v' (ag.iT.lD cC (d:=ae-aO) (nJ ..)) (λ Zx VB ac' Zv ahk=>?_) (go.eT fy)
   have EC:=L6 (z:=z+29) ag go.good um
   have tt:ig n (.cj (decide (66+(aO- (aO- (af R r).ah))=34)))=some false:=an some (j3 (Cp (fa (aE rfl:34<66) (d2 ..))))
   have oZ:=JD (z:=z+31) ag.bT go.good VB
   have s:=Ru (h4 e6) (h4 ot)
   have hs:=s▸nJ ae (af R r).ah
   have mp:=EX ag.iT cC (d:=ae-aO) (e:=aO- (af R r).ah) hs
   rw[r9 (h4 e6)]at mp
   refine Ko (z:=z) (k:=k) (t:=dM W aO (aO- (af R r).ah)) (ks:=Zx) (l:=W.dK ae (ae-aO)) ag.bT go.good d' ac' Zv (mp.symm▸a' (u0 ag.iT cC hs).2.1 (aE rfl)) (cn (hb go.le 24) (fa (nI a3 24) (aE rfl))) λ fl ao cL bJ q' xZ b8=>?_
   have ix:=b8.a6 hm
   have jL:=(go.trans b8).put (c3:=.li (acc++[.tup [E fl,E e.2.2]])) ix.1 kB
   have Fg:own j e=true:=dF.mpr ⟨jl.mpr (gi c),p8.mpr (mS (gP▸cn (a' fV fR) (aE rfl)))⟩
   refine f _ cL _ _ (dm (z+33) vE (hq a aV aQ (eX eW j len p) bp m (some (E e.fst)) (some (E k)) (some (E e.snd.snd)) bB) n _ jo _ cz _ (ag.zD go.good) _ (ag.BR go.good) _ _ EC _ tt (hQ (df go.good hm)) _ (ag.zC go.good) _ (ag.zC go.good) _ YD _ _ oZ _ _ q' _ (m0 ix.2 (pG (fi re (aE rfl))))) jL.1 jL.2 ?_ (dh fh)
   rw[if_pos Fg]
   exact(pB.more λ q=>b8.eT q).add (e:=xR W ae aO e) ((an (λ t:ap=>ba cL fl (t.sub (W.dK ae (ae-aO)))) te).mpr xZ)
noncomputable def aez(z:C)(a:bH)(dc:aN)(l xs:B D)(env:aX)(n:St):Y (e0×St):=@fE (live (.ref (a dc)) l) (e1 (.ref (a dc)) l) (λ x aF J=>(di true [6,7,8] x aF).bind λ dH=>bS ac (runN ac (z+33)) vE dH J) xs env n
theorem aeA{dc:aN}{l:B D}(g7:c9 a h T W al aU R)(cC:ae≤3)(e6:aO<ae)(fy:ba T eW (dM W ae (ae-aO)))(w8:gZ dc=false)(hl:h dc=some (.li l))(kB:h (.a6 m)=none)(fR:R.length≤16)(O:B (C×ap×C)):∀{xs:B D} {n:St} {bX:B aP} {aI:aT} {acc:B D} {d3:B (ap×C)} {b:C} {bN bm eK:Y D},es T xs O→(∀e∈O,HE W R aO e)→b0 a h T b n bX aI→aI (.a6 m)=some (.li acc)→gV bX acc d3→acc.length+O.length<900→T.length+b+24*O.length<400000→
  (∀(J:St) (aC:B aP) (H:aT) (lC:B D) (hV gF hE:Y D),aez z a dc l xs (hq a aV aQ (eX eW j len p) bp m bN bm eK bB) n=some (.br (hq a aV aQ (eX eW j len p) bp m hV gF hE bB),J)→b0 a h T (b+24*O.length) J aC H→H (.a6 m)=some (.li lC)→gV aC lC (d3++(O.filter (own j)).map (xR W ae aO))→X)→X:=by
 induction O with
 |nil=>exact λ{xs n bX aI acc d3 b bN bm eK} im nY go hm pB re a3 f=>f n bX aI acc bN bm eK (im.AM▸hg (go.good.at_ _ _ (go.off w8 hl))) go hm ((eZ d3).symm▸pB)
 |cons e O aZ=>
  intro xs n bX aI acc d3 b bN bm eK im nY go hm pB re a3 f
  refine im.sA λ k tD ex q sQ=>?_
  subst ex
  exact aeB g7 cC e6 fy kB q (nY e (.head _)) go hm pB (cn (d2 ..) re) (cn (d2 ..) a3) fR λ ao cL bJ zb st b8 ix FY C2=>
   aZ sQ (λ e m=>nY e (.tail _ m)) b8 ix FY (cn (a' (hb C2 _) (dh (jB ..))) re) (rx (b:=T.length+b)▸a3) λ J aC H lC hV gF hE aB g2 ib FX=>
    f J aC H lC hV gF hE (fd (go.good.at_ _ _ (go.off w8 hl)) st aB) (g2.mono (dh rx)) ib (Wr (p:=own j) (g:=xR W ae aO)▸FX)
end
end Mine
end
section
namespace Mine
variable{xs:B D}{r:b5}{m:C}{aG:B (C×D)}{g dt j qN hN:C}
section
variable{a:bH}{h:aT}{n:St}{T:B aP}{z:C}{W:cw}{aU:C→ap}{R:B b5}{al:B (am×D)}{F:C→C}{X:Prop}
noncomputable def Bn:bk:=(.cons (.ex (.call 36 (.cons (.at (.v 0) 47) (.cons (.v 1) (.cons (.v 2) (.cons (.v 7) (.cons (.v 8) .nil))))))) .nil)
noncomputable def yd(a:bH)(ae i:C)(aW bp:Y D)(m:C)(bN bm eK bB:Y D):aX:=[some (.ref (a .eI)),some (E (66+ae)),some (E (i+1)),aW,bp,some (.ref m),bN,bm,eK,bB]
theorem gV.sA{e:ap×C}{O:B (ap×C)}(I:gV T xs (e::O))(f:∀k tD,xs= .tup [E k,E e.2]::tD→ba T k e.1→gV T tD O→X):X:=match xs,I with
 |x::xs,⟨⟨k,L,q⟩,r⟩=>f k xs (L▸rfl) q r
theorem gV.AM(I:gV T xs []):xs=[]:=match xs,I with
 | [],_=>rfl
theorem ac7{r:aN}(h:pC r=true):r≠ .cM m:=λ e=>nomatch(e▸h:pC (.cM m)=true)
theorem c9.PI(ag:c9 a h T W al aU R)(M:Good a h n){l:C}(hl:l<4):d7 n (.ref (a (.ty l))) 19=some (.ref (a (.cM l))):=let⟨⟨_,er,_,_,_,lS⟩,_⟩:=ag.ty l hl;(fk (M.at_ _ _ er)).trans lS
noncomputable def aeC(z m:C)(l xs:B D)(env:aX)(n:St):Y (e0×St):=@fE (live (.ref m) l) (e1 (.ref m) l) (λ x aF J=>(di true [7,8] x aF).bind λ dH=>bS ac (runN ac (z+2)) Bn dH J) xs env n
noncomputable def jR(i:C)(x:ap×C):C×ap×Nat:=(i+1,x.1,x.2)
theorem aeD{ae i:C}{aW bp bN bB:Y D}{l:B D}(cC:ae<4)(d3:B (ap×C)):∀{xs:B D} {n:St} {aI:aT} {bf:B D} {O:B (C×ap×C)} {bm eK:Y D},gV T xs d3→c9 a aI T W al aU R→Good a aI n→aI (.cM ae)=some (.li bf)→es T bf O→aI (.a6 m)=some (.li l)→(d3.map λ x=>x.2).Nodup→(∀x∈O,x.1=i+1→∀y∈d3,x.2.2≠y.2)→O.length+d3.length<800→
  (∀(J:St) (H:aT) (kc:B D) (gF hE:Y D),aeC z m l xs (yd a ae i aW bp m bN bm eK bB) n=some (.br (yd a ae i aW bp m bN gF hE bB),J)→Good a H J→H (.cM ae)=some (.li kc)→es T kc (O++d3.map (jR i))→(∀r,r≠ .cM ae→H r=aI r)→c9 a H T W al aU R→X)→X:=by
 induction d3 with
 |nil=>exact λ{xs n aI bf O bm eK} pB ag M dk im hm nd bo hl f=>f n aI bf bm eK (pB.AM▸hg (df M hm)) M dk ((eZ O).symm▸im) (λ _ _=>rfl) ag
 |cons r d3 aZ=>
  intro xs n aI bf O bm eK pB ag M dk im hm nd bo hl f
  refine pB.sA λ k tD ex q FX=>?_
  subst ex
  have nd:=nH.mp nd
  refine L8 (z:=z) (e2:=66+ae) (l:=ae) (e:=jR i r) (k:=k) M ag.bT (ag.aM.at_ M).2.1 (ag.yl M cC) (ag.PI M cC) dk im q (cn (d2 ..) (fi hl (aE rfl))) (λ x aA L=>bo x aA L.1 r (.head _) L.2.2) λ aa aw dJ=>?_
  have fr:∀hX,hX≠ .cM ae→(up aI (.cM ae) (some (.li (bf++[iQ (jR i r) k])))) hX=aI hX:=λ hX L=>bP _ _ L
  have Qz:=ag.keep (λ hX o k e=>(fr hX (ac7 k)).trans e) (ag.bT.off λ hX o k e=>(fr hX λ L=>nomatch(L▸k:hS (.cM ae)=true)).trans e) λ q=>q
  have st:bS ac (runN ac (z+2)) Bn (yd a ae i aW bp m bN (some (E k)) (some (E r.2)) bB) n=some (.br (yd a ae i aW bp m bN (some (E k)) (some (E r.2)) bB),aa):=(dm (z+2) Bn (yd a ae i aW bp m bN (some (E k)) (some (E r.snd)) bB) n _ (ag.mc M) _ _ aw)
  refine aZ (O:=O++[jR i r]) (bm:=some (E k)) (eK:=some (E r.2)) FX Qz dJ (cR _ _ _) (im.add (e:=jR i r) q) ((fr _ (a5 rfl)).trans hm) nd.2 (λ x aA L y bI=>(nG.mp aA).elim (λ aA=>bo x aA L y (.tail _ bI)) λ aA w=>nd.1 (hu.mpr ⟨y,bI,w.symm.trans (jA.mp aA▸rfl)⟩)) (cn (dh (by rw[fh];exact jB ..)) hl) λ J H kc gF hE aB dG Xf sQ ace oK=>
   f J H kc gF hE (fd (df M hm) st aB) dG Xf (mP O (jR i r) (d3.map (jR i))▸sQ) (λ hX L=>(ace hX L).trans (fr hX L)) oK
theorem Oa{O:B (C×D)}{k:C}{v w:D}(h:O.lookup k=some w):(c8 O k v).length=O.length:=by
 unfold c8
 exact(an f' (if_pos (an pY h))).trans (cG ..)
theorem pU.ad3{g9:C}(m:pU aG g dt j r qN):pU (c8 aG 8 (E g9)) g dt j r g9:=
 have z:∀{f:C} {v:D},(kj f 8)=false→aG.lookup f=some v→(c8 aG 8 (E g9)).lookup f=some v:=λ L e=>(nk (tV L)).trans e
 ⟨(Oa m.f8).symm▸m.len,z rfl m.DK,z rfl m.nZ,z rfl m.uu,qy,z rfl m.zN,z rfl m.DL,z rfl m.zO,z rfl m.zM,z rfl m.zP,z rfl m.KZ⟩
theorem pU.ad2(m:pU aG g dt j r qN):pU (c8 aG 29 (.ref hN)) hN dt j r qN:=
 have z:∀{f:C} {v:D},(kj f 29)=false→aG.lookup f=some v→(c8 aG 29 (.ref hN)).lookup f=some v:=λ L e=>(nk (tV L)).trans e
 ⟨(Oa m.DL).symm▸m.len,z rfl m.DK,z rfl m.nZ,z rfl m.uu,z rfl m.f8,z rfl m.zN,qy,z rfl m.zO,z rfl m.zM,z rfl m.zP,z rfl m.KZ⟩
theorem aaQ(g9:C)(ak:ki a h T W aU j r qN)(M:Good a h n)(f:∀(J:St) (o:a0),lj ac n (.ref (a (.bl j))) 8 (E g9)=some J→Good a (up h (.bl j) (some o)) J→ki a (up h (.bl j) (some o)) T W aU j r g9→X):X:=
 ak.b7 λ aG g dt aw aB bZ dL=>f _ _ (x6 (M.at_ _ _ aw) rfl (fi aB.len (aE rfl))) (M.set aw) ⟨_,g,dt,cR _ _ _,aB.ad3,bZ,(bP _ _ (a5 rfl)).trans dL⟩
theorem aaP(ak:ki a h T W aU j r qN)(M:Good a h n)(i3:h (.a6 hN)=some (.li []))(f:∀(J:St) (o:a0),lj ac n (.ref (a (.bl j))) 29 (.ref hN)=some J→Good a (up h (.bl j) (some o)) J→ki a (up h (.bl j) (some o)) T W aU j r qN→X):X:=
 ak.b7 λ aG g dt aw aB bZ dL=>f _ _ (x6 (M.at_ _ _ aw) rfl (fi aB.len (aE rfl))) (M.set aw) ⟨_,hN,dt,cR _ _ _,aB.ad2,bZ,(bP _ _ (a5 rfl)).trans i3⟩
structure lW(a:bH)(h:aT)(T:B aP)(W:cw)(al:B (am×D))(aU:C→ap)(R:B b5)(F:C→C)(I:C→B (C×ap×C))(c:C):Prop where
 fS:c9 a h T W al aU R
 bl:j0 a h T W aU R F
 hx:qO R F
 im:∀l,l<4→∃xs,h (.cM l)=some (.li xs)∧es T xs (I l)
 io:nD W R I c
theorem ab9{s:C}(hs:s≤1):kD .bor (E (2+128*s)) (.ii 4)=some (E (6+128*s)):=ro (ak:=λ s=>kD .bor (E (2+128*s)) (.ii 4)=some (E (6+128*s))) hs rfl rfl
noncomputable def kO(F:C→C)(i x:C):C→Nat:=λ j=>if j=i then x else F j
end
end Mine
end
section
namespace Mine
variable{k j len aO:C}{p:av}{aV aQ bp:Y D}{i x:C}
section
variable{a:bH}{h:aT}{n:St}{T:B aP}{z:C}{W:cw}{aU:C→ap}{R:B b5}{al:B (am×D)}{F:C→C}{I:C→B (C×ap×C)}{X:Prop}
structure QG(h:aT)(T:B aP)(H:aT)(aC:B aP)(b i ae:C):Prop where
 ext:∃X,aC=T++X
 le:aC.length≤T.length+b
 off:∀r o,gZ r=false→r≠ .bl i→r≠ .cM ae→h r=some o→H r=some o
theorem c9.but{rI:aN}{H:aT}(ag:c9 a h T W al aU R)(fr:∀r,r≠rI→H r=h r)(c2:pC rI=false)(dW:hS rI=false):c9 a H T W al aU R:=
 ag.keep (λ r o k e=>(fr r λ L=>nomatch(L.symm▸c2:pC r=false).symm.trans k).trans e) (ag.bT.off λ r o k e=>(fr r λ L=>nomatch(L.symm▸dW:hS r=false).symm.trans k).trans e) λ q=>q
noncomputable def Gm:bk:=.cons (.asg 5 (.lst .nil)) (.cons (.b4 (.e (.aq (.v 3) (.ii 3))) (.cons (.ex (.append (.v 5) (.tup (.cons (.aq (.v 3) (.ii 0)) (.cons (.aq (.v 3) (.ii 1)) .nil))))) .nil) (.nil)) .nil)
noncomputable def OR:bk:=.cons (.dd [6,7,8] true (.at (.call 39 (.cons (.at (.v 0) 47) (.cons (.aq (.v 3) (.ii 0)) .nil))) 19) vE) .nil
noncomputable def x8:bk:=.cons (.b4 (.e (.aq (.v 3) (.ii 3))) (.cons (.o3 (.v 9) 8 .bor (.gl [77,70,95,78,69,87,83,76,79,84] (.ii 4))) .nil) (.nil)) .nil
noncomputable def Bf:bk:=.cons (.dd [7,8] true (.v 5) Bn) .nil
theorem adW{ae:C}(bT:c6 a h T)(M:Good a h n)(q:ba T k (dM W ae (ae-aO)))
  (f:∀aa aI acc,bS ac (runN ac z) Gm [some (.ref (a .eI)),aV,aQ,some (eX k j len p),bp,none,none,none,none,none] n=some (.br (hq a aV aQ (eX k j len p) bp n.length none none none none),aa)→b0 a h T 0 aa T aI→aI (.a6 n.length)=some (.li acc)→gV T acc (if p=true then [(dM W ae (ae-aO),j+1)]else [])→acc.length≤1→X):X:=by
 have b2:=b0.start bT M (.li [])
 cases p with
 |false=>exact f _ _ [] (dm z Gm [some (D.ref (a aN.eI)),aV,aQ,some (eX k j len false),bp,none,none,none,none,none] n _ ((rfl:de (n++[a0.li []]) (eX k j len false) (.ii 3)=some (.cj false))) _ rfl) b2.1 b2.2 trivial (fu _)
 |true=>
  have g1:=b2.1.put (c3:=.li ([]++[.tup [E k,E (j+1)]])) b2.2 (M.fresh (cJ _))
  have s:=df b2.1.good b2.2
  exact f _ _ _ (dm z Gm [some (D.ref (a aN.eI)),aV,aQ,some (eX k j len true),bp,none,none,none,none,none] n _ ((rfl:de (n++[a0.li []]) (eX k j len true) (.ii 3)=some (.cj true))) _ rfl (hQ s) _ ((rfl:de (n++[a0.li []]) (eX k j len true) (.ii 0)=some (E k))) _ ((rfl:de (n++[a0.li []]) (eX k j len true) (.ii 1)=some (E (j+1)))) _ (m0 s (pG (aE rfl)))) g1.1 g1.2 ⟨⟨k,rfl,q⟩,trivial⟩ (cJ _)
theorem adX{m:C}{bN bm eK:Y D}(ak:ki a h T W aU i (af R i) (F i))(M:Good a h n)(hs:(af R i).aM≤1)(m8:F i=2+128*(af R i).aM)
  (f:∀(bW:St) (cQ:aT),bS ac (runN ac z) x8 (hq a aV aQ (eX k j len p) bp m bN bm eK (some (.ref (a (.bl i))))) n=some (.br (hq a aV aQ (eX k j len p) bp m bN bm eK (some (.ref (a (.bl i))))),bW)→Good a cQ bW→ki a cQ T W aU i (af R i) (if p=true then 6+128*(af R i).aM else F i)→(∀r,r≠ .bl i→cQ r=h r)→X):X:=by
 cases p with
 |false=>exact f n h (dm z x8 (hq a aV aQ (eX k j len false) bp m bN bm eK (some (D.ref (a (aN.bl i))))) n _ ((rfl:de n (eX k j len false) (.ii 3)=some (.cj false))) _ rfl) M ak λ _ _=>rfl
 |true=>
  exact aaQ (6+128*(af R i).aM) ak M λ bW o O d0 r5=>ak.at_ M λ _ _ _ bl _ at_=>
   have Sy:d7 n (.ref (a (.bl i))) 8=some (E (2+128*(af R i).aM)):=(at_ bl.f8).trans (an (λ x=>some (E x)) m8);
   f bW _ (dm z x8 (hq a aV aQ (eX k j len true) bp m bN bm eK (some (D.ref (a (aN.bl i))))) n _ ((rfl:de n (eX k j len true) (.ii 3)=some (.cj true))) _ rfl _ Sy _ (ab9 hs) _ O) d0 r5 λ r L=>bP _ _ L
theorem G1{F:C→C}:kO F i x i=x:=if_pos rfl
theorem BC{F:C→C}(h:j≠i):kO F i x j=F j:=if_neg h
theorem No(h:j≠i):aN.bl j≠ .bl i:=λ e=>h (aN.bl.inj e)
theorem Nr(h:j≠i):aN.cM j≠ .cM i:=λ e=>h (aN.cM.inj e)
theorem aeS{c:C}{nd:D}(S:lW a h T W al aU R F I c)(M:Good a h n)(ay:i<R.length)(e6:aO< (af R i).ah)(bt:j∈gv R aO (af R i).nm (af R i).aM)(q:ba T k (dM W (af R i).ah ((af R i).ah-aO)))(rQ:∀e∈I (af R i).ah,e.1=i+1→e.2.2=900)(m8:F i=2+128*(af R i).aM)(hc:c≤20)(a3:T.length<300000)
  (f:∀(J:St) (aC:B aP) (H:aT),runN ac (z+34) 46 [.ref (a .eI),E (66+(af R i).ah),E (i+1),eX k j len p,nd] n=some (.nn,J)→Good a H J→lW a H aC W al aU R (kO F i (if p=true then 6+128*(af R i).aM else F i)) (mI R I i (ho W R I i aO j p)) (c+1)→QG h T H aC 2400 i (af R i).ah→X):X:=by
 have ag:=S.fS
 have hF:=ag.eY _ (h3 (iP ay))
 have f0:=rv.mp bt
 have uG:=hF.1
 have qn:aO<4:=fa e6 (lu uG)
 have tN:(af R i).ah<4:=pW uG
 have J6:20+3*c≤80:=fB (gU 3 hc) 20
 have kB:h (.a6 n.length)=none:=M.fresh (cJ _)
 refine adW (z:=z+33) (j:=j) (len:=len) (p:=p) (aV:=some (E (66+(af R i).ah))) (aQ:=some (E (i+1))) (bp:=some nd) ag.bT M q λ aa aI acc aw cW hO acR jk=>?_
 have⟨xs,hxs,imx⟩:=S.im aO qn
 have uK:=a' (S.io.len aO qn) J6
 have d4:acc.length+(I aO).length<900:=cn (hv jk uK) (aE rfl)
 have d5:T.length+0+24*(I aO).length<400000:=fa (r6 a3 (gU 24 uK)) (aE rfl)
 refine aeA (z:=z) (ae:=(af R i).ah) (aO:=aO) (j:=j) (eW:=k) (m:=n.length) (len:=len) (p:=p) (aV:=some (E (66+(af R i).ah))) (aQ:=some (E (i+1))) (bp:=some nd) (bB:=none) (dc:=.cM aO) (l:=xs) (bN:=none) (bm:=none) (eK:=none) ag uG e6 q rfl hxs kB ag.dc (I aO) imx (S.io.each aO qn) cW hO acR d4 d5 λ ao cL bJ lC hV gF hE aB b8 ix FY=>?_
 have N8:gV cL lC (ho W R I i aO j p):=FY
 have pM:=ag.go cW
 have mN:=ag.go b8
 have Cj:=S.bl.go b8
 have NH:=NG (W:=W) (R:=R) (i:=i) (j:=j) (p:=p) S.io qn
 have Fy:=Fx (p:=p) ag.iT S.io uG e6 f0.1 f0.2.1
 refine v' (ag.iT.lD uG (d:=(af R i).ah-aO) (nJ ..)) (λ ks um fL xp ab0=>?_) (cW.eT q)
 rw[r9 (h4 e6)]at um
 have Vu:bS ac (runN ac (z+33)) OR (hq a (some (E (66+(af R i).ah))) (some (E (i+1))) (eX k j len p) (some nd) n.length none none none none) aa=some (.br (hq a (some (E (66+(af R i).ah))) (some (E (i+1))) (eX k j len p) (some nd) n.length hV gF hE none),ao):=(dm (z+33) OR (hq a (some (E (66+(af R i).ah))) (some (E (i+1))) (eX k j len p) (some nd) (f' n) none none none none) aa _ (pM.mc cW.good) _ ((rfl:de aa (eX k j len p) (.ii 0)=some (E k))) _ _ (afH (z:=z+30) pM cW.good qn um) _ (pM.PI cW.good qn) _ (iz (cW.good.at_ _ _ (cW.off rfl hxs))) (imx.len▸a' uK (aE rfl)) _ _ aB)
 have Tb:=(K8 (S.hx i ay) hF.2.2).2.2.2
 have lp:=GK (df b8.good ix)
 have Vx:∀{he},bS ac (runN ac (z+33)) (x8.app Bf) (hq a (some (E (66+(af R i).ah))) (some (E (i+1))) (eX k j len p) (some nd) n.length hV gF hE (some (.ref (a (.bl i))))) ao=he→bS ac (runN ac (z+33)) (.cons (.asg 9 (.aq (.at (.at (.v 0) 47) 15) (.v 2))) (.cons (.b4 (.and (.cons (.e (.v 5)) (.cons (.e (.bin .band (.at (.v 9) 8) (.gl [77,70,95,65,66,83,84,82,65,67,84] (.ii 8)))) .nil))) (.cons (.bad) .nil) (.nil)) (x8.app Bf))) (hq a (some (E (66+(af R i).ah))) (some (E (i+1))) (eX k j len p) (some nd) n.length hV gF hE none) ao=he:=λ e=>
  (Cj i ay).at_ b8.good λ _ _ _ bl _ at_=>by
   have Vt:ci ac (runN ac (z+33)) (.aq (.at (.at (.v 0) 47) 15) (.v 2)) (hq a (some (E (66+(af R i).ah))) (some (E (i+1))) (eX k j len p) (some nd) n.length hV gF hE none) ao=some (.ref (a (.bl i)),ao):=(hI (z+33) ((((ab.v 0).at 47).at 15).aq (ab.v 2)) (hq a (some (E (66+(af R i).ah))) (some (E (i+1))) (eX k j len p) (some nd) (f' n) hV gF hE none) ao _ (mN.mc b8.good) _ ((mN.aM.at_ b8.good).1) _ (mN.qo b8.good ay))
   have t:fs ac (runN ac (z+33)) (.and (.cons (.e (.v 5)) (.cons (.e (.bin .band (.at (.v 9) 8) (.gl [77,70,95,65,66,83,84,82,65,67,84] (.ii 8)))) .nil))) (hq a (some (E (66+(af R i).ah))) (some (E (i+1))) (eX k j len p) (some nd) n.length hV gF hE (some (.ref (a (.bl i))))) ao=some (false,ao):=by
    cases w:lC.isEmpty with
    |true=>rw[w]at lp;exact(je (z+33) (Mine.T.and (fc.cons (Mine.T.e (ab.v 5)) (fc.cons (Mine.T.e (ab.bin iU.band ((ab.v 9).at 8) (ab.gl [77,70,95,65,66,83,84,82,65,67,84] (D.ii 8)))) fc.nil))) (hq a (some (E (66+(af R i).ah))) (some (E (i+1))) (eX k j len p) (some nd) (f' n) hV gF hE (some (D.ref (a (aN.bl i))))) ao _ lp)
    |false=>rw[w]at lp;exact(je (z+33) (Mine.T.and (fc.cons (Mine.T.e (ab.v 5)) (fc.cons (Mine.T.e (ab.bin iU.band ((ab.v 9).at 8) (ab.gl [77,70,95,65,66,83,84,82,65,67,84] (D.ii 8)))) fc.nil))) (hq a (some (E (66+(af R i).ah))) (some (E (i+1))) (eX k j len p) (some nd) (f' n) hV gF hE (some (D.ref (a (aN.bl i))))) ao _ lp _ (at_ bl.f8) _ Tb _ ((rfl:ig ao (.ii 0)=some false)))
   exact aR (aR Vt rfl) (aR (aR t (if_neg mM)) e)
 refine adX (z:=z+33) (k:=k) (j:=j) (len:=len) (m:=n.length) (p:=p) (aV:=some (E (66+(af R i).ah))) (aQ:=some (E (i+1))) (bp:=some nd) (bN:=hV) (bm:=gF) (eK:=hE) (Cj i ay) b8.good hF.2.2 m8 λ bW cQ bZ d0 r5 lN=>?_
 have Qw:=mN.but lN rfl rfl
 have⟨bf,hys,imy⟩:=S.im (af R i).ah tN
 have XY:=a' (S.io.len (af R i).ah tN) J6
 have ph:cQ (.a6 n.length)=some (.li lC):=(lN _ (a5 rfl)).trans ix
 refine aeD (z:=z+31) (ae:=(af R i).ah) (i:=i) (m:=n.length) (aW:=some (eX k j len p)) (bp:=some nd) (bN:=hV) (bB:=some (.ref (a (.bl i)))) (l:=lC) (bm:=gF) (eK:=hE) tN _ N8 Qw d0 ((lN _ (a5 rfl)).trans (b8.off rfl hys)) (imy.more λ q=>b8.eT q) ph (NE (W:=W) (i:=i) (p:=p) S.io qn f0.2.1) (λ x aA L y bI=>?_) (cn (hv XY (a' NH qn)) (aE rfl)) λ eP hP kc Oj Ok dL hZ Xg YS vh Qx=>?_
 ·have⟨r,fV,gP,_⟩:=Fy y bI
  rw[rQ x aA L,gP]
  exact Cp (cn (a' fV ag.dc) (aE rfl))
 have zI:bS ac (runN ac (z+33)) Bf (hq a (some (E (66+(af R i).ah))) (some (E (i+1))) (eX k j len p) (some nd) n.length hV gF hE (some (.ref (a (.bl i))))) bW=some (.br (hq a (some (E (66+(af R i).ah))) (some (E (i+1))) (eX k j len p) (some nd) n.length hV Oj Ok (some (.ref (a (.bl i))))),eP):=(dm (z+33) Bf (hq a (some (E (66+(af R i).ah))) (some (E (i+1))) (eX k j len p) (some nd) (f' n) hV gF hE (some (D.ref (a (aN.bl i))))) bW _ (iz (df d0 ph)) (N8.len▸a' NH (a' qn (aE rfl))) _ _ dL)
 refine f eP cL hP (A7 (z:=z+33) (f:=46) (b6:=[.ref (a .eI),E (66+(af R i).ah),E (i+1),eX k j len p,nd]) (r:=.br (hq a (some (E (66+(af R i).ah))) (some (E (i+1))) (eX k j len p) (some nd) n.length hV Oj Ok (some (.ref (a (.bl i)))))) rfl rfl ((j9 aw).trans ((j9 Vu).trans (Vx ((j9 bZ).trans zI))))) hZ ⟨Qx,λ fT lI=>?_,λ fT lI=>?_,λ l hl=>?_,PR ag.iT S.io uG e6 f0.1 f0.2.1 ag.dc rQ⟩ ⟨b8.jn.ext,a' b8.le (fB (a' (fB (gU 24 uK) 0) (aE rfl)) _),λ r o k iB kH e=>(vh r kH).trans ((lN r iB).trans (b8.off k e))⟩
 ·exact(f9 (fT=i)).elim (λ L=>by rw[L,G1];exact r5.bx (λ o e=>(vh _ (a5 rfl)).trans e) (λ g o e=>(vh _ (a5 rfl)).trans e) λ q=>q)
   λ L=>by rw[BC L];exact(Cj fT lI).bx (λ o e=>(vh _ (a5 rfl)).trans ((lN _ (No L)).trans e)) (λ g o e=>(vh _ (a5 rfl)).trans ((lN _ (a5 rfl)).trans e)) λ q=>q
 ·refine(f9 (fT=i)).elim (λ L=>?_) λ L=>by rw[BC L];exact S.hx fT lI
  rw[L,G1]
  cases p with
  |false=>exact S.hx i ay
  |true=>exact .inr rfl
 ·exact(f9 (l=(af R i).ah)).elim (λ L=>⟨kc,L▸Xg,(an (es cL kc) (if_pos L)).mpr (L▸YS)⟩)
   λ L=>let⟨bR,Ex,EE⟩:=S.im l hl;⟨bR,(vh _ (Nr L)).trans ((lN _ (a5 rfl)).trans (b8.off rfl Ex)),(an (es cL bR) (if_neg L)).mpr (EE.more λ q=>b8.eT q)⟩
end
end Mine
end
section
namespace Mine
variable{aO:B C}
noncomputable def mC(aO:B C)(x:C):D:=.tup [E (aO.getD x 0+1),E x]
noncomputable def hG(aO:B C):B D:=(ck aO.length).map (mC aO)
noncomputable def hD(aO:B C):B Nat:=(ck 4).flatMap λ l=>(ck aO.length).filter λ x=>aO.getD x 0==l
noncomputable def gX(rev:av)(cz cD dp:C):B Nat:=if rev then dx dp 3++dx cD 2++dx cz 1 else dx cz 1++dx cD 2++dx dp 3
noncomputable def Aj(aO:B C):Y (B C):=if aO.length<2 then some (ck aO.length)else(oc (λ i j=>E3 ((hG aO).getD i .nn) ((hG aO).getD j .nn)) aO.length (CI aO.length)).map λ p=>p.toList
theorem Ov{i:C}(h:i<aO.length):(hG aO).getD i .nn=mC aO i:=sD (i9 (yF h))
theorem aem:pJ (hG aO)=(Aj aO).map λ is=>is.map λ i=>(hG aO).getD i .nn:=by
 have len:(hG aO).length=aO.length:=(cG ..).trans gB
 unfold pJ Aj
 rw[len]
 exact(f9 (aO.length<2)).elim (λ L=>by rw[if_pos L,if_pos L];exact an some (pS λ i m=>(Ov (ga.mp m)).symm)) λ L=>by rw[if_neg L,if_neg L];exact(Option.map_map ..).symm
noncomputable def sx(rev:av)(cz cD dp:C):Bool:=decide (Aj (gX rev cz cD dp)=some (hD (gX rev cz cD dp)))
theorem UT:((ck 5).all λ cz=>(ck 5).all λ cD=>(ck 5).all λ dp=>sx true cz cD dp&&sx false cz cD dp)=true:=by kernel_rfl
theorem ub{p:C→av}(a:(ck 5).all p=true){c:C}(h:c≤4):p c=true:=g'.mp a c (ga.mpr (pW h))
theorem FM{x:C}:x∈hD aO↔x<aO.length∧aO.getD x 0<4:=
 List.mem_flatMap.trans ⟨λ⟨l,ax,aH⟩=>have q:=oP.mp aH;⟨ga.mp q.1,eq_of_beq q.2▸ga.mp ax⟩,λ h=>⟨aO.getD x 0,ga.mpr h.2,oP.mpr ⟨ga.mpr h.1,lE _⟩⟩⟩
theorem ael{rev:av}{cz cD dp:C}(ax:cz≤4)(aH:cD≤4)(cI:dp≤4):pJ (hG (gX rev cz cD dp))=some ((hD (gX rev cz cD dp)).map (mC (gX rev cz cD dp))):=by
 have a:=dF.mp (ub (p:=λ dp=>sx true cz cD dp&&sx false cz cD dp) (ub (p:=λ cD=>(ck 5).all λ dp=>sx true cz cD dp&&sx false cz cD dp) (ub UT ax) aH) cI)
 have b:Aj (gX rev cz cD dp)=some (hD (gX rev cz cD dp)):=gi (Qt (motive:=λ rev=>sx rev cz cD dp=true) a.2 a.1 rev)
 rw[aem,b]
 exact an some (pS λ i m=>Ov (FM.mp m).1)
end Mine
end
section
namespace Mine
variable{nm aM j c aO i:C}
section
variable{a:bH}{h:aT}{n:St}{T:B aP}{z:C}{W:cw}{aU:C→ap}{R:B b5}{al:B (am×D)}{F:C→C}{I:C→B (C×ap×C)}{X:Prop}
theorem adU(ax:j<R.length)(cI:(af R j).nm=nm)(gh:(af R j).aM=aM):∀{p:av},(af R j).ah<c→(∀aO j f4,scan R nm aM c p=some (aO,j,f4)→X)→X:=by
 induction c with
 |zero=>exact λ h=>nomatch h
 |succ c aZ=>
  intro p aH f
  cases e:gv R c nm aM with
  |cons x r=>exact f _ _ _ (Be e)
  |nil=>
   have ne:(af R j).ah≠c:=λ L=>nomatch(e▸rv.mpr ⟨ax,L,cI,gh⟩:j∈ [])
   exact aZ (Nat.lt_of_le_of_ne (ls aH) ne) λ aO j f4 s=>f aO j f4 ((x7 e).trans s)
theorem OQ{f4:av}:∀{p:av},scan R nm aM c p=some (aO,j,f4)→aO<c∧j∈gv R aO nm aM:=by
 induction c with
 |zero=>exact λ e=>nomatch e
 |succ c aZ=>
  intro p e
  cases cl:gv R c nm aM with
  |cons x r=>
   have L:=ll (Be cl) e
   cases L
   exact⟨qU _,cl▸.head _⟩
  |nil=>exact⟨pX (aZ ((x7 cl).symm.trans e)).1,(aZ ((x7 cl).symm.trans e)).2⟩
theorem AR(b9:ip R c)(ay:i<R.length)(be:(af R i).eM=true)(f:∀aO j p,scan R (af R i).nm (af R i).aM (af R i).ah false=some (aO,j,p)→X):X:=
 have⟨q,dv,d',cO,j8⟩:=b9.C3 _ (h3 (iP ay)) be
 have⟨j,bt⟩:=List.getElem?_of_mem dv
 have e:=adE bt
 adU (mr bt) (e.symm▸cO) (e.symm▸j8) (e.symm▸d') f
noncomputable def ka(W:cw)(R:B b5)(s:(C→C)×(C→B (C×ap×C)))(i:C):(C→C)×(C→B (C×ap×C)):=
 match scan R (af R i).nm (af R i).aM (af R i).ah false with
 |some (aO,j,p)=>(kO s.1 i (if p=true then 6+128*(af R i).aM else s.1 i),mI R s.2 i (ho W R s.2 i aO j p))
 |none=>s
theorem Gw{s:(C→C)×(C→B (C×ap×C))}{p:av}(e:scan R (af R i).nm (af R i).aM (af R i).ah false=some (aO,j,p)):ka W R s i=(kO s.1 i (if p=true then 6+128*(af R i).aM else s.1 i),mI R s.2 i (ho W R s.2 i aO j p)):=
 an (λ x:Y (C×C×av)=>match x with|some (aO,j,p)=>(kO s.1 i (if p=true then 6+128*(af R i).aM else s.1 i),mI R s.2 i (ho W R s.2 i aO j p))|none=>s) e
theorem lW.go{H:aT}{aC:B aP}{J:St}{b:C}(S:lW a h T W al aU R F I c)(x:b0 a h T b J aC H):lW a H aC W al aU R F I c:=
 ⟨S.fS.go x,S.bl.go x,S.hx,λ l hl=>let⟨xs,e,im⟩:=S.im l hl;⟨xs,x.off rfl e,im.more λ q=>x.eT q⟩,S.io⟩
noncomputable def aa':aN→av
 | .bl _| .cM _=>false
 |_=>true
noncomputable def rl(r:aN):Bool:=!gZ r&&aa' r
theorem xo{r:aN}(h:rl r=true):gZ r=false:=(tI _).mp (dF.mp h).1
theorem acj{nd:D}(S:lW a h T W al aU R F I c)(M:Good a h n)(ay:i<R.length)(be:(af R i).eM=true)(rQ:∀e∈I (af R i).ah,e.1=i+1→e.2.2=900)(m8:F i=2+128*(af R i).aM)(hc:c≤20)(a3:T.length<200000)
  (f:∀(J:St) (aC:B aP) (H:aT),runN ac (z+38) 45 [.ref (a .eI),E (66+(af R i).ah),E (i+1),nd] n=some (.nn,J)→Good a H J→lW a H aC W al aU R (ka W R (F,I) i).1 (ka W R (F,I) i).2 (c+1)→(∃X,aC=T++X)→aC.length≤T.length+4000→(∀r o,rl r=true→h r=some o→H r=some o)→X):X:=by
 refine AR S.fS.inv ay be λ aO j p aS=>?_
 refine aaK (z:=z) S.fS S.bl S.hx M ay aS (fi a3 (aE rfl)) λ aa bX aI k aw d' e6 bt cW=>?_
 have f0:=rv.mp bt
 have oV:=S.go cW
 have it:=Ww (l:=aO) (nm:=(af R i).nm) (aM:=(af R i).aM) S.fS.inv
 have d4:bX.length<201300:=cn cW.le (nI a3 1300)
 refine abL (z:=z+1) (len:=(gv R aO (af R i).nm (af R i).aM).length) (p:=p) oV.fS oV.bl oV.hx cW.good ay f0.1 e6 f0.2.1 f0.2.2.1 d' it (fi d4 (aE rfl)) λ ao cL bJ aB b8=>?_
 have So:=oV.go b8
 have sF:=cW.trans b8
 refine aeS (z:=z+3) (p:=p) (len:=(gv R aO (af R i).nm (af R i).aM).length) (nd:=nd) So b8.good ay e6 bt (b8.eT d') rQ m8 hc (cn b8.le (fa (nI d4 24) (aE rfl))) λ bW lB cQ bZ d0 iq ge=>?_
 have mg:=b0.start iq.fS.bT d0 (.li [])
 have lA:=iq.go mg.1
 refine aaP (lA.bl i ay) mg.1.good mg.2 λ jW o O h0 Cn=>?_
 have fr:∀r,r≠ .bl i→(up (up cQ (.a6 bW.length) (some (.li []))) (.bl i) (some o)) r=(up cQ (.a6 bW.length) (some (.li []))) r:=λ r L=>bP _ _ L
 have q0:lW a (up (up cQ (.a6 bW.length) (some (.li []))) (.bl i) (some o)) lB W al aU R (kO F i (if p=true then 6+128*(af R i).aM else F i)) (mI R I i (ho W R I i aO j p)) (c+1):=
  ⟨lA.fS.but fr rfl rfl,λ fT lI=>(f9 (fT=i)).elim (λ L=>L.symm▸Cn) λ L=>(lA.bl fT lI).bx (λ o e=>(fr _ (No L)).trans e) (λ g o e=>(fr _ (a5 rfl)).trans e) λ q=>q,iq.hx,λ l hl=>let⟨xs,e,im⟩:=lA.im l hl;⟨xs,(fr _ (a5 rfl)).trans e,im⟩,iq.io⟩
 have ie:ig ao (.ii 0)=some false:=rfl
 have hM:runN ac (z+38) 45 [.ref (a .eI),E (66+(af R i).ah),E (i+1),nd] n=some (.nn,jW):=(q0.bl j f0.1).b7 λ aG g dt aV bl _ bp=>by
  have MZ:=df h0 bp
  exact(cN (z+37) 45 [D.ref (a aN.eI),E (66+(af R i).ah),E (i+1),nd] n rfl rfl _ _ aw _ ((rfl:cY .is (eX k j (gv R aO (af R i).nm (af R i).aM).length p) .nn aa=some false)) _ (oV.fS.mc cW.good) _ ((oV.fS.aM.at_ cW.good).1) _ (oV.fS.qo cW.good ay) _ (oV.fS.mc cW.good) _ ((oV.fS.aM.at_ cW.good).1) _ ((rfl:de aa (eX k j (gv R aO (af R i).nm (af R i).aM).length p) (.ii 1)=some (E (j+1)))) _ (oV.fS.qo cW.good f0.1) _ _ aB _ ie _ ((rfl:cY .eq (.ii 0) (.ii 0) ao=some true)) _ _ bZ _ O _ ((fk (h0.at_ _ _ aV)).trans bl.DL) _ (iz MZ) (aE rfl) _ _ (hg MZ))
 exact f jW lB _ hM h0 ((Gw (W:=W) (s:=(F,I)) aS).symm▸q0) (me sF.jn.ext ge.ext) (a' ge.le (a' (hb sF.le _) (fB (aE rfl:1300+24+2400≤4000) _))) λ r c3 k e=>(fr r λ L=>nomatch(L▸k:rl (.bl i)=true)).trans (mg.1.off (xo k) (ge.off r c3 (xo k) (λ L=>nomatch(L▸k:rl (.bl i)=true)) (λ L=>nomatch(L▸k:rl (.cM (af R i).ah)=true)) (sF.off (xo k) e)))
end
end Mine
end
section
namespace Mine
variable{m:C}{lo ay:am}{os:B C}{x:C}{nd:C→D}{i:C}
section
variable{a:bH}{h:aT}{n:St}{T:B aP}{z:C}{W:cw}{aU:C→ap}{R:B b5}{al:B (am×D)}{F:C→C}{I:C→B (C×ap×C)}{X:Prop}
theorem afO(z:C):∀{lo:C},upTo (lo:am) z=(pT lo z).map E:=by
 induction z with
 |zero=>exact rfl
 |succ z aZ=>exact λ{lo}=>an (E lo::·) (aZ (lo:=lo+1))
theorem Gt(hm:m≤1000):small (m:am)=true:=dF.mpr ⟨iO (QL (by decide: -(2:am)^62<0) (yy m)),iO (Int.lt_of_le_of_lt (QO.mpr hm) (by decide:((1000:C):am)<2^62))⟩
theorem adt{m:am}(h:small m=true):ov (.ii m)=some (.ew 0 m):=if_pos h
theorem Zc(h:small lo=true)(H:small ay=true):hR n (.ew lo ay)=some (upTo lo (ay-lo).toNat):=if_pos (dF.mpr ⟨h,H⟩)
theorem ady(hm:m≤1000):ov (.ii (m:am))=some (.ew 0 (m:am)):=adt (Gt hm)
theorem adx(hm:m≤1000):hR n (.ew 0 (m:am))=some ((ck m).map E):=(Zc (Gt (fu 1000)) (Gt hm)).trans (an some ((an (upTo 0) (an HK (Int.sub_zero (m:am)))).trans ((afO m).trans (an (eB E) Cg.symm))))
noncomputable def py(R:B b5)(nd:C→D)(os:B C):B D:=os.map λ j=>.tup [E (66+(af R j).ah),E (j+1),nd j]
noncomputable def fx(R:B b5)(os:B C):B Nat:=os.map λ j=>(af R j).ah
theorem Nb(aA:x<os.length):(fx R os).getD x 0=(af R (os.getD x 0)).ah:=sD (i9 (getD_at aA))
theorem mem_getD(aA:x<os.length):os.getD x 0∈os:=h3 (getD_at aA)
noncomputable def FO:bk:=(.cons (.asg 3 (.call 37 (.cons (.at (.v 0) 47) (.cons (.aq (.aq (.at (.v 0) 65) (.v 2)) (.ii 0)) .nil)))) (.cons (.ex (.append (.v 1) (.tup (.cons (.len (.call 43 (.cons (.at (.at (.v 0) 63) 56) (.cons (.v 3) .nil)))) (.cons (.v 2) .nil))))) .nil))
noncomputable def qx(a:bH)(aV bu cX cm o5 bN bm:Y D):aX:=[some (.ref (a .eI)),aV,bu,cX,cm,o5,bN,bm]
noncomputable def acg(z:C)(lo ay:am)(cf xs:B D)(env:aX)(n:St):Y (e0×St):=@fE (live (.ew lo ay) cf) (e1 (.ew lo ay) cf) (λ x aF J=>(di false [2] x aF).bind λ dH=>bS ac (runN ac (z+38)) FO dH J) xs env n
theorem ach{cf:B D}{cm o5 bN bm:Y D}(g7:c9 a h T W al aU R)(mh:∀i∈os,i<R.length)(qg:h .h9=some (.li (py R nd os)))(kB:h (.a6 m)=none)(xs:B C):∀{n:St} {bX:B aP} {aI:aT} {acc:B D} {b:C} {bu cX:Y D},(∀x∈xs,x<os.length)→b0 a h T b n bX aI→aI (.a6 m)=some (.li acc)→acc.length+xs.length<900→T.length+b+24*xs.length<300000→
  (∀(J:St) (aC:B aP) (H:aT) (fU eN:Y D),acg z lo ay cf (xs.map E) (qx a (some (.ref m)) bu cX cm o5 bN bm) n=some (.br (qx a (some (.ref m)) fU eN cm o5 bN bm),J)→b0 a h T (b+24*xs.length) J aC H→H (.a6 m)=some (.li (acc++xs.map (mC (fx R os))))→X)→X:=by
 induction xs with
 |nil=>exact λ{n bX aI acc b bu cX} aA go hm bO a3 f=>f n bX aI bu cX (hg trivial) go ((eZ acc).symm▸hm)
 |cons x xs aZ=>
  intro n bX aI acc b bu cX aA go hm bO a3 f
  have xc:=aA x (.head _)
  have rf:os.getD x 0<R.length:=mh _ (mem_getD xc)
  have ag:=g7.go go
  have hF:=ag.eY _ (h3 (iP rf))
  refine OS (z:=z+29) ag go.good (l:=(af R (os.getD x 0)).ah) (pW hF.1) (cn go.le (cn (d2 ..) (fi a3 (aE rfl)))) λ k ao cL bJ aw d' b8=>?_
  have mN:=ag.go b8
  refine Kh (z:=z+36) mN b8.good hF.1 d' λ aaL bW cQ ks aB jL X5 cl fL=>?_
  have len:=uY (df jL.good X5)
  rw[fL.len,cG,gB]at len
  have aq:=j7 (go.good.at_ _ _ (go.off (r:=.h9) rfl qg)) (i9 (f:=λ j=>D.tup [E (66+(af R j).ah),E (j+1),nd j]) (getD_at (x:=0) xc))
  have Ln:=b8.trans jL
  have ph:=Ln.a6 hm
  have VI:D.tup [E ((af R (os.getD x 0)).ah+1),E x]=mC (fx R os) x:=an (λ l=>D.tup [E (l+1),E x]) (Nb xc).symm
  have fY:=(go.trans Ln).put (c3:=.li (acc++[mC (fx R os) x])) ph.1 kB
  have st:bS ac (runN ac (z+38)) FO (qx a (some (.ref m)) (some (E x)) cX cm o5 bN bm) n=some (.br (qx a (some (.ref m)) (some (E x)) (some (E k)) cm o5 bN bm),bW.set m (.li (acc++[mC (fx R os) x]))):=by
   rw[←VI]
   exact(dm (z+38) FO (qx a (some (D.ref m)) (some (E x)) cX cm o5 bN bm) n _ (ag.mc go.good) _ (ag.zE go.good) _ aq _ rfl _ _ aw (hQ (b8.a6 hm).2) _ (mN.zD b8.good) _ (mN.BR b8.good) _ _ aB _ len _ (m0 ph.2 (pG (fi (cn (d2 ..) bO) (aE rfl)))))
  exact aZ (λ y m=>aA y (.tail _ m)) (fY.1.mono (fB (aE rfl:3+0≤24) b)) fY.2 (cn (dh (by rw[fh];exact jB ..)) bO) (rx (b:=T.length+b)▸a3) λ J aC H fU eN e hN ib=>
   f J aC H fU eN (fd trivial st e) (hN.mono (dh rx)) (ib.trans (an (λ l=>some (a0.li l)) (mP ..).symm))
noncomputable def FP:bk:=(.cons (.o1 [5,6,7] (.aq (.at (.v 0) 65) (.v 2))) (.cons (.ex (.call 45 (.cons (.v 0) (.cons (.v 5) (.cons (.v 6) (.cons (.v 7) .nil)))))) .nil))
theorem WK{s:(C→C)×(C→B (C×ap×C))}(b9:ip R 8)(ay:i<R.length)(be:(af R i).eM=true):(∀jN,jN≠i→(ka W R s i).1 jN=s.1 jN)∧∀l,∀e∈(ka W R s i).2 l,e.1=i+1∨e∈s.2 l:=
 AR b9 ay be λ aO j p aS=>(Gw (W:=W) (s:=s) aS).symm▸⟨λ jN z=>BC z,λ l=>tu (λ cf=>∀e∈cf,e.1=i+1∨e∈s.2 l) (λ _ _ e b3=>(nG.mp b3).elim .inr λ b3=>(hu.mp b3).elim λ x w=>.inl (w.2▸rfl)) λ e b3=>.inr b3⟩
noncomputable def nO(R:B b5)(F:C→C)(I:C→B (C×ap×C))(i:C):Prop:=i<R.length∧(af R i).eM=true∧F i=2+128*(af R i).aM∧∀e∈I (af R i).ah,e.1=i+1→e.2.2=900
theorem nO.step{j:C}(b9:ip R 8)(ay:nO R F I i)(ne:j≠i)(p:nO R F I j):nO R (ka W R (F,I) i).1 (ka W R (F,I) i).2 j:=
 have s:=WK (W:=W) (s:=(F,I)) b9 ay.1 ay.2.1
 ⟨p.1,p.2.1,(s.1 _ ne).trans p.2.2.1,λ e b3 L=>(s.2 _ e b3).elim (λ w=>absurd (oS (L.symm.trans w)) ne) λ b3=>p.2.2.2 e b3 L⟩
noncomputable def abU(z m:C)(l xs:B D)(env:aX)(n:St):Y (e0×St):=@fE (live (.ref m) l) (e1 (.ref m) l) (λ x aF J=>(di true [4,2] x aF).bind λ dH=>bS ac (runN ac (z+38)) FP dH J) xs env n
theorem aci{l:B D}{aV aW:Y D}(xs:B C):∀{n:St} {T:B aP} {h:aT} {F:C→C} {I:C→B (C×ap×C)} {c:C} {bu cm o5 bN bm:Y D},(∀x∈xs,x<os.length)→(xs.map λ x=>os.getD x 0).Nodup→(∀x∈xs,nO R F I (os.getD x 0))→lW a h T W al aU R F I c→Good a h n→h .h9=some (.li (py R nd os))→h (.a6 m)=some (.li l)→c+xs.length≤20→T.length+4000*xs.length<200000→
  (∀(J:St) (aC:B aP) (H:aT) (aF:aX),abU z m l (xs.map (mC (fx R os))) (qx a aV bu aW cm o5 bN bm) n=some (.br aF,J)→Good a H J→lW a H aC W al aU R ((xs.map λ x=>os.getD x 0).foldl (ka W R) (F,I)).1 ((xs.map λ x=>os.getD x 0).foldl (ka W R) (F,I)).2 (c+xs.length)→(∃X,aC=T++X)→aC.length≤T.length+4000*xs.length→(∀r o,rl r=true→h r=some o→H r=some o)→X)→X:=by
 induction xs with
 |nil=>exact λ{n T h F I c bu cm o5 bN bm} aA om bM S M qg hm hc a3 f=>f n T h _ (hg (df M hm)) M S ⟨[],(eZ T).symm⟩ (cJ _) λ r o _ e=>e
 |cons x xs aZ=>
  intro n T h F I c bu cm o5 bN bm aA om bM S M qg hm hc a3 f
  have om:=nH.mp om
  have xc:=aA x (.head _)
  have n8:=bM x (.head _)
  refine acj (z:=z) (nd:=nd (os.getD x 0)) S M n8.1 n8.2.1 n8.2.2.2 n8.2.2.1 (a' (d2 ..) hc) (cn (d2 ..) a3) λ aa bX aI aw dJ bU ex pn qv=>?_
  have aq:=j7 (M.at_ _ _ qg) (i9 (f:=λ j=>D.tup [E (66+(af R j).ah),E (j+1),nd j]) (getD_at (x:=0) xc))
  have st:bS ac (runN ac (z+38)) FP (qx a aV (some (E x)) aW (some (E ((fx R os).getD x 0+1))) o5 bN bm) n=some (.br (qx a aV (some (E x)) aW (some (E ((fx R os).getD x 0+1))) (some (E (66+(af R (os.getD x 0)).ah))) (some (E (os.getD x 0+1))) (some (nd (os.getD x 0)))),aa):=(dm (z+38) FP (qx a aV (some (E x)) aW (some (E ((fx R os).getD x 0+1))) o5 bN bm) n _ (S.fS.zE M) _ aq _ rfl _ _ aw)
  exact aZ (λ y bI=>aA y (.tail _ bI)) om.2 (λ y bI=>nO.step S.fS.inv n8 (λ L=>om.1 (hu.mpr ⟨y,bI,L⟩)) (bM y (.tail _ bI))) bU dJ (qv _ _ rfl qg) (qv _ _ rfl hm) (a' (dh (jB ..)) hc) (cn (a' (hb pn _) (dh pt)) a3) λ J aC H aF aB dG fC wS of FK=>
   f J aC H aF (fd (df M hm) st aB) dG ((jB c xs.length)▸fC) (me ex wS) (a' of (a' (hb pn _) (dh pt))) λ r o k e=>FK r o k (qv r o k e)
end
end Mine
end
section
namespace Mine
variable{aO:B C}{rev:av}{cz dp:C}{os:B C}
theorem NX:(hD aO).Nodup:=by
 unfold hD List.Nodup
 rw[List.pairwise_flatMap]
 exact⟨λ l _=>wc.filter _,wc.imp_of_mem λ _ _ ne x aA y bI e=>ne ((eq_of_beq (oP.mp aA).2).symm.trans (e▸eq_of_beq (oP.mp bI).2))⟩
theorem UU:((ck 5).all λ cz=>(ck 5).all λ cD=>(ck 5).all λ dp=>(kk (hD (gX true cz cD dp)).length 12&&kk (gX true cz cD dp).length 12)&&(kk (hD (gX false cz cD dp)).length 12&&kk (gX false cz cD dp).length 12))=true:=by kernel_rfl
theorem acb{cD:C}(ax:cz≤4)(aH:cD≤4)(cI:dp≤4):(hD (gX rev cz cD dp)).length≤12∧(gX rev cz cD dp).length≤12:=
 have a:=dF.mp (ub (p:=λ dp=>(kk (hD (gX true cz cD dp)).length 12&&kk (gX true cz cD dp).length 12)&&(kk (hD (gX false cz cD dp)).length 12&&kk (gX false cz cD dp).length 12)) (ub (p:=λ cD=>(ck 5).all λ dp=>(kk (hD (gX true cz cD dp)).length 12&&kk (gX true cz cD dp).length 12)&&(kk (hD (gX false cz cD dp)).length 12&&kk (gX false cz cD dp).length 12)) (ub UU ax) aH) cI);
 have g:∀{x y:C},(kk x 12&&kk y 12)=true→x≤12∧y≤12:=λ h=>⟨aE (dF.mp h).1,aE (dF.mp h).2⟩;
 Qt (motive:=λ rev=>(hD (gX rev cz cD dp)).length≤12∧(gX rev cz cD dp).length≤12) (g a.2) (g a.1) rev
theorem Nf(h:os.Nodup){xs:B C}(nd:xs.Nodup)(aA:∀x∈xs,x<os.length):(xs.map λ x=>os.getD x 0).Nodup:=
 tR.mpr (nd.imp_of_mem λ ax aH ne e=>ne ((Cb (aA _ ax) h).mp ((getD_at (aA _ ax)).trans ((an some e).trans (getD_at (aA _ aH)).symm))))
section
variable{a:bH}{h:aT}{n:St}{T:B aP}{z:C}{W:cw}{aU:C→ap}{R:B b5}{al:B (am×D)}{F:C→C}{I:C→B (C×ap×C)}{X:Prop}
theorem aen{m:C}{bf:B D}(e:n[m]? =some (.li (hG aO)))(hl:aO.length<64)(s:pJ (hG aO)=some bf)(bI:bf.length<64):vD n (.ref m)=some bf:=
 (an (sT λ xs=>if xs.length<64∧xs.all m'=true then(pJ xs).bind λ bf=>if bf.length<64 then some bf else none else none) e).trans ((if_pos ⟨by unfold hG;rw[cG,gB];exact hl,g'.mpr λ x m=>(hu.mp m).elim λ y w=>w.2▸rfl⟩).trans (aR s (if_pos bI)))
noncomputable def mB(R:B b5)(os:B C):B Nat:=(hD (fx R os)).map λ x=>os.getD x 0
theorem ack{nd:C→D}{cD:C}(S:lW a h T W al aU R F I 0)(M:Good a h n)(mh:∀i∈os,nO R F I i)(Eo:os.Nodup)(e6:fx R os=gX rev cz cD dp)(ax:cz≤4)(aH:cD≤4)(cI:dp≤4)(qg:h .h9=some (.li (py R nd os)))(a3:T.length<100000)
  (f:∀(J:St) (aC:B aP) (H:aT),runN ac (z+39) 44 [.ref (a .eI)] n=some (.nn,J)→Good a H J→lW a H aC W al aU R ((mB R os).foldl (ka W R) (F,I)).1 ((mB R os).foldl (ka W R) (F,I)).2 ((mB R os).length)→(∃X,aC=T++X)→aC.length≤T.length+60000→(∀r o,rl r=true→h r=some o→H r=some o)→X):X:=by
 have lM:(fx R os).length=os.length:=cG ..
 have qk:=acb (rev:=rev) ax aH cI
 rw[←e6]at qk
 have oq:os.length≤12:=lM▸qk.2
 have dc:(ck os.length).length≤12:=gB.symm▸oq
 have b2:=b0.start S.fS.bT M (.li [])
 have Oi:=a' oq (aE rfl:12≤1000)
 refine ach (z:=z) (nd:=nd) (os:=os) (m:=n.length) (lo:=0) (ay:=(os.length:am)) (cf:=(ck os.length).map E) (cm:=none) (o5:=none) (bN:=none) (bm:=none) (bu:=none) (cX:=none) S.fS (λ i ay=>(mh i ay).1) qg (M.fresh (cJ _)) (ck os.length) (λ x aA=>ga.mp aA) b2.1 b2.2 (cn (dh (jj _)) (cn dc (aE rfl))) (fa (r6 a3 (gU 24 dc)) (aE rfl)) λ aa bX aI fU eN aw cW hO=>?_
 have pn:bX.length≤T.length+288:=a' cW.le (fB (a' (fB (gU 24 dc) 0) (aE rfl)) _)
 have hO:aI (.a6 n.length)=some (.li (hG (fx R os))):=hO.trans (an (λ z=>some (a0.li ((ck z).map (mC (fx R os))))) lM.symm)
 have aet:pJ (hG (fx R os))=some ((hD (fx R os)).map (mC (fx R os))):=e6▸ael ax aH cI
 have g2:=b0.start cW.bT cW.good (.li ((hD (fx R os)).map (mC (fx R os))))
 have vS:∀x∈hD (fx R os),x<os.length:=λ x aA=>lM▸(FM.mp aA).1
 have uP:bX.length+4000*(hD (fx R os)).length<200000:=cn (hv pn (gU 4000 qk.1)) (fa (nI (nI a3 288) (4000*12)) (aE rfl))
 refine aci (z:=z) (nd:=nd) (os:=os) (m:=aa.length) (l:=(hD (fx R os)).map (mC (fx R os))) (aV:=some (.ref n.length)) (aW:=eN) (hD (fx R os)) (bu:=fU) (cm:=none) (o5:=none) (bN:=none) (bm:=none) vS (Nf Eo NX vS) (λ x aA=>mh _ (mem_getD (vS x aA))) ((S.go cW).go g2.1) g2.1.good (g2.1.off rfl (cW.off rfl qg)) g2.2 (a' (dh (jj _)) (a' qk.1 (aE rfl))) uP λ J aC H aF aB dG fC ex of FK=>?_
 have ZR:=uY (b2.1.good.at_ _ _ (b2.1.off (r:=.h9) rfl qg))
 have E7:∀{α c4:Type} {f:α→c4} {l:B α} {b:C},l.length≤12→12≤b→(l.map f).length≤b:=λ p q=>(cG ..).symm▸a' p q
 have A8:=aen (df cW.good hO) (lM.symm▸cn oq (aE rfl)) aet (pW (E7 qk.1 (aE rfl)))
 have ab6:(mB R os).length=0+(hD (fx R os)).length:=(cG ..).trans (jj _).symm
 have ZQ:aC.length≤T.length+60000:=a' of (a' (hv pn (gU 4000 qk.1)) (fB (aE rfl:288+4000*12≤60000) _))
 have oD:((ck os.length).map E).length≤100000:=E7 dc (aE rfl)
 have tE:((hD (fx R os)).map (mC (fx R os))).length≤100000:=E7 qk.1 (aE rfl)
 have Ho:=ady Oi
 have agl:hR (n++[a0.li []]) (.ew 0 (os.length:am))=some ((ck os.length).map E):=adx Oi
 exact f J aC H (cN (z+38) 44 [D.ref (a aN.eI)] n rfl rfl _ ((S.fS.go b2.1).zE b2.1.good) _ ZR _ Ho _ agl oD _ _ aw _ A8 _ (iz (df g2.1.good g2.2)) tE _ _ aB) dG (ab6.symm▸fC) (me cW.jn.ext ex) ZQ λ r o k e=>FK r o k (g2.1.off (xo k) (cW.off (xo k) e))
end
end Mine
end
section
namespace Mine
variable{t i c:C}{aQ bp bq bh bj bK bB cE:Y D}{m:C}{bi aW:Y D}
section
variable{a:bH}{h:aT}{n:St}{T:B aP}{z:C}{W:cw}{R:B b5}{c5:C→C}{S:C→B (ap×C)}{X:Prop}
structure fg(a:bH)(h:aT)(T:B aP)(W:cw)(R:B b5)(c5:C→C)(S:C→B (ap×C))(t:C):Prop where
 lw:fP a h W
 bT:c6 a h T
 w:h .w=some (.ds (dE a t 8))
 rows:h .gA=some (.li ((ck R.length).map λ j=>.ref (a (.row j))))
 row:∀j,j<R.length→nN a h j (af R j) (c5 j) (S j)
 eY:∀r∈R,r.ah≤3∧(r.nm=109∨r.nm=110)∧r.aM≤1
 dc:R.length≤16
 lR:∀j,j<R.length→∀x∈S j,∃e,e≤(af R j).ah∧x.1=dM W (af R j).ah e
 mG:∀j,j<R.length→(S j).length≤(af R j).ah
theorem fg.go{H:aT}{aC:B aP}{J:St}{b:C}(ae:fg a h T W R c5 S t)(x:b0 a h T b J aC H):fg a H aC W R c5 S t:=
 ⟨ae.lw.go x,x.bT,x.off rfl ae.w,x.off rfl ae.rows,λ j bt=>(ae.row j bt).bx (bY.go x λ r k=>k.elim (λ e=>e▸rfl) λ e=>e▸rfl),ae.eY,ae.dc,ae.lR,ae.mG⟩
theorem fg.ok(ae:fg a h T W R c5 S t)(ay:i<R.length):(af R i).ah≤3∧((af R i).nm=109∨(af R i).nm=110)∧(af R i).aM≤1:=ae.eY _ (h3 (iP ay))
noncomputable def E5:ab:=(.comp (.v 9) [9] false (.aq (.v 0) (.ss [114,111,119,115])) (.cons (.and (.cons (.cmp .eq (.aq (.v 9) (.ss [108,101,118,101,108])) (.v 3)) (.cons (.cmp .eq (.aq (.v 9) (.ss [110,97,109,101])) (.aq (.v 1) (.ss [110,97,109,101]))) .nil))) .nil))
noncomputable def DW:ab:=(.comp (.v 10) [10] false (.v 5) (.cons (.cmp .eq (.aq (.v 10) (.ss [115,111,114,116])) (.aq (.v 1) (.ss [115,111,114,116]))) .nil))
noncomputable def i8(a:bH)(i:C)(bi aQ aW bp bq bh bj bK bB cE:Y D):aX:=[bi,some (.ref (a (.row i))),aQ,aW,bp,bq,bh,bj,bK,bB,cE]
theorem aah(ae:fg a h T W R c5 S t)(M:Good a h n)(ay:i<R.length):ci ac (runN ac z) E5 (i8 a i (some (.ref (a .w))) aQ (some (E c)) bp bq bh bj bK bB cE) n=some (.ref n.length,n++[.li ((hi R c (af R i).nm).map λ j=>.ref (a (.row j)))]):=by
 have q:=(ae.row i ay).at_ M
 have gN:=sz (V:=runN ac z) (x:=9) (env:=i8 a i (some (.ref (a .w))) aQ (some (E c)) bp bq bh bj bK bB cE) (acc:=[]) (eS:=ck R.length) (f:=λ j=>.ref (a (.row j))) (b7:=.v 9) (eo:=.cons (.and (.cons (.cmp .eq (.aq (.v 9) (.ss [108,101,118,101,108])) (.v 3)) (.cons (.cmp .eq (.aq (.v 9) (.ss [110,97,109,101])) (.aq (.v 1) (.ss [110,97,109,101]))) .nil))) .nil) (M.at_ _ _ ae.rows) (p:=λ j=>(af R j).ah==c&&decide ((af R j).nm=(af R i).nm)) (g:=λ j=>.ref (a (.row j))) λ j bt=>by
  have bt:=ga.mp bt
  have r:=(ae.row j bt).at_ M
  have er:fs ac (runN ac z) (.cmp .eq (.aq (.v 9) (.ss [108,101,118,101,108])) (.v 3)) (i8 a i (some (.ref (a .w))) aQ (some (E c)) bp bq bh bj bK (some (.ref (a (.row j)))) cE) n=some (decide ((af R j).ah=c),n):=(je z (Mine.T.cmp jg.eq ((ab.v 9).aq (ab.ss [108,101,118,101,108])) (ab.v 3)) (i8 a i (some (D.ref (a aN.w))) aQ (some (E c)) bp bq bh bj bK (some (D.ref (a (aN.row j)))) cE) n _ r.1 _ qd)
  have eO:fs ac (runN ac z) (.cmp .eq (.aq (.v 9) (.ss [110,97,109,101])) (.aq (.v 1) (.ss [110,97,109,101]))) (i8 a i (some (.ref (a .w))) aQ (some (E c)) bp bq bh bj bK (some (.ref (a (.row j)))) cE) n=some (decide ((af R j).nm=(af R i).nm),n):=(je z (Mine.T.cmp jg.eq ((ab.v 9).aq (ab.ss [110,97,109,101])) ((ab.v 1).aq (ab.ss [110,97,109,101]))) (i8 a i (some (D.ref (a aN.w))) aQ (some (E c)) bp bq bh bj bK (some (D.ref (a (aN.row j)))) cE) n _ r.2.1 _ q.2.1 _ (Ft (ae.ok bt).2.1 (ae.ok ay).2.1))
  exact⟨SW er eO,qz rfl⟩
 have hl:((ck R.length).map λ j=>D.ref (a (.row j))).length≤100000:=by rw[cG,gB];exact a' ae.dc (aE rfl)
 exact(hI z E5 (i8 a i (some (D.ref (a aN.w))) aQ (some (E c)) bp bq bh bj bK bB cE) n _ (gx (M.at_ _ _ ae.w) rfl) _ (iz (M.at_ _ _ ae.rows)) hl _ _ gN)
theorem WM(ae:fg a h T W R c5 S t)(M:Good a h n)(ay:i<R.length)(hm:n[m]? =some (.li ((hi R c (af R i).nm).map λ j=>.ref (a (.row j))))):ci ac (runN ac z) DW (i8 a i bi aQ aW bp (some (.ref m)) bh bj bK bB cE) n=some (.ref n.length,n++[.li ((gv R c (af R i).nm (af R i).aM).map λ j=>.ref (a (.row j)))]):=by
 have q:=(ae.row i ay).at_ M
 have gN:=sz (V:=runN ac z) (x:=10) (env:=i8 a i bi aQ aW bp (some (.ref m)) bh bj bK bB cE) (acc:=[]) (eS:=hi R c (af R i).nm) (f:=λ j=>.ref (a (.row j))) (b7:=.v 10) (eo:=.cons (.cmp .eq (.aq (.v 10) (.ss [115,111,114,116])) (.aq (.v 1) (.ss [115,111,114,116]))) .nil) hm (p:=λ j=>decide ((af R j).aM=(af R i).aM)) (g:=λ j=>.ref (a (.row j))) λ j bt=>by
  have r:=(ae.row j (xA.mp bt).1).at_ M
  have er:fs ac (runN ac z) (.cmp .eq (.aq (.v 10) (.ss [115,111,114,116])) (.aq (.v 1) (.ss [115,111,114,116]))) (i8 a i bi aQ aW bp (some (.ref m)) bh bj bK bB (some (.ref (a (.row j))))) n=some (decide ((af R j).aM=(af R i).aM),n):=(je z (Mine.T.cmp jg.eq ((ab.v 10).aq (ab.ss [115,111,114,116])) ((ab.v 1).aq (ab.ss [115,111,114,116]))) (i8 a i bi aQ aW bp (some (D.ref m)) bh bj bK bB (some (D.ref (a (aN.row j))))) n _ r.2.2.1 _ q.2.2.1 _ qd)
  exact⟨(qH er rfl).trans (by rw[vY]),qz rfl⟩
 have hl:((hi R c (af R i).nm).map λ j=>D.ref (a (.row j))).length≤100000:=by rw[cG];exact a' (Az ae.dc) (aE rfl)
 exact(hI z DW (i8 a i bi aQ aW bp (some (D.ref m)) bh bj bK bB cE) n _ (iz hm) hl _ _ gN)
noncomputable def vi:bk:=(.cons (.ex (.append (.aq (.v 1) (.ss [115,116,97,110,100,115])) (.tup (.cons (.call 53 (.cons (.v 7) (.cons (.v 4) .nil))) (.cons (.v 8) .nil))))) .nil)
theorem WT{l:B ap}:(∀t∈l,t.ar m)→(gY c l).ar m:=uA (ak:=λ l=>(∀t∈l,t.ar m)→(gY c l).ar m) l (λ _=>trivial) (λ t h=>h t (.head _)) (λ t u h=>⟨h t (.head _),h u (.tail _ (.head _))⟩) λ _ _ _ _ _=>trivial
noncomputable def vB(W:cw)(ae d:C)(x:ap×C):ap×Nat:=(x.1.sub (W.dK ae d),x.2)
theorem acm{j d:C}{qN:C}(K:W.ok)(cC:(af R i).ah≤3)(a1:d≤(af R i).ah)(bt:(af R j).ah=(af R i).ah-d)(ne:j≠i){l:B D}(xs:B (ap×C)):∀{n:St} {aI:aT} {acc:B (ap×C)} {bm eK:Y D},(∀x∈xs,∃e,e≤(af R j).ah∧x.1=dM W (af R j).ah e)→Good a aI n→aI (.row i)=some (.ds (ow a i (af R i) qN))→aI (.st i)=some (.li (acc.map lm))→aI (.st j)=some (.li l)→acc.length+xs.length<900→
  (∀(J:St) (H:aT) (gF hE:Y D),@fE (live (.ref (a (.st j))) l) (e1 (.ref (a (.st j))) l) (λ x aF J=>(di true [7,8] x aF).bind λ dH=>bS ac (runN ac (z+25)) vi dH J) (xs.map lm) (i8 a i bi aQ aW (some (.tup ((W.dK (af R i).ah d).map bd))) bq bh bm eK bB cE) n=some (.br (i8 a i bi aQ aW (some (.tup ((W.dK (af R i).ah d).map bd))) bq bh gF hE bB cE),J)→Good a H J→H (.st i)=some (.li ((acc++xs.map (vB W (af R i).ah d)).map lm))→(∀r,r≠ .st i→H r=aI r)→X)→X:=by
 induction xs with
 |nil=>exact λ{n aI acc bm eK} aA M a4 hs Ac hl f=>f n aI bm eK (hg (M.at_ _ _ Ac)) M ((eZ acc).symm▸hs) λ _ _=>rfl
 |cons x xs aZ=>
  intro n aI acc bm eK aA M a4 hs Ac hl f
  have⟨e,b3,ex⟩:=aA x (.head _)
  have M2:(af R j).ah≤3:=bt▸a' (nJ ..) cC
  have ar:x.1.ar (W.dK (af R i).ah d).length:=by rw[(K.arg cC a1).1,ex,←bt];exact WT λ t bD=>((K.arg M2 b3).2 t bD).1
  have ae7:x.1.size≤24:=ex▸a' (u0 K M2 b3).2.1 (aE rfl)
  have⟨b9,O⟩:=ES (z:=z) (n:=n) (K.lD cC a1) ae7 ar
  have jo:de n (.ref (a (.row i))) (.ss [115,116,97,110,100,115])=some (.ref (a (.st i))):=gx (M.at_ _ _ a4) rfl
  refine(M.mm (b9:=b9)).l9 (v:=lm (vB W (af R i).ah d x)) hs ((cG (as:=acc) lm).symm▸fi (cn (d2 ..) hl) (aE rfl)) λ ao eA dA=>?_
  have st:bS ac (runN ac (z+25)) vi (i8 a i bi aQ aW (some (.tup ((W.dK (af R i).ah d).map bd))) bq bh (some (bd x.1)) (some (E x.2)) bB cE) n=some (.br (i8 a i bi aQ aW (some (.tup ((W.dK (af R i).ah d).map bd))) bq bh (some (bd x.1)) (some (E x.2)) bB cE),ao):=(dm (z+25) vi (i8 a i bi aQ aW (some (D.tup (eB bd (W.dK (af R i).ah d)))) bq bh (some (bd x.fst)) (some (E x.snd)) bB cE) n _ jo (hQ (M.at_ _ _ hs)) _ _ O _ eA)
  exact aZ (acc:=acc++[vB W (af R i).ah d x]) (bm:=some (bd x.1)) (eK:=some (E x.2)) (λ y bI=>aA y (.tail _ bI)) dA ((bP _ _ (a5 rfl)).trans a4) ((cR _ _ _).trans (an (λ l=>some (a0.li l)) (Gu (f:=lm)))) ((bP _ _ λ L=>ne (aN.st.inj L)).trans Ac) (cn (dh (by rw[fh];exact jB ..)) hl) λ J H gF hE aB dG jM fr=>
   f J H gF hE (fd (M.at_ _ _ Ac) st aB) dG (mP acc (vB W (af R i).ah d x) (xs.map (vB W (af R i).ah d))▸jM) λ r L=>(fr r L).trans (bP _ _ L)
end
end Mine
end
section
namespace Mine
variable{i:C}{d3:B (ap×C)}{x j d mv:C}{p:av}{r:B C}{bi bq bj bK bB cE:Y D}{t:C}
section
variable{a:bH}{h:aT}{n:St}{T:B aP}{z:C}{W:cw}{R:B b5}{c5:C→C}{S:C→B (ap×C)}{X:Prop}
noncomputable def i'(W:cw)(R:B b5)(S:C→B (ap×C))(i aO j:C)(p:av):B (ap×C):=
 (if p=true then [(dM W (af R i).ah ((af R i).ah-aO),j+1)]else [])++(S j).map λ x=>(x.1.sub (W.dK (af R i).ah ((af R i).ah-aO)),x.2)
noncomputable def oB(S:C→B (ap×C))(i:C)(d3:B (ap×C)):C→B (ap×C):=λ x=>if x=i then d3 else S x
theorem yn:oB S i d3 i=d3:=if_pos rfl
theorem yo(h:x≠i):oB S i d3 x=S x:=if_neg h
noncomputable def zS:bk:=.cons (.o4 (.v 1) (.ss [102,108,97,103,115]) .add (.ii 4)) (.cons (.ex (.append (.aq (.v 1) (.ss [115,116,97,110,100,115])) (.tup (.cons (.tup (.cons (.ss [103]) (.cons (.bin .add (.ii 66) (.v 3)) (.cons (.v 4) .nil)))) (.cons (.aq (.aq (.v 6) (.ii 0)) (.ss [109,105,100])) .nil))))) .nil)
noncomputable def Em:bk:=(.cons (.b4 (.e (.v 2)) zS .nil) (.cons (.dd [7,8] true (.aq (.aq (.v 6) (.ii 0)) (.ss [115,116,97,110,100,115])) vi) (.cons (.mD) .nil)))
noncomputable def M8:bk:=(.cons (.asg 5 E5) (.cons (.asg 6 DW) (.cons (.asg 2 (.or (.cons (.v 2) (.cons (.cmp .gt (.len (.v 5)) (.len (.v 6))) .nil)))) (.cons (.b4 (.cmp .ne (.v 6) (.lst .nil)) Em .nil) .nil))))
noncomputable def xv(W:cw)(ae d:C):D:=.tup [E (ae-d),.tup ((W.dK ae d).map bd)]
theorem SN:kD .add (E x) (.ii 4)=some (E (x+4)):=rfl
theorem Fm(h:j≠i):aN.row j≠ .row i:=λ e=>h (aN.row.inj e)
theorem Nq(h:j≠i):aN.st j≠ .st i:=λ e=>h (aN.st.inj e)
noncomputable def pg(a:bH)(i:C)(bi:Y D)(p:av)(W:cw)(ae d:C)(bq:Y D)(mv:C)(bj bK bB cE:Y D):aX:=i8 a i bi (some (.cj p)) (some (E (ae-d))) (some (.tup ((W.dK ae d).map bd))) bq (some (.ref mv)) bj bK bB cE
theorem XQ(K:W.ok)(M:Good a h n)(cC:(af R i).ah≤3)(a1:d≤(af R i).ah)(ne:j≠i)(t8:nN a h i (af R i) (c5 i) [])(ws:h (.row j)=some (.ds (ow a j (af R j) (c5 j))))(hm:h (.a6 mv)=some (.li ((j::r).map λ j=>.ref (a (.row j)))))
  (f:∀(aa:St) (aI:aT),bS ac (runN ac z) (.cons (.b4 (.e (.v 2)) zS .nil) .nil) (pg a i bi p W (af R i).ah d bq mv bj bK bB cE) n=some (.br (pg a i bi p W (af R i).ah d bq mv bj bK bB cE),aa)→Good a aI aa→aI (.row i)=some (.ds (ow a i (af R i) (if p=true then c5 i+4 else c5 i)))→aI (.st i)=some (.li ((if p=true then [(dM W (af R i).ah d,j+1)]else []).map lm))→(∀r,r≠ .row i→r≠ .st i→aI r=h r)→X):X:=by
 cases p with
 |false=>exact f n h (dm z (bk.cons (S.b4 (T.e (ab.v 2)) zS bk.nil) bk.nil) (pg a i bi false W (af R i).ah d bq mv bj bK bB cE) n _ ((rfl:ig n (.cj false)=some false))) M t8.row t8.st λ _ _ _=>rfl
 |true=>
  have q:=t8.at_ M
  have qC:vv n (.ref (a (.row i))) (.ss [102,108,97,103,115])=some (E (c5 i)):=q.2.2.2.2.1
  have dJ:=M.set (c3:=.ds (ow a i (af R i) (c5 i+4))) t8.row
  have adY:j' n (.ref (a (.row i))) (.ss [102,108,97,103,115]) (E (c5 i+4))=some (n.set (a (.row i)) (.ds (ow a i (af R i) (c5 i+4)))):=x9 (M.at_ _ _ t8.row) (aE rfl)
  have O7:(up h (.row i) (some (.ds (ow a i (af R i) (c5 i+4))))) (.st i)=some (.li (([]:B (ap×C)).map lm)):=(bP _ _ (a5 rfl)).trans t8.st
  have bl:de (n.set (a (.row i)) (.ds (ow a i (af R i) (c5 i+4)))) (.ref (a (.row j))) (.ss [109,105,100])=some (E (j+1)):=gx (dJ.at_ _ _ ((bP _ _ (Fm ne)).trans ws)) rfl
  have EJ:=j7 (k:=0) (df dJ ((bP _ _ (a5 rfl)).trans hm)) rfl
  have xe:de (n.set (a (.row i)) (.ds (ow a i (af R i) (c5 i+4)))) (.ref (a (.row i))) (.ss [115,116,97,110,100,115])=some (.ref (a (.st i))):=gx (dJ.at_ _ _ (cR _ _ _)) rfl
  refine dJ.l9 (v:=.tup [bd (dM W (af R i).ah d),E (j+1)]) O7 (aE rfl) λ ao eA dA=>?_
  rw[(u0 K cC a1).2.2]at eA
  exact f ao _ (dm z (bk.cons (S.b4 (T.e (ab.v 2)) zS bk.nil) bk.nil) (pg a i bi true W (af R i).ah d bq mv bj bK bB cE) n _ ((rfl:ig n (.cj true)=some true)) _ qC _ SN _ adY _ xe (hQ (dJ.at_ _ _ O7)) _ rfl _ EJ _ bl _ eA) dA ((bP _ _ (a5 rfl)).trans (cR _ _ _)) (cR _ _ _) λ r d4 d5=>(bP _ _ d5).trans (bP _ _ d4)
theorem Nw{r:aN}(k:sW r=true):r≠ .row i∧r≠ .st i:=⟨λ L=>(nomatch(L▸k:sW (.row i)=true)),λ L=>(nomatch(L▸k:sW (.st i)=true))⟩
theorem Nv{r:aN}(k:hS r=true):r≠ .row i∧r≠ .st i:=⟨λ L=>(nomatch(L▸k:hS (.row i)=true)),λ L=>(nomatch(L▸k:hS (.st i)=true))⟩
theorem fg.upd{H:aT}{g9:C}(ae:fg a h T W R c5 S t)(a4:H (.row i)=some (.ds (ow a i (af R i) g9)))(hs:H (.st i)=some (.li (d3.map lm)))(fr:∀r,r≠ .row i→r≠ .st i→H r=h r)(aM:∀x∈d3,∃e,e≤(af R i).ah∧x.1=dM W (af R i).ah e)(dQ:d3.length≤(af R i).ah):fg a H T W R (kO c5 i g9) (oB S i d3) t where
 lw:=ae.lw.bx λ r k=>⟨rfl,λ o e=>(fr r (Nw k).1 (Nw k).2).trans e⟩
 bT:=ae.bT.off λ r o k e=>(fr r (Nv k).1 (Nv k).2).trans e
 w:=(fr _ (a5 rfl) (a5 rfl)).trans ae.w
 rows:=(fr _ (a5 rfl) (a5 rfl)).trans ae.rows
 row:=λ x aA=>(f9 (x=i)).elim (λ L=>by rw[L,G1,yn];exact⟨a4,hs⟩) λ L=>by rw[BC L,yo L];exact⟨(fr _ (Fm L) (a5 rfl)).trans (ae.row x aA).row,(fr _ (a5 rfl) (Nq L)).trans (ae.row x aA).st⟩
 eY:=ae.eY
 dc:=ae.dc
 lR:=λ x aA=>(f9 (x=i)).elim (λ L=>by rw[L,yn];exact aM) λ L=>by rw[yo L];exact ae.lR x aA
 mG:=λ x aA=>(f9 (x=i)).elim (λ L=>by rw[L,yn];exact dQ) λ L=>by rw[yo L];exact ae.mG x aA
theorem XR(ae:fg a h T W R c5 S t)(M:Good a h n)(ay:i<R.length)(a1:d≤(af R i).ah)(LG:1≤d)(c7:S i=[])(cl:gv R ((af R i).ah-d) (af R i).nm (af R i).aM=j::r)(hm:h (.a6 mv)=some (.li ((gv R ((af R i).ah-d) (af R i).nm (af R i).aM).map λ j=>.ref (a (.row j)))))
  (f:∀(J:St) (H:aT),bS ac (runN ac (z+31)) Em (pg a i bi p W (af R i).ah d bq mv bj bK bB cE) n=some (.f5 .nn,J)→Good a H J→fg a H T W R (kO c5 i (if p=true then c5 i+4 else c5 i)) (oB S i (i' W R S i ((af R i).ah-d) j p)) t→(∀r,r≠ .row i→r≠ .st i→H r=h r)→X):X:=by
 have K:=ae.lw.ok
 have hF:=ae.ok ay
 have f0:=rv.mp (cl▸.head _:j∈gv R ((af R i).ah-d) (af R i).nm (af R i).aM)
 have lt:(af R j).ah< (af R i).ah:=f0.2.1▸Cs (fa LG a1) LG
 have ne:j≠i:=λ L=>oR _ (L▸lt)
 have ws:=ae.row j f0.1
 rw[cl]at hm
 refine XQ (z:=z+31) (p:=p) (bi:=bi) (bq:=bq) (bj:=bj) (bK:=bK) (bB:=bB) (cE:=cE) K M hF.1 a1 ne (c7▸ae.row i ay) ws.row hm λ aa aI aw dJ LS w9 xP=>?_
 have Pc:=(xP _ (a5 rfl) (Nq ne)).trans ws.st
 have Gr:=ae.mG j f0.1
 have first:(if p=true then [(dM W (af R i).ah d,j+1)]else []).length≤1:=match p with|true=>cJ _|false=>fu _
 refine acm (z:=z+6) (i:=i) (j:=j) (d:=d) (bi:=bi) (aQ:=some (.cj p)) (aW:=some (E ((af R i).ah-d))) (bq:=bq) (bh:=some (.ref mv)) (bB:=bB) (cE:=cE) (l:=(S j).map lm) K hF.1 a1 f0.2.1 ne (S j) (bm:=bj) (eK:=bK) (ae.lR j f0.1) dJ LS w9 Pc (cn (hv first (a' Gr (ae.ok f0.1).1)) (aE rfl)) λ ao bJ gF hE aB dA Aa FN=>?_
 have adh:=r9 a1
 have Gc:i' W R S i ((af R i).ah-d) j p=(if p=true then [(dM W (af R i).ah d,j+1)]else [])++(S j).map (vB W (af R i).ah d):=by unfold i';rw[adh];rfl
 have xe:de aa (.ref (a (.row j))) (.ss [115,116,97,110,100,115])=some (.ref (a (.st j))):=gx (dJ.at_ _ _ ((xP _ (Fm ne) (a5 rfl)).trans ws.row)) rfl
 have EJ:=j7 (k:=0) (df dJ ((xP _ (a5 rfl) (a5 rfl)).trans hm)) rfl
 have bZ:bS ac (runN ac (z+31)) (.cons (.dd [7,8] true (.aq (.aq (.v 6) (.ii 0)) (.ss [115,116,97,110,100,115])) vi) (.cons (.mD) .nil)) (pg a i bi p W (af R i).ah d bq mv bj bK bB cE) aa=some (.f5 .nn,ao):=(dm (z+31) (bk.cons (Mine.S.dd [7,8] true (((ab.v 6).aq (ab.ii 0)).aq (ab.ss [115,116,97,110,100,115])) vi) (bk.cons Mine.S.mD bk.nil)) (pg a i bi p W (af R i).ah d bq mv bj bK bB cE) aa _ EJ _ xe _ (iz (dJ.at_ _ _ Pc)) ((cG (as:=S j) lm).symm▸a' Gr (a' (ae.ok f0.1).1 (aE rfl))) _ _ aB)
 refine f ao bJ ((j9 aw).trans bZ) dA (ae.upd ((FN _ (a5 rfl)).trans LS) (Gc▸Aa) (λ r d4 d5=>(FN r d5).trans (xP r d4 d5)) ?_ ?_) λ r d4 d5=>(FN r d5).trans (xP r d4 d5)
 ·rw[Gc]
  exact λ y bI=>(nG.mp bI).elim (λ bI=>match p,bI with
   |true,bI=>⟨d,a1,(jA.mp bI).symm▸rfl⟩
   |false,bI=>nomatch(bI:y∈ [])) λ bI=>(hu.mp bI).elim λ w L=>L.2▸(ae.lR j f0.1 w L.1).elim λ e q=>
    have le:d+e≤(af R i).ah:=a' (fB (f0.2.1▸q.1) d) (dh (Rj a1));
    ⟨d+e,le,(an (ap.sub _) (q.2.trans (f0.2.1▸rfl))).trans (EX K hF.1 le)⟩
 ·rw[Gc,fh,cG]
  exact a' (hv first Gr) (qT .. ▸lt)
end
end Mine
end
section
namespace Mine
variable{V:jh}{env:aX}{i t:C}
section
variable{a:bH}{h:aT}{n:St}{T:B aP}{z:C}{W:cw}{R:B b5}{c5:C→C}{S:C→B (ap×C)}{X:Prop}
theorem ab8{x:C}{e:ab}{p b:av}(h:env[x]? =some (some (.cj p)))(b3:ci ac V e env n=some (.cj b,n)):ci ac V (.or (.cons (.v x) (.cons e .nil))) env n=some (.cj (p||b),n):=
 show x0 ac V _ env n=_ from aR (qz h) (aR rfl (match p with|true=>if_pos rfl|false=>(if_neg mM).trans b3))
theorem W9{x y:ab}{j:C}(ax:ci ac V x env n=some (E i,n))(aH:ci ac V y env n=some (E j,n)):ci ac V (.cmp .gt x y) env n=some (.cj (decide (j<i)),n):=aR ax (aR aH (aR nV rfl))
noncomputable def nf(R:B b5)(i d:C):B Nat:=hi R ((af R i).ah-d) (af R i).nm
noncomputable def vl(R:B b5)(i d:C)(p:av):Bool:=p||decide ((iv R i d).length< (nf R i d).length)
theorem aar{m:C}{l:B D}(HM:fg a h T W R c5 S t)(ay:i<R.length)(c7:S i=[])(c:C):∀{d:C} {p:av} {s:C×C×av} {n:St} {aI:aT} {cX cm o5 bN bm eK hC em:Y D},c+d=(af R i).ah+1→1≤d→b0 a h T 0 n T aI→aI (.a6 m)=some (.li l)→scan R (af R i).nm (af R i).aM c p=some s→
  (∀(J:St) (H:aT),@fE (live (.ref m) l) (e1 (.ref m) l) (λ x aF J=>(di true [3,4] x aF).bind λ dH=>bS ac (runN ac (z+31)) M8 dH J) ((pT d c).map (xv W (af R i).ah)) (i8 a i (some (.ref (a .w))) (some (.cj p)) cX cm o5 bN bm eK hC em) n=some (.f5 .nn,J)→Good a H J→fg a H T W R (kO c5 i (if s.2.2=true then c5 i+4 else c5 i)) (oB S i (i' W R S i s.1 s.2.1 s.2.2)) t→(∀r o,gZ r=false→r≠ .row i→r≠ .st i→h r=some o→H r=some o)→X)→X:=by
 induction c with
 |zero=>exact λ{d p s n aI cX cm o5 bN bm eK hC em} hc a1 go hm hs=>nomatch hs
 |succ c aZ=>
  intro d p s n aI cX cm o5 bN bm eK hC em hc a1 go hm hs f
  have ae:=HM.go go
  have LD:=oS ((Rw c d).symm.trans hc)
  have hl:(af R i).ah-d=c:=by rw[←LD,Ri]
  have XE:d≤(af R i).ah:=LD▸iI ..
  have jM:scan R (af R i).nm (af R i).aM ((af R i).ah-d+1) p=some s:=hl.symm▸hs
  have dr:=df go.good hm
  have aw:=aah (z:=z+31) (i:=i) (c:=(af R i).ah-d) (aQ:=some (.cj p)) (bp:=some (.tup ((W.dK (af R i).ah d).map bd))) (bq:=o5) (bh:=bN) (bj:=bm) (bK:=eK) (bB:=hC) (cE:=em) ae go.good ay
  have g1:=b0.start go.bT go.good (.li ((nf R i d).map λ j=>.ref (a (.row j))))
  have aB:=WM (z:=z+31) (i:=i) (c:=(af R i).ah-d) (m:=n.length) (bi:=some (.ref (a .w))) (aQ:=some (.cj p)) (aW:=some (E ((af R i).ah-d))) (bp:=some (.tup ((W.dK (af R i).ah d).map bd))) (bh:=bN) (bj:=bm) (bK:=eK) (bB:=hC) (cE:=em) (ae.go g1.1) g1.1.good ay (df g1.1.good g1.2)
  have g2:=b0.start g1.1.bT g1.1.good (.li ((iv R i d).map λ j=>.ref (a (.row j))))
  have u4:=uY (df g2.1.good (g2.1.a6 g1.2).1)
  have xt:=uY (df g2.1.good g2.2)
  have gL:=b0.start g2.1.bT g2.1.good (.li [])
  have jL:=((go.trans g1.1).trans g2.1).trans gL.1
  have ne:=Fl (df gL.1.good (gL.1.a6 g2.2).1) (df gL.1.good gL.2)
  rw[Q2]at ne
  have tt:fs ac (runN ac (z+31)) (.cmp .ne (.v 6) (.lst .nil)) (pg a i (some (.ref (a .w))) (vl R i d p) W (af R i).ah d (some (.ref n.length)) (n++[a0.li ((nf R i d).map λ j=>.ref (a (.row j)))]).length bm eK hC em) (n++[.li ((nf R i d).map λ j=>.ref (a (.row j)))]++[.li ((iv R i d).map λ j=>.ref (a (.row j)))])=some (!(iv R i d).isEmpty,n++[.li ((nf R i d).map λ j=>.ref (a (.row j)))]++[.li ((iv R i d).map λ j=>.ref (a (.row j)))]++[.li []]):=(je (z+31) (Mine.T.cmp jg.ne (ab.v 6) (ab.lst d6.nil)) (pg a i (some (D.ref (a aN.w))) (vl R i d p) W (af R i).ah d (some (D.ref (f' n))) (f' (n++[a0.li (eB (λ j=>D.ref (a (aN.row j))) (nf R i d))])) bm eK hC em) (n++[a0.li (eB (λ j=>D.ref (a (aN.row j))) (nf R i d))]++[a0.li (eB (λ j=>D.ref (a (aN.row j))) (iv R i d))]) _ ne)
  have lf:∀{he},(bS ac (runN ac (z+31)) (.cons (.b4 (.cmp .ne (.v 6) (.lst .nil)) Em .nil) .nil) (pg a i (some (.ref (a .w))) (vl R i d p) W (af R i).ah d (some (.ref n.length)) (n++[a0.li ((nf R i d).map λ j=>.ref (a (.row j)))]).length bm eK hC em) (n++[.li ((nf R i d).map λ j=>.ref (a (.row j)))]++[.li ((iv R i d).map λ j=>.ref (a (.row j)))]))=he→bS ac (runN ac (z+31)) M8 (i8 a i (some (.ref (a .w))) (some (.cj p)) (some (E ((af R i).ah-d))) (some (.tup ((W.dK (af R i).ah d).map bd))) o5 bN bm eK hC em) n=he:=λ e=>aR (aR aw rfl) (aR (aR aB rfl) (aR (aR (ab8 rfl (W9 (aR (qz rfl) (aR u4 rfl)) (aR (qz rfl) (aR xt rfl)))) rfl) e))
  cases cl:iv R i d with
  |cons fT r=>
   have L:=ll (Be cl) jM
   subst L
   exact XR (z:=z) (i:=i) (d:=d) (mv:=(n++[a0.li ((nf R i d).map λ j=>.ref (a (.row j)))]).length) (p:=vl R i d p) (bi:=some (.ref (a .w))) (bq:=some (.ref n.length)) (bj:=bm) (bK:=eK) (bB:=hC) (cE:=em) (HM.go jL) gL.1.good ay XE a1 c7 cl (gL.1.a6 g2.2).1 λ J H fI dG lY fr=>
    f J H (K' dr (lf (aR (aR tt ((if_pos (an (λ l:B C=>!l.isEmpty) cl)).trans fI)) rfl))) dG lY λ r o k iB kH e=>(fr r iB kH).trans (jL.off k e)
  |nil=>
   have hL:vl R i d p=(p||decide (0< (hi R ((af R i).ah-d) (af R i).nm).length)):=an (λ x:B C=>p||decide (x.length< (nf R i d).length)) cl
   have Aa:=(x7 cl).symm.trans jM
   rw[←hL,hl]at Aa
   exact aZ (d:=d+1) (p:=vl R i d p) (cX:=some (E ((af R i).ah-d))) (cm:=some (.tup ((W.dK (af R i).ah d).map bd))) (o5:=some (.ref n.length)) (bN:=some (.ref (n++[a0.li ((nf R i d).map λ j=>.ref (a (.row j)))]).length)) (bm:=bm) (eK:=eK) (hC:=hC) (em:=em) ((jB c d).symm.trans hc) (iI ..) jL (gL.1.a6 (g2.1.a6 (g1.1.a6 hm).1).1).1 Aa λ J H j4 dG lY off=>
    f J H (fd dr (lf (aR (aR tt (if_neg (ne_true_of_eq_false (an (λ l:B C=>!l.isEmpty) cl)))) rfl)) j4) dG lY off
theorem ZN{s:C×C×av}(ae:fg a h T W R c5 S t)(M:Good a h n)(ay:i<R.length)(c7:S i=[])(hs:scan R (af R i).nm (af R i).aM (af R i).ah false=some s)
  (f:∀(J:St) (H:aT),runN ac (z+32) 61 [.ref (a .w),.ref (a (.row i))] n=some (.nn,J)→Good a H J→fg a H T W R (kO c5 i (if s.2.2=true then c5 i+4 else c5 i)) (oB S i (i' W R S i s.1 s.2.1 s.2.2)) t→(∀r o,gZ r=false→r≠ .row i→r≠ .st i→h r=some o→H r=some o)→X):X:=by
 have hF:=ae.ok ay
 refine ER (z:=z+5) ae.lw ae.bT M hF.1 λ m aa aI aw cW hO cl=>?_
 have g2:=b0.start cW.bT cW.good (.li ((pT 1 (af R i).ah).map (xv W (af R i).ah)))
 have zW:=DU (df cW.good hO)
 have Vo:(lL W (af R i).ah ((af R i).ah+1)).drop 1=(pT 1 (af R i).ah).map (xv W (af R i).ah):=by unfold lL;rw[Cg];rfl
 rw[Vo]at zW
 have a3:((pT 1 (af R i).ah).map (xv W (af R i).ah)).length≤100000:=by rw[cG,Q3];exact a' hF.1 (aE rfl)
 exact aar (z:=z) (m:=aa.length) (l:=(pT 1 (af R i).ah).map (xv W (af R i).ah)) ae ay c7 (af R i).ah (d:=1) (p:=false) (cX:=none) (cm:=none) (o5:=none) (bN:=none) (bm:=none) (eK:=none) (hC:=none) (em:=none) rfl (cJ 1) (cW.trans g2.1) g2.2 hs λ J H aB dG lY off=>
  f J H (cN (z+31) 61 [D.ref (a aN.w),D.ref (a (aN.row i))] n rfl rfl _ (((ae.row i ay).at_ M).1) _ _ aw _ zW _ (iz (df g2.1.good g2.2)) a3 _ _ aB) dG lY off
end
end Mine
end
section
namespace Mine
variable{i:C}{d3:B (ap×C)}{os:B C}
section
variable{W:cw}{R:B b5}{X:Prop}
noncomputable abbrev l0:=(C→C)×(C→B (ap×C))×(C→B (C×ap×C))
noncomputable def kL(W:cw)(R:B b5)(s:l0)(i:C):l0:=
 match scan R (af R i).nm (af R i).aM (af R i).ah false with
 |some (aO,j,p)=>(kO s.1 i (if p=true then s.1 i+4 else s.1 i),oB s.2.1 i (i' W R s.2.1 i aO j p),mI R s.2.2 i (i' W R s.2.1 i aO j p))
 |none=>s
theorem Pa{s:l0}{aO j:C}{p:av}(e:scan R (af R i).nm (af R i).aM (af R i).ah false=some (aO,j,p)):kL W R s i=(kO s.1 i (if p=true then s.1 i+4 else s.1 i),oB s.2.1 i (i' W R s.2.1 i aO j p),mI R s.2.2 i (i' W R s.2.1 i aO j p)):=
 an (λ x:Y (C×C×av)=>match x with|some (aO,j,p)=>(kO s.1 i (if p=true then s.1 i+4 else s.1 i),oB s.2.1 i (i' W R s.2.1 i aO j p),mI R s.2.2 i (i' W R s.2.1 i aO j p))|none=>s) e
noncomputable def N0(I:C→B (C×ap×C))(R:B b5)(j:C):B (ap×C):=((I (af R j).ah).filter (own j)).map λ e=>(e.2.1,e.2.2)
structure wr(R:B b5)(g:(C→C)×(C→B (C×ap×C)))(s:l0):Prop where
 f:g.1=s.1
 i:g.2=s.2.2
 own:∀j,j<R.length→s.2.1 j=N0 g.2 R j
theorem acn(h:∀x∈d3,x.2≠900):(d3.map (jR i)).filter (own i)=d3.map (jR i):=B'.mpr λ e b3=>(hu.mp b3).elim λ x L=>L.2▸dF.mpr ⟨lE (i+1),p8.mpr (h x L.1)⟩
theorem aco{x:C}(h:x≠i):(d3.map (jR i)).filter (own x)=[]:=tO.mpr λ e b3 y=>(hu.mp b3).elim λ w L=>h (oS ((eq_of_beq (dF.mp y).1).symm.trans (an If L.2).symm))
theorem N2{l:B (C×ap×C)}(rQ:∀e∈l,e.1=i+1→e.2.2=900):l.filter (own i)=[]:=tO.mpr λ e b3 y=>p8.mp (dF.mp y).2 (rQ e b3 (eq_of_beq (dF.mp y).1))
theorem adm{g:(C→C)×(C→B (C×ap×C))}{s:l0}{c:C}(K:W.ok)(r:wr R g s)(io:nD W R g.2 c)(b9:ip R 8)(eY:∀r∈R,r.ah≤3∧(r.nm=109∨r.nm=110)∧r.aM≤1)(fR:R.length≤16)(p:nO R g.1 g.2 i)(f:wr R (ka W R g i) (kL W R s i)→nD W R (ka W R g i).2 (c+1)→X):X:=by
 refine AR b9 p.1 p.2.1 λ aO j b aS=>?_
 have hl:=OQ aS
 have f0:=rv.mp hl.2
 have hF:=eY _ (h3 (iP p.1))
 rw[Gw (W:=W) (s:=g) aS,Pa (W:=W) (s:=s) aS]at f
 have cH:i' W R s.2.1 i aO j b=ho W R g.2 i aO j b:=by
  unfold i' ho
  rw[r.own j f0.1,←f0.2.1]
  exact an (_++·) tQ
 rw[cH,←r.i,←r.f]at f
 have Fy:=Fx (p:=b) K io hF.1 hl.1 f0.1 f0.2.1
 have Fg:∀x∈ho W R g.2 i aO j b,x.2≠900:=λ x m=>(Fy x m).elim λ bw q=>mS (q.2.1▸cn (a' q.1 fR) (aE rfl))
 have DE:(if b=true then g.1 i+4 else g.1 i)=(if b=true then 6+128*(af R i).aM else g.1 i):=match b with
  |true=>(an (· +4) p.2.2.1).trans (pV 2 _ 4)
  |false=>rfl
 rw[DE]at f
 refine f ⟨rfl,rfl,λ x aA=>(f9 (x=i)).elim (λ L=>?_) λ L=>?_⟩ (PR K io hF.1 hl.1 f0.1 f0.2.1 fR p.2.2.2)
 ·rw[L]
  refine yn.trans (B1 ?_)
  show((mI R g.2 i (ho W R g.2 i aO j b) (af R i).ah).filter (own i)).map _=_
  rw[show mI R g.2 i (ho W R g.2 i aO j b) (af R i).ah=g.2 (af R i).ah++(ho W R g.2 i aO j b).map (jR i)from if_pos rfl,r3,N2 p.2.2.2,acn Fg,H5,tQ]
  exact Q6 _
 ·refine(yo L).trans ((r.own x aA).trans (B1 ?_))
  exact tu (λ cf=>(cf.filter (own x)).map (λ e=>(e.2.1,e.2.2))=N0 g.2 R x) (λ _ k=>by rw[r3];exact(an (λ l=>(QW (own x) (g.2 (af R x).ah)++l).map _) (aco L)).trans ((an (eB _) (eZ _)).trans k)) rfl
theorem adl(K:W.ok)(b9:ip R 8)(eY:∀r∈R,r.ah≤3∧(r.nm=109∨r.nm=110)∧r.aM≤1)(fR:R.length≤16)(os:B C):∀{g:(C→C)×(C→B (C×ap×C))} {s:l0} {c:C},os.Nodup→(∀i∈os,nO R g.1 g.2 i)→wr R g s→nD W R g.2 c→wr R (os.foldl (ka W R) g) (os.foldl (kL W R) s):=by
 induction os with
 |nil=>exact λ _ _ r _=>r
 |cons i os aZ=>
  intro g s c nd be r io
  have nd:=nH.mp nd
  exact adm K r io b9 eY fR (be i (.head _)) λ bw Y1=>aZ nd.2 (λ jN ia=>nO.step b9 (be i (.head _)) (λ L=>nd.1 (L▸ia)) (be jN (.tail _ ia))) bw Y1
theorem aaI:(ck os.length).map (λ x=>os.getD x 0)=os:=HP (by rw[cG,gB]) λ i ax aH=>by
 rw[HY,HZ]
 exact ej ((getD_at aH).symm.trans (h2 aH))
theorem aca:mB R os=(ck 4).flatMap λ l=>os.filter λ j=>(af R j).ah==l:=by
 unfold mB hD
 rw[List.map_flatMap,show(fx R os).length=os.length from cG ..]
 exact an (λ f=>(ck 4).flatMap f) (funext λ l=>(an (eB λ x=>os.getD x 0) (HQ λ x aA=>an (· ==l) (Nb (R:=R) (ga.mp aA)))).trans (QZ.symm.trans (an (QW λ j=>(af R j).ah==l) aaI)))
end
end Mine
end
section
namespace Mine
variable{t l i j:C}{bR:B (Y D)}{bi aQ aW bh bj bK:Y D}
section
variable{a:bH}{h:aT}{n:St}{T:B aP}{z:C}{W:cw}{R:B b5}{c5:C→C}{S:C→B (ap×C)}{X:Prop}
theorem fg.keep{H:aT}{aC:B aP}(ae:fg a h T W R c5 S t)(f:∀r o,gZ r=false→r≠ .ei l→h r=some o→H r=some o)(bT:c6 a H aC):fg a H aC W R c5 S t:=
 ⟨⟨let⟨O,e,k⟩:=ae.lw.w;⟨O,f _ _ rfl (a5 rfl) e,k⟩,let⟨aG,e,k⟩:=ae.lw.store;⟨aG,f _ _ rfl (a5 rfl) e,k⟩,f _ _ rfl (a5 rfl) ae.lw.many,f _ _ rfl (a5 rfl) ae.lw.up,ae.lw.ok⟩,bT,f _ _ rfl (a5 rfl) ae.w,f _ _ rfl (a5 rfl) ae.rows,λ j bt=>⟨f _ _ rfl (a5 rfl) (ae.row j bt).row,f _ _ rfl (a5 rfl) (ae.row j bt).st⟩,ae.eY,ae.dc,ae.lR,ae.mG⟩
noncomputable def lU(a:bH):a0:=.li [.ref (a (.ei 0)),.ref (a (.ei 1)),.ref (a (.ei 2)),.ref (a (.ei 3))]
theorem PY(hl:l<4)(M:Good a h n)(cS:h .want=some (lU a)):de n (.ref (a .want)) (E l)=some (.ref (a (.ei l))):=j7 (M.at_ _ _ cS) (nb l (ls hl) rfl rfl rfl rfl)
theorem Fn(h:j≠i):aN.ei j≠ .ei i:=λ e=>h (aN.ei.inj e)
noncomputable def BK:bk:=(.cons (.ex (.append (.aq (.v 4) (.v 9)) (.tup (.cons (.aq (.v 5) (.ss [109,105,100])) (.cons (.call 54 (.cons (.v 1) (.cons (.v 10) .nil))) (.cons (.v 11) .nil)))))) .nil)
noncomputable def hz(a:bH)(bf:B (Y D))(bi aQ aW bq bh bj bK bB cE dZ:Y D):aX:=bi::some (.ref (a .w))::aQ::aW::some (.ref (a .want))::bq::bh::bj::bK::bB::cE::dZ::bf
theorem age{lst:B D}(ay:i<R.length)(hl:l<4)(xs:B (ap×C)):∀{n:St} {aI:aT} {bX:B aP} {bf:B D} {O:B (C×ap×C)} {em fG:Y D},(∀x∈xs,∃e,e≤(af R i).ah∧x.1=dM W (af R i).ah e)→fg a aI bX W R c5 S t→Good a aI n→aI .want=some (lU a)→aI (.ei l)=some (.li bf)→es bX bf O→aI (.st i)=some (.li lst)→O.length+xs.length<900→bX.length+24*xs.length<400000→
  (∀(J:St) (H:aT) (aC:B aP) (kc:B D) (iD iE:Y D),@fE (live (.ref (a (.st i))) lst) (e1 (.ref (a (.st i))) lst) (λ x aF J=>(di true [10,11] x aF).bind λ dH=>bS ac (runN ac (z+31)) BK dH J) (xs.map lm) (hz a bR bi aQ aW (some (.ref (a (.row i)))) bh bj bK (some (E l)) em fG) n=some (.br (hz a bR bi aQ aW (some (.ref (a (.row i)))) bh bj bK (some (E l)) iD iE),J)→Good a H J→fg a H aC W R c5 S t→(∃X,aC=bX++X)→aC.length≤bX.length+24*xs.length→H (.ei l)=some (.li kc)→es aC kc (O++xs.map (jR i))→(∀r o,gZ r=false→r≠ .ei l→aI r=some o→H r=some o)→X)→X:=by
 induction xs with
 |nil=>exact λ{n aI bX bf O em fG} aA ae M cS bI im hs w5 a3 f=>f n aI bX bf em fG (hg (M.at_ _ _ hs)) M ae ⟨[],(eZ _).symm⟩ (cJ _) bI ((eZ O).symm▸im) λ _ _ _ _ e=>e
 |cons x xs aZ=>
  intro n aI bX bf O em fG aA ae M cS bI im hs w5 a3 f
  have⟨e,b3,ex⟩:=aA x (.head _)
  have rs:=u0 ae.lw.ok (ae.ok ay).1 b3
  have d4:bX.length+24+24*xs.length<400000:=rx (b:=bX.length)▸a3
  refine xr (z:=z) ae.lw ae.bT M (t:=x.1) (ex.symm▸rs.1) (ex.symm▸a' rs.2.1 (aE rfl)) (cn (d2 ..) (fi d4 (aE rfl))) λ k aa cL bJ aw q go=>?_
  have bl:=((ae.row i ay).at_ M).2.2.2.1
  refine go.good.l9 (v:=iQ (jR i x) k) (go.off (r:=.ei l) rfl bI) (im.len▸fi (cn (d2 ..) w5) (aE rfl)) λ bW eA d0=>?_
  have fr:∀r,r≠ .ei l→(up bJ (.ei l) (some (.li (bf++[iQ (jR i x) k])))) r=bJ r:=λ r L=>bP _ _ L
  have tS:=ae.keep (λ r o k L e=>(fr r L).trans (go.off k e)) (go.bT.off λ r o k e=>(fr r λ L=>nomatch(L▸k:hS (.ei l)=true)).trans e)
  have st:bS ac (runN ac (z+31)) BK (hz a bR bi aQ aW (some (.ref (a (.row i)))) bh bj bK (some (E l)) (some (bd x.1)) (some (E x.2))) n=some (.br (hz a bR bi aQ aW (some (.ref (a (.row i)))) bh bj bK (some (E l)) (some (bd x.1)) (some (E x.2))),bW):=(dm (z+31) BK (hz a bR bi aQ aW (some (D.ref (a (aN.row i)))) bh bj bK (some (E l)) (some (bd x.fst)) (some (E x.snd))) n _ (PY (n:=n) hl M cS) (hQ (M.at_ _ _ bI)) _ bl _ _ aw _ eA)
  exact aZ (O:=O++[jR i x]) (em:=some (bd x.1)) (fG:=some (E x.2)) (λ y bI=>aA y (.tail _ bI)) tS d0 ((fr _ (a5 rfl)).trans (go.off rfl cS)) (cR _ _ _) ((im.more λ q=>go.eT q).add (e:=jR i x) q) ((fr _ (a5 rfl)).trans (go.off rfl hs)) (cn (dh (by rw[fh];exact jB ..)) w5) (cn (hb go.le _) d4) λ J H aC kc iD iE aB dG lY jH Ax Ev sQ abX=>
   f J H aC kc iD iE (fd (M.at_ _ _ hs) st aB) dG lY (me go.jn.ext jH) (a' Ax (a' (hb go.le _) (dh rx))) Ev (mP O (jR i x) (xs.map (jR i))▸sQ) λ r o k L e=>abX r o k L ((fr r L).trans (go.off k e))
structure kg(a:bH)(h:aT)(T:B aP)(W:cw)(R:B b5)(s:l0)(t:C)(os:B C)(dX b:C):Prop where
 da:fg a h T W R s.1 s.2.1 t
 want:h .want=some (lU a)
 wl:∀l,l<4→∃bf,h (.ei l)=some (.li bf)∧es T bf (s.2.2 l)
 BD:∀l,(s.2.2 l).length≤b
 eM:h (.a6 dX)=some (.li (os.map λ j=>.ref (a (.row j))))
 lp:T.length≤200000+100*b
noncomputable def aa9:aN→av
 | .row _| .st _| .ei _=>false
 |_=>true
noncomputable def rm(r:aN):Bool:=!gZ r&&aa9 r
theorem MI{r:aN}(h:rm r=true):gZ r=false:=(tI _).mp (dF.mp h).1
noncomputable def u6:bk:=(.cons (.b4 (.cmp .eq (.aq (.v 5) (.ss [108,101,118,101,108])) (.v 9)) (.cons (.ex (.call 61 (.cons (.v 1) (.cons (.v 5) .nil)))) (.cons (.dd [10,11] true (.aq (.v 5) (.ss [115,116,97,110,100,115])) BK) .nil)) (.nil)) .nil)
theorem adI{aO:C}{p:av}(ae:fg a h T W R c5 S t)(e6:aO< (af R i).ah)(bt:j<R.length)(n5:(af R j).ah=aO):(i' W R S i aO j p).length≤(af R i).ah:=by
 have k:=n5▸ae.mG j bt
 rw[←cG (f:=λ x:ap×C=>(x.1.sub (W.dK (af R i).ah ((af R i).ah-aO)),x.2))]at k
 cases p with
 |false=>exact h4 (cn k e6)
 |true=>exact cn k e6
theorem aaC{s:l0}{b dX:C}{os:B C}{em fG:Y D}(P:kg a h T W R s t os dX b)(M:Good a h n)(b9:ip R 8)(ay:i<R.length)(be:(af R i).eM=true)(c7:s.2.1 i=[])(az:b≤500)
  (f:∀(J:St) (H:aT) (aC:B aP) (iD iE:Y D),bS ac (runN ac (z+32)) u6 (hz a bR bi aQ aW (some (.ref (a (.row i)))) bh bj bK (some (E (af R i).ah)) em fG) n=some (.br (hz a bR bi aQ aW (some (.ref (a (.row i)))) bh bj bK (some (E (af R i).ah)) iD iE),J)→Good a H J→kg a H aC W R (kL W R s i) t os dX (b+3)→(∃X,aC=T++X)→(∀r o,rm r=true→h r=some o→H r=some o)→X):X:=by
 refine AR b9 ay be λ aO j p aS=>?_
 have hl:=OQ aS
 have f0:=rv.mp hl.2
 have hF:=P.da.ok ay
 have tN:=pW hF.1
 have O:=Pa (W:=W) (s:=s) aS
 have dc:=adI (p:=p) P.da hl.1 f0.1 f0.2.1
 have x2:=a' dc hF.1
 refine ZN (z:=z) P.da M ay c7 aS λ aa aI aw dJ kW qw=>?_
 have kW:fg a aI T W R (kO s.1 i (if p=true then s.1 i+4 else s.1 i)) (oB s.2.1 i (i' W R s.2.1 i aO j p)) t:=kW
 have⟨bf,bI,im⟩:=P.wl (af R i).ah tN
 have w9:=(kW.row i ay).st
 have Bl:=kW.lR i ay
 rw[yn]at w9 Bl
 have xb:=qw .want _ rfl (a5 rfl) (a5 rfl) P.want
 have d4:T.length≤250000:=a' P.lp (fB (gU 100 az) 200000)
 refine age (z:=z+1) (l:=(af R i).ah) (lst:=(i' W R s.2.1 i aO j p).map lm) (bR:=bR) (bi:=bi) (aQ:=aQ) (aW:=aW) (bh:=bh) (bj:=bj) (bK:=bK) (em:=em) (fG:=fG) ay tN (i' W R s.2.1 i aO j p) Bl kW dJ xb (qw _ _ rfl (a5 rfl) (a5 rfl) bI) im w9 (cn (hv (a' (P.BD _) az) x2) (aE rfl)) (cn (hv d4 (gU 24 x2)) (aE rfl)) λ ao bJ cL kc iD iE aB dA Ci jH ZW Ev sQ nj=>?_
 have d':=((P.da.row i ay).at_ M).1
 have cO:=((kW.row i ay).at_ dJ).2.2.2.2.2.1
 have cz:cY .eq (E (af R i).ah) (E (af R i).ah) n=some true:=qd.trans (an some (iO rfl))
 have a3:((i' W R s.2.1 i aO j p).map lm).length≤100000:=(cG ..).symm▸a' x2 (aE rfl)
 refine f ao bJ cL iD iE (dm (z+32) u6 (hz a bR bi aQ aW (some (D.ref (a (aN.row i)))) bh bj bK (some (E (af R i).ah)) em fG) n _ d' _ cz _ _ aw _ cO _ (iz (dJ.at_ _ _ w9)) a3 _ _ aB) dA (O.symm▸⟨Ci,nj _ _ rfl (a5 rfl) xb,λ l hl=>?_,λ l=>?_,nj _ _ rfl (a5 rfl) (qw _ _ rfl (a5 rfl) (a5 rfl) P.eM),?_⟩) jH λ r o k e=>nj r o (MI k) (λ L=>nomatch(L▸k:rm (.ei (af R i).ah)=true)) (qw r o (MI k) (λ L=>nomatch(L▸k:rm (.row i)=true)) (λ L=>nomatch(L▸k:rm (.st i)=true)) e)
 ·exact(f9 (l=(af R i).ah)).elim (λ L=>⟨kc,L▸Ev,(an (es cL kc) (if_pos L)).mpr (L▸sQ)⟩)
   λ L=>let⟨bR,Ex,EE⟩:=P.wl l hl;⟨bR,nj _ _ rfl (Fn L) (qw _ _ rfl (a5 rfl) (a5 rfl) Ex),(an (es cL bR) (if_neg L)).mpr (EE.more λ q=>let⟨_,jH⟩:=jH;jH▸q.more)⟩
 ·exact tu (λ cf=>cf.length≤b+3) (λ _ _=>by rw[fh,cG];exact hv (P.BD l) x2) (a' (P.BD l) (d2 ..))
 ·exact a' ZW (a' (hv P.lp (a' (gU 24 x2) (aE rfl:24*3≤100*3))) (dh ((mQ ..).trans (an (200000+·) (Nat.mul_add 100 b 3).symm))))
end
end Mine
end
section
namespace Mine
variable{s:l0}{x t dX b:C}{os:B C}{bR:B (Y D)}{bi aQ aW bh bj:Y D}
section
variable{a:bH}{h:aT}{n:St}{T:B aP}{z:C}{W:cw}{R:B b5}{X:Prop}
theorem Pb{i:C}(z:x≠i):(kL W R s i).2.1 x=s.2.1 x:=
 have iA:∀y:Y (C×C×av),(match y with|some (aO,j,p)=>((kO s.1 i (if p=true then s.1 i+4 else s.1 i),oB s.2.1 i (i' W R s.2.1 i aO j p),mI R s.2.2 i (i' W R s.2.1 i aO j p)):l0)|none=>s).2.1 x=s.2.1 x:=λ y=>match y with
  |some (aO,j,p)=>yo z
  |none=>rfl
 iA _
theorem WJ(os:B C):∀{s:l0},x∉os→(os.foldl (kL W R) s).2.1 x=s.2.1 x:=by
 induction os with
 |nil=>exact λ _=>rfl
 |cons i os aZ=>exact λ z=>(aZ λ q=>z (.tail _ q)).trans (Pb λ q=>z (q▸.head _))
theorem kg.mono{hw:C}(P:kg a h T W R s t os dX b)(q:b≤hw):kg a h T W R s t os dX hw:=⟨P.da,P.want,P.wl,λ l=>a' (P.BD l) q,P.eM,a' P.lp (fB (gU 100 q) _)⟩
noncomputable def AD(R:B b5)(os:B C)(l:C):B Nat:=os.filter λ j=>(af R j).ah==l
noncomputable def aaB(z dX:C)(lst xs:B D)(env:aX)(n:St):Y (e0×St):=@fE (live (.ref dX) lst) (e1 (.ref dX) lst) (λ x aF J=>(di false [5] x aF).bind λ dH=>bS ac (runN ac (z+32)) u6 dH J) xs env n
theorem aaD{l:C}{bK:Y D}(b9:ip R 8)(is:B C):∀{s:l0} {n:St} {h:aT} {T:B aP} {b:C} {o5 em fG:Y D},(∀i∈is,i<R.length∧(af R i).eM=true)→is.Nodup→(∀i∈is,(af R i).ah=l→s.2.1 i=[])→kg a h T W R s t os dX b→Good a h n→b+3*is.length≤500→
  (∀(J:St) (H:aT) (aC:B aP) (gz iD iE:Y D),aaB z dX (os.map λ j=>.ref (a (.row j))) (is.map λ j=>.ref (a (.row j))) (hz a bR bi aQ aW o5 bh bj bK (some (E l)) em fG) n=some (.br (hz a bR bi aQ aW gz bh bj bK (some (E l)) iD iE),J)→Good a H J→kg a H aC W R ((AD R is l).foldl (kL W R) s) t os dX (b+3*is.length)→(∃X,aC=T++X)→(∀r o,rm r=true→h r=some o→H r=some o)→X)→X:=by
 induction is with
 |nil=>exact λ{s n h T b o5 em fG} ay nd c7 P M az f=>f n h T o5 em fG (hg (df M P.eM)) M P ⟨[],(eZ T).symm⟩ λ _ _ _ e=>e
 |cons i is aZ=>
  intro s n h T b o5 em fG ay nd c7 P M az f
  have nd:=nH.mp nd
  have rf:=ay i (.head _)
  have dr:=df M P.eM
  have ia:∀i∈is,i<R.length∧(af R i).eM=true:=λ i m=>ay i (.tail _ m)
  have w4:b+3+3*is.length≤500:=pt (k:=3)▸az
  refine(f9 ((af R i).ah=l)).elim (λ L=>?_) λ L=>?_
  ·refine aaC (z:=z) (bR:=bR) (bi:=bi) (aQ:=aQ) (aW:=aW) (bh:=bh) (bj:=bj) (bK:=bK) (em:=em) (fG:=fG) P M b9 rf.1 rf.2 (c7 i (.head _) L) (a' (d2 ..) az) λ aa aI bX iD iE aw dJ h7 jH qw=>?_
   rw[L]at aw
   exact aZ (s:=kL W R s i) (b:=b+3) (o5:=some (.ref (a (.row i)))) (em:=iD) (fG:=iE) ia nd.2 (λ x aA tG=>(Pb λ(q:x=i)=>nd.1 (q▸aA)).trans (c7 x (.tail _ aA) tG)) h7 dJ w4 λ ao bJ cL jS xW xX aB dA mX qc nj=>
    f ao bJ cL jS xW xX (fd dr aw aB) dA (pt (k:=3) (b:=b)▸(an (λ l=>kg a bJ cL W R (l.foldl (kL W R) s) t os dX (b+3+3*is.length)) (B9 (p:=λ j=>(af R j).ah==l) (jl.mpr L))).mpr mX) (me jH qc) λ r o k e=>nj r o k (qw r o k e)
  ·have d':=((P.da.row i rf.1).at_ M).1
   have cz:cY .eq (E (af R i).ah) (E l) n=some false:=qd.trans (an some (j3 L))
   have st:bS ac (runN ac (z+32)) u6 (hz a bR bi aQ aW (some (.ref (a (.row i)))) bh bj bK (some (E l)) em fG) n=some (.br (hz a bR bi aQ aW (some (.ref (a (.row i)))) bh bj bK (some (E l)) em fG),n):=(dm (z+32) u6 (hz a bR bi aQ aW (some (D.ref (a (aN.row i)))) bh bj bK (some (E l)) em fG) n _ d' _ cz)
   exact aZ (s:=s) (b:=b) (o5:=some (.ref (a (.row i)))) (em:=em) (fG:=fG) ia nd.2 (λ x aA tG=>c7 x (.tail _ aA) tG) P M (a' (hb (d2 b 3) _) w4) λ ao bJ cL jS xW xX aB dA mX qc nj=>
    f ao bJ cL jS xW xX (fd dr st aB) dA ((an (λ l=>kg a bJ cL W R (l.foldl (kL W R) s) t os dX (b+3*(is.length+1))) (B8 (p:=λ j=>(af R j).ah==l) λ y=>L (eq_of_beq y))).mpr (mX.mono (fB (gU 3 (h5 _)) b))) qc nj
noncomputable def sV:bk:=(.cons (.dd [5] false (.v 8) u6) .nil)
theorem aaA{lo ay:am}{cf:B D}(b9:ip R 8)(be:∀i∈os,i<R.length∧(af R i).eM=true)(nd:os.Nodup)(oq:os.length≤16)(mp:B C):∀{s:l0} {n:St} {h:aT} {T:B aP} {b:C} {o5 hC em fG:Y D},mp.Nodup→(∀i∈os,(af R i).ah∈mp→s.2.1 i=[])→kg a h T W R s t os dX b→Good a h n→b+48*mp.length≤500→
  (∀(J:St) (H:aT) (aC:B aP) (gz tb iD iE:Y D),@fE (live (.ew lo ay) cf) (e1 (.ew lo ay) cf) (λ x aF J=>(di false [9] x aF).bind λ dH=>bS ac (runN ac (z+32)) sV dH J) (mp.map E) (hz a bR bi aQ aW o5 bh bj (some (.ref dX)) hC em fG) n=some (.br (hz a bR bi aQ aW gz bh bj (some (.ref dX)) tb iD iE),J)→Good a H J→kg a H aC W R ((mp.flatMap (AD R os)).foldl (kL W R) s) t os dX (b+48*mp.length)→(∃X,aC=T++X)→(∀r o,rm r=true→h r=some o→H r=some o)→X)→X:=by
 induction mp with
 |nil=>exact λ{s n h T b o5 hC em fG} nl c7 P M az f=>f n h T o5 hC em fG (hg trivial) M P ⟨[],(eZ T).symm⟩ λ _ _ _ e=>e
 |cons l mp aZ=>
  intro s n h T b o5 hC em fG nl c7 P M az f
  have nl:=nH.mp nl
  have w4:b+48+48*mp.length≤500:=pt (k:=48)▸az
  have Xv:=a' (fB (gU 3 oq) b) (a' (d2 ..) w4)
  refine aaD (z:=z) (l:=l) (bR:=bR) (bi:=bi) (aQ:=aQ) (aW:=aW) (bh:=bh) (bj:=bj) (bK:=some (.ref dX)) (o5:=o5) (em:=em) (fG:=fG) b9 os be nd (λ i ay L=>c7 i ay (L▸.head _)) P M Xv λ aa aI bX gz iD iE aw dJ h7 ex off=>?_
  have st:bS ac (runN ac (z+32)) sV (hz a bR bi aQ aW o5 bh bj (some (.ref dX)) (some (E l)) em fG) n=some (.br (hz a bR bi aQ aW gz bh bj (some (.ref dX)) (some (E l)) iD iE),aa):=(dm (z+32) sV (hz a bR bi aQ aW o5 bh bj (some (D.ref dX)) (some (E l)) em fG) n _ (iz (df M P.eM)) ((cG (as:=os) λ j=>D.ref (a (.row j))).symm▸a' oq (aE rfl)) _ _ aw)
  exact aZ (s:=(AD R os l).foldl (kL W R) s) (b:=b+48) (o5:=gz) (hC:=some (E l)) (em:=iD) (fG:=iE) nl.2 (λ i ay L=>(WJ (AD R os l) λ q=>nl.1 (eq_of_beq (oP.mp q).2▸L)).trans (c7 i ay (.tail _ L))) (h7.mono (fB (gU 3 oq) b)) dJ w4 λ ao bJ cL jS ac5 xW xX aB dA mX wS nj=>
   f ao bJ cL jS ac5 xW xX (fd trivial st aB) dA (pt (k:=48) (b:=b)▸(an (λ s=>kg a bJ cL W R s t os dX (b+48+48*mp.length)) ((an (HT (kL W R) s) List.flatMap_cons).trans List.foldl_append)).mpr mX) (me ex wS) λ r o k e=>nj r o k (off r o k e)
theorem aaz{o5 hC em fG:Y D}(b9:ip R 8)(ay:∀i∈os,i<R.length∧(af R i).eM=true)(nd:os.Nodup)(oq:os.length≤16)(c7:∀i∈os,s.2.1 i=[])(P:kg a h T W R s t os dX b)(M:Good a h n)(az:b+192≤500)
  (f:∀(J:St) (H:aT) (aC:B aP) (gz tb iD iE:Y D),jT ac (runN ac (z+32)) (.dd [9] false (.gQ (.ii 4)) sV) (hz a bR bi aQ aW o5 bh bj (some (.ref dX)) hC em fG) n=some (.br (hz a bR bi aQ aW gz bh bj (some (.ref dX)) tb iD iE),J)→Good a H J→kg a H aC W R ((mB R os).foldl (kL W R) s) t os dX (b+192)→(∃X,aC=T++X)→(∀r o,rm r=true→h r=some o→H r=some o)→X):X:=
 aaA (z:=z) (lo:=0) (ay:=4) (cf:=[E 0,E 1,E 2,E 3]) b9 ay nd oq (ck 4) wc (λ i ay _=>c7 i ay) P M az λ J H aC gz tb iD iE e dG pZ ex off=>
  f J H aC gz tb iD iE (vt (v:=.ew 0 4) (l:=[E 0,E 1,E 2,E 3]) rfl rfl (aE rfl) e) dG ((an (λ l:B C=>kg a H aC W R (l.foldl (kL W R) s) t os dX (b+192)) aca).mpr pZ) ex off
end
end Mine
end
section
namespace Mine
variable{t cB:C}{H:aT}{xs:B C}{c:C}
section
variable{a:bH}{h:aT}{n:St}{T:B aP}{z:C}{W:cw}{R:B b5}{c5:C→C}{S:C→B (ap×C)}{I:C→B (C×ap×C)}{X:Prop}
theorem fg.take(ae:fg a h T W R c5 S t)(cS:H .w=some (.ds (dE a cB 8)))(bx:bY (dB [.w]) a h a H):fg a H T W R c5 S cB:=
 have f:∀r o,r≠ .w→h r=some o→H r=some o:=λ r o z e=>(bx r (xI z)).2 o e
 ⟨⟨⟨_,cS,rfl,rfl,rfl⟩,let⟨aG,it,gD⟩:=ae.lw.store;⟨aG,f _ _ (a5 rfl) it,gD⟩,f _ _ (a5 rfl) ae.lw.many,f _ _ (a5 rfl) ae.lw.up,ae.lw.ok⟩,ae.bT.bx (bx.sub λ r k=>nT (p:=hS) rfl k),cS,f _ _ (a5 rfl) ae.rows,λ j bt=>⟨f _ _ (a5 rfl) (ae.row j bt).row,f _ _ (a5 rfl) (ae.row j bt).st⟩,ae.eY,ae.dc,ae.lR,ae.mG⟩
theorem fg.but{rI:aN}(ae:fg a h T W R c5 S t)(fr:∀r,r≠rI→H r=h r)(k: [aN.w,.store,.eb,.fA,.gA,.row 0,.st 0].all (λ r=>!(r.ctorIdx==rI.ctorIdx))=true)(dW:hS rI=false):fg a H T W R c5 S t:=
 have f:∀r o,r∈ [aN.w,.store,.eb,.fA,.gA,.row 0,.st 0]→∀{bw:aN},bw.ctorIdx=r.ctorIdx→h bw=some o→H bw=some o:=λ r o m bw aB e=>(fr bw (a5 (((an (· ==rI.ctorIdx) aB).trans ((tI _).mp (g'.mp k r m)))))).trans e
 ⟨⟨let⟨O,e,k⟩:=ae.lw.w;⟨O,f _ _ (.head _) rfl e,k⟩,let⟨aG,e,k⟩:=ae.lw.store;⟨aG,f _ _ (.tail _ (.head _)) rfl e,k⟩,f _ _ (.tail _ (.tail _ (.head _))) rfl ae.lw.many,f _ _ (.tail _ (.tail _ (.tail _ (.head _)))) rfl ae.lw.up,ae.lw.ok⟩,ae.bT.off λ r o k e=>(fr r λ L=>nomatch(L.symm▸dW:hS r=false).symm.trans k).trans e,f _ _ (.head _) rfl ae.w,f _ _ (.tail _ (.tail _ (.tail _ (.tail _ (.head _))))) rfl ae.rows,λ j bt=>⟨f _ _ (.tail _ (.tail _ (.tail _ (.tail _ (.tail _ (.head _)))))) rfl (ae.row j bt).row,f _ _ (.tail _ (.tail _ (.tail _ (.tail _ (.tail _ (.tail _ (.head _))))))) rfl (ae.row j bt).st⟩,ae.eY,ae.dc,ae.lR,ae.mG⟩
structure nE(a:bH)(h:aT)(T:B aP)(W:cw)(R:B b5)(c5:C→C)(S:C→B (ap×C))(xs:B C)(t:C)(I:C→B (C×ap×C))(c:C):Prop where
 da:fg a h T W R c5 S t
 dR:h .dR=some (.li (xs.map E))
 aM:ko a h
 ty:∀l,l<4→l6 a h l (W.many l)
 types:∃x,h .types=some (.li (dx 66 .nn++[.ref (a (.ty 0)),.ref (a (.ty 1)),.ref (a (.ty 2)),.ref (a (.ty 3)),x]))
 im:∀l,l<4→∃bf bR,h (.cM l)=some (.li bf)∧es T bf (I l)∧h (.ei l)=some (.li bR)∧es T bR (I l)
 want:h .want=some (lU a)
 each:∀l,∀e∈I l,e.2.1= .b2 34∧e.2.2=900∧e.1≤c
 len:∀l,(I l).length≤c
noncomputable def zc(I:C→B (C×ap×C))(l j:C):C→B (C×ap×C):=λ cf=>if cf=l then I cf++[(j+1,.b2 34,900)]else I cf
theorem Jq{l j cf:C}(P:B (C×ap×C)→Prop)(y:cf=l→P (I cf)→P (I cf++[(j+1,.b2 34,900)]))(z:P (I cf)):P (zc I l j cf):=
 (f9 (cf=l)).elim (λ e=>(an P (if_pos e)).mpr (y e z)) λ e=>(an P (if_neg e)).mpr z
noncomputable def AJ:aN→av
 | .w| .cM _| .ei _=>false
 |_=>true
noncomputable def s5(h H:aT):Prop:=∀r o,gZ r=false→AJ r=true→h r=some o→H r=some o
theorem nE.keep{ug:C}{aC:B aP}{ey:C→B (C×ap×C)}(P:nE a h T W R c5 S xs t I c)(f:s5 h H)(da:fg a H aC W R c5 S cB)(im:∀l,l<4→∃bf bR,H (.cM l)=some (.li bf)∧es aC bf (ey l)∧H (.ei l)=some (.li bR)∧es aC bR (ey l))(nY:∀l,∀e∈ey l,e.2.1= .b2 34∧e.2.2=900∧e.1≤ug)(le:∀l,(ey l).length≤ug):nE a H aC W R c5 S xs cB ey ug:=
 ⟨da,f _ _ rfl rfl P.dR,let⟨aG,eF,s⟩:=P.aM.bF;⟨aG,f _ _ rfl rfl eF,s⟩,λ l hl=>let⟨⟨aG,aw,e⟩,⟨cp,gk,p⟩⟩:=P.ty l hl;⟨⟨aG,f _ _ rfl rfl aw,e⟩,⟨cp,f _ _ rfl rfl gk,p⟩⟩,let⟨x,e⟩:=P.types;⟨x,f _ _ rfl rfl e⟩,im,f _ _ rfl rfl P.want,nY,le⟩
noncomputable def Ld:ab:=.tup (.cons (.ss [103]) (.cons (.ii 34) (.cons (.tup .nil) .nil)))
noncomputable def uU:bk:=(.cons (.b4 (.and (.cons (.cmp .lt (.aq (.v 5) (.ss [108,101,118,101,108])) (.ii 3)) (.cons (.cmp .eq (.call 52 (.cons (.v 1) (.cons (.ii 3) .nil))) (.ii 2)) .nil))) (.cons (.ex (.call 36 (.cons (.v 2) (.cons (.bin .add (.ii 66) (.aq (.v 5) (.ss [108,101,118,101,108]))) (.cons (.aq (.v 5) (.ss [109,105,100])) (.cons (.call 54 (.cons (.v 1) (.cons Ld .nil))) (.cons (.ii 900) .nil))))))) (.cons (.ex (.append (.aq (.v 4) (.aq (.v 5) (.ss [108,101,118,101,108]))) (.tup (.cons (.aq (.v 5) (.ss [109,105,100])) (.cons (.call 54 (.cons (.v 1) (.cons Ld .nil))) (.cons (.ii 900) .nil)))))) .nil)) (.nil)) .nil)
noncomputable def xf(a:bH)(bR:B (Y D))(bi aW:Y D)(c:C)(bh bj bK bB cE dZ:Y D):aX:=hz a bR bi (some (.ref (a .store))) aW (some (.ref (a (.row c)))) bh bj bK bB cE dZ
theorem YL{aa:St}{aI:aT}(ae:fg a h T W R c5 S t)(h7:nE a aI T W R c5 S xs (t+1) I c)(dJ:Good a aI aa)(hc:c<R.length)(L:(af R c).ah<3)(a3:T.length<100000)
  (f:∀(ao bW eP J:St) (H:aT) (aC:B aP) (k ct:C),runN ac (z+31) 54 [.ref (a .w),bd (.b2 34)] aa=some (E k,ao)→runN ac (z+31) 36 [.ref (a .store),E (66+(af R c).ah),E (c+1),E k,.ii 900] ao=some (.nn,bW)→(∃eD,de bW (.ref (a (.row c))) (.ss [108,101,118,101,108])=some (E (af R c).ah)∧de bW (.ref (a (.row c))) (.ss [109,105,100])=some (E (c+1))∧eD=true)→de bW (.ref (a .want)) (E (af R c).ah)=some (.ref (a (.ei (af R c).ah)))→ml bW (.ref (a (.ei (af R c).ah)))=true→runN ac (z+31) 54 [.ref (a .w),bd (.b2 34)] bW=some (E ct,eP)→l8 eP (.ref (a (.ei (af R c).ah))) (.tup [E (c+1),E ct,.ii 900])=some J→Good a H J→nE a H aC W R c5 S xs (t+1) (zc I (af R c).ah c) (c+1)→(∃X,aC=T++X)→aC.length≤T.length+48→s5 aI H→X):X:=by
 have kW:=h7.da
 have uX:(af R c).ah<4:=pX L
 have UE:c<900:=fa hc (a' kW.dc (aE rfl))
 refine xr (z:=z) kW.lw kW.bT dJ (t:=.b2 34) (.inl rfl) (aE rfl) (fa (nI a3 24) (aE rfl)) λ k ao cL bJ aB gm b8=>?_
 have Ci:=kW.go b8
 have⟨bf,bR,hf,ir,k3,nS⟩:=h7.im (af R c).ah uX
 have⟨ht,ty⟩:=h7.types
 have⟨aG,eF,jU,pH,tf,vz⟩:=h7.aM.bF
 have⟨⟨vG,er,eO,hr,kM,lS⟩,_⟩:=h7.ty (af R c).ah uX
 have MV:=cn (h7.len (af R c).ah) UE
 refine L8 (z:=z+29) (e2:=66+(af R c).ah) (l:=(af R c).ah) (e:=(c+1,.b2 34,900)) (k:=k) b8.good b8.bT ((fk (b8.good.at_ _ _ (b8.off rfl eF))).trans tf) (GQ uX b8.good (b8.off (r:=.types) rfl ty)) ((fk (b8.good.at_ _ _ (b8.off rfl er))).trans lS) (b8.off rfl hf) (ir.more λ q=>b8.eT q) gm MV (λ e b3 w=>oR c (a' (dh w.1.symm) (h7.each _ e b3).2.2:c+1≤c)) λ bW bZ d0=>?_
 have lN:∀r,r≠ .cM (af R c).ah→(up bJ (.cM (af R c).ah) (some (.li (bf++[iQ (c+1,.b2 34,900) k])))) r=bJ r:=λ r L=>bP _ _ L
 have tS:=Ci.but lN rfl rfl
 have oF:cL.length+24<500000:=cn (hb b8.le 24) (fa (nI (nI a3 24) 24) (aE rfl))
 refine xr (z:=z) tS.lw tS.bT d0 (t:=.b2 34) (.inl rfl) (aE rfl) oF λ ct eP sj hP dL ac9 fY=>?_
 have LZ:=(lN (.ei (af R c).ah) (a5 rfl)).trans (b8.off rfl k3)
 refine fY.good.l9 (v:=iQ (c+1,.b2 34,900) ct) (fY.off rfl LZ) (nS.len▸fi MV (aE rfl)) λ jW eA h0=>?_
 have xQ:∀r,r≠ .ei (af R c).ah→(up hP (.ei (af R c).ah) (some (.li (bR++[iQ (c+1,.b2 34,900) ct])))) r=hP r:=λ r L=>bP _ _ L
 have off:s5 aI (up hP (.ei (af R c).ah) (some (.li (bR++[iQ (c+1,.b2 34,900) ct])))):=λ r o c2 dW e=>(xQ r λ L=>nomatch(L▸dW:AJ (.ei (af R c).ah)=true)).trans (fY.off c2 ((lN r λ L=>nomatch(L▸dW:AJ (.cM (af R c).ah)=true)).trans (b8.off c2 e)))
 have d9:∀{k:C} {t:ap},ba T k t→ba sj k t:=λ q=>fY.eT (b8.eT q)
 have ot:=(tS.row c hc).at_ d0
 refine f ao bW eP jW _ sj k ct aB bZ ⟨true,ot.1,ot.2.2.2.1,rfl⟩ (PY uX d0 ((lN _ (a5 rfl)).trans (b8.off rfl h7.want))) (hQ (d0.at_ _ _ LZ)) dL eA h0 (h7.keep off ((tS.go fY).but xQ rfl rfl) (λ l hl=>(f9 (l=(af R c).ah)).elim (λ tF=>?_) λ tF=>?_) (λ l=>Jq (λ cf=>∀e∈cf,e.2.1= .b2 34∧e.2.2=900∧e.1≤c+1) (λ _ k e b3=>(nG.mp b3).elim (k e) λ b3=>jA.mp b3▸⟨rfl,rfl,cJ _⟩) λ e b3=>⟨(h7.each l e b3).1,(h7.each l e b3).2.1,lu (h7.each l e b3).2.2⟩) λ l=>Jq (λ cf=>cf.length≤c+1) (λ _ _=>by rw[fh];exact gq (h7.len l)) (lu (h7.len l))) (me b8.jn.ext fY.jn.ext) (of b8.le fY.le) off
 ·rw[tF]
  have DD:zc I (af R c).ah c (af R c).ah=I (af R c).ah++[(c+1,.b2 34,900)]:=if_pos rfl
  rw[DD]
  exact⟨_,_,(xQ _ (a5 rfl)).trans (fY.off rfl (cR _ _ _)),((ir.more λ q=>b8.eT q).add (e:=(c+1,.b2 34,900)) gm).more (λ q=>fY.eT q),cR _ _ _,(nS.more d9).add (e:=(c+1,.b2 34,900)) ac9⟩
 ·have DD:zc I (af R c).ah c l=I l:=if_neg tF
  rw[DD]
  have⟨kc,Qc,gf,i2,iM,zl⟩:=h7.im l hl
  exact⟨kc,Qc,(xQ _ (a5 rfl)).trans (fY.off rfl ((lN _ (Nr tF)).trans (b8.off rfl gf))),i2.more d9,(xQ _ (Fn tF)).trans (fY.off rfl ((lN _ (a5 rfl)).trans (b8.off rfl iM))),zl.more d9⟩
theorem YN{bR:B (Y D)}{bi aW bh bj bK bB cE dZ:Y D}(P:nE a h T W R c5 S xs t I c)(M:Good a h n)(hc:c<R.length)(bD:t<90000)(a3:T.length<100000)
  (f:∀(J:St) (H:aT) (aC:B aP) (cB:C) (ey:C→B (C×ap×C)),bS ac (runN ac (z+31)) uU (xf a bR bi aW c bh bj bK bB cE dZ) n=some (.br (xf a bR bi aW c bh bj bK bB cE dZ),J)→Good a H J→nE a H aC W R c5 S xs cB ey (c+1)→cB≤t+1→(∃X,aC=T++X)→aC.length≤T.length+48→s5 h H→X):X:=by
 have ae:=P.da
 have q:=(ae.row c hc).at_ M
 have KN:∀l,∀e∈I l,e.2.1= .b2 34∧e.2.2=900∧e.1≤c+1:=λ l e b3=>⟨(P.each l e b3).1,(P.each l e b3).2.1,lu (P.each l e b3).2.2⟩
 have Ax:∀l,(I l).length≤c+1:=λ l=>lu (P.len l)
 have cz:cY .lt (E (af R c).ah) (.ii 3) n=some (decide ((af R c).ah<3)):=M' (y:=3)
 refine(f9 ((af R c).ah<3)).elim (λ L=>?_) λ L=>?_
 ·rw[iO L]at cz
  refine yi (z:=z+30) (k:=6) (m:=3) M ae.w P.dR (fi bD (aE rfl)) (aE rfl) λ x aa aI LY aw dJ vR hB=>?_
  have kW:=ae.take vR hB
  have DX:∀r o,r≠ .w→h r=some o→aI r=some o:=λ r o k e=>(hB r (xI k)).2 o e
  have AS:s5 h aI:=λ r o _ k e=>DX r o (λ L=>nomatch(L▸k:AJ .w=true)) e
  have L9:∀l,l<4→∃bf bR,aI (.cM l)=some (.li bf)∧es T bf (I l)∧aI (.ei l)=some (.li bR)∧es T bR (I l):=λ l hl=>let⟨bf,bR,hf,ir,k3,nS⟩:=P.im l hl;⟨bf,bR,DX _ _ (a5 rfl) hf,ir,DX _ _ (a5 rfl) k3,nS⟩
  have cD:cY .eq (E x) (.ii 2) aa=some (decide (x=2)):=qd (y:=2)
  have fV:=(kW.row c hc).at_ dJ
  have gf:fH .add (.ii 66) (E (af R c).ah)=some (E (66+(af R c).ah)):=rfl
  refine(f9 (x=2)).elim (λ tG=>?_) λ tG=>?_
  ·rw[iO tG]at cD
   exact YL (z:=z) ae (P.keep AS kW L9 P.each P.len) dJ hc L a3 λ ao bW eP J H aC k ct aB bZ ⟨_,ot,te,_⟩ af0 is dL eA dG pZ ex le off=>
    f J H aC (t+1) _ (dm (z+31) uU (xf a bR bi aW c bh bj bK bB cE dZ) n _ q.1 _ cz _ _ aw _ cD _ fV.1 _ gf _ fV.2.2.2.1 _ _ aB _ _ bZ _ ot _ af0 is _ te _ _ dL _ eA) dG pZ (cJ _) ex le λ r o c2 dW e=>off r o c2 dW (AS r o c2 dW e)
  ·rw[j3 tG]at cD
   exact f aa aI T (t+1) I (dm (z+31) uU (xf a bR bi aW c bh bj bK bB cE dZ) n _ q.1 _ cz _ _ aw _ cD) dJ (P.keep AS kW L9 KN Ax) (cJ _) ⟨[],(eZ T).symm⟩ (d2 ..) AS
 ·rw[j3 L]at cz
  exact f n h T t I (dm (z+31) uU (xf a bR bi aW c bh bj bK bB cE dZ) n _ q.1 _ cz) M (P.keep (λ r o _ _ e=>e) ae P.im KN Ax) (h5 _) ⟨[],(eZ T).symm⟩ (d2 ..) λ r o _ _ e=>e
end
end Mine
end
section
namespace Mine
variable{xs:B C}{bR:B (Y D)}{bi aW:Y D}{t:C}{aQ:Y D}
section
variable{a:bH}{h:aT}{n:St}{T:B aP}{z:C}{W:cw}{R:B b5}{c5:C→C}{S:C→B (ap×C)}{al:B (am×D)}{X:Prop}
noncomputable def YK(z m:C)(l xs:B D)(env:aX)(n:St):Y (e0×St):=@fE (live (.ref m) l) (e1 (.ref m) l) (λ x aF J=>(di false [5] x aF).bind λ dH=>bS ac (runN ac (z+31)) uU dH J) xs env n
theorem YM{bh bj bK bB cE dZ:Y D}(m:C):∀{c:C} {n:St} {h:aT} {T:B aP} {t:C} {I:C→B (C×ap×C)} {o5:Y D},c+m=R.length→nE a h T W R c5 S xs t I c→Good a h n→t+m<90000→T.length+48*m<100000→
  (∀(J:St) (H:aT) (aC:B aP) (cB:C) (ey:C→B (C×ap×C)) (gz:Y D),YK z (a .gA) ((ck R.length).map λ j=>.ref (a (.row j))) ((pT c m).map λ j=>.ref (a (.row j))) (hz a bR bi (some (.ref (a .store))) aW o5 bh bj bK bB cE dZ) n=some (.br (hz a bR bi (some (.ref (a .store))) aW gz bh bj bK bB cE dZ),J)→Good a H J→nE a H aC W R c5 S xs cB ey R.length→cB≤t+m→(∃X,aC=T++X)→aC.length≤T.length+48*m→s5 h H→X)→X:=by
 induction m with
 |zero=>exact λ{c n h T t I o5} hc P M bD a3 f=>f n h T t I o5 (hg (M.at_ _ _ P.da.rows)) M ((Rk c).symm.trans hc▸P) (cJ _) ⟨[],(eZ T).symm⟩ (cJ _) λ r o _ _ e=>e
 |succ m aZ=>
  intro c n h T t I o5 hc P M bD a3 f
  have z7:c+1+m=R.length:=(jB c m).trans hc
  exact YN (z:=z) (bR:=bR) (bi:=bi) (aW:=aW) (bh:=bh) (bj:=bj) (bK:=bK) (bB:=bB) (cE:=cE) (dZ:=dZ) P M (z7▸d2 (c+1) m) (cn (d2 ..) bD) (cn (d2 ..) a3) λ aa aI bX jV ce aw dJ h7 M9 jH pn qw=>
   aZ (o5:=some (.ref (a (.row c)))) z7 h7 dJ (cn (a' (hb M9 m) (dh (jB t m))) bD) (cn (a' (hb pn _) (dh pt)) a3) λ ao bJ cL ym c1 gz aB dA mX aas qc of nj=>
    f ao bJ cL ym c1 gz (fd (M.at_ _ _ P.da.rows) aw aB) dA mX (a' aas (a' (hb M9 m) (dh (jB t m)))) (me jH qc) (a' of (a' (hb pn _) (dh pt))) λ r o c2 dW e=>nj r o c2 dW (qw r o c2 dW e)
noncomputable def D5:bk:=(.cons (.gJ (.aq (.v 1) (.ss [103,105,118,101,110])) (.v 3) (.call 55 (.cons (.v 1) (.cons (.aq (.aq (.v 1) (.ss [109,97,110,121])) (.ii 0)) .nil)))) .nil)
noncomputable def z0(er eO:ap)(c:C):ap:=if c=109 then er else if c=110 then eO else .k 7
noncomputable def OE:bk:=.cons (.gJ (.v 1) (.ss [103,105,118,101,110]) (.eQ .s)) (.cons (.dd [3] false (.ss [109,110]) D5) .nil)
noncomputable def m7(w:C)(bR:B (Y D))(bi aQ aW:Y D):aX:=bi::some (.ref w)::aQ::aW::bR
theorem Lo{c:C}{en:B (B C×D)}(lw:fP a h W)(M:Good a h n)(cS:h .w=some (.ds (dE a t 8)))(aA:h .dR=some (.li (xs.map E)))(i3:h .hH=some (.ds en))(XK:en.length<10)(bD:t<90000)
  (f:∀(u:ap) (J:St) (H:aT),bS ac (runN ac (z+2)) D5 (m7 (a .w) bR bi aQ (some (.ss [c]))) n=some (.br (m7 (a .w) bR bi aQ (some (.ss [c]))),J)→Good a H J→H .w=some (.ds (dE a (t+1) 8))→H .hH=some (.ds (c8 en [c] (bd u)))→(u.ar (W.many 0)∧u.wf∧u.size≤2)→bY (dB [.w,.hH]) a h a H→X):X:=by
 refine Pp (z:=z) (k:=6) (m:=W.many 0) M cS aA (fi bD (aE rfl)) λ u aa aI e q dJ vR hB=>?_
 have LK:=(hB .hH (bo rfl)).2 _ i3
 have eJ:=(lw.zi M).1
 have dN:de n (.ref (a .eb)) (.ii 0)=some (E (W.many 0)):=(lw.zi M).2 0 (fu _)
 have jo:de aa (.ref (a .w)) (.ss [103,105,118,101,110])=some (.ref (a .hH)):=gx (dJ.at_ _ _ vR) rfl
 have st:=x9 (s:=[c]) (v:=bd u) (dJ.at_ _ _ LK) (fi XK (aE rfl))
 exact f u _ _ (dm (z+2) D5 (m7 (a aN.w) bR bi aQ (some (D.ss [c]))) n _ eJ _ dN _ _ e _ jo _ st) (dJ.set LK) ((bP _ _ (a5 rfl)).trans vR) (cR _ _ _) q (bY.trans (q:=dB [.w,.hH]) (hB.sub (gI λ r m=>jA.mp m▸.head _)) (bY.kK (.tail _ (.head _))))
theorem W3{x:D}(M:Good a h n)(wl:nR a h T W (dE a t 7) al)(aA:h .dR=some (.li (xs.map E)))(aM:ko a h)(ty:∀l,l<4→si a h l (W.many l))(Yu:h .types=some (.li (dx 66 .nn++[.ref (a (.ty 0)),.ref (a (.ty 1)),.ref (a (.ty 2)),.ref (a (.ty 3)),x])))(hm:h .meths=some (.li [.nn]))(a4:h .gA=some (.li []))(bD:t<9000)(Xx:∀ae,ae≤3→oJ T W al ae)
  (f:∀(jd kN:ap) (J:St) (H:aT) (aY:bH) (eN:Y D),bS ac (runN ac (z+2)) OE (m7 (a .w) bR bi aQ aW) n=some (.br (m7 (a .w) bR bi aQ eN),J)→Good aY H J→iJ aY H T W al (z0 jd kN) [] xs (t+2)→aY .w=a .w→aY .store=a .store→X):X:=by
 have iA:∀{ek:bH} {cQ:aT} {bW:St},Good ek cQ bW→jT ac (runN ac (z+2)) (.gJ (.v 1) (.ss [103,105,118,101,110]) (.eQ .s)) (m7 (a .w) bR bi aQ aW) n=some (.br (m7 (a .w) bR bi aQ aW),bW)→cQ .w=some (.ds (dE ek t 8))→cQ .hH=some (.ds [])→bY (dB [.w,.hH]) a h ek cQ→ek .w=a .w→X:=λ{ek cQ bW} d0 st ih gL ng gd=>by
  have E6:∀{pc:aT} {ae9:C},pc .w=some (.ds (dE ek ae9 8))→bY (dB [.w,.hH]) a h ek pc→fP ek pc W:=λ w bx=>⟨⟨_,w,rfl,rfl,rfl⟩,let⟨aG,it,gD⟩:=wl.lw.store;⟨aG,(bx .store (bo rfl)).2 _ it,(bx .kt (bo rfl)).1.symm▸gD⟩,(bx .eb (bo rfl)).2 _ wl.lw.many,(bx .fA (bo rfl)).2 _ wl.lw.up,wl.lw.ok⟩
  refine Lo (z:=z) (c:=109) (bR:=bR) (bi:=bi) (aQ:=aQ) (E6 ih ng) d0 ih ((ng .dR (bo rfl)).2 _ aA) gL (aE rfl) (fi bD (aE rfl)) λ jd eP hP dL hZ tv mg d' f2=>?_
  have xE:=ng.trans f2
  refine Lo (z:=z) (c:=110) (bR:=bR) (bi:=bi) (aQ:=aQ) (E6 tv xE) hZ tv ((xE .dR (bo rfl)).2 _ aA) mg (aE rfl) (cn bD (aE rfl)) λ kN jW i5 fI h0 tw wZ cO hn=>?_
  have hT:=xE.trans hn
  have F:∀{r:aN} {o:a0},([aN.w,.hH].all λ p=>!(p.ctorIdx==r.ctorIdx))=true→h r=some o→i5 r=some o:=λ k e=>(hT _ (bo k)).2 _ e
  rw[gd]at dL fI
  have zH:∀l,ek (.ty l)=a (.ty l):=λ l=>(hT (.ty l) (bo rfl)).1
  exact f jd kN jW i5 ek (some (.ss [110])) (th st (th (vt (v:=.ss [109,110]) (l:=[.ss [109],.ss [110]]) rfl rfl (aE rfl) ((zV dL).trans ((zV fI).trans (hg trivial)))) rfl)) h0
   {wl:=⟨E6 tw hT,wl.bT.bx (hT.sub λ r k=>nT (p:=hS) rfl k),tw,rfl,wl.be.bx (hT .host (bo rfl)).2 (hT .kt (bo rfl)).1 (hT .fF (bo rfl)).1,F rfl wl.az,wl.ok⟩
    dR:=F rfl aA
    aM:=aM.bx (hT .store (bo rfl)).2 (hT .kt (bo rfl)).1 (hT .types (bo rfl)).1 (hT .meths (bo rfl)).1
    ty:=λ l hl=>(ty l hl).1.bx (hT.sub λ r k=>by rcases k with rfl|rfl|rfl|rfl<;>exact bo rfl)
    cM:=λ l hl=>F rfl (ty l hl).2.2
    types:=⟨x,by rw[zH 0,zH 1,zH 2,zH 3];exact F rfl Yu⟩
    given:=wZ
    lH:=λ c=>(f9 (c=109)).elim (λ L=>by rw[show z0 jd kN c=jd from if_pos L];exact d') λ d4=>(f9 (c=110)).elim (λ L=>by rw[show z0 jd kN c=kN from(if_neg d4).trans (if_pos L)];exact cO) λ d5=>by rw[show z0 jd kN c= .k 7 from(if_neg d4).trans (if_neg d5)];exact⟨trivial,.inl rfl,h5 1⟩
    meths:=F rfl hm
    dw:=λ l hl=>F rfl (ty l hl).2.1
    rows:=F rfl a4
    bl:=λ j r e=>nomatch e
    row:=λ j r e=>nomatch e
    eY:=λ r a4=>nomatch a4
    kr:=Xx} gd (hT .store (bo rfl)).1
 have dA:=M.new .hH (λ _=>a5 rfl) (.ds [])
 have pi:(up h .hH (some (.ds []))) .w=some (.ds (dE a t 7)):=(bP _ _ (a5 rfl)).trans wl.w
 have gd:up a .hH n.length .w=a .w:=bP _ _ (a5 rfl)
 have at2:=dA.at_ _ _ pi
 rw[gd]at at2
 have d0:=dA.set (c3:=.ds (dE (up a .hH n.length) t 8)) pi
 rw[gd]at d0
 have dt:c8 (dE a t 7) EM (.ref n.length)=dE (up a .hH n.length) t 8:=by
  unfold dE
  rw[cR,bP _ _ (a5 rfl),bP _ _ (a5 rfl),bP _ _ (a5 rfl),bP _ _ (a5 rfl),bP _ _ (a5 rfl),bP _ _ (a5 rfl)];rfl
 have st:jT ac (runN ac (z+2)) (.gJ (.v 1) (.ss [103,105,118,101,110]) (.eQ .s)) (m7 (a .w) bR bi aQ aW) n=some (.br (m7 (a .w) bR bi aQ aW),(n++[a0.ds []]).set (a .w) (a0.ds (dE (up a .hH n.length) t 8))):=aR ((x9 at2 yq).trans (an (λ x=>some ((n++[a0.ds []]).set (a .w) (.ds x))) dt)) rfl
 exact iA d0 st (cR _ _ _) ((bP _ _ (a5 rfl)).trans (cR _ _ _)) ((bY.mx (.tail _ (.head _))).trans (bY.kK (.head _))) gd
end
end Mine
end
section
namespace Mine
section
variable{a:bH}{h:aT}{n:St}{T:B aP}{z:C}{W:cw}{R:B b5}{c5 F:C→C}{S:C→B (ap×C)}{I:C→B (C×ap×C)}{al:B (am×D)}{aU:C→ap}{X:Prop}
structure wg(a:bH)(h:aT)(T:B aP)(W:cw)(al:B (am×D))(aU:C→ap)(R:B b5)(F:C→C):Prop extends HC W aU R where
 aM:ko a h
 bT:c6 a h T
 ty:∀l,l<4→l6 a h l (W.many l)
 types:∃x,h .types=some (.li (dx 66 .nn++[.ref (a (.ty 0)),.ref (a (.ty 1)),.ref (a (.ty 2)),.ref (a (.ty 3)),x]))
 meths:h .meths=some (.li (.nn::(ck R.length).map λ j=>.ref (a (.bl j))))
 dw:∀l,l<4→h (.dw l)=some (.li ((k' R λ r=>r.ah==l).map λ j=>E (j+1)))
 be:∃aG,h .host=some (.bF 9 aG)∧HB a aG
 az:h .fF=some (.cq al)
 hs:h .c7=some (.cq [(34,.ii 3)])
 o7:lV T W al
 kr:∀ae,ae≤3→oJ T W al ae
 bl:j0 a h T W aU R F
theorem wg.off{H:aT}{aC:B aP}(ag:wg a h T W al aU R F)(f:s5 h H)(bT:c6 a H aC)(k:∀{k:C} {t:ap},ba T k t→ba aC k t):wg a H aC W al aU R F:=
 ⟨ag.toHC,let⟨aG,eF,s⟩:=ag.aM.bF;⟨aG,f _ _ rfl rfl eF,s⟩,bT,λ l hl=>let⟨⟨aG,aw,e⟩,⟨cp,gk,p⟩⟩:=ag.ty l hl;⟨⟨aG,f _ _ rfl rfl aw,e⟩,⟨cp,f _ _ rfl rfl gk,p⟩⟩,let⟨x,e⟩:=ag.types;⟨x,f _ _ rfl rfl e⟩,f _ _ rfl rfl ag.meths,λ l hl=>f _ _ rfl rfl (ag.dw l hl),let⟨aG,aw,e⟩:=ag.be;⟨aG,f _ _ rfl rfl aw,e⟩,f _ _ rfl rfl ag.az,f _ _ rfl rfl ag.hs,ag.o7.more k,λ ae cC=>(ag.kr ae cC).more k λ k e=>e,λ j bt=>(ag.bl j bt).bx (λ o e=>f _ _ rfl rfl e) (λ g o e=>f _ _ rfl rfl e) k⟩
theorem Good.Fq{r:aN}(M:Good a h n)(o:a0)(a4:∀m,r≠ .a6 m)(f:∀aY H,Good aY H (n++[o])→aY r=n.length→H r=some o→bY (dB [r]) a h aY H→X):X:=f _ _ (M.new r a4 o) (cR _ _ _) (cR _ _ _) (bY.mx (.head _))
noncomputable def Bo(n:St):C→St
 |0=>n
 |k+1=>Bo n k++[.li []]
theorem wants(M:Good a h n)(k:C):∀{X:Prop},(∀aY H,Good aY H (Bo n k)→(∀l,l<k→aY (.ei l)=(Bo n l).length∧H (.ei l)=some (.li []))→bY (dB ((ck k).map .ei)) a h aY H→X)→X:=by
 induction k with
 |zero=>exact λ f=>f a h M (λ l h=>nomatch h) bY.refl
 |succ k aZ=>
  exact λ f=>aZ λ cx aI dJ w bx=>dJ.Fq (r:=.ei k) (.li []) (λ _=>a5 rfl) λ ed bJ dA aw aB xC=>
   f ed bJ dA (λ l hl=>(Rr.mp hl).elim (λ hl=>have m:=xC (.ei l) (xI (Fn (mS hl)));⟨m.1.trans (w l hl).1,m.2 _ (w l hl).2⟩) λ e=>e▸⟨aw,aB⟩)
    ((bx.sub (gI λ r m=>(hu.mp m).elim λ l L=>hu.mpr ⟨l,ga.mpr (pX (ga.mp L.1)),L.2⟩)).trans (xC.sub (gI λ r m=>hu.mpr ⟨k,ga.mpr (qU k),(jA.mp m).symm⟩)))
noncomputable def xH:B aN:=.c7::.host::.want::(ck 4).map .ei
noncomputable def Ba:bk:=.cons (.cc (.aq (.v 1) (.ss [104,111,115,116])) 71 (.pa [34] (.cons (.ii 3) .nil))) (.cons (.asg 4 (.lst (.cons (.lst .nil) (.cons (.lst .nil) (.cons (.lst .nil) (.cons (.lst .nil) .nil)))))) .nil)
noncomputable def sY(w:C)(bR:B (Y D))(bi aQ aW bp:Y D):aX:=bi::some (.ref w)::aQ::aW::bp::bR
theorem aaX{xs:B C}{t:C}{bR:B (Y D)}{bi aQ aW cm:Y D}(p:iJ a h T W al aU R xs t)(M:Good a h n)(b9:ip R 8)(dc:R.length≤16)
  (f:∀(J:St) (H:aT) (aY:bH),bS ac (runN ac z) Ba (sY (a .w) bR bi aQ aW cm) n=some (.br (sY (a .w) bR bi aQ aW (some (.ref (aY .want)))),J)→Good aY H J→wg aY H T W al aU R (λ j=>eD (af R j))→nE aY H T W R (λ j=>eD (af R j)) (λ _=>[]) xs t (λ _=>[]) 0→aY .w=a .w→aY .store=a .store→X):X:=by
 have⟨aG,it,gD,us,sC,wT,nZ⟩:=p.wl.be.bF
 refine M.Fq (r:=.c7) (.cq [(34,.ii 3)]) (λ _=>a5 rfl) λ cx aI dJ Vy c7 mw=>?_
 have w7:=(mw .host (bo rfl)).2 _ it
 have C0:=(mw .host (bo rfl)).1
 have dA:=dJ.set (c3:=.bF 9 (c8 aG 71 (.ref n.length))) w7
 have OL:lj ac (n++[a0.cq [(34,.ii 3)]]) (.ref (a .host)) 71 (.ref n.length)=some ((n++[a0.cq [(34,.ii 3)]]).set (a .host) (.bF 9 (c8 aG 71 (.ref n.length)))):=x6 (C0▸dJ.at_ _ _ w7) rfl (fi gD (aE rfl))
 rw[C0]at dA
 generalize((n++[a0.cq [(34,.ii 3)]]).set (a .host) (.bF 9 (c8 aG 71 (.ref n.length))))=ao at OL dA
 refine wants dA 4 λ ek cQ d0 ih g3=>?_
 have fO:=ih 0 (aE rfl)
 have kP:=ih 1 (aE rfl)
 have kQ:=ih 2 (aE rfl)
 have afW:=ih 3 (aE rfl)
 refine d0.Fq (r:=.want) (lU ek) (λ _=>a5 rfl) λ aY H dG SH sG f2=>?_
 have afT:lU aY=lU ek:=by unfold lU;rw[(f2 (.ei 0) (bo rfl)).1,(f2 (.ei 1) (bo rfl)).1,(f2 (.ei 2) (bo rfl)).1,(f2 (.ei 3) (bo rfl)).1]
 have aa3:bY (dB xH) cx aI cx (up aI .host (some (.bF 9 (c8 aG 71 (.ref n.length))))):=bY.kK (.tail _ (.head _))
 have pH:∀r,r∈(ck 4).map aN.ei→r∈xH:=λ r m=>.tail _ (.tail _ (.tail _ m))
 have bx:bY (dB xH) a h aY H:=(((mw.sub (gI (jk (.head _)))).trans aa3).trans (g3.sub (gI pH))).trans (f2.sub (gI (jk (.tail _ (.tail _ (.head _))))))
 have ab:∀{r:aN} {o:a0},(xH.all λ p=>!(p.ctorIdx==r.ctorIdx))=true→h r=some o→H r=some o:=λ k e=>(bx _ (bo k)).2 _ e
 have A:∀{r:aN},(xH.all λ p=>!(p.ctorIdx==r.ctorIdx))=true→aY r=a r:=λ k=>(bx _ (bo k)).1
 have kz:H .host=some (.bF 9 (c8 aG 71 (.ref n.length))):=(f2 .host (bo rfl)).2 _ ((g3 .host (bo rfl)).2 _ (cR _ _ _))
 have Xj:H .c7=some (.cq [(34,.ii 3)]):=(f2 .c7 (bo rfl)).2 _ ((g3 .c7 (bo rfl)).2 _ ((bP _ _ (a5 rfl)).trans c7))
 have SE:aY .c7=n.length:=(f2 .c7 (bo rfl)).1.trans ((g3 .c7 (bo rfl)).1.trans Vy)
 have Ff:dE aY t 8=dE a t 8:=(tx f2 rfl).trans ((tx g3 rfl).trans (tx mw rfl))
 have O2:ko aY H:=p.aM.bx (bx .store (bo rfl)).2 (A rfl) (A rfl) (A rfl)
 have PH:∀l,l<4→l6 aY H l (W.many l):=λ l hl=>(p.ty l hl).bx (bx.sub λ r k=>by rcases k with rfl|rfl|rfl|rfl<;>exact bo rfl)
 have PN:∃x,H .types=some (.li (dx 66 .nn++[.ref (aY (.ty 0)),.ref (aY (.ty 1)),.ref (aY (.ty 2)),.ref (aY (.ty 3)),x])):=let⟨x,e⟩:=p.types;⟨x,by rw[A (r:=.ty 0) rfl,A (r:=.ty 1) rfl,A (r:=.ty 2) rfl,A (r:=.ty 3) rfl];exact ab rfl e⟩
 have yj:c6 aY H T:=p.wl.bT.bx (bx.sub λ r k=>nT (p:=hS) rfl k)
 have adB:∀j,j<R.length→nN aY H j (af R j) (eD (af R j)) []:=λ j bt=>(p.row j _ (iP bt)).bx (bx.sub λ r k=>k.elim (λ e=>e▸bo rfl) λ e=>e▸bo rfl)
 have jo:de (n++[a0.cq [(34,.ii 3)]]) (.ref (a .w)) (.ss [104,111,115,116])=some (.ref (a .host)):=(mw .w (bo rfl)).1▸C0▸gx (dJ.at_ _ _ ((mw .w (bo rfl)).2 _ p.wl.w)) (by rw[←tx (t:=t) (k:=8) mw rfl];rfl)
 have Vz:a0.li [.ref ao.length,.ref (ao++[a0.li []]).length,.ref (ao++[a0.li []]++[a0.li []]).length,.ref (ao++[a0.li []]++[a0.li []]++[a0.li []]).length]=lU ek:=by unfold lU;rw[fO.1,kP.1,kQ.1,afW.1];rfl
 have st:bS ac (runN ac z) Ba (sY (a .w) bR bi aQ aW cm) n=some (.br (sY (a .w) bR bi aQ aW (some (.ref (aY .want)))),Bo ao 4++[lU ek]):=by
  rw[SH,←Vz]
  exact(dm z Ba (sY (a aN.w) bR bi aQ aW cm) n _ jo _ OL)
 have af4:∀l,l<4→H (.ei l)=some (.li []):=λ l hl=>(f2 _ (bo rfl)).2 _ (ih l hl).2
 exact f _ H aY st dG
  {iT:=p.wl.lw.ok,lH:=p.lH,eY:=p.eY,inv:=b9,dc:=dc,aM:=O2,bT:=yj,ty:=PH,types:=PN
   meths:=(ab rfl p.meths).trans (an (λ l=>some (a0.li (.nn::l))) (pS λ j _=>an D.ref (A (r:=.bl j) rfl).symm))
   dw:=λ l hl=>ab rfl (p.dw l hl)
   be:=⟨_,kz,(nk (tV rfl)).trans (us.trans (an (λ x=>some (D.ref x)) (A rfl).symm)),(nk (tV rfl)).trans (sC.trans (an (λ x=>some (D.ref x)) (A rfl).symm)),qy.trans (an (λ x=>some (D.ref x)) SE.symm),(nk (tV rfl)).trans wT,(nk (tV rfl)).trans nZ⟩
   az:=ab rfl p.wl.az,hs:=Xj,o7:=p.wl.ok,kr:=p.kr
   bl:=λ j bt=>(p.bl j _ (iP bt)).bx (λ o e=>ab rfl e) (λ g o e=>ab rfl e) λ q=>q}
  {da:=
    {lw:=p.wl.lw.bx (bx.sub λ r k=>nT (p:=sW) rfl k),bT:=yj,w:=Ff.symm▸ab rfl p.wl.w
     rows:=(ab rfl p.rows).trans (an (λ l=>some (a0.li l)) (pS λ j _=>an D.ref (A (r:=.row j) rfl).symm))
     row:=adB,eY:=p.eY,dc:=dc,lR:=λ j bt x aA=>(nomatch aA),mG:=λ j bt=>fu _}
   dR:=ab rfl p.dR,aM:=O2,ty:=PH,types:=PN
   im:=λ l hl=>⟨[],[],ab rfl (p.cM l hl),trivial,af4 l hl,trivial⟩
   want:=sG.trans (an some afT.symm),each:=λ l e b3=>(nomatch b3),len:=λ l=>cJ _} (A rfl) (A rfl)
end
end Mine
end
section
namespace Mine
section
variable{a:bH}{h:aT}{n:St}{T:B aP}{z:C}{W:cw}{R:B b5}{c5 F:C→C}{S:C→B (ap×C)}{I:C→B (C×ap×C)}{al:B (am×D)}{aU:C→ap}{X:Prop}
theorem Good.zd{b m:C}{r:aN}{o:a0}(M:Good a h n)(lt:∀r,(h r).isSome=true→a r<b)(hm:b≤m)(e:n[m]? =some o)(ho:∀m,r≠ .a6 m)(f:∀aY H,Good aY H n→(∀r,(H r).isSome=true→aY r<m+1)→aY r=m→H r=some o→bY (dB [r]) a h aY H→X):X:=
 have L:=M.adopt lt hm e ho;f _ _ L.1 L.2 (cR _ _ _) (cR _ _ _) (bY.mx (.head _))
noncomputable def Fp:B aN:=[.ij,.jv,.eI,.h9]
noncomputable def Bb:bk:=.cons (.asg 6 (.new 7 (.cons (.new 6 (.cons (.v 2) (.cons (.ii 1) .nil))) (.cons (.aq (.v 1) (.ss [104,111,115,116])) (.cons (.ii 1) .nil))))) (.cons (.asg 7 (.new 8 (.cons (.at (.v 6) 55) (.cons (.v 6) .nil)))) .nil)
noncomputable def tr(N:C)(s:D):B a0:=[.bF 6 (PP N s (.ii 1)),.li [.nn],.li [.nn],.cq [],.bF 5 [(0,.ref (N+5))],.li [],.cq [],.cq [],.cq []]
noncomputable def oE(N:C)(u s k be:D):B a0:=[.bF 7 (Hq N u s k be (.ii 1)),.cq [],.cq [],.li [],.cq []]
noncomputable def wO(N:C)(u nX s k:D):B a0:=[.bF 8 (KE N u nX s k),.li [],.li [],.cq [],.li [],.li [],.li [],.cq [],.cq []]
structure kS(a:bH)(h:aT)(T:B aP)(W:cw)(al:B (am×D))(aU:C→ap)(R:B b5)(F:C→C)(I:C→B (C×ap×C))(xs:B C)(t:C):Prop where
 ds:lW a h T W al aU R F I 0
 da:fg a h T W R F (λ _=>[]) t
 dR:h .dR=some (.li (xs.map E))
 want:h .want=some (lU a)
 wl:∀l,l<4→∃bf,h (.ei l)=some (.li bf)∧es T bf (I l)
 jv:h .jv=some (.li [])
 each:∀l,∀e∈I l,e.2.1= .b2 34∧e.2.2=900
 len:∀l,(I l).length≤16
noncomputable def qq(w s:C)(bR:B (Y D))(bi aW bp bq bh bj:Y D):aX:=bi::some (.ref w)::some (.ref s)::aW::bp::bq::bh::bj::bR
theorem aaY{xs:B C}{t:C}{bR:B (Y D)}{bi aW bp bq bN bm:Y D}(ag:wg a h T W al aU R F)(P:nE a h T W R F (λ _=>[]) xs t I R.length)(M:Good a h n)(hx:qO R F)
  (f:∀(J:St) (H:aT) (aY:bH),bS ac (runN ac (z+2)) Bb (qq (a .w) (a .store) bR bi aW bp bq bN bm) n=some (.br (qq (a .w) (a .store) bR bi aW bp bq (some (.ref (aY .ij))) (some (.ref (aY .eI)))),J)→Good aY H J→kS aY H T W al aU R F I xs t→H .h9=some (.li [])→aY .w=a .w→aY .store=a .store→aY .want=a .want→X):X:=by
 have Zk:=(P.aM.at_ M).2.2
 have iW:Good a h (n++tr n.length (.ref (a .store))):=M.mm
 have aw:runN ac (z+2) 8 [.ref n.length,.ref (a .store),.ii 1] (n++[.bF 6 []])=some (.nn,n++tr n.length (.ref (a .store))):=afN
 have GU:d7 (n++tr n.length (.ref (a .store))) (.ref n.length) 47=some (.ref (a .store)):=(fk (l' (i:=0))).trans rfl
 have jo:de (n++tr n.length (.ref (a .store))) (.ref (a .w)) (.ss [104,111,115,116])=some (.ref (a .host)):=gx (iW.at_ _ _ P.da.w) rfl
 have EL:=p7 (l:=tr n.length (.ref (a .store))) Zk
 have dy:n.length≤(n++tr n.length (.ref (a .store))).length:=fh (as:=n)▸d2 ..
 generalize(n++tr n.length (.ref (a .store)))=aa at iW aw GU jo EL dy
 have aB:runN ac (z+2) 9 [.ref aa.length,.ref n.length,.ref (a .host),.ii 1] (aa++[.bF 7 []])=some (.nn,aa++oE aa.length (.ref n.length) (.ref (a .store)) (.ref (a .kt)) (.ref (a .host))):=agn GU EL
 have P':d7 (aa++oE aa.length (.ref n.length) (.ref (a .store)) (.ref (a .kt)) (.ref (a .host))) (.ref aa.length) 55=some (.ref n.length):=(fk (l' (i:=0))).trans rfl
 have ji:Good a h (aa++oE aa.length (.ref n.length) (.ref (a .store)) (.ref (a .kt)) (.ref (a .host))):=iW.mm
 have eE:(aa++oE aa.length (.ref n.length) (.ref (a .store)) (.ref (a .kt)) (.ref (a .host))).length=aa.length+5:=fh
 have N6:∀{i:C} {b9:B a0},(aa++oE aa.length (.ref n.length) (.ref (a .store)) (.ref (a .kt)) (.ref (a .host))++b9)[aa.length+i]? =(oE aa.length (.ref n.length) (.ref (a .store)) (.ref (a .kt)) (.ref (a .host))++b9)[i]? :=λ{i b9}=>(an (·[aa.length+i]?) (jy ..)).trans l'
 have PO:=p7 (l:=oE aa.length (.ref n.length) (.ref (a .store)) (.ref (a .kt)) (.ref (a .host))) GU
 have Mt:=p7 (l:=oE aa.length (.ref n.length) (.ref (a .store)) (.ref (a .kt)) (.ref (a .host))) EL
 have Ed:=(N6 (i:=0)).trans (rfl:(oE aa.length (.ref n.length) (.ref (a .store)) (.ref (a .kt)) (.ref (a .host))++wO (aa.length+5) (.ref n.length) (.ref aa.length) (.ref (a .store)) (.ref (a .kt)))[0]? =some (.bF 7 (Hq aa.length (.ref n.length) (.ref (a .store)) (.ref (a .kt)) (.ref (a .host)) (.ii 1))))
 have Ee:=(N6 (i:=3)).trans (rfl:(oE aa.length (.ref n.length) (.ref (a .store)) (.ref (a .kt)) (.ref (a .host))++wO (aa.length+5) (.ref n.length) (.ref aa.length) (.ref (a .store)) (.ref (a .kt)))[3]? =some (.li []))
 generalize(aa++oE aa.length (.ref n.length) (.ref (a .store)) (.ref (a .kt)) (.ref (a .host)))=ao at aB P' ji eE PO Mt Ed Ee
 rw[←eE]at Ed Ee
 have bZ:runN ac (z+2) 10 [.ref ao.length,.ref n.length,.ref aa.length] (ao++[.bF 8 []])=some (.nn,ao++wO ao.length (.ref n.length) (.ref aa.length) (.ref (a .store)) (.ref (a .kt))):=Vg PO Mt
 have pO:Good a h (ao++wO ao.length (.ref n.length) (.ref aa.length) (.ref (a .store)) (.ref (a .kt))):=ji.mm
 refine pO.zd (r:=.ij) (m:=aa.length+0) (b:=n.length) M.E2 dy Ed (λ _=>a5 rfl) λ cx aI Qk sU SI Xm dN=>?_
 refine Qk.zd (r:=.jv) (m:=aa.length+3) sU (fB (aE rfl:1≤3) _) Ee (λ _=>a5 rfl) λ ed bJ Ql aau t' fZ dI=>?_
 refine Ql.zd (r:=.eI) (m:=ao.length+0) aau (eE▸h5 _) (l'.trans rfl) (λ _=>a5 rfl) λ ek cQ BX aav Sz j5 eh=>?_
 refine BX.zd (r:=.h9) (m:=ao.length+4) aav (fB (aE rfl:1≤4) _) (l'.trans rfl) (λ _=>a5 rfl) λ aY H Qm _ SD ee oh=>?_
 have bx:bY (dB Fp) a h aY H:=(((dN.sub (gI (jk (.head _)))).trans (dI.sub (gI (jk (.tail _ (.head _)))))).trans (eh.sub (gI (jk (.tail _ (.tail _ (.head _))))))).trans (oh.sub (gI (jk (.tail _ (.tail _ (.tail _ (.head _)))))))
 have ab:∀{r:aN} {o:a0},(Fp.all λ p=>!(p.ctorIdx==r.ctorIdx))=true→h r=some o→H r=some o:=λ k e=>(bx _ (bo k)).2 _ e
 have A:∀{r:aN},(Fp.all λ p=>!(p.ctorIdx==r.ctorIdx))=true→aY r=a r:=λ k=>(bx _ (bo k)).1
 have SA:aY .eI=ao.length:=(oh .eI (bo rfl)).1.trans Sz
 have Jo:aY .ij=aa.length:=(oh .ij (bo rfl)).1.trans ((eh .ij (bo rfl)).1.trans ((dI .ij (bo rfl)).1.trans SI))
 have SF:aY .jv=aa.length+3:=(oh .jv (bo rfl)).1.trans ((eh .jv (bo rfl)).1.trans t')
 have Xn:=(oh .ij (bo rfl)).2 _ ((eh .ij (bo rfl)).2 _ ((dI .ij (bo rfl)).2 _ Xm))
 have Xl:=(oh .jv (bo rfl)).2 _ ((eh .jv (bo rfl)).2 _ fZ)
 have Ec:=(oh .eI (bo rfl)).2 _ j5
 have K0:∀l m,(I l).filter (λ e=>e.1==m&&e.2.2 != 900)=[]:=λ l m=>tO.mpr λ e b3 y=>p8.mp (dF.mp y).2 (P.each l e b3).2.1
 have MR:∀l,(I l).length≤16:=λ l=>a' (P.len l) ag.dc
 have yj:c6 aY H T:=ag.bT.bx (bx.sub λ r k=>nT (p:=hS) rfl k)
 have st:bS ac (runN ac (z+2)) Bb (qq (a .w) (a .store) bR bi aW bp bq bN bm) n=some (.br (qq (a .w) (a .store) bR bi aW bp bq (some (.ref (aY .ij))) (some (.ref (aY .eI)))),ao++wO ao.length (.ref n.length) (.ref aa.length) (.ref (a .store)) (.ref (a .kt))):=by
  rw[Jo,SA]
  exact(dm (z+2) Bb (qq (a aN.w) (a aN.store) bR bi aW bp bq bN bm) n _ rfl _ rfl _ aw _ jo _ aB _ rfl _ P' _ bZ)
 have mE:∀{x y:C},x=y→some (D.ref y)=some (D.ref x):=λ e=>an (λ x=>some (D.ref x)) e.symm
 exact f _ H aY st Qm
  {ds:=
    {fS:=
      {toHC:=ag.toHC,aM:=ag.aM.bx (bx .store (bo rfl)).2 (A rfl) (A rfl) (A rfl),bT:=yj
       ty:=λ l hl=>(ag.ty l hl).bx (bx.sub λ r k=>by rcases k with rfl|rfl|rfl|rfl<;>exact bo rfl)
       types:=let⟨x,e⟩:=ag.types;⟨x,by rw[A (r:=.ty 0) rfl,A (r:=.ty 1) rfl,A (r:=.ty 2) rfl,A (r:=.ty 3) rfl];exact ab rfl e⟩
       meths:=(ab rfl ag.meths).trans (an (λ l=>some (a0.li (.nn::l))) (pS λ j _=>an D.ref (A (r:=.bl j) rfl).symm))
       dw:=λ l hl=>ab rfl (ag.dw l hl)
       be:=let⟨en,g1,g2,gL,mg,wZ⟩:=ag.be;⟨en,ab rfl g1,g2.trans (mE (A rfl)),gL.trans (mE (A rfl)),mg.trans (mE (A rfl)),wZ⟩
       az:=ab rfl ag.az,hs:=ab rfl ag.hs,o7:=ag.o7,kr:=ag.kr
       qb:=⟨_,_,Ec,Xn,mE (A rfl),mE (A rfl),mE Jo,mE SD,mE (A rfl),mE SF⟩}
     bl:=λ j bt=>(ag.bl j bt).bx (λ o e=>ab rfl e) (λ g o e=>ab rfl e) λ q=>q
     hx:=hx
     im:=λ l hl=>let⟨bf,_,hf,ir,_⟩:=P.im l hl;⟨bf,ab rfl hf,ir⟩
     io:=⟨λ l hl e b3=>.inl ⟨(P.each l e b3).1,(P.each l e b3).2.1⟩,λ l hl m=>by rw[K0];exact Cf,λ l hl m=>by rw[K0];exact fu _,λ l hl=>a' (MR l) (aE rfl)⟩}
   da:=
    {lw:=P.da.lw.bx (bx.sub λ r k=>nT (p:=sW) rfl k),bT:=yj,w:=(tx bx rfl).symm▸ab rfl P.da.w
     rows:=(ab rfl P.da.rows).trans (an (λ l=>some (a0.li l)) (pS λ j _=>an D.ref (A (r:=.row j) rfl).symm))
     row:=λ j bt=>(P.da.row j bt).bx (bx.sub λ r k=>k.elim (λ e=>e▸bo rfl) λ e=>e▸bo rfl),eY:=P.da.eY,dc:=P.da.dc,lR:=P.da.lR,mG:=P.da.mG}
   dR:=ab rfl P.dR
   want:=(ab rfl P.want).trans (by unfold lU;rw[A (r:=.ei 0) rfl,A (r:=.ei 1) rfl,A (r:=.ei 2) rfl,A (r:=.ei 3) rfl])
   wl:=λ l hl=>let⟨_,bR,_,_,k3,nS⟩:=P.im l hl;⟨bR,ab rfl k3,nS⟩
   jv:=Xl,each:=λ l e b3=>⟨(P.each l e b3).1,(P.each l e b3).2.1⟩,len:=MR} ee (A rfl) (A rfl) (A rfl)
end
end Mine
end
section
namespace Mine
variable{xs:B C}{t:C}{H:aT}{bi aQ aW bp bh:Y D}
section
variable{a:bH}{h:aT}{n:St}{T:B aP}{z:C}{W:cw}{R:B b5}{F:C→C}{I:C→B (C×ap×C)}{al:B (am×D)}{aU:C→ap}{X:Prop}
theorem kS.keep{cB:C}(A:kS a h T W al aU R F I xs t)(f:∀r o,gZ r=false→r≠ .w→r≠ .h9→h r=some o→H r=some o)(bT:c6 a H T)(cS:H .w=some (.ds (dE a cB 8))):kS a H T W al aU R F I xs cB:=
 {ds:=⟨A.ds.fS.keep (λ r o k e=>f r o (Oc k) (λ L=>nomatch(L▸k:pC .w=true)) (λ L=>nomatch(L▸k:pC .h9=true)) e) bT λ q=>q,λ j bt=>(A.ds.bl j bt).bx (λ o e=>f _ _ rfl (a5 rfl) (a5 rfl) e) (λ g o e=>f _ _ rfl (a5 rfl) (a5 rfl) e) λ q=>q,A.ds.hx,λ l hl=>let⟨bf,e,im⟩:=A.ds.im l hl;⟨bf,f _ _ rfl (a5 rfl) (a5 rfl) e,im⟩,A.ds.io⟩
  da:=⟨⟨⟨_,cS,rfl,rfl,rfl⟩,let⟨aG,it,gD⟩:=A.da.lw.store;⟨aG,f _ _ rfl (a5 rfl) (a5 rfl) it,gD⟩,f _ _ rfl (a5 rfl) (a5 rfl) A.da.lw.many,f _ _ rfl (a5 rfl) (a5 rfl) A.da.lw.up,A.da.lw.ok⟩,bT,cS,f _ _ rfl (a5 rfl) (a5 rfl) A.da.rows,λ j bt=>⟨f _ _ rfl (a5 rfl) (a5 rfl) (A.da.row j bt).row,f _ _ rfl (a5 rfl) (a5 rfl) (A.da.row j bt).st⟩,A.da.eY,A.da.dc,A.da.lR,A.da.mG⟩
  dR:=f _ _ rfl (a5 rfl) (a5 rfl) A.dR,want:=f _ _ rfl (a5 rfl) (a5 rfl) A.want,wl:=λ l hl=>let⟨bf,e,im⟩:=A.wl l hl;⟨bf,f _ _ rfl (a5 rfl) (a5 rfl) e,im⟩
  jv:=f _ _ rfl (a5 rfl) (a5 rfl) A.jv,each:=A.each,len:=A.len}
theorem kS.go{b:C}{J:St}(A:kS a h T W al aU R F I xs t)(x:b0 a h T b J T H):kS a H T W al aU R F I xs t:=A.keep (λ r o k _ _ e=>x.off k e) x.bT (x.off rfl A.da.w)
noncomputable def g5(R:B b5):B Nat:=(ck R.length).filter λ j=>(af R j).eM
noncomputable def AK:bk:=(.cons (.ex (.append (.at (.v 7) 65) (.tup (.cons (.bin .add (.ii 66) (.aq (.v 5) (.ss [108,101,118,101,108]))) (.cons (.aq (.v 5) (.ss [109,105,100])) (.cons (.new 4 (.cons (.gl [78,95,77,69,84,72,79,68] (.ii 91)) (.cons (.tup (.cons (.aq (.v 5) (.ss [110,97,109,101])) (.cons (.ii 0) .nil))) (.cons (.lst .nil) (.cons (.ii 128) (.cons (.aq (.v 5) (.ss [109,105,100])) .nil)))))) .nil)))))) .nil)
noncomputable def xF(a:bH)(bR:B (Y D))(bi aV aQ aW bp bq bh:Y D):aX:=bi::aV::aQ::aW::bp::bq::bh::some (.ref (a .eI))::bR
theorem abd{dX:C}{lst:B D}{bR:B (Y D)}{aV:Y D}(is:B C):∀{done:B C} {nd:C→D} {n:St} {h:aT} {o5:Y D},(∀i∈is,i<R.length)→(done++is).Nodup→kS a h T W al aU R F I xs t→Good a h n→h .h9=some (.li (py R nd done))→h (.a6 dX)=some (.li lst)→done.length+is.length<100→
  (∀(J:St) (H:aT) (om:C→D) (gz:Y D),@fE (live (.ref dX) lst) (e1 (.ref dX) lst) (λ x aF J=>(di false [5] x aF).bind λ dH=>bS ac (runN ac (z+1)) AK dH J) (is.map λ j=>.ref (a (.row j))) (xF a bR bi aV aQ aW bp o5 bh) n=some (.br (xF a bR bi aV aQ aW bp gz bh),J)→Good a H J→kS a H T W al aU R F I xs t→H .h9=some (.li (py R om (done++is)))→H (.a6 dX)=some (.li lst)→X)→X:=by
 induction is with
 |nil=>exact λ{done nd n h o5} ay Fj A M a1 hm hl f=>f n h nd o5 (hg (df M hm)) M A ((eZ done).symm▸a1) hm
 |cons i is aZ=>
  intro done nd n h o5 ay Fj A M a1 hm hl f
  have rf:=ay i (.head _)
  have q:=(A.da.row i rf).at_ M
  have iW:=M.kE (.li [])
  have r:=(A.da.row i rf).at_ iW
  have dL:=abC (z:=z) (n:=n++[a0.li []]) (k:=.ii 91) (aV:=.tup [.ss [(af R i).nm],.ii 0]) (aQ:=.ref n.length) (aW:=.ii 128) (bp:=E (i+1))
  have gf:fH .add (.ii 66) (E (af R i).ah)=some (E (66+(af R i).ah)):=rfl
  have abp:i∉done:=λ q=>(Ce.mp Fj).2.2 i q i (.head _) rfl
  have abe:py R (λ x=>if x=i then .ref (n++[a0.li []]).length else nd x) (done++[i])=py R nd done++[.tup [E (66+(af R i).ah),E (i+1),.ref (n++[a0.li []]).length]]:=nF.trans (congr (an HAppend.hAppend (pS λ j bt=>an (λ x=>D.tup [E (66+(af R j).ah),E (j+1),x]) (if_neg λ(L:j=i)=>abp (L▸bt)))) (an (λ x=>[D.tup [E (66+(af R i).ah),E (i+1),x]]) (if_pos rfl)))
  refine(iW.kE (.bF 4 [(41,.ii 91),(42,.tup [.ss [(af R i).nm],.ii 0]),(43,.ref n.length),(44,.ii 128),(45,E (i+1)),(46,.ii 0)])).l9 (v:=.tup [E (66+(af R i).ah),E (i+1),.ref (n++[a0.li []]).length]) a1 ((cG (as:=done) _).symm▸fi (cn (d2 ..) hl) (aE rfl)) λ bW eA d0=>?_
  have fr:∀r,r≠ .h9→(up h .h9 (some (.li (py R nd done++[.tup [E (66+(af R i).ah),E (i+1),.ref (n++[a0.li []]).length]])))) r=h r:=λ r L=>bP _ _ L
  have BX:kS a _ T W al aU R F I xs t:=A.keep (λ r o _ _ k e=>(fr r k).trans e) (A.da.bT.off λ r o k e=>(fr r λ L=>nomatch(L▸k:hS .h9=true)).trans e) ((fr _ (a5 rfl)).trans A.da.w)
  have st:bS ac (runN ac (z+1)) AK (xF a bR bi aV aQ aW bp (some (.ref (a (.row i)))) bh) n=some (.br (xF a bR bi aV aQ aW bp (some (.ref (a (.row i)))) bh),bW):=(dm (z+1) AK (xF a bR bi aV aQ aW bp (some (D.ref (a (aN.row i)))) bh) n _ (A.ds.fS.zE M) (hQ (M.at_ _ _ a1)) _ q.1 _ gf _ q.2.2.2.1 _ rfl _ q.2.1 _ r.2.2.2.1 _ dL _ eA)
  exact aZ (done:=done++[i]) (o5:=some (.ref (a (.row i)))) (λ i m=>ay i (.tail _ m)) (mP done i is▸Fj) BX d0 ((cR _ _ _).trans (an (λ l=>some (a0.li l)) abe.symm)) ((fr _ (a5 rfl)).trans hm) (cn (dh (by rw[fh];exact jB ..)) hl) λ J H om gz aB dG nz gw ib=>
   f J H om gz (fd (df M hm) st aB) dG nz (mP done i is▸gw) ib
noncomputable def FQ:ab:=(.comp (.v 13) [13] false (.aq (.v 1) (.ss [114,111,119,115])) (.cons (.e (.aq (.v 13) (.ss [111,118,101,114]))) .nil))
noncomputable def OG:bk:=.cons (.asg 8 FQ) (.cons (.b4 (.cmp .eq (.call 52 (.cons (.v 1) (.cons (.ii 2) .nil))) (.ii 1)) (.cons (.asg 8 (.rev (.v 8))) .nil) (.nil)) (.cons (.dd [5] false (.v 8) AK) .nil))
noncomputable def kG(a:bH)(bi aQ aW bp bq bh bK bB cE dZ e8 fo fp e9 e':Y D):aX:=[bi,some (.ref (a .w)),aQ,aW,bp,bq,bh,some (.ref (a .eI)),bK,bB,cE,dZ,e8,fo,fp,e9,e']
theorem aaZ{bq bK bB cE dZ e8 fo fp e9 e':Y D}(A:kS a h T W al aU R F I xs t)(M:Good a h n)(a1:h .h9=some (.li []))(bD:t<90000)
  (f:∀(J:St) (H:aT) (nd:C→D) (dX:C) (os:B C) (gz:Y D) (cB:C),bS ac (runN ac (z+1)) OG (kG a bi aQ aW bp bq bh bK bB cE dZ e8 fo fp e9 e') n=some (.br (kG a bi aQ aW bp gz bh (some (.ref dX)) bB cE dZ e8 fo fp e9 e'),J)→Good a H J→kS a H T W al aU R F I xs cB→H .h9=some (.li (py R nd os))→H (.a6 dX)=some (.li (os.map λ j=>.ref (a (.row j))))→os.Nodup→os.length≤16→(∀i∈os,i<R.length)→(os=g5 R∨os=(g5 R).reverse)→X):X:=by
 have gN:=sz (V:=runN ac (z+1)) (x:=13) (env:=kG a bi aQ aW bp bq bh bK bB cE dZ e8 fo fp e9 e') (acc:=[]) (eS:=ck R.length) (f:=λ j=>.ref (a (.row j))) (b7:=.v 13) (eo:=.cons (.e (.aq (.v 13) (.ss [111,118,101,114]))) .nil) (M.at_ _ _ A.da.rows) (p:=λ j=>(af R j).eM) (g:=λ j=>.ref (a (.row j))) λ j bt=>by
  have ac4:=((A.da.row j (ga.mp bt)).at_ M).2.2.2.2.2.2
  have er:fs ac (runN ac (z+1)) (.e (.aq (.v 13) (.ss [111,118,101,114]))) (kG a bi aQ aW bp bq bh bK bB cE dZ e8 (some (.ref (a (.row j)))) fp e9 e') n=some ((af R j).eM,n):=(je (z+1) (Mine.T.e ((ab.v 13).aq (ab.ss [111,118,101,114]))) (kG a bi aQ aW bp bq bh bK bB cE dZ e8 (some (D.ref (a (aN.row j)))) fp e9 e') n _ ac4 _ ((rfl:ig n (.cj (af R j).eM)=some (af R j).eM)))
  exact⟨(qH er rfl).trans (by rw[vY]),qz rfl⟩
 have hl:((ck R.length).map λ j=>D.ref (a (.row j))).length≤100000:=by rw[cG,gB];exact a' A.da.dc (aE rfl)
 have q':ci ac (runN ac (z+1)) FQ (kG a bi aQ aW bp bq bh bK bB cE dZ e8 fo fp e9 e') n=some (.ref n.length,n++[.li ((g5 R).map λ j=>.ref (a (.row j)))]):=(hI (z+1) FQ (kG a bi aQ aW bp bq bh bK bB cE dZ e8 fo fp e9 e') n _ (gx (M.at_ _ _ A.da.w) rfl) _ (iz (M.at_ _ _ A.da.rows)) hl _ _ gN)
 have g1:=b0.start A.da.bT M (.li ((g5 R).map λ j=>.ref (a (.row j))))
 have yu:=A.go g1.1
 refine yi (z:=z) (k:=6) (m:=2) g1.1.good yu.da.w yu.dR (fi bD (aE rfl)) (aE rfl) λ x ao bJ LX aB dA agf sZ=>?_
 have uy:∀r o,r≠ .w→_=some o→bJ r=some o:=λ r o k e=>(sZ r (xI k)).2 o e
 have BU:kS a bJ T W al aU R F I xs (t+1):=yu.keep (λ r o _ k _ e=>uy r o k e) (yu.da.bT.off λ r o k e=>uy r o (λ L=>nomatch(L▸k:hS .w=true)) e) agf
 have ix:=uy _ _ (a5 rfl) g1.2
 have LH:=uy .h9 _ (a5 rfl) (g1.1.off rfl a1)
 have Nn:(g5 R).Nodup:=wc.filter _
 have NZ:(g5 R).length≤16:=a' (H0 ..) (gB.symm▸A.da.dc)
 have mem:∀i∈g5 R,i<R.length:=λ i ay=>ga.mp (oP.mp ay).1
 have cD:cY .eq (E x) (.ii 1) ao=some (decide (x=1)):=qd (y:=1)
 have tt:fs ac (runN ac (z+1)) (.cmp .eq (.call 52 (.cons (.v 1) (.cons (.ii 2) .nil))) (.ii 1)) (kG a bi aQ aW bp bq bh (some (.ref n.length)) bB cE dZ e8 fo fp e9 e') (n++[.li ((g5 R).map λ j=>.ref (a (.row j)))])=some (decide (x=1),ao):=(je (z+1) (Mine.T.cmp jg.eq (ab.call 52 (d6.cons (ab.v 1) (d6.cons (ab.ii 2) d6.nil))) (ab.ii 1)) (kG a bi aQ aW bp bq bh (some (D.ref (f' n))) bB cE dZ e8 fo fp e9 e') (n++[a0.li (eB (λ j=>D.ref (a (aN.row j))) (g5 R))]) _ _ aB _ cD)
 have hM:∀(bW:St) (cQ:aT) (dX:C) (os:B C),jT ac (runN ac (z+1)) (.b4 (.cmp .eq (.call 52 (.cons (.v 1) (.cons (.ii 2) .nil))) (.ii 1)) (.cons (.asg 8 (.rev (.v 8))) .nil) (.nil)) (kG a bi aQ aW bp bq bh (some (.ref n.length)) bB cE dZ e8 fo fp e9 e') (n++[.li ((g5 R).map λ j=>.ref (a (.row j)))])=some (.br (kG a bi aQ aW bp bq bh (some (.ref dX)) bB cE dZ e8 fo fp e9 e'),bW)→kS a cQ T W al aU R F I xs (t+1)→Good a cQ bW→cQ .h9=some (.li [])→cQ (.a6 dX)=some (.li (os.map λ j=>.ref (a (.row j))))→os.Nodup→os.length≤16→(∀i∈os,i<R.length)→(os=g5 R∨os=(g5 R).reverse)→X:=λ bW cQ dX os O Qf d0 XC ph vb EU sX mh=>
  abd (z:=z) (dX:=dX) (lst:=os.map λ j=>.ref (a (.row j))) (bR:=[some (.ref dX),bB,cE,dZ,e8,fo,fp,e9,e']) (bi:=bi) (aV:=some (.ref (a .w))) (aQ:=aQ) (aW:=aW) (bp:=bp) (bh:=bh) os (done:=[]) (nd:=λ _=>.nn) (o5:=bq) sX vb Qf d0 XC ph (cn (dh (jj _)) (cn EU (aE rfl))) λ J H om gz fI dG nz gw ib=>
   f J H om dX os gz (t+1) (aR (aR q' rfl) (aR O (aR (vt (v:=.ref dX) (qz rfl) (iz (df d0 ph)) ((cG (as:=os) λ j=>D.ref (a (.row j))).symm▸a' EU (aE rfl)) fI) rfl))) dG nz gw ib vb EU sX mh
 refine(f9 (x=1)).elim (λ L=>?_) λ L=>?_
 ·rw[iO L]at tt
  have gL:=b0.start BU.da.bT dA (.li (((g5 R).map λ j=>D.ref (a (.row j))).reverse))
  have EP:uZ ao (.ref n.length)=some ((g5 R).map λ j=>.ref (a (.row j))):=an (sT λ xs=>some xs) (df dA ix)
  have ul:bS ac (runN ac (z+1)) (.cons (.asg 8 (.rev (.v 8))) .nil) (kG a bi aQ aW bp bq bh (some (.ref n.length)) bB cE dZ e8 fo fp e9 e') ao=some (.br (kG a bi aQ aW bp bq bh (some (.ref ao.length)) bB cE dZ e8 fo fp e9 e'),ao++[.li (((g5 R).map λ j=>D.ref (a (.row j))).reverse)]):=(dm (z+1) (bk.cons (S.asg 8 (ab.v 8).rev) bk.nil) (kG a bi aQ aW bp bq bh (some (D.ref (f' n))) bB cE dZ e8 fo fp e9 e') ao _ EP)
  exact hM _ _ ao.length (g5 R).reverse (aR tt ((if_pos rfl).trans ul)) (BU.go gL.1) gL.1.good (gL.1.off rfl LH) (gL.2.trans (an (λ l=>some (a0.li l)) Q7.symm)) (List.pairwise_reverse.mpr (Nn.imp λ q e=>q e.symm)) (List.length_reverse.symm▸NZ) (λ i ay=>mem i (Q9.mp ay)) (.inr rfl)
 ·rw[j3 L]at tt
  exact hM ao bJ n.length (g5 R) (aR tt (if_neg mM)) BU dA LH ix Nn NZ mem (.inl rfl)
end
end Mine
end
section
namespace Mine
variable{k:C}{bf:B D}{l:B C}{m c0:C}{y:D}
theorem aep{X:Prop}(l:B C):l.Pairwise (λ x y=>x≤y)→(∀x∈l,1≤x∧x≤3)→(∀cz cD dp,l=dx cz 1++dx cD 2++dx dp 3→X)→X:=by
 induction l with
 |nil=>exact λ _ _ f=>f 0 0 0 rfl
 |cons x l aZ=>
  intro bM az f
  have bM:=List.pairwise_cons.mp bM
  have aA:=az x (.head _)
  refine aZ bM.2 (λ y m=>az y (.tail _ m)) λ cz cD dp e=>?_
  have NA:1<x→cz=0:=λ h=>match cz,e with
   |0,_=>rfl
   |c+1,e=>absurd (bM.1 1 (e▸.head _)) (Cq h)
  refine nb (P:=λ y=>x=y→1≤y→X) x aA.2 (λ _ h=>nomatch h) (λ L _=>f (cz+1) cD dp ?_) (λ L _=>f 0 (cD+1) dp ?_) (λ L _=>f 0 0 (dp+1) ?_) rfl aA.1
  ·rw[L,e];rfl
  ·rw[NA (L▸cJ 2)]at e;rw[L,e];rfl
  ·rw[NA (L▸h5 2)]at e
   have d5:cD=0:=match cD,e with
    |0,_=>rfl
    |c+1,e=>absurd (bM.1 2 (e▸.head _)) (Cq (L▸cJ 3))
   rw[d5]at e
   rw[L,e];rfl
theorem F9{c:C}{A al:B C}:c≤((A++dx c k++al).filter λ x=>x==k).length:=by
 rw[r3,r3,fh,fh,List.filter_replicate_of_pos (p:=λ x=>x==k) (lE k),Cd]
 exact a' (iI ..) (d2 ..)
section
variable{a:bH}{h:aT}{n:St}{T:B aP}{z:C}{W:cw}{R:B b5}{F:C→C}{I:C→B (C×ap×C)}{al:B (am×D)}{aU:C→ap}{X:Prop}
theorem Om:(ck R.length).map (af R)=R:=HP (by rw[cG,gB]) λ i ax aH=>by
 rw[HY,HZ]
 exact ej ((iP aH).symm.trans (h2 aH))
theorem acl(b9:ip R 8)(eY:∀r∈R,r.ah≤3∧(r.nm=109∨r.nm=110)∧r.aM≤1)(f:∀cz cD dp,cz≤4→cD≤4→dp≤4→fx R (g5 R)=gX false cz cD dp→fx R (g5 R).reverse=gX true cz cD dp→X):X:=by
 have ac2:(fx R (g5 R)).Pairwise λ x y=>x≤y:=tR.mpr ((tR.mp ((Om (R:=R)).symm▸b9.sorted:((ck R.length).map (af R)).Pairwise λ x y=>x.ah≤y.ah)).filter _)
 have q3:∀x∈fx R (g5 R),1≤x∧x≤3:=λ x aA=>(hu.mp aA).elim λ j L=>L.2▸by
  have p:=oP.mp L.1
  have mem:=h3 (iP (ga.mp p.1))
  exact(b9.C3 _ mem p.2).elim λ q v=>⟨cn (fu _) v.2.1,(eY _ mem).1⟩
 have cnt:∀c,((fx R (g5 R)).filter λ x=>x==c).length≤4:=λ c=>by
  refine a' (agv (agu (λ x=>x==c) (agw (λ j=>(af R j).ah) (List.filter_sublist (p:=λ j=>(af R j).eM) (l:=ck R.length))))) ?_
  have e:(ck R.length).map (λ j=>(af R j).ah)=R.map λ r=>r.ah:=tQ.symm.trans (an (eB λ r:b5=>r.ah) Om)
  rw[e,QZ,cG]
  exact(b9.cnt c).1
 refine aep _ ac2 q3 λ cz cD dp e=>?_
 rw[e]at cnt
 refine f cz cD dp (a' (F9 (A:=[]) (al:=dx cD 2++dx dp 3)) (jy (dx cz 1) _ _▸cnt 1)) (a' F9 (cnt 2)) (a' (F9 (A:=dx cz 1++dx cD 2) (al:=[])) (a' (dh (by rw[eZ])) (cnt 3))) e ?_
 have cH:fx R (g5 R).reverse=(fx R (g5 R)).reverse:=Q7
 rw[cH,e,Ra,Ra,H7,H7,H7,←jy]
 rfl
theorem YT{e:C×ap×C}:fJ n 2 (iQ e k) (iQ e k)=true:=dF.mpr ⟨iO rfl,dF.mpr ⟨iO rfl,dF.mpr ⟨iO rfl,rfl⟩⟩⟩
theorem es.same(cy:T.Nodup){O:B (C×ap×C)}(I:es T bf O):∀{bR:B D},es T bR O→k6 (fJ n 2) bf bR=true:=
 I.b7 (ak:=λ bf O=>∀{bR:B D},es T bR O→k6 (fJ n 2) bf bR=true) (λ{bR} I=>by rw[I.AM];rfl) λ k e xs O q _ r {bR} I=>I.sA λ ct Qc Wm ep ey=>by
  rw[Wm,ba.inj cy ep q]
  exact dF.mpr ⟨YT,r ey⟩
theorem Mg:(l.map E).all (eL n 3)=true:=g'.mpr λ x aA=>(hu.mp aA).elim λ y L=>L.2▸rfl
theorem Y0:k6 (fJ n 3) (l.map E) (l.map E)=true:=by
 induction l with
 |nil=>exact rfl
 |cons x l aZ=>exact dF.mpr ⟨iO rfl,aZ⟩
theorem C4{p q r s:av}(ax:p=true)(aH:q=true)(cI:r=true)(gh:s=true):(p&&(q&&(r&&(s&&true))))=true:=by rw[ax,aH,cI,gh];rfl
theorem abv{l cf:B D}(e:n[m]? =some (.li l))(bC:n[c0]? =some (.li (y::cf))):s1 n (.ref m) (.ref c0)=none:=
 (an (λ o:Y a0=>match o,n[c0]? with|some (.li xs),some (.li [])=>some (!xs.isEmpty)|_,_=>none) e).trans (an (λ o:Y a0=>match some (a0.li l),o with|some (.li xs),some (.li [])=>some (!xs.isEmpty)|_,_=>none) bC)
theorem abi{xs:B D}(e:n[m]? =some (.li xs))(bC:n[c0]? =some (.li (y::bf)))(o:xs.all (eL n 3)=true)(c3:(y::bf).all (eL n 3)=true):cY .ne (.ref m) (.ref c0) n=some (!k6 (fJ n 3) xs (y::bf)):=
 (an (λ o:Y av=>match o with|some r=>some r|none=>(m5 4 n (.ref m) (.ref c0)).map (!·)) (abv e bC)).trans (an (qV (!·)) (DG e bC o c3))
noncomputable def Bc:bk:=.cons (.b4 (.or (.cons (.cmp .ne (.at (.v 6) 59) (.lst .nil)) (.cons (.cmp .ne (.comp (.at (.aq (.at (.v 2) 36) (.bin .add (.ii 66) (.v 14))) 19) [14] false (.gQ (.ii 4)) (.nil)) (.v 4)) .nil))) (.cons (.ret (.cj false)) .nil) (.nil)) (.cons (.ret (.cmp .eq (.comp (.at (.v 15) 8) [15] false (.lk (.at (.v 2) 15) (.ii 1)) (.nil)) (.comp (.aq (.v 16) (.ss [102,108,97,103,115])) [16] false (.aq (.v 1) (.ss [114,111,119,115])) (.nil)))) .nil)
noncomputable def kd(a:bH)(bi aW bq bj bK bB cE dZ e8 fo fp e9 e':Y D):aX:=[bi,some (.ref (a .w)),some (.ref (a .store)),aW,some (.ref (a .want)),bq,some (.ref (a .ij)),bj,bK,bB,cE,dZ,e8,fo,fp,e9,e']
theorem ZG{S:C→B (ap×C)}{t:C}{bi aW bq bj bK bB cE dZ e8 fo fp e9 e':Y D}(M:Good a h n)(bT:c6 a h T)(aM:ko a h)(types:∃x,h .types=some (.li (dx 66 .nn++[.ref (a (.ty 0)),.ref (a (.ty 1)),.ref (a (.ty 2)),.ref (a (.ty 3)),x])))(ty:∀l,l<4→l6 a h l (W.many l))(meths:h .meths=some (.li (.nn::(ck R.length).map λ j=>.ref (a (.bl j)))))(agm:∃aG,h .ij=some (.bF 7 aG)∧aG.lookup 59=some (.ref (a .jv)))(jv:h .jv=some (.li []))(im:∀l,l<4→∃bf,h (.cM l)=some (.li bf)∧es T bf (I l))(wl:∀l,l<4→∃bf,h (.ei l)=some (.li bf)∧es T bf (I l))(want:h .want=some (lU a))(bl:j0 a h T W aU R F)(da:fg a h T W R F S t):
  ∃J,bS ac (runN ac z) Bc (kd a bi aW bq bj bK bB cE dZ e8 fo fp e9 e') n=some (.f5 (.cj true),J):=by
 refine bT.b7 λ _ _ _ _ Su=>?_
 have⟨bf,oD,tE⟩:=agm
 have⟨x,tq⟩:=types
 have iW:=M.kE (.li [])
 have iB:=Fl (iW.at_ _ _ jv) (i1 (l:=n) (x:=a0.li []) rfl)
 have ji:=iW.kE (.li [.ref (a (.cM 0)),.ref (a (.cM 1)),.ref (a (.cM 2)),.ref (a (.cM 3))])
 have Bl:=aM.at_ iW
 have b7:∀l,l<4→ci ac (runN ac z) (.at (.aq (.at (.v 2) 36) (.bin .add (.ii 66) (.v 14))) 19) (kd a bi aW bq bj bK bB cE dZ e8 fo (some (E l)) e9 e') (n++[.li []])=some (.ref (a (.cM l)),n++[.li []]):=λ l hl=>
  let⟨⟨vG,er,eO,hr,kM,lS⟩,_⟩:=ty l hl
  have Ta:fH .add (.ii 66) (E l)=some (E (66+l)):=rfl;
  have ae':=(fk (iW.at_ _ _ er)).trans lS;
  (hI z ((((ab.v 2).at 36).aq (ab.bin iU.add (ab.ii 66) (ab.v 14))).at 19) (kd a bi aW bq bj bK bB cE dZ e8 fo (some (E l)) e9 e') (n++[a0.li []]) _ Bl.2.1 _ Ta _ (GQ hl iW tq) _ ae')
 have kH:cY .ne (.ref (n++[a0.li []]).length) (.ref (a .want)) (n++[.li []]++[.li [.ref (a (.cM 0)),.ref (a (.cM 1)),.ref (a (.cM 2)),.ref (a (.cM 3))]])=some false:=by
  have u1:∀l,l<4→eL (n++[.li []]++[.li [.ref (a (.cM 0)),.ref (a (.cM 1)),.ref (a (.cM 2)),.ref (a (.cM 3))]]) 3 (.ref (a (.cM l)))=true∧eL (n++[.li []]++[.li [.ref (a (.cM 0)),.ref (a (.cM 1)),.ref (a (.cM 2)),.ref (a (.cM 3))]]) 3 (.ref (a (.ei l)))=true∧fJ (n++[.li []]++[.li [.ref (a (.cM 0)),.ref (a (.cM 1)),.ref (a (.cM 2)),.ref (a (.cM 3))]]) 3 (.ref (a (.cM l))) (.ref (a (.ei l)))=true:=λ l hl=>
   let⟨p,sm,b⟩:=im l hl;let⟨q,p9,d⟩:=wl l hl
   have L:=ji.at_ _ _ sm;have w:=ji.at_ _ _ p9;
   ⟨(AP L).trans b.eL,(AP w).trans d.eL,(KU L w).trans (b.same Su.nodup d)⟩
  have eW:=u1 0 (aE rfl);have c2:=u1 1 (aE rfl);have dW:=u1 2 (aE rfl);have ob:=u1 3 (aE rfl)
  exact(abi (i1 rfl) (ji.at_ _ _ want) (C4 eW.1 c2.1 dW.1 ob.1) (C4 eW.2.1 c2.2.1 dW.2.1 ob.2.1)).trans (an (λ b=>some (!b)) (C4 eW.2.2 c2.2.2 dW.2.2 ob.2.2))
 have UV: @lF (live (.ew 0 4) [E 0,E 1,E 2,E 3]) (e1 (.ew 0 4) [E 0,E 1,E 2,E 3]) (λ x ao=>(di false [14] x (kd a bi aW bq bj bK bB cE dZ e8 fo fp e9 e')).bind λ aF=>(hp ac (runN ac z) .nil aF ao).bind λ q=>if q.1=true then(ci ac (runN ac z) (.at (.aq (.at (.v 2) 36) (.bin .add (.ii 66) (.v 14))) 19) aF q.2).bind λ r=>some ([r.1],r.2)else some ([],q.2)) [E 0,E 1,E 2,E 3] [] (n++[.li []])=some ([.ref (a (.cM 0)),.ref (a (.cM 1)),.ref (a (.cM 2)),.ref (a (.cM 3))],n++[.li []]):=
  h8 trivial (j2 rfl (b7 0 (aE rfl))) (h8 trivial (j2 rfl (b7 1 (aE rfl))) (h8 trivial (j2 rfl (b7 2 (aE rfl))) (h8 trivial (j2 rfl (b7 3 (aE rfl))) (jF trivial))))
 generalize YC:n++[a0.li []]++[a0.li [.ref (a (.cM 0)),.ref (a (.cM 1)),.ref (a (.cM 2)),.ref (a (.cM 3))]]=ao at kH ji
 have aw:bS ac (runN ac z) (.cons (.b4 (.or (.cons (.cmp .ne (.at (.v 6) 59) (.lst .nil)) (.cons (.cmp .ne (.comp (.at (.aq (.at (.v 2) 36) (.bin .add (.ii 66) (.v 14))) 19) [14] false (.gQ (.ii 4)) (.nil)) (.v 4)) .nil))) (.cons (.ret (.cj false)) .nil) (.nil)) .nil) (kd a bi aW bq bj bK bB cE dZ e8 fo fp e9 e') n=some (.br (kd a bi aW bq bj bK bB cE dZ e8 fo fp e9 e'),ao):=by
  subst YC
  exact(dm z (bk.cons (Mine.S.b4 (Mine.T.or (fc.cons (Mine.T.cmp jg.ne ((ab.v 6).at 59) (ab.lst d6.nil)) (fc.cons (Mine.T.cmp jg.ne (((((ab.v 2).at 36).aq (ab.bin iU.add (ab.ii 66) (ab.v 14))).at 19).comp [14] false (ab.ii 4).gQ fc.nil) (ab.v 4)) fc.nil))) (bk.cons (Mine.S.ret (ab.cj false)) bk.nil) bk.nil) bk.nil) (kd a bi aW bq bj bK bB cE dZ e8 fo fp e9 e') n _ ((fk (M.at_ _ _ oD)).trans tE) _ iB _ rfl _ rfl (aE rfl) _ _ UV _ kH)
 have zW:=DU (ji.at_ _ _ meths)
 have pO:=ji.kE (.li ((ck R.length).map λ j=>.ref (a (.bl j))))
 have pP:=pO.kE (.li ((ck R.length).map λ j=>E (F j)))
 have d4:∀{α:Type} {g:C→α},((ck R.length).map g).length≤100000:=by
  intro α g
  rw[cG,gB];exact a' da.dc (aE rfl)
 have Kg:=sz (V:=runN ac z) (x:=15) (env:=kd a bi aW bq bj bK bB cE dZ e8 fo fp e9 e') (acc:=[]) (eS:=ck R.length) (f:=λ j=>.ref (a (.bl j))) (b7:=.at (.v 15) 8) (eo:=.nil) (i1 (l:=ao) (x:=a0.li ((ck R.length).map λ j=>.ref (a (.bl j)))) rfl) (p:=λ _=>true) (g:=λ j=>E (F j)) λ j bt=>⟨rfl,aR rfl ((bl j (ga.mp bt)).at_ pO λ _ _ _ m _ at_=>aR (at_ m.f8) rfl)⟩
 have Kx:=sz (V:=runN ac z) (x:=16) (env:=kd a bi aW bq bj bK bB cE dZ e8 fo fp e9 e') (acc:=[]) (eS:=ck R.length) (f:=λ j=>.ref (a (.row j))) (b7:=.aq (.v 16) (.ss [102,108,97,103,115])) (eo:=.nil) (pP.at_ _ _ da.rows) (p:=λ _=>true) (g:=λ j=>E (F j)) λ j bt=>⟨rfl,aR rfl (aR rfl (aR ((da.row j (ga.mp bt)).at_ pP).2.2.2.2.1 rfl))⟩
 rw[B'.mpr (λ _ _=>rfl)]at Kg Kx
 have Fd:(ck R.length).map (λ j=>E (F j))=((ck R.length).map F).map E:=(tQ (f:=F) (g:=E)).symm
 have EP:=(an (·[(ao++[a0.li ((ck R.length).map λ j=>.ref (a (.bl j)))]).length]?) (jy (ao++[a0.li ((ck R.length).map λ j=>.ref (a (.bl j)))]) [a0.li ((ck R.length).map λ j=>E (F j))] [a0.li ((ck R.length).map λ j=>E (F j))])).trans (l' (i:=0))
 have ol:=DG (EP.trans (an (λ l=>some (a0.li l)) Fd)) ((i1 rfl).trans (an (λ l=>some (a0.li l)) Fd)) Mg Mg
 rw[Y0]at ol
 have aB:bS ac (runN ac z) (.cons (.ret (.cmp .eq (.comp (.at (.v 15) 8) [15] false (.lk (.at (.v 2) 15) (.ii 1)) (.nil)) (.comp (.aq (.v 16) (.ss [102,108,97,103,115])) [16] false (.aq (.v 1) (.ss [114,111,119,115])) (.nil)))) .nil) (kd a bi aW bq bj bK bB cE dZ e8 fo fp e9 e') ao=some (.f5 (.cj true),ao++[a0.li ((ck R.length).map λ j=>.ref (a (.bl j)))]++[a0.li ((ck R.length).map λ j=>E (F j))]++[a0.li ((ck R.length).map λ j=>E (F j))]):=by
  exact(dm z (bk.cons (Mine.S.ret (ab.cmp jg.eq (((ab.v 15).at 8).comp [15] false (((ab.v 2).at 15).lk (ab.ii 1)) fc.nil) (((ab.v 16).aq (ab.ss [102,108,97,103,115])).comp [16] false ((ab.v 1).aq (ab.ss [114,111,119,115])) fc.nil))) bk.nil) (kd a bi aW bq bj bK bB cE dZ e8 fo fp e9 e') ao _ ((aM.at_ ji).1) _ zW _ (iz (i1 (l:=ao) (x:=a0.li ((ck R.length).map λ j=>.ref (a (.bl j)))) rfl)) d4 _ _ Kg _ (gx (pP.at_ _ _ da.w) rfl) _ (iz (pP.at_ _ _ da.rows)) d4 _ _ Kx _ ol)
 exact⟨_,(j9 aw).trans aB⟩
end
end Mine
end
section
namespace Mine
variable{t:C}
section
variable{a:bH}{h:aT}{n:St}{T:B aP}{z:C}{W:cw}{R:B b5}{F:C→C}{I:C→B (C×ap×C)}{al:B (am×D)}{aU:C→ap}{X:Prop}
theorem fg.abY{H:aT}{aC:B aP}{S:C→B (ap×C)}(ae:fg a h T W R F S t)(f:∀r o,rl r=true→h r=some o→H r=some o)(bT:c6 a H aC):fg a H aC W R F S t:=
 ⟨⟨let⟨O,e,k⟩:=ae.lw.w;⟨O,f _ _ rfl e,k⟩,let⟨aG,e,k⟩:=ae.lw.store;⟨aG,f _ _ rfl e,k⟩,f _ _ rfl ae.lw.many,f _ _ rfl ae.lw.up,ae.lw.ok⟩,bT,f _ _ rfl ae.w,f _ _ rfl ae.rows,λ j bt=>⟨f _ _ rfl (ae.row j bt).row,f _ _ rfl (ae.row j bt).st⟩,ae.eY,ae.dc,ae.lR,ae.mG⟩
theorem VG{xs:B C}{dX:C}{nd:C→D}{os:B C}{bi aW bq bB cE dZ e8 fo fp e9 e':Y D}(A:kS a h T W al aU R (λ j=>eD (af R j)) I xs t)(M:Good a h n)(a1:h .h9=some (.li (py R nd os)))(hm:h (.a6 dX)=some (.li (os.map λ j=>.ref (a (.row j)))))(vb:os.Nodup)(oq:os.length≤16)(mh:os=g5 R∨os=(g5 R).reverse)(a3:T.length<5000):
  ∃J,bS ac (runN ac (z+39+1)) (.cons (.ex (.call 44 (.cons (.v 7) .nil))) (.cons (.dd [9] false (.gQ (.ii 4)) sV) Bc)) (kd a bi aW bq (some (.ref (a .eI))) (some (.ref dX)) bB cE dZ e8 fo fp e9 e') n=some (.f5 (.cj true),J):=by
 have ag:=A.ds.fS
 have b9:=ag.inv
 refine acl b9 ag.eY λ cz cD dp gf i2 iM dy eE=>?_
 have sX:∀i∈os,i<R.length∧(af R i).eM=true:=λ i ay=>
  have q:=oP.mp (mh.elim (λ e=>e▸ay) λ e=>Q9.mp (e▸ay):i∈g5 R);⟨ga.mp q.1,q.2⟩
 have iA:∀{rev:av},fx R os=gX rev cz cD dp→∃J,bS ac (runN ac (z+39+1)) (.cons (.ex (.call 44 (.cons (.v 7) .nil))) (.cons (.dd [9] false (.gQ (.ii 4)) sV) Bc)) (kd a bi aW bq (some (.ref (a .eI))) (some (.ref dX)) bB cE dZ e8 fo fp e9 e') n=some (.f5 (.cj true),J):=λ{rev} e6=>by
  have Ot:∀i∈os,nO R (λ j=>eD (af R j)) I i:=λ i ay=>⟨(sX i ay).1,(sX i ay).2,by show eD (af R i)=_;unfold eD;rw[(sX i ay).2];rfl,λ e b3 _=>(A.each _ e b3).2⟩
  refine ack (z:=z+1) (nd:=nd) A.ds M Ot vb e6 gf i2 iM a1 (fi a3 (aE rfl)) λ aa bX aI aw dJ bU jH pn qv=>?_
  have h7:kg a aI bX W R ((λ j=>eD (af R j)),(λ _=>[]),I) t os dX 16:=⟨A.da.abY qv bU.fS.bT,qv _ _ rfl A.want,λ l hl=>let⟨bf,oD,tE⟩:=A.wl l hl;⟨bf,qv _ _ rfl oD,tE.more λ q=>let⟨_,jH⟩:=jH;jH▸q.more⟩,A.len,qv _ _ rfl hm,a' pn (h4 (fa (nI a3 _) (aE rfl)))⟩
  refine aaz (z:=z+8) (bR:=[e8,fo,fp,e9,e']) (bi:=bi) (aQ:=some (.ref (a .store))) (aW:=aW) (bh:=some (.ref (a .ij))) (bj:=some (.ref (a .eI))) (o5:=bq) (hC:=bB) (em:=cE) (fG:=dZ) b9 sX vb oq (λ i ay=>rfl) h7 dJ (aE rfl) λ ao bJ cL gz tb iD iE aB dA mX qc gD=>?_
  have vS:∀x∈hD (fx R os),x<os.length:=λ x aA=>(cG (as:=os) λ j=>(af R j).ah)▸(FM.mp aA).1
  have agi:∀i∈mB R os,i∈os:=λ i ay=>(hu.mp ay).elim λ x L=>L.2▸mem_getD (vS x L.1)
  have adk:wr R ((λ j=>eD (af R j)),I) ((λ j=>eD (af R j)),(λ _=>[]),I):=⟨rfl,rfl,λ j bt=>(an (eB λ e:C×ap×C=>(e.2.1,e.2.2)) (N2 (i:=j) λ e b3 _=>(A.each (af R j).ah e b3).2)).symm⟩
  have vw:=adl (W:=W) ag.iT b9 ag.eY ag.dc (mB R os) (Nf vb NX vS) (λ i ay=>Ot i (agi i ay)) adk A.ds.io
  have d9:∀{k:C} {t:ap},ba bX k t→ba cL k t:=λ q=>let⟨_,qc⟩:=qc;qc▸q.more
  have aaq:fg a bJ cL W R ((mB R os).foldl (ka W R) ((λ j=>eD (af R j)),I)).1 ((mB R os).foldl (kL W R) ((λ j=>eD (af R j)),(λ _=>[]),I)).2.1 t:=vw.f▸mX.da
  have⟨bW,bZ⟩:=ZG (z:=z+39+1) (bi:=bi) (aW:=aW) (bq:=gz) (bj:=some (.ref (a .eI))) (bK:=some (.ref dX)) (bB:=tb) (cE:=iD) (dZ:=iE) (e8:=e8) (fo:=fo) (fp:=fp) (e9:=e9) (e':=e') (I:=((mB R os).foldl (ka W R) ((λ j=>eD (af R j)),I)).2) (F:=((mB R os).foldl (ka W R) ((λ j=>eD (af R j)),I)).1) (aU:=aU) dA mX.da.bT
   (let⟨aG,eF,s⟩:=bU.fS.aM.bF;⟨aG,gD _ _ rfl eF,s⟩) (let⟨x,tq⟩:=bU.fS.types;⟨x,gD _ _ rfl tq⟩) (λ l hl=>let⟨⟨vG,er,eO⟩,⟨cp,d',cO⟩⟩:=bU.fS.ty l hl;⟨⟨vG,gD _ _ rfl er,eO⟩,⟨cp,gD _ _ rfl d',cO⟩⟩) (gD _ _ rfl bU.fS.meths) (let⟨_,bf,_,oD,d⟩:=bU.fS.qb;⟨bf,gD _ _ rfl oD,d.2.2.2.2.2⟩) (gD _ _ rfl (qv _ _ rfl A.jv))
   (λ l hl=>let⟨bR,d4,d5⟩:=bU.im l hl;⟨bR,gD _ _ rfl d4,d5.more d9⟩) (λ l hl=>let⟨bR,d4,d5⟩:=mX.wl l hl;⟨bR,d4,vw.i.symm▸d5⟩) mX.want (λ j bt=>(bU.bl j bt).bx (λ o e=>gD _ _ rfl e) (λ g o e=>gD _ _ rfl e) d9) aaq
  have Vr:ci ac (runN ac (z+39+1)) (.call 44 (.cons (.v 7) .nil)) (kd a bi aW bq (some (.ref (a .eI))) (some (.ref dX)) bB cE dZ e8 fo fp e9 e') n=some (.nn,aa):=(hI (z+39+1) (ab.call 44 (d6.cons (ab.v 7) d6.nil)) (kd a bi aW bq (some (D.ref (a aN.eI))) (some (D.ref dX)) bB cE dZ e8 fo fp e9 e') n _ _ aw)
  exact⟨bW,aR (aR Vr rfl) (aR aB bZ)⟩
 exact mh.elim (λ e=>iA (rev:=false) (e▸dy)) λ e=>iA (rev:=true) (e▸eE)
theorem Wy:qO R λ j=>eD (af R j):=λ j _=>by
 show eD (af R j)=_∨eD (af R j)=_
 unfold eD
 cases(af R j).eM with
 |true=>exact .inl rfl
 |false=>exact .inr rfl
noncomputable def adN:bk:=.cons (.ex (.call 44 (.cons (.v 7) .nil))) (.cons (.dd [9] false (.gQ (.ii 4)) sV) Bc)
noncomputable def Gk:bk:=.cons (.ex (.call 58 (.cons (.v 1) .nil))) .nil
noncomputable def Gh:bk:=.cons (.ex (.call 60 (.cons (.v 1) .nil))) .nil
noncomputable def Gg:bk:=.cons (.dd [5] false (.aq (.v 1) (.ss [114,111,119,115])) uU) .nil
noncomputable def nn(k:C):B (Y D):=dx k none
theorem ZK{ns:B am}(hl:ns.length≤63):∃J,bS ac (runN ac 100) zn (ra ns) []=some (.f5 (.cj true),J):=by
 have start:=aeW (z:=95) hl (r:=Gk.app (OE.app (Gh.app (Ba.app (Gg.app (Bb.app (OG.app adN)))))))
 refine ZP (z:=68) (xs:=rK ns) (t:=0) (aG:=O9) (W7 (A:=ns.map .ii) (al:=(rK ns).map E)) afb (aE rfl) rfl rfl (aE rfl) rfl (aE rfl) rfl rfl ⟨LO,rfl,aE rfl,rfl,rfl,rfl,rfl⟩ rfl λ W aa bX aI cx al jV x aw dJ Hb sU aer afK afJ BS hB Uf Dd C9=>?_
 have Dd:cx .w=15:=Dd
 have C9:cx .store=3:=C9
 have BS:bX.length≤416:=BS
 have sU:jV≤10:=sU
 refine W3 (z:=98) (bR:=nn 13) (bi:=some (.fw ns)) (aQ:=some (.ref 3)) (aW:=none) dJ Hb ((hB .dR (vc rfl rfl)).2 _ rfl) aer afK afJ ((hB .meths (vc rfl rfl)).2 _ rfl) ((hB .gA (vc rfl rfl)).2 _ rfl) (cn sU (aE rfl)) Uf λ jd kN ao bJ ed eN aB dA acS JM JF=>?_
 rw[Dd]at aB JM
 rw[C9]at JF
 refine ZJ (z:=67) (N:=bX.length) (ie:=jV+2) (fO:=15) (kJ:=3) ⟨acS,dA,ip.nil,JM,JF,cJ _,cJ _,cJ _⟩ (cn BS (aE rfl)) (cn (hb sU 2) (aE rfl)) λ bW ek cQ lB R qJ bZ oj=>?_
 have dc:R.length≤16:=oj.dc
 have lp:lB.length≤416+48*8:=a' oj.lp (hb BS _)
 have tt:qJ≤10+2+8:=a' oj.tt (hb (hb sU 2) 8)
 refine aaX (z:=100) (bR:=nn 12) (bi:=some (.fw ns)) (aQ:=some (.ref 3)) (aW:=eN) (cm:=none) oj.cp oj.good oj.inv dc λ eP hP kq dL hZ QA CT wE zh=>?_
 rw[oj.w]at dL wE
 rw[oj.s]at zh
 refine YM (z:=69) (bR:=nn 5) (bi:=some (.fw ns)) (aW:=eN) (o5:=none) (bh:=none) (bj:=none) (bK:=none) (bB:=none) (cE:=none) (dZ:=none) R.length (c:=0) (jj _) CT hZ (cn (hv tt dc) (aE rfl)) (cn (hv lp (gU 48 dc)) (aE rfl)) λ jW i5 CV GR I gz fI h0 Jf aaw jH ZX abZ=>?_
 have lS:GR≤36:=a' aaw (hv tt dc)
 have ago:CV.length<5000:=cn (a' ZX (hv lp (gU 48 dc))) (aE rfl)
 have QB:=QA.off abZ Jf.da.bT λ q=>let⟨_,jH⟩:=jH;jH▸q.more
 refine aaY (z:=98) (bR:=nn 9) (bi:=some (.fw ns)) (aW:=eN) (bp:=some (.ref (kq .want))) (bq:=gz) (bN:=none) (bm:=none) QB Jf h0 Wy λ qK xd o6 j4 pQ Qn Vp S' S4 S9=>?_
 refine aaZ (z:=99) (bi:=some (.fw ns)) (aQ:=some (.ref 3)) (aW:=eN) (bp:=some (.ref (kq .want))) (bq:=gz) (bh:=some (.ref (o6 .ij))) (bK:=none) (bB:=none) (cE:=none) (dZ:=none) (e8:=none) (fo:=none) (fp:=none) (e9:=none) (e':=none) Qn pQ Vp (cn lS (aE rfl)) λ vV L1 nd dX os gF aht wQ v6 Qo Vq X8 abf ab7 _ mh=>?_
 have⟨σ₈,ul⟩:=VG (z:=60) (bi:=some (.fw ns)) (aW:=eN) (bq:=gF) (bB:=none) (cE:=none) (dZ:=none) (e8:=none) (fo:=none) (fp:=none) (e9:=none) (e':=none) Qo v6 Vq X8 abf ab7 mh ago
 have jo:=hZ.at_ _ _ CT.da.w
 rw[wE]at jo
 rw[wE,zh]at j4
 have zk:=S'.trans wE
 have pe:∀p,hz kq (nn 5) (some (.fw ns)) (some (.ref (kq .store))) eN p none none none none none none=qq 15 3 (nn 9) (some (.fw ns)) eN (some (.ref (kq .want))) p none none:=λ p=>by unfold hz;rw[wE,zh];rfl
 have Lz:∀p Hp,kG o6 (some (.fw ns)) (some (.ref 3)) eN (some (.ref (kq .want))) p (some (.ref (o6 .ij))) Hp none none none none none none none none=qq 15 3 (Hp::nn 8) (some (.fw ns)) eN (some (.ref (kq .want))) p (some (.ref (o6 .ij))) (some (.ref (o6 .eI))):=λ p Hp=>by unfold kG;rw[zk];rfl
 have Xo:kd o6 (some (.fw ns)) eN gF (some (.ref (o6 .eI))) (some (.ref dX)) none none none none none none none none=qq 15 3 (some (.ref dX)::nn 8) (some (.fw ns)) eN (some (.ref (kq .want))) gF (some (.ref (o6 .ij))) (some (.ref (o6 .eI))):=by unfold kd;rw[zk,S4.trans zh,S9];rfl
 rw[pe,pe]at fI
 rw[Lz,Lz]at wQ
 rw[Xo]at ul
 have tF:((ck R.length).map λ j=>D.ref (kq (.row j))).length≤100000:=by rw[cG,gB];exact a' dc (aE rfl)
 rw[←Cg]at fI
 have cz:bS ac (runN ac (99+1)) Gk (sB ns) (vU (ns.map .ii) ((rK ns).map E))=some (.br (sB ns),aa):=(dm (99+1) Gk (sB ns) (vU (eB D.ii ns) (eB E (rK ns))) _ _ aw)
 have dp:bS ac (runN ac (99+1)) Gh (m7 15 (nn 13) (some (.fw ns)) (some (.ref 3)) eN) ao=some (.br (m7 15 (nn 13) (some (.fw ns)) (some (.ref 3)) eN),bW):=(dm (99+1) Gh (m7 15 (nn 13) (some (D.fw ns)) (some (D.ref 3)) eN) ao _ _ bZ)
 have UD:bS ac (runN ac (99+1)) Gg (sY 15 (nn 12) (some (.fw ns)) (some (.ref 3)) eN (some (.ref (kq .want)))) eP=some (.br (qq 15 3 (nn 9) (some (.fw ns)) eN (some (.ref (kq .want))) gz none none),jW):=(dm (99+1) Gg (sY 15 (nn 12) (some (D.fw ns)) (some (D.ref 3)) eN (some (D.ref (kq aN.want)))) eP _ (gx jo rfl) _ (iz (hZ.at_ _ _ CT.da.rows)) tF _ _ fI)
 exact⟨σ₈,start.trans ((j9 cz).trans ((j9 aB).trans ((j9 dp).trans ((j9 dL).trans ((j9 UD).trans ((j9 j4).trans ((j9 wQ).trans ul)))))))⟩
theorem ahd:∀ns:B am,ns.length≤63→nu ac (sw ac 100) zn (some (.fw ns)::dx 16 none) (λ _ _=>False) (λ v _=>v= .cj true) []:=λ ns hl=>
 let⟨_,e⟩:=ZK hl
 tg (Ou 100) zn e rfl
end
end Mine
end
end
theorem PySem.Challenge.cw_hb0001_01_holds : PySem.Challenge.rw_hb0001_01.Holds :=
  Mine.hM Mine.ahd
