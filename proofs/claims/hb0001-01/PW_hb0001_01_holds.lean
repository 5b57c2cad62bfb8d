import PyProof.Rows.All
import KE.KSortAsk
import Wide.All
import OpenK.AllK
import Wide.FinOn
import PyProof.FactsAll.tuple
import PyProof.FactsAll.tuple_2
import PyProof.StrLoop
import PyProof.Cells
import PyProof.WalksPairs
import PyProof.WalksMore
import PyProof.StrWalks
import PyProof.CompFree
import PyProof.DictDisplay
import PyProof.DictStraight
import PyProof.LetGo
import PyProof.SliceSyntax
import PyProof.Rows.Chain
import Lean
import PySem.Challenge.RW_hb0001_01
set_option Elab.async false
set_option autoImplicit false
set_option maxRecDepth 1000000
set_option maxHeartbeats 0
set_option linter.all false
noncomputable section
open Array renaming any_toList→Qg,find?_toList→Qh,forIn_toList→Qi,getElem?_toList→vW,length_toList→yt,mem_toList_iff→Qj,toList_inj→BU,toList_push→Hs
open Bool renaming and_eq_true→jX,and_eq_true_iff→dI,and_false→Qp,and_true→vY,eq_false_iff→rX,false_eq_true→Hu,false_ne_true→mM,false_or→Qq,noConfusion→jv,not_eq_true'→tI,not_inj→Qr,or_eq_false_iff→Qs,or_eq_true_iff→BX,rec→Qt
open Classical renaming byCases→r2,em→f9
open Eq renaming symm→BZ,trans→v2
open False renaming elim→HE
open ForInStep renaming yield→kV
open Int renaming add_sub_cancel→QK,eq_ofNat_of_zero_le→B1,lt_of_lt_of_le→QL,natCast_nonneg→yw,natCast_pos→QM,ne_of_gt→QN,ofNat_le→QO,ofNat_lt→B2,toNat→HJ
open Int.ofNat renaming inj→tK
open List renaming all_eq_true→g',all_toArray→QR,any_eq_false→QS,append_assoc→jx,append_cons→mP,append_nil→eX,cons→QT,drop_eq_nil_iff→QV,eq_nil_of_length_eq_zero→HN,ext_getElem→HO,filter→QW,filterMap→QX,filter_append→r3,filter_congr→HP,filter_cons→QY,filter_cons_of_neg→B6,filter_cons_of_pos→B7,filter_eq_nil_iff→tO,filter_eq_self→B8,filter_map→QZ,find?_cons_of_neg→HQ,find?_cons_of_pos→HR,foldl→HS,forIn_cons→HT,forall_mem_cons→yz,getD_eq_getElem?_getD→jy,getElem?_append_left→qR,getElem?_append_right→yA,getElem?_concat_length→HU,getElem?_cons_succ→Q0,getElem?_cons_zero→yB,getElem?_eq_getElem→h2,getElem?_eq_none→B9,getElem?_eq_none_iff→yC,getElem?_eq_some_iff→jZ,getElem?_inj→B',getElem?_map→qS,getElem?_range→yD,getElem?_replicate→HV,getElem?_set→Q1,getElem?_set_ne→tP,getElem?_set_self→yE,getElem?_toArray→HW,getElem_map→HX,getElem_mem→yF,getElem_range→HY,isEmpty_iff→Ca,isEmpty_map→Q2,length→f',length_append→fg,length_filter_le→HZ,length_map→cG,length_range→gB,length_range'→Q3,length_replicate→Cb,length_set→H0,length_singleton→Q4,length_take→H1,length_zip→Q5,lookup→yG,lookup_append→yH,lookup_cons→l1,lookup_cons_self→H2,map→eA,map_append→nF,map_congr_left→pS,map_cons→oN,map_id→Q6,map_map→tQ,map_reverse→Q7,map_take→Q8,mem_append→nG,mem_append_left→oO,mem_append_right→wb,mem_cons→kh,mem_filter→oP,mem_iff_getElem→H3,mem_map→hu,mem_of_getElem?→h3,mem_range→ga,mem_reverse→Q9,mem_singleton→jz,nil_append→H4,nodup_append→Cc,nodup_cons→nH,nodup_nil→Cd,nodup_range→wc,of_mem_zip→H5,pairwise_map→tR,range→ck,range'→pT,range_eq_range'→Ce,range_succ→Cf,replicate→dw,replicate_succ→Q',reverse_append→Ra,reverse_cons→Rb,reverse_replicate→H6,set→yI,set_append_right→H7,size_toArray→yJ,take_length→Rc,take_of_length_le→Rd,zipIdx_cons→Re,zip_cons_cons→yK
open List.Pairwise renaming imp→agn,nil→ago
open List.Sublist renaming filter→agp,length_le→agq,map→agr
open List.cons renaming inj→B5,injEq→QU
open Nat renaming add_assoc→mQ,add_comm→qT,add_le_add→hv,add_le_add_left→fA,add_le_add_right→hb,add_left_cancel→H8,add_lt_add_of_lt_of_le→r6,add_lt_add_right→nI,add_right_comm→pV,add_sub_cancel→Ri,add_sub_cancel_left→wd,add_sub_of_le→Rj,add_zero→Rk,beq→kj,ble→kk,blt→H9,casesOn→Rl,decEq→Rm,le_add_left→iF,le_add_left_of_le→H',le_add_right→d2,le_antisymm→Rn,le_of_ble_eq_true→aE,le_of_eq→dg,le_of_lt→h4,le_of_lt_succ→lr,le_of_not_lt→Ro,le_of_succ_le→yL,le_of_succ_le_succ→Ia,le_refl→cJ,le_succ→h5,le_succ_of_le→ls,le_trans→a',lt_irrefl→oR,lt_of_le_of_lt→cn,lt_of_lt_of_eq→Rp,lt_of_lt_of_le→e',lt_of_succ_lt→mR,lt_of_succ_lt_succ→Rq,lt_or_ge→Cm,lt_succ_iff_lt_or_eq→Rr,lt_succ_of_le→pW,lt_succ_of_lt→pX,lt_succ_self→qU,lt_trans→fh,mod_lt→tU,mul_le_mul_left→gU,ne_of_beq_eq_false→tV,ne_of_gt→Cn,ne_of_lt→mS,not_le_of_lt→Co,not_lt→r7,not_lt_of_le→Rs,not_lt_zero→yM,one_ne_zero→Rt,sub_add_cancel→Cp,sub_add_sub_cancel→Ru,sub_le→nJ,sub_lt→Cq,sub_self→r8,sub_sub→Ib,sub_sub_self→r9,sub_succ_lt_self→Rv,succ→l2,succ_add→Rw,succ_add_eq_add_succ→jA,succ_le_succ→gq,succ_lt_succ→Rx,succ_ne_zero→Ry,zero_add→ji,zero_le→fs,zero_lt_succ→Rz,zero_ne_one→Cr
open Nat.succ renaming inj→oS
open Ne renaming symm→Ic
open Option renaming bind_eq_some_iff→yN,eq_none_iff_forall_ne_some→we,getD→Cu,getD_some→RA,isNone→RB,isNone_iff_eq_none→Cv,isSome→pY,isSome_iff_exists→oT,map→qV,map_eq_some_iff→l3,or_none→RC
open Option.some renaming inj→ej,injEq→yO
open Prod renaming fst→Ie
open PyProof.Rows renaming IntsAre→Cw,envOfC→Cx,get?_update_seq→RF,len_list→ags,len_tuple→agt,listUpdate_at→If,seqEpoch_at→Ig,seqObj→iX
open PySem renaming Addr→a8,Around→eB,BoolOp→Cy,Comprehension→RH,Const→l5,DictEntry→mT,Env→eg,Expr→bn,FuncData→IC,Heap→dD,IsPart→wh,IsTupleKey→IG,NameKind→mV,Obj→fP,Operator→yQ,OsState→jC,Params→gr,Pos→hd,Program→lv,PyData→yR,Reads→t0,ReadsAll→yS,Result→yT,Scope→gc,Sem→ik,Shared→a2,Stmt→ft,Str→aL,SubscriptOn→wj,Tok→iY,Value→au,World→eY,arm_eval_BoolOp→R3,assignEach→t3,assignInOrder→R4,attributeBase→IZ,backTo→kX,behindInMarks→I0,binaryOp→I1,bindArgs→I2,bindC→yV,bindL→wm,boolOp→yW,builtinsNs→CI,cLine→kY,callEnvC→nM,callWith→yX,call_meets→CJ,cellsFrom→yY,codeAny→t4,compareOp→t5,eqIsQuiet→yZ,evalEach→I3,findBy→CK,foldedSetIterable→CL,getItem→t6,getMethod→y0,getMethod_builtin→R5,importedModules→I4,intKind→gs,intKind_is→p4,letOwnedTupleGo→CM,mainGlobals→ly,methodCallPos→R6,model→bc,notedBy→wn,recursionLimit→CN,reduceHash→I5,relabel→wo,seqIndex?→wp,seqSlot_of→R7,sizeLine_eq→lz,slicePick→sc,slicePicked→I6,spliced→sd,standAt→CO,starEach→j1,stored→CP,strKind_is→I7,swapsWith→y1,sysModules→kZ,treeTable→t7,truthy→y2,typeIs_int→CQ,wpAny→bg,wpAny_BinOp→I8,wpAny_Call_Name_kw→se,wpAny_Constant_int→I9,wpAny_Constant_str→R8,wpAny_Slice→I',wpAny_UnaryOp→R9,wpAny_assign_Name→R',wpAny_binaryOp_repeat_ref→Sa,wpAny_bind→cK,wpAny_call→Ja,wpAny_call_entry→Sb,wpAny_eqBool_int→Sc,wpAny_execs_nil→Jb,wpAny_forIn_list→Sd,wpAny_getItem_list_slice→Se,wpAny_getItem_of→Jc,wpAny_holding→sf,wpAny_isTrue_BoolOp→Sf,wpAny_items_cons→Jd,wpAny_items_nil→Sg,wpAny_letTemporaryGo→Sh,wpAny_loadPart→Si,wpAny_mono→fa,wpAny_newList→Je,wpAny_pure→eG,wpAny_setItem_pairs→Sj,wpAny_specialOf→CR,wpAny_standAt→sg,wpAny_truthy_bool→Sk
open PySem.Calls renaming Name_function_global→RG
open PySem.Challenge renaming pw_hb0001_01→agu,rw_hb0001_01→qW
open PySem.Const.bool renaming elim→Ih
open PySem.Const.int renaming elim→Ii
open PySem.Const.str renaming elim→Ij
open PySem.Data.dict renaming elim→Ik
open PySem.Expr renaming ListComp→RI
open PySem.Expr.Attribute renaming elim→Il
open PySem.Expr.BinOp renaming elim→Im
open PySem.Expr.BoolOp renaming elim→Io
open PySem.Expr.Call renaming elim→Ip
open PySem.Expr.Compare renaming elim→Iq
open PySem.Expr.Constant renaming elim→Ir
open PySem.Expr.Dict renaming elim→Is
open PySem.Expr.IfExp renaming elim→It
open PySem.Expr.List renaming elim→Iu
open PySem.Expr.ListComp renaming elim→Iv
open PySem.Expr.Name renaming elim→Cz
open PySem.Expr.Slice renaming elim→Iw
open PySem.Expr.Subscript renaming elim→Ix
open PySem.Expr.Tuple renaming elim→CA
open PySem.Expr.UnaryOp renaming elim→Iy
open PySem.F renaming args_dict_get_3→RJ,args_int_rmul_2→RK,entry_dict_get→RL,entry_int_rmul→RM,fills_int_mul→RN,slot_dict_get→Iz,slot_int_index→RO,slot_int_rmul→CB,slot_list_getitem→IA,slot_str_getitem→RP,slot_tuple_mul→IB,slot_tuple_rmul→RQ
open PySem.Heap renaming SameBut→tY,get?_push_of_some→lu,get?_push_size→nK,get?_update_self→IF,lt_size→mU,size_push→RR
open PySem.Heap.IsSliceOf renaming new→ID
open PySem.Heap.SameBut renaming update→IE
open PySem.IsRange renaming new→RS
open PySem.NameKind renaming free→tZ
open PySem.Obj renaming data→IH,mapSeq→mW,putName→II,putNameByArray→CC,putName_eq→CD
open PySem.PyData renaming canLayAll0→RT,eqv→iH,eqvAll→IJ,keyHash→wi,strOk→RU,tuple→RV
open PySem.ReadsAll renaming cons→RW
open PySem.SeqAt.RcNeAt renaming lists→agv,lists_lengths→agw
open PySem.Stmt.Assign renaming elim→IK
open PySem.Stmt.AugAssign renaming elim→IL
open PySem.Stmt.Expr renaming elim→IM
open PySem.Stmt.For renaming elim→IN
open PySem.Stmt.If renaming elim→IP
open PySem.Stmt.Return renaming elim→IQ
open PySem.Stmt.While renaming elim→IR
open PySem.Str renaming append→RX,ofString→IS
open PySem.StrLaws renaming sliceIdx_none_lo→RY,strSliceIndices_plain→RZ
open PySem.Value renaming int→qX,type→CE
open PySem.Value.int renaming elim→IT
open PySem.Value.ref renaming elim→IU,inj→IV
open PySem.W renaming Frag→kl,KasT→IW,boot_heap→t1,cellsFrom_some→IX,dictOf→p2,emptyDict→lx,findIn→oU,instObj→nL,kas_sort→CG,keepIn→yU,looks_pair→p3,looseW→CH,nsIn→qY,piece_app→sa,plainGet_of→IY,segRun_of→sb,topFrame→t2,typeIn→wk
open PySem.W.Fast renaming te10110043849684766642→agx,te10880121769531294198→agy,te10994771534591457954→agz,te11698064438423848299→agA,te11892475500146522536→agB,te13664370479719496447→agC,te14082659384304107361→agD,te14364793385576792824→CF,te14374325043358763698→agE,te14722251495701143533→agF,te15667345088766844465→agG,te16090120013241838585→agH,te2386780881361962483→agI,te3247288618530077131→agJ,te3399658132070893891→R0,te479339242167458305→agK,te5160383126252970620→agL,te5923862056798008813→R1,te5991557255702980513→agM,te7317090234206586261→agN,te7369524293546568484→agO,te7409074990110511671→agP,te821141287760084731→R2,te9446332074065402090→agQ,tw10110043849684766642→agR,tw14364793385576792824→agS
open _root_ renaming Array→gS,BEq→nA,Bool→av,Decidable→v1,DecidableEq→jw,DecidablePred→qM,Int→am,LawfulBEq→oM,List→B,Nat→C,Option→Y,String→ws,Unit→p6,beq_eq_false_iff_ne→ma,beq_iff_eq→jk,beq_self_eq_true→lE,bne_iff_ne→p8,bne_self_eq_false→J1,congrArg→an,decide_eq_decide→q9,decide_eq_false→j3,decide_eq_true→iL,decide_eq_true_eq→zC,decide_eq_true_iff→Vf,if_false→EA,of_decide_eq_true→gi
section
namespace Mine
inductive D where
 |nn
 |cj (b:av)
 |ii (i:am)
 |ss (s:B C)
 |tup (l:B D)
 |ew (lo ay:am)
 |cd (O:B (am×am))
 |ref (z:C)
 |fv (l:B am)
noncomputable abbrev gT:=B (am ⊕ B am)
inductive a0 where
 |li (xs:B D)
 |cq (O:B (am×D))
 |ds (O:B (B C×D))
 |h9 (O:B (gT×D))
 |bF (c:C) (aG:B (C×D))
noncomputable abbrev St:=B a0
noncomputable abbrev aX:=B (Y D)
noncomputable abbrev dC:=D→St→Prop
noncomputable abbrev iV:=aX→St→Prop
inductive iS where|add|sub|mul|mod|band|bor|bxor
inductive jf where|eq|ne|lt|le|gt|ge|is|pk|my
inductive HC where|i|s|t
set_option genSizeOf false
set_option genInjectivity false
mutual
inductive ab where
 |nn|cj (b:av)|ii (i:am)|ss (s:B C)
 |v (x:C)
 |gl (name:B C) (val:D)
 |bin (op:iS) (a b:ab)
 |qA (a b:ab)|pE (a b:ab)
 |neg (a:ab)
 |and (O:d6)|or (O:d6)
 |cmp (op:jf) (a b:ab)
 |ite (t:T) (a b:ab)
 |tup (O:d6)|lst (O:d6)
 |m4 (ks:B (B C)) (ar:d6)
 |pa (ks:B am) (ar:d6)
 |eP (k:HC)
 |at(a:ab) (f:C)
 |aq (a i:ab)
 |lj (a lo:ab)|mF (a ay:ab)|rev (a:ab)
 |comp (b7:ab) (xs:B C) (many:av) (bb:ab) (eo:fb)
 |call (f:C) (b6:d6)
 |new (c:C) (b6:d6)
 |hj (o:ab) (m:C) (b6:d6)
 |len (a:ab)|jb (a:ab)|sorted (a:ab)|strOf (a:ab)
 |gQ (a:ab)|pF (a b:ab)
 |append (o x:ab)
 |m3 (o k d:ab)
 |bad
inductive d6 where
 |nil
 |cons (e:ab) (r:d6)
inductive T where
 |e (a:ab)
 |g4 (t:T)
 |and (bE:fb)|or (bE:fb)
 |cmp (op:jf) (a b:ab)
inductive fb where
 |nil
 |cons (t:T) (r:fb)
end
mutual
inductive S where
 |asg (x:C) (e:ab)
 |o1 (xs:B C) (e:ab)
 |cc (o:ab) (f:C) (e:ab)
 |gJ (o i:ab) (e:ab)
 |aug (x:C) (op:iS) (e:ab)
 |o3 (o:ab) (f:C) (op:iS) (e:ab)
 |o4 (o i:ab) (op:iS) (e:ab)
 |ex (e:ab)
 |ret (e:ab)
 |mD
 |b4 (t:T) (a b:bk)
 |pL (t:T) (b:bk)
 |dc (xs:B C) (many:av) (bb:ab) (b:bk)
 |bad
inductive bk where
 |nil
 |cons (s:S) (r:bk)
end
set_option genSizeOf true
set_option genInjectivity true
structure oL where
 np:C
 nl:C
 names:B (B C)
 body:bk
structure iW where
 fns:C→Y oL
 pv:C→C→Y C
 i5:C→Y C
 fld:C→C→av
noncomputable def et{α:Type}:Y α→(α→Prop)→Prop
 |some a,k=>k a
 |none,_=>False
noncomputable def small(i:am):Bool:=decide (-(2:am)^62<i)&&decide (i< (2:am)^62)
noncomputable def su(f:C→C→am)(a b:am):Y Int:=if 0≤a∧0≤b then some (f a.toNat b.toNat)else none
noncomputable def jO{α:Type}(f:am→Y α):D→Y α
 | .ii i=>f i
 |_=>none
noncomputable def ya{α:Type}(f:B C→Y α):D→Y α
 | .ss i=>f i
 |_=>none
noncomputable def Jp(a:D):D→Y D
 | .ii j=>jO (λ i=>some (.ii (i+j))) a
 | .ss t=>ya (λ s=>if s.length+t.length≤100000 then some (.ss (s++t))else none) a
 |_=>none
noncomputable def kC{α:Type}(f:am→am→Y α)(a b:D):Y α:=jO (λ i=>jO (f i) b) a
noncomputable def AF(i j:am):Y D:=if small i&&small j then some (.ii (i*j))else none
noncomputable def fG(op:iS)(a b:D):Y D:=match op with
 | .add=>Jp a b
 | .sub=>kC (λ i j=>some (.ii (i-j))) a b
 | .mul=>kC AF a b
 | .mod=>kC (λ i j=>if j=0 then none else some (.ii (i.fmod j))) a b
 | .band=>kC (λ i j=>(su (λ x y=>((x&&& y:C):am)) i j).map .ii) a b
 | .bor=>kC (λ i j=>(su (λ x y=>((x|||y:C):am)) i j).map .ii) a b
 | .bxor=>kC (λ i j=>(su (λ x y=>((x|||y:C):am)- ((x&&& y:C):am)) i j).map .ii) a b
noncomputable def vf(s:B C):Bool:=decide (s.length≤100)&&s.all (decide<|· <128)
noncomputable def eK(n:St):C→D→av
 |_,.ii _=>true
 |_,.ss s=>vf s
 |z+1,.tup l=>l.all (eK n z)
 |z+1,.ref a=>match n[a]? with
  |some (.li xs)=>xs.all (eK n z)
  |_=>false
 |_,_=>false
noncomputable def k5(f:D→D→av):B D→B D→av
 | [],[]=>true
 |x::xs,y::bf=>f x y&&k5 f xs bf
 |_,_=>false
noncomputable def fI(n:St):C→D→D→av
 |_,.ii a,.ii b=>decide (a=b)
 |_,.ss a,.ss b=>decide (a=b)
 |z+1,.tup a,.tup b=>k5 (fI n z) a b
 |z+1,.ref a,.ref b=>match n[a]?,n[b]? with
  |some (.li xs),some (.li bf)=>k5 (fI n z) xs bf
  |_,_=>false
 |_,_,_=>false
noncomputable def m5(z:C)(n:St)(a b:D):Y Bool:=if eK n z a&&eK n z b then some (fI n z a b)else none
noncomputable def xe(n:St)(k:D)(l:B D):Y Bool:=if l.all (eK n 2)&&eK n 2 k then some (l.any λ x=>fI n 2 x k)else none
noncomputable def Aj(n:St)(k:D):D→Y av
 | .tup l=>xe n k l
 | .ref z=>match n[z]? with
  |some (.li xs)=>xe n k xs
  |some (.cq O)=>jO (λ i=>some (O.lookup i).isSome) k
  |_=>none
 | .cd O=>jO (λ i=>some (O.lookup i).isSome) k
 |_=>none
noncomputable def kD(op:iS)(a b:D):Y D:=match op with
 | .add=>kC (λ i j=>some (.ii (i+j))) a b
 | .sub=>kC (λ i j=>some (.ii (i-j))) a b
 | .bor=>kC (λ i j=>(su (λ x y=>((x|||y:C):am)) i j).map .ii) a b
 |_=>none
noncomputable def s1(n:St):D→D→Y av
 | .ref m,.ref z=>match n[m]?,n[z]? with
  |some (.li xs),some (.li [])=>some (!xs.isEmpty)
  |_,_=>none
 |_,_=>none
noncomputable def abb(n:St)(a b:D):Y Bool:=match s1 n a b with
 |some r=>some r
 |none=>(m5 4 n a b).map (!·)
noncomputable def Y6:D→Y av
 | .nn=>some true
 | .tup _=>some false
 | .ref _=>some false
 |_=>none
noncomputable def Mh(a:D):D→Y av
 | .nn=>Y6 a
 |_=>none
noncomputable def cY(op:jf)(a b:D)(n:St):Y Bool:=
 match op with
 | .eq=>m5 4 n a b
 | .ne=>abb n a b
 | .lt=>kC (λ i j=>some (decide (i<j))) a b
 | .le=>kC (λ i j=>some (decide (i≤j))) a b
 | .gt=>kC (λ i j=>some (decide (j<i))) a b
 | .ge=>kC (λ i j=>some (decide (j≤i))) a b
 | .is=>Mh a b
 | .pk=>Aj n a b
 | .my=>(Aj n a b).map (!·)
noncomputable def ie(n:St):D→Y av
 | .cj b=>some b
 | .ii i=>some (decide (i≠0))
 | .ref z=>match n[z]? with
  |some (.li xs)=>some (!xs.isEmpty)
  |_=>none
 |_=>none
noncomputable def room:Nat:=1000000
noncomputable def n4{α:Type}(l:B α)(i:am):Y α:=
 if 0≤i then l[i.toNat]? else if 0≤i+l.length then l[(i+l.length).toNat]? else none
noncomputable def rj(k:D):Y a0→Y D
 |some (.li xs)=>jO (n4 xs) k
 |some (.ds O)=>ya (λ s=>O.lookup s) k
 |some (.cq O)=>jO (λ i=>O.lookup i) k
 |_=>none
noncomputable def dd(n:St)(a k:D):Y D:=
 match a with
 | .tup l=>jO (λ i=>if l.length≤room then n4 l i else none) k
 | .ss s=>jO (λ i=>if s.length≤room∧0≤i then(n4 s i).map λ c=>.ss [c]else none) k
 | .cd O=>jO (λ i=>(O.lookup i).map .ii) k
 | .ref z=>rj k n[z]?
 |_=>none
noncomputable def c7{dm:Type}[nA dm](O:B (dm×D))(k:dm)(v:D):B (dm×D):=
 if(O.lookup k).isSome then O.map λ e=>if e.1==k then(e.1,v)else e else O++[(k,v)]
noncomputable def vJ:B D→Y (B am)
 | []=>some []
 | .ii i::r=>(vJ r).map (i::·)
 |_::_=>none
noncomputable def vK:B D→Y gT
 | []=>some []
 | .ii i::r=>(vK r).map (.inl i::·)
 | .tup l::r=>(vJ l).bind λ is=>(vK r).map (.inr is::·)
 |_::_=>none
noncomputable def Bu:D→Y gT
 | .tup l=>vK l
 |_=>none
noncomputable def rL(n:St)(z:C)(k v:D):Y a0→Y St
 |some (.ds O)=>ya (λ s=>if O.length<room then some (n.set z (.ds (c7 O s v)))else none) k
 |some (.cq O)=>jO (λ i=>if O.length<room then some (n.set z (.cq (c7 O i v)))else none) k
 |some (.h9 O)=>(Bu k).bind λ k=>if O.length<room then some (n.set z (.h9 (c7 O k v)))else none
 |_=>none
noncomputable def Gn(n:St)(z:C)(k v:D):Y St:=rL n z k v n[z]?
noncomputable def w0(k d:D):Y a0→Y D
 |some (.cq O)=>jO (λ i=>some ((O.lookup i).getD d)) k
 |some (.h9 O)=>(Bu k).bind λ k=>some ((O.lookup k).getD d)
 |_=>none
noncomputable def uD(n:St)(a k d:D):Y D:=
 match a with
 | .cd O=>jO (λ i=>some (((O.lookup i).map .ii).getD d)) k
 | .ref z=>w0 k d n[z]?
 |_=>none
noncomputable def Am(n:St)(z:C):Bool:=match n[z]? with
 |some (.li _)=>true
 |_=>false
noncomputable def rh(n:St):D→av
 | .cd _=>true
 | .ref z=>match n[z]? with
  |some (.cq _)|some (.h9 _)=>true
  |_=>false
 |_=>false
noncomputable def sp(f:C):Y a0→Y D
 |some (.bF _ aG)=>aG.lookup f
 |_=>none
noncomputable def d7(n:St)(v:D)(f:C):Y D:=
 match v with
 | .ref z=>sp f n[z]?
 |_=>none
noncomputable def lh(P:iW)(n:St)(v:D)(f:C)(x:D):Y St:=
 match v with
 | .ref z=>match n[z]? with
  |some (.bF c aG)=>if P.fld c f=true∧aG.length<200 then some (n.set z (.bF c (c7 aG f x)))else none
  |_=>none
 |_=>none
noncomputable def zD(i:am):Y (B C):=if 0≤i∧i<10 then some [48+i.toNat]else none
noncomputable def la(n:St):D→Y am
 | .tup l=>if l.length≤room then some l.length else none
 | .ref z=>match n[z]? with
  |some (.li xs)=>some xs.length
  |_=>none
 |_=>none
noncomputable def upTo(lo:am):C→B D
 |0=>[]
 |z+1=>.ii lo::upTo (lo+1) z
noncomputable def hR(n:St):D→Y (B D)
 | .tup l=>some l
 | .ss s=>if s.all (decide<|· <128)then some (s.map λ c=>.ss [c])else none
 | .ew lo ay=>if small lo&&small ay then some (upTo lo (ay-lo).toNat)else none
 | .ref z=>match n[z]? with
  |some (.li xs)=>some xs
  |_=>none
 |_=>none
noncomputable def live(a:D)(l:B D)(n:St):Prop:=
 match a with
 | .ref z=>n[z]? =some (.li l)
 |_=>True
noncomputable def iP(env:aX)(x:C)(v:D):aX:=env.set x (some v)
noncomputable def ti(env:aX):B C→B D→Y aX
 | [],[]=>some env
 |x::xs,v::ar=>ti (iP env x v) xs ar
 |_,_=>none
noncomputable def dh(many:av)(xs:B C)(v:D)(env:aX):Y aX:=
 match many,xs,v with
 |false,[x],v=>some (iP env x v)
 |true,xs,.tup l=>ti env xs l
 |_,_,_=>none
noncomputable def E2:D→D→av
 | .tup [.ii a,.ii b],.tup [.ii c,.ii d]=>decide (a<c)||(decide (a=c)&&decide (b<d))
 |_,_=>false
noncomputable def m':D→av
 | .tup [.ii _,.ii _]=>true
 |_=>false
noncomputable def oc{α:Type}(f:C→C→av)(z:C):IW α→Y α
 | .ret a=>some a
 | .ask i j k=>if i<z∧j<z then oc f z (k (f i j))else none
noncomputable def pJ(xs:B D):Y (B D):=
 if xs.length<2 then some xs else(oc (λ i j=>E2 (xs.getD i .nn) (xs.getD j .nn)) xs.length (CG xs.length)).map λ p=>p.toList.map λ i=>xs.getD i .nn
noncomputable def xZ:D→D→Y D
 | .tup [x],.ii z=>if z=1 then some (.tup [x])else none
 |_,_=>none
noncomputable def vs(n:St):D→D→Y (B D)
 | .ref m,.ii z=>match n[m]? with
  |some (.li [x])=>if 0≤z∧z<1000 then some (dw z.toNat x)else none
  |_=>none
 |_,_=>none
noncomputable def xE:D→Y D
 | .ii i=>some (.ii (-i))
 |_=>none
noncomputable def uZ(n:St):D→Y (B D)
 | .ref m=>match n[m]? with
  |some (.li xs)=>some xs
  |_=>none
 |_=>none
noncomputable def uw(n:St):D→D→Y (B D)
 | .ref m,.ii z=>match n[m]? with
  |some (.li xs)=>if 0≤z∧z<1000 then some (xs.drop z.toNat)else none
  |_=>none
 |_,_=>none
noncomputable def rR(n:St):D→D→Y (D ⊕ B D)
 | .ref m,.ii z=>match n[m]? with
  |some (.li xs)=>if 0≤z∧z<1000 then some (.inr (xs.take z.toNat))else none
  |_=>none
 | .ss s,.ii z=>if 0≤z∧z<1000∧s.length≤1000 then some (.inl (.ss (s.take z.toNat)))else none
 | .fv l,.ii z=>if 0≤z∧z<1000∧l.length≤1000 then some (.inr ((l.take z.toNat).map .ii))else none
 |_,_=>none
noncomputable def s0(n:St):D ⊕ B D→D×St
 | .inl v=>(v,n)
 | .inr l=>(.ref n.length,n++[.li l])
noncomputable def mu(P:iW)(n:St)(m:C):D→Y C
 | .ref z=>match n[z]? with
  |some (.bF c aG)=>if(aG.lookup m).isNone then P.pv c m else none
  |_=>none
 |_=>none
noncomputable def rO(n:St):D→Y D
 | .ref m=>match n[m]? with
  |some (.li xs)=>some (.tup xs)
  |_=>none
 | .tup l=>some (.tup l)
 |_=>none
noncomputable def vD(n:St):D→Y (B D)
 | .ref m=>match n[m]? with
  |some (.li xs)=>if xs.length<64∧xs.all m'=true then(pJ xs).bind λ bf=>if bf.length<64 then some bf else none else none
  |_=>none
 |_=>none
noncomputable def ye:D→Y D
 | .ii i=>(zD i).map .ss
 |_=>none
noncomputable def ov:D→Y D
 | .ii z=>if small z=true then some (.ew 0 z)else none
 |_=>none
noncomputable def vx:D→D→Y D
 | .ii lo,.ii ay=>if small lo=true∧small ay=true then some (.ew lo ay)else none
 |_,_=>none
noncomputable def l8(n:St):D→D→Y St
 | .ref z,v=>match n[z]? with
  |some (.li xs)=>if xs.length<room then some (n.set z (.li (xs++[v])))else none
  |_=>none
 |_,_=>none
noncomputable def ml(n:St):D→av
 | .ref z=>Am n z
 |_=>false
noncomputable def j'(n:St):D→D→D→Y St
 | .ref z,k,v=>Gn n z k v
 |_,_,_=>none
noncomputable def vv(n:St):D→D→Y D
 | .ref z,k=>dd n (.ref z) k
 |_,_=>none
section
variable(P:iW)(V:C→B D→dC→St→Prop)
noncomputable def o'(dq:St→Prop)(step:D→(B D→St→Prop)→St→Prop):B D→B D→(B D→St→Prop)→St→Prop
 | [],acc,Q,n=>dq n∧Q acc n
 |x::r,acc,Q,n=>dq n∧step x (λ out J=>o' dq step r (acc++out) Q J) n
mutual
noncomputable def di:ab→aX→dC→St→Prop
 | .nn,_,Q,n=>Q .nn n
 | .cj b,_,Q,n=>Q (.cj b) n
 | .ii i,_,Q,n=>Q (.ii i) n
 | .ss s,_,Q,n=>Q (.ss s) n
 | .v x,env,Q,n=>et (env[x]?.join) λ a=>Q a n
 | .gl _ val,_,Q,n=>Q val n
 | .bin op a b,env,Q,n=>di a env (λ db aa=>di b env (λ gH ao=>et (fG op db gH) λ r=>Q r ao) aa) n
 | .qA a b,env,Q,n=>di a env (λ db aa=>di b env (λ gH ao=>et (xZ db gH) λ r=>Q r ao) aa) n
 | .pE a b,env,Q,n=>di a env (λ db aa=>di b env (λ gH ao=>et (vs ao db gH) λ r=>Q (.ref ao.length) (ao++[.li r])) aa) n
 | .neg a,env,Q,n=>di a env (λ db aa=>et (xE db) λ r=>Q r aa) n
 | .and O,env,Q,n=>wz O env Q n
 | .or O,env,Q,n=>xM O env Q n
 | .cmp op a b,env,Q,n=>di a env (λ db aa=>di b env (λ gH ao=>et (cY op db gH ao) λ r=>Q (.cj r) ao) aa) n
 | .ite t a b,env,Q,n=>qI t env (λ r aa=>if r=true then di a env Q aa else di b env Q aa) n
 | .tup O,env,Q,n=>m6 O env (λ ar aa=>ar.length≤1000∧Q (.tup ar) aa) n
 | .lst O,env,Q,n=>m6 O env (λ ar aa=>ar.length≤1000∧Q (.ref aa.length) (aa++[.li ar])) n
 | .m4 ks ar,env,Q,n=>m6 ar env (λ l aa=>ks.length=l.length∧Q (.ref aa.length) (aa++[.ds (ks.zip l)])) n
 | .pa ks ar,env,Q,n=>m6 ar env (λ l aa=>ks.length=l.length∧Q (.ref aa.length) (aa++[.cq (ks.zip l)])) n
 | .eP .i,_,Q,n=>Q (.ref n.length) (n++[.cq []])
 | .eP .s,_,Q,n=>Q (.ref n.length) (n++[.ds []])
 | .eP .t,_,Q,n=>Q (.ref n.length) (n++[.h9 []])
 | .at a f,env,Q,n=>di a env (λ db aa=>et (d7 aa db f) λ r=>Q r aa) n
 | .aq a i,env,Q,n=>di a env (λ db aa=>di i env (λ fM ao=>et (dd ao db fM) λ r=>Q r ao) aa) n
 | .lj a lo,env,Q,n=>di a env (λ db aa=>di lo env (λ rT ao=>et (uw ao db rT) λ r=>Q (.ref ao.length) (ao++[.li r])) aa) n
 | .mF a ay,env,Q,n=>di a env (λ db aa=>di ay env (λ afQ ao=>et (rR ao db afQ) λ r=>Q (s0 ao r).1 (s0 ao r).2) aa) n
 | .rev a,env,Q,n=>di a env (λ db aa=>et (uZ aa db) λ l=>Q (.ref aa.length) (aa++[.li l.reverse])) n
 | .comp b7 xs many bb eo,env,Q,n=>di bb env (λ fM aa=>et (hR aa fM) λ l=>l.length≤100000∧
   o' (live fM l) (λ x K ao=>et (dh many xs x env) λ aF=>rN eo aF (λ b bW=>if b=true then di b7 aF (λ r eO=>K [r] eO) bW else K [] bW) ao)
    l [] (λ acc ao=>Q (.ref ao.length) (ao++[.li acc])) aa) n
 | .call f b6,env,Q,n=>m6 b6 env (λ ar aa=>V f ar Q aa) n
 | .new c b6,env,Q,n=>et (P.i5 c) λ f=>m6 b6 env (λ ar aa=>V f (.ref aa.length::ar) (λ r ao=>r= .nn∧Q (.ref aa.length) ao) (aa++[.bF c []])) n
 | .hj o m b6,env,Q,n=>di o env (λ fy aa=>et (mu P aa m fy) λ f=>m6 b6 env (λ ar ao=>V f (fy::ar) Q ao) aa) n
 | .len a,env,Q,n=>di a env (λ db aa=>et (la aa db) λ z=>Q (.ii z) aa) n
 | .jb a,env,Q,n=>di a env (λ db aa=>et (rO aa db) λ r=>Q r aa) n
 | .sorted a,env,Q,n=>di a env (λ db aa=>et (vD aa db) λ r=>Q (.ref aa.length) (aa++[.li r])) n
 | .strOf a,env,Q,n=>di a env (λ db aa=>et (ye db) λ r=>Q r aa) n
 | .gQ a,env,Q,n=>di a env (λ db aa=>et (ov db) λ r=>Q r aa) n
 | .pF a b,env,Q,n=>di a env (λ db aa=>di b env (λ gH ao=>et (vx db gH) λ r=>Q r ao) aa) n
 | .append o x,env,Q,n=>di o env (λ fy aa=>ml aa fy=true∧di x env (λ yn ao=>et (l8 ao fy yn) λ bW=>Q .nn bW) aa) n
 | .m3 o k d,env,Q,n=>di o env (λ fy aa=>rh aa fy=true∧di k env (λ G7 ao=>di d env (λ G6 bW=>et (uD bW fy G7 G6) λ r=>Q r bW) ao) aa) n
 | .bad,_,_,_=>False
noncomputable def m6:d6→aX→(B D→St→Prop)→St→Prop
 | .nil,_,Q,n=>Q [] n
 | .cons e r,env,Q,n=>di e env (λ v aa=>m6 r env (λ ar ao=>Q (v::ar) ao) aa) n
noncomputable def wz:d6→aX→dC→St→Prop
 | .nil,_,_,_=>False
 | .cons e .nil,env,Q,n=>di e env Q n
 | .cons e (.cons bC r),env,Q,n=>di e env (λ v aa=>et (ie aa v) λ b=>if b=true then wz (.cons bC r) env Q aa else Q v aa) n
noncomputable def xM:d6→aX→dC→St→Prop
 | .nil,_,_,_=>False
 | .cons e .nil,env,Q,n=>di e env Q n
 | .cons e (.cons bC r),env,Q,n=>di e env (λ v aa=>et (ie aa v) λ b=>if b=true then Q v aa else xM (.cons bC r) env Q aa) n
noncomputable def qI:T→aX→(av→St→Prop)→St→Prop
 | .e a,env,Q,n=>di a env (λ v aa=>et (ie aa v) λ b=>Q b aa) n
 | .g4 t,env,Q,n=>qI t env (λ b aa=>Q (!b) aa) n
 | .and bE,env,Q,n=>rN bE env Q n
 | .or bE,env,Q,n=>Bv bE env Q n
 | .cmp op a b,env,Q,n=>di a env (λ db aa=>di b env (λ gH ao=>et (cY op db gH ao) λ r=>Q r ao) aa) n
noncomputable def rN:fb→aX→(av→St→Prop)→St→Prop
 | .nil,_,Q,n=>Q true n
 | .cons t r,env,Q,n=>qI t env (λ b aa=>if b=true then rN r env Q aa else Q false aa) n
noncomputable def Bv:fb→aX→(av→St→Prop)→St→Prop
 | .nil,_,Q,n=>Q false n
 | .cons t r,env,Q,n=>qI t env (λ b aa=>if b=true then Q true aa else Bv r env Q aa) n
end
noncomputable def zR(dq:St→Prop)(step:D→aX→iV→St→Prop):B D→aX→iV→St→Prop
 | [],env,cb,n=>dq n∧cb env n
 |x::r,env,cb,n=>dq n∧step x env (λ aF J=>zR dq step r aF cb J) n
noncomputable def BE(lT:aX→(av→St→Prop)→St→Prop)(body:aX→iV→St→Prop):C→aX→iV→St→Prop
 |0,_,_,_=>False
 |z+1,env,cb,n=>lT env (λ b aa=>if b=true then body env (λ aF ao=>BE lT body z aF cb ao) aa else cb env aa) n
mutual
noncomputable def GB:S→aX→iV→dC→St→Prop
 | .asg x e,env,cb,_,n=>di P V e env (λ v aa=>cb (iP env x v) aa) n
 | .o1 xs e,env,cb,_,n=>di P V e env (λ v aa=>et (dh true xs v env) λ aF=>cb aF aa) n
 | .cc o f e,env,cb,_,n=>di P V e env (λ v aa=>di P V o env (λ fy ao=>et (lh P ao fy f v) λ bW=>cb env bW) aa) n
 | .gJ o i e,env,cb,_,n=>di P V e env (λ v aa=>di P V o env (λ fy ao=>di P V i env (λ fM bW=>et (j' bW fy fM v) λ eO=>cb env eO) ao) aa) n
 | .aug x op e,env,cb,_,n=>et (env[x]?.join) λ a=>di P V e env (λ v aa=>et (kD op a v) λ r=>cb (iP env x r) aa) n
 | .o3 o f op e,env,cb,_,n=>di P V o env (λ fy aa=>et (d7 aa fy f) λ a=>di P V e env (λ v ao=>et (kD op a v) λ r=>et (lh P ao fy f r) λ bW=>cb env bW) aa) n
 | .o4 o i op e,env,cb,_,n=>di P V o env (λ fy aa=>di P V i env (λ fM ao=>et (vv ao fy fM) λ a=>di P V e env (λ v bW=>et (kD op a v) λ r=>et (j' bW fy fM r) λ eO=>cb env eO) ao) aa) n
 | .ex e,env,cb,_,n=>di P V e env (λ _ aa=>cb env aa) n
 | .ret e,env,_,cF,n=>di P V e env cF n
 | .mD,_,_,cF,n=>cF .nn n
 | .b4 t a b,env,cb,cF,n=>qI P V t env (λ r aa=>if r=true then nu a env cb cF aa else nu b env cb cF aa) n
 | .pL t b,env,cb,cF,n=>BE (qI P V t) (λ aF km J=>nu b aF km cF J) 60 env cb n
 | .dc xs many bb b,env,cb,cF,n=>di P V bb env (λ fM aa=>et (hR aa fM) λ l=>l.length≤100000∧
   zR (live fM l) (λ x aF km J=>et (dh many xs x aF) λ dG=>nu b dG km cF J) l env cb aa) n
 | .bad,_,_,_,_=>False
noncomputable def nu:bk→aX→iV→dC→St→Prop
 | .nil,env,cb,_,n=>cb env n
 | .cons s r,env,cb,cF,n=>GB s env (λ aF aa=>nu r aF cb cF aa) cF n
end
end
noncomputable def sw(P:iW):C→C→B D→dC→St→Prop
 |0,_,_,_,_=>False
 |z+1,f,b6,Q,n=>et (P.fns f) λ d=>b6.length=d.np∧
   nu P (sw P z) d.body (b6.map some++dw (d.nl-d.np) none) (λ _ J=>Q .nn J) (λ v J=>Q v J) n
theorem ZH:oM (am ⊕ B am) where
 eq_of_beq {a b} h:=by
  cases a<;>cases b
  ·exact an _ (eq_of_beq (α:=am) h)
  ·cases h
  ·cases h
  ·exact an _ (eq_of_beq (α:=B am) h)
 rfl {a}:=by
  cases a
  ·exact lE (α:=am) _
  ·exact lE (α:=B am) _
theorem Au:oM gT:=have:=ZH;inferInstance
theorem ahc{α:Type}{a:α}{P:Prop}(h:none=some a):P:=nomatch h
theorem ahj{α:Type}{a:α}{P:Prop}(h:some a=none):P:=nomatch h
theorem K1{P:Prop}(h:false=true):P:=nomatch h
theorem ahm{P:Prop}(h:true=false):P:=nomatch h
theorem ahb{α:Type}{a:α}{l:B α}{P:Prop}(h: []=a::l):P:=nomatch h
theorem agW{α:Type}{a:α}{l:B α}{P:Prop}(h:a::l=[]):P:=nomatch h
theorem k8{α:Type}{a:α}{P:Prop}(h:a∈ []):P:=nomatch h
theorem agX{P:Prop}(h:False):P:=h.elim
end Mine
end
local macro_rules |`(nomatch $x:term)=>`((by first|exact Mine.ahc $x|exact Mine.ahj $x|exact Mine.K1 $x|exact Mine.ahm $x|exact Mine.ahb $x|exact Mine.agW $x|exact Mine.k8 $x|exact Mine.agX $x|(have hh:= $x;cases hh)))
section
open PySem PySem.W PyProof.Rows
namespace Mine
variable{f:aL→av}{ak:bn→Prop}{x:bn}{a b:av}
noncomputable def gj(z m:C)(f:z=m→av):Bool:=match Rm z m with
 | .isTrue h=>f h
 | .isFalse _=>false
theorem gE{z m:C}{f:z=m→av}{M:Prop}(h:gj z m f=true)(k:∀e,f e=true→M):M:=by
 unfold gj at h
 split at h
 ·exact k _ h
 ·cases h
noncomputable def Ka:l5→av
 | .none=>true
 |_=>false
@[elab_as_elim] theorem UJ{ak:l5→Prop}{x:l5}(h:Ka x=true)(k:ak .none):ak x:=by
 cases x<;>first|exact k|exact jv h
noncomputable def rV(f:l5→av)(x:bn):Bool:=gj x.ctorIdx 19 λ h=>Ir (motive_1:=λ _=>av) x h λ c _ _=>f c
@[elab_as_elim] theorem tB{f:l5→av}(h:rV f x=true)(k:∀c z p,f c=true→ak (.Constant c z p)):ak x:=
 gE h λ e q=>Ir (motive_1:=λ x=>∀e,Ir (motive_1:=λ _=>av) x e (λ c _ _=>f c)=true→ak x) x e (λ c z p _ q=>k c z p q) e q
noncomputable def nx(f:aL→av)(x:bn):Bool:=gj x.ctorIdx 23 λ h=>Cz (motive_1:=λ _=>av) x h λ y _=>f y
@[elab_as_elim] theorem mL(h:nx f x=true)(k:∀y p,f y=true→ak (.Name y p)):ak x:=
 gE h λ e q=>Cz (motive_1:=λ x=>∀e,Cz (motive_1:=λ _=>av) x e (λ y _=>f y)=true→ak x) x e (λ y p _ q=>k y p q) e q
noncomputable def BJ(f:bn→yQ→bn→av)(x:bn):Bool:=gj x.ctorIdx 2 λ h=>Im (motive_1:=λ _=>av) x h λ l o r _=>f l o r
@[elab_as_elim] theorem Hh{f:bn→yQ→bn→av}(h:BJ f x=true)(k:∀l o r p,f l o r=true→ak (.BinOp l o r p)):ak x:=
 gE h λ e q=>Im (motive_1:=λ x=>∀e,Im (motive_1:=λ _=>av) x e (λ l o r _=>f l o r)=true→ak x) x e (λ l o r p _ q=>k l o r p q) e q
noncomputable def BN(f:UnaryOp→bn→av)(x:bn):Bool:=gj x.ctorIdx 3 λ h=>Iy (motive_1:=λ _=>av) x h λ o y _=>f o y
@[elab_as_elim] theorem Hm{f:UnaryOp→bn→av}(h:BN f x=true)(k:∀o y p,f o y=true→ak (.UnaryOp o y p)):ak x:=
 gE h λ e q=>Iy (motive_1:=λ x=>∀e,Iy (motive_1:=λ _=>av) x e (λ o y _=>f o y)=true→ak x) x e (λ o y p _ q=>k o y p q) e q
noncomputable def yq(f:Cy→B bn→av)(x:bn):Bool:=gj x.ctorIdx 0 λ h=>Io (motive_1:=λ _=>av) x h λ o y _=>f o y
@[elab_as_elim] theorem BK{f:Cy→B bn→av}(h:yq f x=true)(k:∀o y p,f o y=true→ak (.BoolOp o y p)):ak x:=
 gE h λ e q=>Io (motive_1:=λ x=>∀e,Io (motive_1:=λ _=>av) x e (λ o y _=>f o y)=true→ak x) x e (λ o y p _ q=>k o y p q) e q
noncomputable def Hi(f:bn→B CmpOp→B bn→av)(x:bn):Bool:=gj x.ctorIdx 15 λ h=>Iq (motive_1:=λ _=>av) x h λ l o r _=>f l o r
@[elab_as_elim] theorem P4{f:bn→B CmpOp→B bn→av}(h:Hi f x=true)(k:∀l o r p,f l o r=true→ak (.Compare l o r p)):ak x:=
 gE h λ e q=>Iq (motive_1:=λ x=>∀e,Iq (motive_1:=λ _=>av) x e (λ l o r _=>f l o r)=true→ak x) x e (λ l o r p _ q=>k l o r p q) e q
noncomputable def P5(f:bn→bn→bn→av)(x:bn):Bool:=gj x.ctorIdx 5 λ h=>It (motive_1:=λ _=>av) x h λ l o r _=>f l o r
@[elab_as_elim] theorem agb{f:bn→bn→bn→av}(h:P5 f x=true)(k:∀l o r p,f l o r=true→ak (.IfExp l o r p)):ak x:=
 gE h λ e q=>It (motive_1:=λ x=>∀e,It (motive_1:=λ _=>av) x e (λ l o r _=>f l o r)=true→ak x) x e (λ l o r p _ q=>k l o r p q) e q
noncomputable def yr(f:B bn→av)(x:bn):Bool:=gj x.ctorIdx 25 λ h=>CA (motive_1:=λ _=>av) x h λ l _ _=>f l
@[elab_as_elim] theorem Hl{f:B bn→av}(h:yr f x=true)(k:∀l z p,f l=true→ak (.Tuple l z p)):ak x:=
 gE h λ e q=>CA (motive_1:=λ x=>∀e,CA (motive_1:=λ _=>av) x e (λ l _ _=>f l)=true→ak x) x e (λ l z p _ q=>k l z p q) e q
noncomputable def P8(f:B bn→av)(x:bn):Bool:=gj x.ctorIdx 24 λ h=>Iu (motive_1:=λ _=>av) x h λ l _=>f l
@[elab_as_elim] theorem agc{f:B bn→av}(h:P8 f x=true)(k:∀l p,f l=true→ak (.List l p)):ak x:=
 gE h λ e q=>Iu (motive_1:=λ x=>∀e,Iu (motive_1:=λ _=>av) x e (λ l _=>f l)=true→ak x) x e (λ l p _ q=>k l p q) e q
noncomputable def BL(f:B (Y bn)→B bn→av)(x:bn):Bool:=gj x.ctorIdx 6 λ h=>Is (motive_1:=λ _=>av) x h λ l r _=>f l r
@[elab_as_elim] theorem Hj{f:B (Y bn)→B bn→av}(h:BL f x=true)(k:∀l r p,f l r=true→ak (.Dict l r p)):ak x:=
 gE h λ e q=>Is (motive_1:=λ x=>∀e,Is (motive_1:=λ _=>av) x e (λ l r _=>f l r)=true→ak x) x e (λ l r p _ q=>k l r p q) e q
noncomputable def rU(f:bn→aL→hd→av)(x:bn):Bool:=gj x.ctorIdx 20 λ h=>Il (motive_1:=λ _=>av) x h λ y a p=>f y a p
@[elab_as_elim] theorem tA{f:bn→aL→hd→av}(h:rU f x=true)(k:∀y a p,f y a p=true→ak (.Attribute y a p)):ak x:=
 gE h λ e q=>Il (motive_1:=λ x=>∀e,Il (motive_1:=λ _=>av) x e (λ y a p=>f y a p)=true→ak x) x e (λ y a p _ q=>k y a p q) e q
noncomputable def rW(f:bn→bn→av)(x:bn):Bool:=gj x.ctorIdx 21 λ h=>Ix (motive_1:=λ _=>av) x h λ y a _=>f y a
@[elab_as_elim] theorem tC{f:bn→bn→av}(h:rW f x=true)(k:∀y a p,f y a=true→ak (.Subscript y a p)):ak x:=
 gE h λ e q=>Ix (motive_1:=λ x=>∀e,Ix (motive_1:=λ _=>av) x e (λ y a _=>f y a)=true→ak x) x e (λ y a p _ q=>k y a p q) e q
noncomputable def BM(f:Y bn→Y bn→Y bn→av)(x:bn):Bool:=gj x.ctorIdx 26 λ h=>Iw (motive_1:=λ _=>av) x h λ a b c _=>f a b c
@[elab_as_elim] theorem Hk{f:Y bn→Y bn→Y bn→av}(h:BM f x=true)(k:∀a b c p,f a b c=true→ak (.Slice a b c p)):ak x:=
 gE h λ e q=>Iw (motive_1:=λ x=>∀e,Iw (motive_1:=λ _=>av) x e (λ a b c _=>f a b c)=true→ak x) x e (λ a b c p _ q=>k a b c p q) e q
noncomputable def mK(f:bn→B bn→B Keyword→hd→av)(x:bn):Bool:=gj x.ctorIdx 16 λ h=>Ip (motive_1:=λ _=>av) x h λ a b c p=>f a b c p
@[elab_as_elim] theorem nw{f:bn→B bn→B Keyword→hd→av}(h:mK f x=true)(k:∀a b c p,f a b c p=true→ak (.Call a b c p)):ak x:=
 gE h λ e q=>Ip (motive_1:=λ x=>∀e,Ip (motive_1:=λ _=>av) x e (λ a b c p=>f a b c p)=true→ak x) x e (λ a b c p _ q=>k a b c p q) e q
noncomputable def P6(f:bn→B RH→gc→av)(x:bn):Bool:=gj x.ctorIdx 8 λ h=>Iv (motive_1:=λ _=>av) x h λ a b c _=>f a b c
@[elab_as_elim] theorem P7{f:bn→B RH→gc→av}(h:P6 f x=true)(k:∀a b c p,f a b c=true→ak (.ListComp a b c p)):ak x:=
 gE h λ e q=>Iv (motive_1:=λ x=>∀e,Iv (motive_1:=λ _=>av) x e (λ a b c _=>f a b c)=true→ak x) x e (λ a b c p _ q=>k a b c p q) e q
noncomputable def J7(f:av→av)(x:l5):Bool:=gj x.ctorIdx 1 λ h=>Ih (motive:=λ _=>av) x h λ b=>f b
@[elab_as_elim] theorem UF{ak:l5→Prop}{x:l5}{f:av→av}(h:J7 f x=true)(k:∀b,f b=true→ak (.bool b)):ak x:=
 gE h λ e q=>Ih (motive:=λ x=>∀e,Ih (motive:=λ _=>av) x e (λ b=>f b)=true→ak x) x e (λ b _ q=>k b q) e q
noncomputable def zq(f:am→av)(x:l5):Bool:=gj x.ctorIdx 2 λ h=>Ii (motive:=λ _=>av) x h λ b=>f b
@[elab_as_elim] theorem Dj{ak:l5→Prop}{x:l5}{f:am→av}(h:zq f x=true)(k:∀b,f b=true→ak (.int b)):ak x:=
 gE h λ e q=>Ii (motive:=λ x=>∀e,Ii (motive:=λ _=>av) x e (λ b=>f b)=true→ak x) x e (λ b _ q=>k b q) e q
noncomputable def Dk(f:aL→av)(x:l5):Bool:=gj x.ctorIdx 5 λ h=>Ij (motive:=λ _=>av) x h λ b=>f b
@[elab_as_elim] theorem Kb{ak:l5→Prop}{x:l5}(h:Dk f x=true)(k:∀b,f b=true→ak (.str b)):ak x:=
 gE h λ e q=>Ij (motive:=λ x=>∀e,Ij (motive:=λ _=>av) x e (λ b=>f b)=true→ak x) x e (λ b _ q=>k b q) e q
noncomputable def hh{α:Type}:B α→av
 | []=>true
 |_::_=>false
noncomputable def dy{α:Type}(f:α→av):B α→av
 |x::r=>hh r&&f x
 | []=>false
noncomputable def oe{α:Type}(f:α→B α→av):B α→av
 |x::r=>f x r
 | []=>false
noncomputable def on{α:Type}:Y α→av
 |none=>true
 |some _=>false
noncomputable def cT{α:Type}(f:α→av):Y α→av
 |some x=>f x
 |none=>false
theorem a7(h:(a&&b)=true):a=true:=(dI.mp h).1
theorem aD(h:(a&&b)=true):b=true:=(dI.mp h).2
@[elab_as_elim] theorem g0{α:Type}{ak:B α→Prop}:∀{l:B α},hh l=true→ak []→ak l
 | [],_,k=>k
@[elab_as_elim] theorem jp{α:Type}{f:α→av}{ak:B α→Prop}:∀{l:B α},dy f l=true→(∀x,f x=true→ak [x])→ak l
 | [x],h,k=>k x h
@[elab_as_elim] theorem jq{α:Type}{f:α→B α→av}{ak:B α→Prop}:∀{l:B α},oe f l=true→(∀x r,f x r=true→ak (x::r))→ak l
 |x::r,h,k=>k x r h
@[elab_as_elim] theorem rA{α:Type}{ak:Y α→Prop}:∀{l:Y α},on l=true→ak none→ak l
 |none,_,k=>k
@[elab_as_elim] theorem qt{α:Type}{f:α→av}{ak:Y α→Prop}:∀{l:Y α},cT f l=true→(∀x,f x=true→ak (some x))→ak l
 |some x,h,k=>k x h
@[elab_as_elim] theorem jI{α:Type}[jw α]{a b:α}{ak:α→Prop}(h:(a==b)=true)(k:ak b):ak a:=(jk.mp h).symm▸k
noncomputable def vInt(f:am→av)(x:au):Bool:=gj x.ctorIdx 4 λ h=>IT (motive:=λ _=>av) x h λ i _=>f i
@[elab_as_elim] theorem afN{ak:au→Prop}{x:au}{f:am→av}(h:vInt f x=true)(k:∀i t,f i=true→ak (.int i t)):ak x:=
 gE h λ e q=>IT (motive:=λ x=>∀e,IT (motive:=λ _=>av) x e (λ i _=>f i)=true→ak x) x e (λ i t _ q=>k i t q) e q
end Mine
end
section
namespace Mine
noncomputable def UL:B (am×am):=[(0,20),(1,9),(2,10),(3,11),(4,12),(5,13),(6,14),(7,15),(8,16),(9,17),(10,18),(11,19),(12,1),(13,4)]
noncomputable def o8:B (am×am):=[(20,0),(9,1),(10,2),(11,3),(12,4),(13,5),(14,6),(15,7),(16,8),(17,9),(18,10),(19,11),(1,12),(4,13)]
noncomputable def Th:bk:=
 .cons (.cc (.v 0) 0 (.lst .nil)) (.cons (.cc (.v 0) 1 (.eP .t)) (.cons (.cc (.v 0) 2 (.lst .nil)) (.cons (.cc (.v 0) 3 (.lst .nil)) (.cons (.cc (.v 0) 4 (.lst .nil)) (.cons (.dc [1] false (.gQ (.gl [80,82,73,77,95,69,78,68] (.ii 16))) (.cons (.asg 2 (.tup (.cons (.gl [82,95,80,82,73,77] (.ii 1)) (.cons (.v 1) .nil)))) (.cons (.ex (.append (.at (.v 0) 0) (.v 2))) (.cons (.gJ (.at (.v 0) 1) (.v 2) (.v 1)) (.cons (.ex (.append (.at (.v 0) 2) (.ii 1))) (.cons (.ex (.append (.at (.v 0) 3) (.ii 1))) (.cons (.ex (.append (.at (.v 0) 4) (.ii 0))) .nil))))))) .nil)))))
noncomputable def Tj:bk:=
 .cons (.b4 (.or (.cons (.cmp .lt (.v 1) (.ii 0)) (.cons (.cmp .ge (.v 1) (.len (.at (.v 0) 0))) .nil))) (.cons (.bad) .nil) (.nil)) (.cons (.ret (.aq (.at (.v 0) 0) (.v 1))) .nil)
noncomputable def Ti:bk:=
 .cons (.asg 2 (.m3 (.at (.v 0) 1) (.v 1) (.neg (.ii 1)))) (.cons (.b4 (.cmp .ge (.v 2) (.ii 0)) (.cons (.ret (.v 2)) .nil) (.nil)) (.cons (.ex (.call 17 (.cons (.v 0) (.cons (.v 1) .nil)))) (.cons (.asg 3 (.ii 1)) (.cons (.asg 4 (.ii 1)) (.cons (.asg 5 (.ii 0)) (.cons (.b4 (.or (.cons (.cmp .eq (.aq (.v 1) (.ii 0)) (.gl [82,95,86,65,82] (.ii 6))) (.cons (.cmp .eq (.aq (.v 1) (.ii 0)) (.gl [82,95,77,86,65,82] (.ii 7))) .nil))) (.cons (.asg 5 (.ii 1)) .nil) (.nil)) (.cons (.asg 6 (.call 15 (.cons (.aq (.v 1) (.ii 0)) .nil))) (.cons (.dc [7] false (.call 14 (.cons (.v 1) .nil)) (.cons (.b4 (.cmp .gt (.bin .add (.aq (.at (.v 0) 2) (.v 7)) (.v 6)) (.v 3)) (.cons (.asg 3 (.bin .add (.aq (.at (.v 0) 2) (.v 7)) (.v 6))) .nil) (.nil)) (.cons (.aug 4 .add (.aq (.at (.v 0) 3) (.v 7))) (.cons (.b4 (.cmp .eq (.aq (.at (.v 0) 4) (.v 7)) (.ii 1)) (.cons (.asg 5 (.ii 1)) .nil) (.nil)) .nil)))) (.cons (.b4 (.cmp .gt (.v 3) (.gl [68,69,69,80,69,83,84,95,75,73,78,68] (.ii 24))) (.cons (.bad) .nil) (.nil)) (.cons (.b4 (.cmp .gt (.v 4) (.gl [72,69,65,86,73,69,83,84,95,75,73,78,68] (.ii 4096))) (.cons (.bad) .nil) (.nil)) (.cons (.asg 8 (.len (.at (.v 0) 0))) (.cons (.ex (.append (.at (.v 0) 0) (.v 1))) (.cons (.gJ (.at (.v 0) 1) (.v 1) (.v 8)) (.cons (.ex (.append (.at (.v 0) 2) (.v 3))) (.cons (.ex (.append (.at (.v 0) 3) (.v 4))) (.cons (.ex (.append (.at (.v 0) 4) (.v 5))) (.cons (.ret (.v 8)) .nil)))))))))))))))))
noncomputable def Tn:bk:=
 .cons (.cc (.v 0) 5 (.v 1)) (.cons (.cc (.v 0) 6 (.v 2)) (.cons (.cc (.v 0) 7 (.v 3)) (.cons (.cc (.v 0) 8 (.v 4)) (.cons (.cc (.v 0) 9 (.v 5)) (.cons (.cc (.v 0) 10 (.lst .nil)) (.cons (.cc (.v 0) 11 (.lst .nil)) (.cons (.cc (.v 0) 12 (.lst .nil)) (.cons (.cc (.v 0) 13 (.lst .nil)) (.cons (.dc [8] false (.v 6) (.cons (.ex (.append (.at (.v 0) 11) (.v 8))) (.cons (.ex (.append (.at (.v 0) 12) (.gl [86,65,95,78,79,78,69] (.ii 0)))) (.cons (.ex (.append (.at (.v 0) 13) (.tup (.cons (.ii 0) (.cons (.tup .nil) .nil))))) .nil)))) (.cons (.cc (.v 0) 14 (.lst .nil)) (.cons (.cc (.v 0) 15 (.lst .nil)) (.cons (.cc (.v 0) 16 (.v 7)) (.cons (.cc (.v 0) 17 (.ii 0)) (.cons (.cc (.v 0) 18 (.neg (.ii 1))) (.cons (.cc (.v 0) 19 (.lst .nil)) (.cons (.cc (.v 0) 20 (.lst .nil)) (.cons (.cc (.v 0) 21 (.lst .nil)) (.cons (.cc (.v 0) 22 (.ii 0)) (.cons (.cc (.v 0) 23 (.ii 0)) .nil)))))))))))))))))))
noncomputable def Tk:bk:=
 .cons (.cc (.v 0) 24 (.v 1)) (.cons (.cc (.v 0) 25 (.v 2)) (.cons (.cc (.v 0) 6 (.v 3)) (.cons (.cc (.v 0) 26 (.v 4)) (.cons (.cc (.v 0) 8 (.v 5)) (.cons (.cc (.v 0) 27 (.ii 0)) (.cons (.cc (.v 0) 28 (.lst .nil)) (.cons (.cc (.v 0) 29 (.lst .nil)) (.cons (.cc (.v 0) 30 (.v 6)) (.cons (.cc (.v 0) 11 (.jb (.v 7))) (.cons (.cc (.v 0) 31 (.call 31 (.cons (.len (.v 7)) .nil))) (.cons (.cc (.v 0) 32 (.qA (.tup (.cons (.ii 0) .nil)) (.len (.v 7)))) (.cons (.cc (.v 0) 33 .nn) (.cons (.cc (.v 0) 34 (.ii 0)) .nil)))))))))))))
noncomputable def Tm:bk:=
 .cons (.cc (.v 0) 35 (.new 0 .nil)) (.cons (.cc (.v 0) 36 (.lst (.cons (.nn) .nil))) (.cons (.cc (.v 0) 37 (.lst (.cons (.nn) .nil))) (.cons (.cc (.v 0) 15 (.lst (.cons (.nn) .nil))) (.cons (.cc (.v 0) 38 (.eP .i)) (.cons (.cc (.v 0) 39 (.lst .nil)) (.cons (.cc (.v 0) 40 (.ii 0)) .nil))))))
noncomputable def Tl:bk:=
 .cons (.cc (.v 0) 41 (.v 1)) (.cons (.cc (.v 0) 42 (.v 2)) (.cons (.cc (.v 0) 43 (.v 3)) (.cons (.cc (.v 0) 44 (.v 4)) (.cons (.cc (.v 0) 45 (.v 5)) (.cons (.cc (.v 0) 46 (.ii 0)) .nil)))))
noncomputable def Tg:bk:=
 .cons (.cc (.v 0) 0 (.lst .nil)) .nil
noncomputable def To:bk:=
 .cons (.cc (.v 0) 47 (.v 1)) (.cons (.cc (.v 0) 16 (.v 2)) (.cons (.cc (.v 0) 48 (.lst (.cons (.nn) .nil))) (.cons (.cc (.v 0) 49 (.lst (.cons (.nn) .nil))) (.cons (.cc (.v 0) 50 (.eP .i)) (.cons (.cc (.v 0) 51 (.new 5 .nil)) (.cons (.cc (.v 0) 52 (.eP .i)) (.cons (.cc (.v 0) 53 (.eP .i)) (.cons (.cc (.v 0) 54 (.eP .i)) .nil))))))))
noncomputable def Tp:bk:=
 .cons (.cc (.v 0) 55 (.v 1)) (.cons (.cc (.v 0) 47 (.at (.v 1) 47)) (.cons (.cc (.v 0) 35 (.at (.at (.v 1) 47) 35)) (.cons (.cc (.v 0) 56 (.v 2)) (.cons (.cc (.v 0) 16 (.v 3)) (.cons (.cc (.v 0) 57 (.eP .i)) (.cons (.cc (.v 0) 58 (.eP .i)) (.cons (.cc (.v 0) 59 (.lst .nil)) (.cons (.cc (.v 0) 60 (.eP .i)) (.cons (.cc (.v 0) 25 (.ii 0)) (.cons (.cc (.v 0) 24 (.ii 0)) (.cons (.cc (.v 0) 61 (.ii 0)) (.cons (.cc (.v 0) 62 (.ii 0)) .nil))))))))))))
noncomputable def Tf:bk:=
 .cons (.cc (.v 0) 55 (.v 1)) (.cons (.cc (.v 0) 63 (.v 2)) (.cons (.cc (.v 0) 47 (.at (.v 1) 47)) (.cons (.cc (.v 0) 35 (.at (.at (.v 1) 47) 35)) (.cons (.cc (.v 0) 36 (.lst .nil)) (.cons (.cc (.v 0) 64 (.lst .nil)) (.cons (.cc (.v 0) 54 (.eP .i)) (.cons (.cc (.v 0) 65 (.lst .nil)) (.cons (.cc (.v 0) 66 (.lst .nil)) (.cons (.cc (.v 0) 67 (.lst .nil)) (.cons (.cc (.v 0) 68 (.eP .i)) (.cons (.cc (.v 0) 69 (.eP .i)) (.cons (.cc (.v 0) 53 (.ii 0)) .nil))))))))))))
noncomputable def Td:bk:=
 .cons (.cc (.v 0) 35 (.v 1)) (.cons (.cc (.v 0) 70 (.eP .i)) (.cons (.cc (.v 0) 10 (.eP .i)) (.cons (.cc (.v 0) 71 (.eP .i)) (.cons (.cc (.v 0) 12 (.eP .i)) (.cons (.cc (.v 0) 72 (.eP .i)) (.cons (.cc (.v 0) 13 (.eP .i)) (.cons (.cc (.v 0) 73 (.eP .i)) (.cons (.cc (.v 0) 74 (.eP .i)) .nil))))))))
noncomputable def Tc:bk:=
 .cons (.ret (.m3 (.at (.v 0) 70) (.v 1) (.neg (.ii 1)))) .nil
noncomputable def Te:bk:=
 .cons (.ret (.m3 (.at (.v 0) 71) (.call 24 (.cons (.at (.v 0) 35) (.cons (.v 1) .nil))) (.ii 0))) .nil
noncomputable def TM:bk:=
 .cons (.asg 1 (.aq (.v 0) (.ii 0))) (.cons (.b4 (.or (.cons (.cmp .eq (.v 1) (.gl [82,95,67,76,65,83,83] (.ii 2))) (.cons (.cmp .eq (.v 1) (.gl [82,95,86,65,76,85,69] (.ii 3))) .nil))) (.cons (.ret (.aq (.v 0) (.ii 2))) .nil) (.nil)) (.cons (.b4 (.or (.cons (.cmp .eq (.v 1) (.gl [82,95,65,82,82,65,89] (.ii 4))) (.cons (.cmp .eq (.v 1) (.gl [82,95,66,89,82,69,70] (.ii 5))) (.cons (.cmp .eq (.v 1) (.gl [82,95,66,79,88,69,68] (.ii 8))) (.cons (.cmp .eq (.v 1) (.gl [82,95,82,79,82,69,70] (.ii 9))) (.cons (.cmp .eq (.v 1) (.gl [82,95,82,65,87] (.ii 11))) .nil)))))) (.cons (.ret (.tup (.cons (.aq (.v 0) (.ii 1)) .nil))) .nil) (.nil)) (.cons (.b4 (.cmp .eq (.v 1) (.gl [82,95,70,84,78] (.ii 10))) (.cons (.ret (.bin .add (.tup (.cons (.aq (.v 0) (.ii 1)) .nil)) (.aq (.v 0) (.ii 3)))) .nil) (.nil)) (.cons (.ret (.tup .nil)) .nil))))
noncomputable def T':bk:=
 .cons (.b4 (.or (.cons (.cmp .eq (.v 0) (.gl [82,95,67,76,65,83,83] (.ii 2))) (.cons (.cmp .eq (.v 0) (.gl [82,95,86,65,76,85,69] (.ii 3))) (.cons (.cmp .eq (.v 0) (.gl [82,95,65,82,82,65,89] (.ii 4))) .nil)))) (.cons (.ret (.ii 1)) .nil) (.nil)) (.cons (.ret (.ii 0)) .nil)
noncomputable def T9:bk:=
 .cons (.b4 (.or (.cons (.cmp .eq (.v 0) (.gl [82,95,67,76,65,83,83] (.ii 2))) (.cons (.cmp .eq (.v 0) (.gl [82,95,86,65,76,85,69] (.ii 3))) .nil))) (.cons (.ret (.ii 3)) .nil) (.nil)) (.cons (.b4 (.cmp .eq (.v 0) (.gl [82,95,70,84,78] (.ii 10))) (.cons (.ret (.ii 4)) .nil) (.nil)) (.cons (.ret (.ii 2)) .nil))
noncomputable def Tv:bk:=
 .cons (.b4 (.or (.cons (.cmp .eq (.len (.v 1)) (.ii 0)) (.cons (.cmp .le (.aq (.v 1) (.ii 0)) (.gl [82,95,80,82,73,77] (.ii 1))) (.cons (.cmp .gt (.aq (.v 1) (.ii 0)) (.gl [82,95,82,65,87] (.ii 11))) .nil)))) (.cons (.bad) .nil) (.nil)) (.cons (.asg 2 (.aq (.v 1) (.ii 0))) (.cons (.b4 (.cmp .ne (.len (.v 1)) (.call 16 (.cons (.v 2) .nil))) (.cons (.bad) .nil) (.nil)) (.cons (.dc [3] false (.call 14 (.cons (.v 1) .nil)) (.cons (.ex (.hj (.v 0) 75 (.cons (.v 3) .nil))) .nil)) (.cons (.b4 (.or (.cons (.cmp .eq (.v 2) (.gl [82,95,67,76,65,83,83] (.ii 2))) (.cons (.cmp .eq (.v 2) (.gl [82,95,86,65,76,85,69] (.ii 3))) .nil))) (.cons (.ex (.call 18 (.cons (.v 0) (.cons (.v 1) .nil)))) .nil) (.cons (.b4 (.or (.cons (.cmp .eq (.v 2) (.gl [82,95,86,65,82] (.ii 6))) (.cons (.cmp .eq (.v 2) (.gl [82,95,77,86,65,82] (.ii 7))) .nil))) (.cons (.b4 (.cmp .lt (.aq (.v 1) (.ii 1)) (.ii 0)) (.cons (.bad) .nil) (.nil)) .nil) (.cons (.b4 (.cmp .eq (.v 2) (.gl [82,95,70,84,78] (.ii 10))) (.cons (.b4 (.or (.cons (.g4 (.e (.call 20 (.cons (.v 0) (.cons (.aq (.v 1) (.ii 1)) .nil))))) (.cons (.cmp .lt (.aq (.v 1) (.ii 2)) (.ii 0)) .nil))) (.cons (.bad) .nil) (.nil)) (.cons (.ex (.call 19 (.cons (.v 0) (.cons (.aq (.v 1) (.ii 3)) .nil)))) .nil)) (.cons (.b4 (.cmp .eq (.v 2) (.gl [82,95,66,79,88,69,68] (.ii 8))) (.cons (.b4 (.g4 (.or (.cons (.e .bad) (.cons (.e .bad) .nil)))) (.cons (.bad) .nil) (.nil)) .nil) (.cons (.b4 (.g4 (.e (.call 20 (.cons (.v 0) (.cons (.aq (.v 1) (.ii 1)) .nil))))) (.cons (.bad) .nil) (.nil)) .nil)) .nil)) .nil)) .nil)) .nil))))
noncomputable def Tw:bk:=
 .cons (.b4 (.or (.cons (.cmp .le (.aq (.v 1) (.ii 1)) (.ii 0)) (.cons (.cmp .pk (.aq (.v 1) (.ii 1)) (.gl [84,73,68,95,80,82,73,77] (.cd o8))) .nil))) (.cons (.bad) .nil) (.nil)) (.cons (.ex (.call 19 (.cons (.v 0) (.cons (.aq (.v 1) (.ii 2)) .nil)))) .nil)
noncomputable def Tu:bk:=
 .cons (.dc [2] false (.v 1) (.cons (.b4 (.g4 (.e (.call 20 (.cons (.v 0) (.cons (.v 2) .nil))))) (.cons (.bad) .nil) (.nil)) .nil)) .nil
noncomputable def T2:bk:=
 .cons (.b4 (.or (.cons (.cmp .eq (.v 1) (.gl [86,79,73,68] (.ii 0))) (.cons (.cmp .eq (.v 1) (.gl [78,85,76,76,75] (.ii 14))) .nil))) (.cons (.ret (.cj false)) .nil) (.nil)) (.cons (.asg 2 (.aq (.hj (.v 0) 75 (.cons (.v 1) .nil)) (.ii 0))) (.cons (.ret (.or (.cons (.cmp .le (.v 2) (.gl [82,95,65,82,82,65,89] (.ii 4))) (.cons (.cmp .eq (.v 2) (.gl [82,95,86,65,82] (.ii 6))) (.cons (.cmp .eq (.v 2) (.gl [82,95,77,86,65,82] (.ii 7))) .nil))))) .nil))
noncomputable def Tx:bk:=
 .cons (.b4 (.cmp .pk (.v 1) (.gl [84,73,68,95,80,82,73,77] (.cd o8))) (.cons (.ret .bad) .nil) (.nil)) (.cons (.ret (.hj (.v 0) 76 (.cons (.tup (.cons (.gl [82,95,67,76,65,83,83] (.ii 2)) (.cons (.v 1) (.cons (.v 2) .nil)))) .nil))) .nil)
noncomputable def Ud:bk:=
 .cons (.ret (.hj (.v 0) 76 (.cons (.tup (.cons (.gl [82,95,86,65,82] (.ii 6)) (.cons (.v 1) .nil))) .nil))) .nil
noncomputable def TP:bk:=
 .cons (.ret (.aq (.hj (.v 0) 75 (.cons (.v 1) .nil)) (.ii 0))) .nil
noncomputable def Ub:bk:=
 .cons (.asg 2 (.hj (.v 0) 75 (.cons (.v 1) .nil))) (.cons (.b4 (.or (.cons (.cmp .eq (.aq (.v 2) (.ii 0)) (.gl [82,95,67,76,65,83,83] (.ii 2))) (.cons (.cmp .eq (.aq (.v 2) (.ii 0)) (.gl [82,95,86,65,76,85,69] (.ii 3))) .nil))) (.cons (.ret (.aq (.v 2) (.ii 1))) .nil) (.nil)) (.cons (.b4 (.cmp .eq (.aq (.v 2) (.ii 0)) (.gl [82,95,80,82,73,77] (.ii 1))) (.cons (.ret (.m3 (.gl [80,82,73,77,95,84,73,68] (.cd UL)) (.v 1) (.ii 0))) .nil) (.nil)) (.cons (.b4 (.cmp .eq (.aq (.v 2) (.ii 0)) (.gl [82,95,65,82,82,65,89] (.ii 4))) (.cons (.ret (.gl [65,82,82,65,89,95,84,73,68] (.ii 5))) .nil) (.nil)) (.cons (.ret (.ii 0)) .nil))))
noncomputable def Ts:bk:=
 .cons (.asg 2 (.hj (.v 0) 75 (.cons (.v 1) .nil))) (.cons (.b4 (.or (.cons (.cmp .eq (.aq (.v 2) (.ii 0)) (.gl [82,95,67,76,65,83,83] (.ii 2))) (.cons (.cmp .eq (.aq (.v 2) (.ii 0)) (.gl [82,95,86,65,76,85,69] (.ii 3))) .nil))) (.cons (.ret (.aq (.v 2) (.ii 2))) .nil) (.nil)) (.cons (.ret (.tup .nil)) .nil))
noncomputable def Tz:bk:=
 .cons (.ex (.hj (.v 0) 75 (.cons (.v 1) .nil))) (.cons (.b4 (.cmp .eq (.aq (.at (.v 0) 4) (.v 1)) (.ii 0)) (.cons (.ret (.v 1)) .nil) (.nil)) (.cons (.ret (.call 27 (.cons (.v 0) (.cons (.v 1) (.cons (.v 2) (.cons (.v 3) (.cons (.eP .i) .nil))))))) .nil))
noncomputable def TB:bk:=
 .cons (.b4 (.cmp .eq (.aq (.at (.v 0) 4) (.v 1)) (.ii 0)) (.cons (.ret (.v 1)) .nil) (.nil)) (.cons (.b4 (.cmp .pk (.v 1) (.v 4)) (.cons (.ret (.aq (.v 4) (.v 1))) .nil) (.nil)) (.cons (.asg 5 (.aq (.at (.v 0) 0) (.v 1))) (.cons (.b4 (.cmp .eq (.aq (.v 5) (.ii 0)) (.gl [82,95,86,65,82] (.ii 6))) (.cons (.ret (.call 29 (.cons (.v 2) (.cons (.aq (.v 5) (.ii 1)) (.cons (.v 1) .nil))))) .nil) (.nil)) (.cons (.b4 (.cmp .eq (.aq (.v 5) (.ii 0)) (.gl [82,95,77,86,65,82] (.ii 7))) (.cons (.ret (.call 29 (.cons (.v 3) (.cons (.aq (.v 5) (.ii 1)) (.cons (.v 1) .nil))))) .nil) (.nil)) (.cons (.asg 6 (.lst .nil)) (.cons (.dc [7] false (.call 14 (.cons (.v 5) .nil)) (.cons (.ex (.append (.v 6) (.call 27 (.cons (.v 0) (.cons (.v 7) (.cons (.v 2) (.cons (.v 3) (.cons (.v 4) .nil)))))))) .nil)) (.cons (.gJ (.v 4) (.v 1) (.call 28 (.cons (.v 0) (.cons (.v 5) (.cons (.jb (.v 6)) .nil))))) (.cons (.ret (.aq (.v 4) (.v 1))) .nil))))))))
noncomputable def Ue:bk:=
 .cons (.asg 3 (.aq (.v 1) (.ii 0))) (.cons (.b4 (.or (.cons (.cmp .eq (.v 3) (.gl [82,95,67,76,65,83,83] (.ii 2))) (.cons (.cmp .eq (.v 3) (.gl [82,95,86,65,76,85,69] (.ii 3))) .nil))) (.cons (.ret (.hj (.v 0) 76 (.cons (.tup (.cons (.v 3) (.cons (.aq (.v 1) (.ii 1)) (.cons (.v 2) .nil)))) .nil))) .nil) (.nil)) (.cons (.b4 (.cmp .eq (.v 3) (.gl [82,95,70,84,78] (.ii 10))) (.cons (.ret (.hj (.v 0) 76 (.cons (.tup (.cons (.v 3) (.cons (.aq (.v 2) (.ii 0)) (.cons (.aq (.v 1) (.ii 2)) (.cons (.lj (.v 2) (.ii 1)) .nil))))) .nil))) .nil) (.nil)) (.cons (.b4 (.cmp .eq (.v 3) (.gl [82,95,66,79,88,69,68] (.ii 8))) (.cons (.ret .bad) .nil) (.nil)) (.cons (.ret (.hj (.v 0) 76 (.cons (.tup (.cons (.v 3) (.cons (.aq (.v 2) (.ii 0)) .nil))) .nil))) .nil))))
noncomputable def T6:bk:=
 .cons (.b4 (.cmp .lt (.v 1) (.len (.v 0))) (.cons (.ret (.aq (.v 0) (.v 1))) .nil) (.nil)) (.cons (.ret (.v 2)) .nil)
noncomputable def TA:bk:=
 .cons (.asg 4 (.lst .nil)) (.cons (.dc [5] false (.v 1) (.cons (.ex (.append (.v 4) (.call 26 (.cons (.v 0) (.cons (.v 5) (.cons (.v 2) (.cons (.v 3) .nil))))))) .nil)) (.cons (.ret (.jb (.v 4))) .nil))
noncomputable def T7:bk:=
 .cons (.asg 1 (.lst .nil)) (.cons (.dc [2] false (.gQ (.v 0)) (.cons (.ex (.append (.v 1) (.bin .add (.ss [112]) (.strOf (.v 2))))) .nil)) (.cons (.ret (.jb (.v 1))) .nil))
noncomputable def TO:bk:=
 .cons (.b4 (.and (.cons (.cmp .ne (.bin .band (.v 0) (.bin .add (.gl [77,70,95,67,84,79,82] (.ii 32)) (.gl [77,70,95,67,67,84,79,82] (.ii 64)))) (.ii 0)) (.cons (.cmp .ne (.bin .band (.v 0) (.gl [77,70,95,83,80,69,67,73,65,76] (.ii 128))) (.ii 0)) .nil))) (.cons (.ret (.bin .sub (.v 0) (.gl [77,70,95,83,80,69,67,73,65,76] (.ii 128)))) .nil) (.nil)) (.cons (.ret (.v 0)) .nil)
noncomputable def Tr:bk:=
 .cons (.asg 7 (.aq (.at (.v 0) 36) (.v 1))) (.cons (.asg 8 (.len (.at (.v 0) 15))) (.cons (.ex (.append (.at (.v 0) 15) (.new 2 (.cons (.v 8) (.cons (.v 1) (.cons (.v 2) (.cons (.v 3) (.cons (.call 32 (.cons (.v 4) .nil)) (.cons (.v 5) (.cons (.v 6) .nil)))))))))) (.cons (.ex (.append (.at (.v 7) 15) (.v 8))) (.cons (.ex (.call 34 (.cons (.v 0) (.cons (.v 8) .nil)))) (.cons (.ret (.v 8)) .nil)))))
noncomputable def T5:bk:=
 .cons (.asg 2 (.aq (.at (.v 0) 15) (.v 1))) (.cons (.asg 3 (.aq (.at (.v 0) 36) (.at (.v 2) 25))) (.cons (.b4 (.cmp .ne (.bin .band (.at (.v 2) 8) (.gl [77,70,95,67,67,84,79,82] (.ii 64))) (.ii 0)) (.cons (.cc (.v 3) 17 (.v 1)) .nil) (.nil)) (.cons (.b4 (.and (.cons (.cmp .eq (.at (.v 2) 6) (.ss [70,105,110,97,108,105,122,101])) (.cons (.e .bad) (.cons (.cmp .eq (.len (.at (.v 2) 11)) (.ii 0)) (.cons (.cmp .eq (.at (.v 2) 30) (.gl [86,79,73,68] (.ii 0))) .nil))))) (.cons (.b4 (.or (.cons (.cmp .eq (.at (.v 2) 25) (.gl [84,95,79,66,74,69,67,84] (.ii 1))) (.cons (.cmp .eq (.bin .band (.at (.v 2) 8) (.gl [77,70,95,78,69,87,83,76,79,84] (.ii 4))) (.ii 0)) .nil))) (.cons (.cc (.v 3) 22 (.v 1)) .nil) (.nil)) .nil) (.nil)) .nil)))
noncomputable def T8:bk:=
 .cons (.b4 (.cmp .my (.v 1) (.v 0)) (.cons (.ex (.append (.v 0) (.v 1))) .nil) (.nil)) .nil
noncomputable def Tq:bk:=
 .cons (.ex (.call 35 (.cons (.at (.aq (.at (.v 0) 36) (.v 1)) 19) (.cons (.tup (.cons (.v 2) (.cons (.v 3) (.cons (.v 4) .nil)))) .nil)))) .nil
noncomputable def Ua:bk:=
 .cons (.b4 (.cmp .pk (.v 1) (.gl [84,73,68,95,80,82,73,77] (.cd o8))) (.cons (.ret (.aq (.gl [84,73,68,95,80,82,73,77] (.cd o8)) (.v 1))) .nil) (.nil)) (.cons (.asg 2 (.aq (.at (.v 0) 36) (.v 1))) (.cons (.asg 3 (.lst .nil)) (.cons (.dc [4] false (.gQ (.len (.at (.v 2) 11))) (.cons (.ex (.append (.v 3) (.call 22 (.cons (.at (.v 0) 35) (.cons (.v 4) .nil))))) .nil)) (.cons (.ret (.call 38 (.cons (.v 0) (.cons (.v 1) (.cons (.jb (.v 3)) .nil))))) .nil))))
noncomputable def TQ:bk:=
 .cons (.asg 3 (.at (.aq (.at (.v 0) 36) (.v 1)) 7)) (.cons (.b4 (.or (.cons (.cmp .eq (.v 3) (.gl [83,95,83,84,82,85,67,84] (.ii 2))) (.cons (.cmp .eq (.v 3) (.gl [83,95,69,78,85,77] (.ii 5))) .nil))) (.cons (.ret .bad) .nil) (.nil)) (.cons (.ret (.call 21 (.cons (.at (.v 0) 35) (.cons (.v 1) (.cons (.v 2) .nil))))) .nil))
noncomputable def Uc:bk:=
 .cons (.asg 2 (.call 24 (.cons (.at (.v 0) 35) (.cons (.v 1) .nil)))) (.cons (.b4 (.or (.cons (.cmp .le (.v 2) (.ii 0)) (.cons (.cmp .ge (.v 2) (.len (.at (.v 0) 36))) .nil))) (.cons (.ret .nn) .nil) (.nil)) (.cons (.ret (.aq (.at (.v 0) 36) (.v 2))) .nil))
noncomputable def TL:bk:=
 .cons (.asg 3 (.lst .nil)) (.cons (.dc [4] false (.at (.aq (.at (.v 0) 36) (.v 1)) 15) (.cons (.b4 (.cmp .eq (.at (.aq (.at (.v 0) 15) (.v 4)) 6) (.v 2)) (.cons (.ex (.append (.v 3) (.v 4))) .nil) (.nil)) .nil)) (.cons (.ret (.v 3)) .nil))
noncomputable def T3:bk:=
 .cons (.b4 (.cmp .eq (.aq (.v 1) (.ii 1)) (.ii 0)) (.cons (.ret (.tup (.cons (.gl [86,79,73,68] (.ii 0)) (.cons (.tup .nil) .nil)))) .nil) (.nil)) (.cons (.asg 2 (.aq (.at (.v 0) 15) (.aq (.v 1) (.ii 1)))) (.cons (.b4 (.cmp .is (.v 2) (.nn)) (.cons (.bad) .nil) (.nil)) (.cons (.asg 3 (.call 25 (.cons (.at (.v 0) 35) (.cons (.aq (.v 1) (.ii 0)) .nil)))) (.cons (.ret (.tup (.cons (.call 26 (.cons (.at (.v 0) 35) (.cons (.at (.v 2) 30) (.cons (.v 3) (.cons (.aq (.v 1) (.ii 2)) .nil))))) (.cons (.call 30 (.cons (.at (.v 0) 35) (.cons (.at (.v 2) 11) (.cons (.v 3) (.cons (.aq (.v 1) (.ii 2)) .nil))))) .nil)))) .nil))))
noncomputable def TN:bk:=
 .cons (.ret (.and (.cons (.cmp .eq (.call 23 (.cons (.at (.v 0) 35) (.cons (.v 1) .nil))) (.gl [82,95,67,76,65,83,83] (.ii 2))) (.cons (.cmp .eq (.hj (.v 0) 7 (.cons (.v 1) .nil)) (.gl [83,95,73,70,65,67,69] (.ii 3))) .nil)))) .nil
noncomputable def Tt:bk:=
 .cons (.asg 2 (.lst .nil)) (.cons (.asg 3 (.eP .i)) (.cons (.pL (.and (.cons (.cmp .ne (.v 1) (.neg (.ii 1))) (.cons (.cmp .my (.v 1) (.v 3)) .nil))) (.cons (.gJ (.v 3) (.v 1) (.ii 1)) (.cons (.ex (.append (.v 2) (.v 1))) (.cons (.asg 1 (.hj (.v 0) 9 (.cons (.v 1) .nil))) .nil)))) (.cons (.ret (.v 2)) .nil)))
noncomputable def TG:bk:=
 .cons (.asg 1 (.lst .nil)) (.cons (.dc [2] false (.gQ (.len (.at (.v 0) 65))) (.cons (.asg 3 (.call 37 (.cons (.at (.v 0) 47) (.cons (.aq (.aq (.at (.v 0) 65) (.v 2)) (.ii 0)) .nil)))) (.cons (.ex (.append (.v 1) (.tup (.cons (.len (.call 43 (.cons (.at (.at (.v 0) 63) 56) (.cons (.v 3) .nil)))) (.cons (.v 2) .nil))))) .nil))) (.cons (.dc [4,2] true (.sorted (.v 1)) (.cons (.o1 [5,6,7] (.aq (.at (.v 0) 65) (.v 2))) (.cons (.ex (.call 45 (.cons (.v 0) (.cons (.v 5) (.cons (.v 6) (.cons (.v 7) .nil)))))) .nil))) .nil))
noncomputable def TE:bk:=
 .cons (.asg 4 (.call 48 (.cons (.v 0) (.cons (.v 1) (.cons (.v 2) .nil))))) (.cons (.b4 (.cmp .is (.v 4) (.nn)) (.cons (.ex .bad) (.cons (.mD) .nil)) (.nil)) (.cons (.asg 5 (.aq (.at (.at (.v 0) 47) 15) (.v 2))) (.cons (.asg 6 (.aq (.at (.at (.v 0) 47) 15) (.aq (.v 4) (.ii 1)))) (.cons (.asg 7 (.call 47 (.cons (.v 0) (.cons (.v 5) (.cons (.v 6) (.cons (.v 4) .nil)))))) (.cons (.b4 (.e (.v 7)) (.cons (.ex .bad) .nil) (.nil)) (.cons (.b4 (.cmp .eq (.v 7) (.ii 0)) (.cons (.ex (.call 46 (.cons (.v 0) (.cons (.v 1) (.cons (.v 2) (.cons (.v 4) (.cons (.v 3) .nil))))))) .nil) (.nil)) (.cons (.cc (.v 5) 29 (.lst .nil)) (.cons (.dc [8,9] true (.at (.v 6) 29) (.cons (.ex (.append (.at (.v 5) 29) (.tup (.cons (.v 8) (.cons (.call 30 (.cons (.at (.v 0) 35) (.cons (.v 9) (.cons (.call 25 (.cons (.at (.v 0) 35) (.cons (.aq (.v 4) (.ii 0)) .nil))) (.cons (.tup .nil) .nil))))) .nil))))) .nil)) .nil))))))))
noncomputable def TK:bk:=
 .cons (.asg 5 (.lst .nil)) (.cons (.b4 (.e (.aq (.v 3) (.ii 3))) (.cons (.ex (.append (.v 5) (.tup (.cons (.aq (.v 3) (.ii 0)) (.cons (.aq (.v 3) (.ii 1)) .nil))))) .nil) (.nil)) (.cons (.dc [6,7,8] true (.at (.call 39 (.cons (.at (.v 0) 47) (.cons (.aq (.v 3) (.ii 0)) .nil))) 19) (.cons (.b4 (.and (.cons (.cmp .eq (.v 6) (.aq (.v 3) (.ii 1))) (.cons (.g4 (.e (.call 42 (.cons (.at (.at (.v 0) 63) 56) (.cons (.v 7) .nil))))) .nil))) (.cons (.ex (.append (.v 5) (.tup (.cons (.call 26 (.cons (.at (.v 0) 35) (.cons (.v 7) (.cons (.call 25 (.cons (.at (.v 0) 35) (.cons (.aq (.v 3) (.ii 0)) .nil))) (.cons (.tup .nil) .nil))))) (.cons (.v 8) .nil))))) .nil) (.nil)) .nil)) (.cons (.asg 9 (.aq (.at (.at (.v 0) 47) 15) (.v 2))) (.cons (.b4 (.and (.cons (.e (.v 5)) (.cons (.e (.bin .band (.at (.v 9) 8) (.gl [77,70,95,65,66,83,84,82,65,67,84] (.ii 8)))) .nil))) (.cons (.bad) .nil) (.nil)) (.cons (.b4 (.e (.aq (.v 3) (.ii 3))) (.cons (.o3 (.v 9) 8 .bor (.gl [77,70,95,78,69,87,83,76,79,84] (.ii 4))) .nil) (.nil)) (.cons (.dc [7,8] true (.v 5) (.cons (.ex (.call 36 (.cons (.at (.v 0) 47) (.cons (.v 1) (.cons (.v 2) (.cons (.v 7) (.cons (.v 8) .nil))))))) .nil)) .nil))))))
noncomputable def TF:bk:=
 .cons (.b4 (.and (.cons (.cmp .eq (.at (.v 1) 6) (.ss [70,105,110,97,108,105,122,101])) (.cons (.g4 (.e (.at (.v 1) 11))) (.cons (.g4 (.e (.at (.v 1) 27))) .nil)))) (.cons (.ret (.ii 249)) .nil) (.nil)) (.cons (.b4 (.cmp .gt (.aq (.v 3) (.ii 2)) (.ii 1)) (.cons (.ret (.ii 462)) .nil) (.nil)) (.cons (.b4 (.or (.cons (.g4 (.e (.bin .band (.at (.v 2) 8) (.gl [77,70,95,86,73,82,84,85,65,76] (.ii 2))))) (.cons (.e (.bin .band (.at (.v 2) 8) (.gl [77,70,95,83,84,65,84,73,67] (.ii 1)))) .nil))) (.cons (.ret (.ii 506)) .nil) (.nil)) (.cons (.b4 (.e (.bin .band (.at (.v 2) 8) (.gl [77,70,95,70,73,78,65,76] (.ii 16)))) (.cons (.ret (.ii 239)) .nil) (.nil)) (.cons (.b4 (.cmp .ne (.aq (.call 41 (.cons (.at (.v 0) 47) (.cons (.tup (.cons (.aq (.v 3) (.ii 0)) (.cons (.aq (.v 3) (.ii 1)) (.cons (.tup .nil) .nil)))) .nil))) (.ii 0)) (.at (.v 1) 30)) (.cons (.ret (.ii 508)) .nil) (.nil)) (.cons (.asg 4 (.at (.v 2) 26)) (.cons (.b4 (.and (.cons (.cmp .eq (.v 4) (.gl [65,95,70,65,77,79,82,65,83,77] (.ii 5))) (.cons (.e .bad) .nil))) (.cons (.asg 4 (.gl [65,95,70,65,77,73,76,89] (.ii 4))) .nil) (.nil)) (.cons (.ret (.ite (.cmp .ne (.v 4) (.at (.v 1) 26)) (.ii 507) (.ii 0))) .nil)))))))
noncomputable def TC:bk:=
 .cons (.asg 3 (.aq (.at (.at (.v 0) 47) 15) (.v 2))) (.cons (.asg 4 (.cj false)) (.cons (.dc [5] false (.lj (.call 43 (.cons (.at (.at (.v 0) 63) 56) (.cons (.call 37 (.cons (.at (.v 0) 47) (.cons (.v 1) .nil))) .nil))) (.ii 1)) (.cons (.asg 6 (.comp (.aq (.at (.at (.v 0) 47) 15) (.v 8)) [8] false (.call 51 (.cons (.v 0) (.cons (.v 5) (.cons (.at (.v 3) 6) (.cons (.at (.v 3) 27) (.cons (.at (.v 3) 11) .nil)))))) (.cons (.cmp .ne (.at (.aq (.at (.at (.v 0) 47) 15) (.v 8)) 26) (.gl [65,95,80,82,73,86,65,84,69] (.ii 1))) .nil))) (.cons (.asg 7 (.comp (.at (.v 9) 24) [9] false (.v 6) (.cons (.and (.cons (.e (.call 49 (.cons (.v 0) (.cons (.v 3) (.cons (.v 9) .nil))))) (.cons (.g4 (.e (.bin .band (.bin .bxor (.at (.v 9) 8) (.at (.v 3) 8)) (.gl [77,70,95,83,80,69,67,73,65,76] (.ii 128))))) (.cons (.e (.call 50 (.cons (.v 3) (.cons (.v 9) .nil)))) .nil)))) .nil))) (.cons (.b4 (.e (.v 7)) (.cons (.ret (.tup (.cons (.v 5) (.cons (.aq (.v 7) (.ii 0)) (.cons (.len (.v 7)) (.cons (.or (.cons (.v 4) (.cons (.cmp .gt (.len (.v 6)) (.len (.v 7))) .nil))) .nil)))))) .nil) (.nil)) (.cons (.asg 4 (.or (.cons (.v 4) (.cons (.cmp .gt (.len (.v 6)) (.ii 0)) .nil)))) .nil))))) (.cons (.ret .nn) .nil)))
noncomputable def TD:bk:=
 .cons (.b4 (.cmp .eq (.at (.v 2) 26) (.gl [65,95,80,82,73,86,65,84,69] (.ii 1))) (.cons (.ret (.cj false)) .nil) (.nil)) (.cons (.ret (.or (.cons (.cmp .my (.at (.v 2) 26) (.tup (.cons (.gl [65,95,65,83,83,69,77,66,76,89] (.ii 3)) (.cons (.gl [65,95,70,65,77,65,78,68,65,83,77] (.ii 2)) .nil)))) (.cons (.bad) .nil)))) .nil)
noncomputable def TH:bk:=
 .cons (.ret (.cmp .eq (.comp (.bin .band (.v 2) (.gl [80,70,95,79,85,84] (.ii 1))) [2] false (.at (.v 0) 32) (.nil)) (.comp (.bin .band (.v 3) (.gl [80,70,95,79,85,84] (.ii 1))) [3] false (.at (.v 1) 32) (.nil)))) .nil
noncomputable def TJ:bk:=
 .cons (.asg 5 (.lst .nil)) (.cons (.b4 (.e (.call 24 (.cons (.at (.v 0) 35) (.cons (.v 1) .nil)))) (.cons (.dc [6] false (.call 40 (.cons (.at (.v 0) 47) (.cons (.call 24 (.cons (.at (.v 0) 35) (.cons (.v 1) .nil))) (.cons (.v 2) .nil)))) (.cons (.b4 (.and (.cons (.cmp .eq (.at (.aq (.at (.at (.v 0) 47) 15) (.v 6)) 27) (.v 3)) (.cons (.cmp .eq (.aq (.call 41 (.cons (.at (.v 0) 47) (.cons (.tup (.cons (.v 1) (.cons (.v 6) (.cons (.tup .nil) .nil)))) .nil))) (.ii 1)) (.v 4)) .nil))) (.cons (.ex (.append (.v 5) (.v 6))) .nil) (.nil)) .nil)) .nil) (.nil)) (.cons (.ret (.v 5)) .nil))
noncomputable def TZ:bk:=
 .cons (.asg 2 (.aq (.v 0) (.ss [97,116]))) (.cons (.gJ (.v 0) (.ss [97,116]) (.bin .add (.v 2) (.ii 1))) (.cons (.asg 3 (.tup (.cons (.ii 0) (.cons (.ii 1) (.cons (.ii 1) (.cons (.ii 0) (.cons (.ii 0) (.cons (.ii 1) (.cons (.ii 3) (.cons (.ii 0) (.cons (.ii 0) (.cons (.ii 2) (.cons (.ii 0) (.cons (.ii 1) (.cons (.ii 0) (.cons (.ii 0) (.cons (.ii 1) (.cons (.ii 1) (.cons (.ii 0) (.cons (.ii 0) (.cons (.ii 0) (.cons (.ii 0) (.cons (.ii 2) (.cons (.ii 0) (.cons (.ii 0) .nil))))))))))))))))))))))))) (.cons (.b4 (.cmp .lt (.v 2) (.len (.aq (.v 0) (.ss [105,110])))) (.cons (.ret (.bin .mod (.aq (.aq (.v 0) (.ss [105,110])) (.v 2)) (.v 1))) .nil) (.nil)) (.cons (.ret (.ite (.cmp .lt (.v 2) (.len (.v 3))) (.bin .mod (.aq (.v 3) (.v 2)) (.v 1)) (.bin .mod (.bin .add (.bin .mul (.ii 5) (.v 2)) (.ii 3)) (.v 1)))) .nil))))
noncomputable def TX:bk:=
 .cons (.b4 (.cmp .eq (.aq (.v 0) (.ii 0)) (.ss [118])) (.cons (.ret (.aq (.v 1) (.aq (.v 0) (.ii 1)))) .nil) (.nil)) (.cons (.b4 (.cmp .eq (.aq (.v 0) (.ii 0)) (.ss [97])) (.cons (.ret (.tup (.cons (.ss [97]) (.cons (.call 53 (.cons (.aq (.v 0) (.ii 1)) (.cons (.v 1) .nil))) .nil)))) .nil) (.nil)) (.cons (.b4 (.cmp .eq (.aq (.v 0) (.ii 0)) (.ss [103])) (.cons (.ret (.tup (.cons (.ss [103]) (.cons (.aq (.v 0) (.ii 1)) (.cons (.jb (.comp (.call 53 (.cons (.v 2) (.cons (.v 1) .nil))) [2] false (.aq (.v 0) (.ii 2)) (.nil))) .nil))))) .nil) (.nil)) (.cons (.ret (.v 0)) .nil)))
noncomputable def TR:bk:=
 .cons (.asg 2 (.at (.aq (.v 0) (.ss [115,116,111,114,101])) 35)) (.cons (.b4 (.cmp .eq (.aq (.v 1) (.ii 0)) (.ss [118])) (.cons (.ret (.hj (.v 2) 76 (.cons (.tup (.cons (.gl [82,95,86,65,82] (.ii 6)) (.cons (.aq (.v 1) (.ii 1)) .nil))) .nil))) .nil) (.nil)) (.cons (.b4 (.cmp .eq (.aq (.v 1) (.ii 0)) (.ss [97])) (.cons (.ret (.hj (.v 2) 76 (.cons (.tup (.cons (.gl [82,95,65,82,82,65,89] (.ii 4)) (.cons (.call 54 (.cons (.v 0) (.cons (.aq (.v 1) (.ii 1)) .nil))) .nil))) .nil))) .nil) (.nil)) (.cons (.b4 (.cmp .eq (.aq (.v 1) (.ii 0)) (.ss [103])) (.cons (.ret (.hj (.v 2) 76 (.cons (.tup (.cons (.gl [82,95,67,76,65,83,83] (.ii 2)) (.cons (.aq (.v 1) (.ii 1)) (.cons (.jb (.comp (.call 54 (.cons (.v 0) (.cons (.v 3) .nil))) [3] false (.aq (.v 1) (.ii 2)) (.nil))) .nil)))) .nil))) .nil) (.nil)) (.cons (.ret (.aq (.v 1) (.ii 1))) .nil))))
noncomputable def T0:bk:=
 .cons (.asg 2 (.call 52 (.cons (.v 0) (.cons (.ii 6) .nil)))) (.cons (.asg 3 (.tup (.cons (.ss [107]) (.cons (.aq (.tup (.cons (.gl [73,52] (.ii 7)) (.cons (.gl [83,84,82,73,78,71] (.ii 13)) (.cons (.gl [79,66,74,69,67,84] (.ii 12)) .nil)))) (.bin .mod (.v 2) (.ii 3))) .nil)))) (.cons (.b4 (.and (.cons (.cmp .gt (.v 1) (.ii 0)) (.cons (.cmp .lt (.v 2) (.ii 4)) .nil))) (.cons (.asg 3 (.tup (.cons (.ss [118]) (.cons (.bin .mod (.v 2) (.v 1)) .nil)))) .nil) (.nil)) (.cons (.b4 (.cmp .eq (.v 2) (.ii 3)) (.cons (.ret (.tup (.cons (.ss [97]) (.cons (.v 3) .nil)))) .nil) (.nil)) (.cons (.ret (.ite (.cmp .eq (.v 2) (.ii 2)) (.tup (.cons (.ss [103]) (.cons (.ii 70) (.cons (.tup (.cons (.v 3) .nil)) .nil)))) (.v 3))) .nil))))
noncomputable def TV:bk:=
 .cons (.ret (.jb (.comp (.tup (.cons (.ss [118]) (.cons (.v 2) .nil))) [2] false (.gQ (.aq (.aq (.v 0) (.ss [109,97,110,121])) (.v 1))) (.nil)))) .nil
noncomputable def TS:bk:=
 .cons (.asg 2 (.call 56 (.cons (.v 0) (.cons (.v 1) .nil)))) (.cons (.asg 3 (.lst (.cons (.tup (.cons (.v 1) (.cons (.v 2) .nil))) .nil))) (.cons (.pL (.cmp .gt (.v 1) (.ii 0)) (.cons (.asg 2 (.jb (.comp (.call 53 (.cons (.v 4) (.cons (.v 2) .nil))) [4] false (.aq (.aq (.v 0) (.ss [117,112])) (.v 1)) (.nil)))) (.cons (.aug 1 .sub (.ii 1)) (.cons (.ex (.append (.v 3) (.tup (.cons (.v 1) (.cons (.v 2) .nil))))) .nil)))) (.cons (.ret (.v 3)) .nil)))
noncomputable def T1:bk:=
 .cons (.asg 1 (.aq (.v 0) (.ss [115,116,111,114,101]))) (.cons (.gJ (.v 0) (.ss [109,97,110,121]) (.lst (.cons (.bin .add (.ii 1) (.call 52 (.cons (.v 0) (.cons (.ii 2) .nil)))) .nil))) (.cons (.dc [2] false (.tup (.cons (.ii 1) (.cons (.ii 2) (.cons (.ii 3) .nil)))) (.cons (.ex (.append (.aq (.v 0) (.ss [109,97,110,121])) (.call 52 (.cons (.v 0) (.cons (.ii 3) .nil))))) .nil)) (.cons (.gJ (.v 0) (.ss [117,112]) (.lst (.cons (.tup .nil) .nil))) (.cons (.dc [2] false (.tup (.cons (.ii 1) (.cons (.ii 2) (.cons (.ii 3) .nil)))) (.cons (.ex (.append (.aq (.v 0) (.ss [117,112])) (.jb (.comp (.call 55 (.cons (.v 0) (.cons (.aq (.aq (.v 0) (.ss [109,97,110,121])) (.v 2)) .nil))) [5] false (.gQ (.aq (.aq (.v 0) (.ss [109,97,110,121])) (.bin .sub (.v 2) (.ii 1)))) (.nil))))) .nil)) (.cons (.cc (.v 1) 36 (.pE (.lst (.cons (.nn) .nil)) (.ii 66))) (.cons (.dc [2] false (.gQ (.ii 4)) (.cons (.ex (.append (.at (.v 1) 36) (.new 1 (.cons (.bin .add (.ii 66) (.v 2)) (.cons (.aq (.ss [65,66,67,68]) (.v 2)) (.cons (.ii 1) (.cons (.ii 0) (.cons (.neg (.ii 1)) (.cons (.mF (.ss [84,85]) (.aq (.aq (.v 0) (.ss [109,97,110,121])) (.v 2))) (.cons (.ii 1) .nil)))))))))) .nil)) (.cons (.ex (.append (.at (.v 1) 36) (.new 1 (.cons (.ii 70) (.cons (.ss [71]) (.cons (.ii 1) (.cons (.ii 0) (.cons (.neg (.ii 1)) (.cons (.ss [84]) (.cons (.ii 1) .nil)))))))))) (.cons (.dc [2] false (.gQ (.ii 4)) (.cons (.asg 3 (.comp (.call 54 (.cons (.v 0) (.cons (.tup (.cons (.ss [103]) (.cons (.bin .add (.ii 66) (.v 6)) (.cons (.v 7) .nil)))) .nil))) [6,7] true (.call 57 (.cons (.v 0) (.cons (.v 2) .nil))) (.nil))) (.cons (.dc [4] false (.pF (.ii 1) (.len (.v 3))) (.cons (.gJ (.at (.aq (.v 0) (.ss [104,111,115,116])) 70) (.aq (.v 3) (.bin .sub (.v 4) (.ii 1))) (.aq (.v 3) (.v 4))) .nil)) .nil))) .nil))))))))
noncomputable def TW:bk:=
 .cons (.asg 5 (.call 57 (.cons (.v 0) (.cons (.v 1) .nil)))) (.cons (.asg 6 (.call 53 (.cons (.aq (.aq (.v 0) (.ss [103,105,118,101,110])) (.v 2)) (.cons (.aq (.aq (.v 5) (.neg (.ii 1))) (.ii 1)) .nil)))) (.cons (.asg 7 (.bin .add (.ite (.e (.v 4)) (.ii 2) (.ii 6)) (.bin .mul (.ii 128) (.v 3)))) (.cons (.asg 8 (.call 33 (.cons (.aq (.v 0) (.ss [115,116,111,114,101])) (.cons (.bin .add (.ii 66) (.v 1)) (.cons (.v 2) (.cons (.ii 6) (.cons (.v 7) (.cons (.gl [86,79,73,68] (.ii 0)) (.cons (.tup (.cons (.call 54 (.cons (.v 0) (.cons (.v 6) .nil))) .nil)) .nil))))))))) (.cons (.asg 9 (.m4 [[108,101,118,101,108],[110,97,109,101],[115,111,114,116],[109,105,100],[102,108,97,103,115],[115,116,97,110,100,115],[111,118,101,114]] (.cons (.v 1) (.cons (.v 2) (.cons (.v 3) (.cons (.v 8) (.cons (.v 7) (.cons (.lst .nil) (.cons (.v 4) .nil))))))))) (.cons (.ex (.append (.aq (.v 0) (.ss [114,111,119,115])) (.v 9))) .nil)))))
noncomputable def TU:bk:=
 .cons (.dc [1] false (.ss [109,110]) (.cons (.asg 2 (.call 52 (.cons (.v 0) (.cons (.ii 4) .nil)))) (.cons (.dc [3] false (.aq (.tup (.cons (.tup (.cons (.ii 0) .nil)) (.cons (.tup (.cons (.ii 1) .nil)) (.cons (.tup (.cons (.ii 0) (.cons (.ii 1) .nil))) (.cons (.tup (.cons (.ii 1) (.cons (.ii 0) .nil))) .nil))))) (.v 2)) (.cons (.ex (.call 59 (.cons (.v 0) (.cons (.ii 0) (.cons (.v 1) (.cons (.v 3) (.cons (.cj false) .nil))))))) .nil)) .nil))) (.cons (.dc [4] false (.tup (.cons (.ii 1) (.cons (.ii 2) (.cons (.ii 3) .nil)))) (.cons (.dc [1] false (.ss [109,110]) (.cons (.asg 5 (.call 52 (.cons (.v 0) (.cons (.ii 8) .nil)))) (.cons (.dc [3] false (.aq (.tup (.cons (.tup .nil) (.cons (.tup (.cons (.ii 0) .nil)) (.cons (.tup (.cons (.ii 1) .nil)) (.cons (.tup (.cons (.ii 0) (.cons (.ii 1) .nil))) (.cons (.tup (.cons (.ii 0) .nil)) (.cons (.tup (.cons (.ii 1) .nil)) (.cons (.tup (.cons (.ii 1) (.cons (.ii 0) .nil))) (.cons (.tup (.cons (.ii 0) .nil)) .nil))))))))) (.v 5)) (.cons (.asg 6 (.comp (.v 7) [7] false (.aq (.v 0) (.ss [114,111,119,115])) (.cons (.and (.cons (.cmp .eq (.aq (.v 7) (.ss [110,97,109,101])) (.v 1)) (.cons (.cmp .eq (.aq (.v 7) (.ss [115,111,114,116])) (.v 3)) (.cons (.cmp .lt (.aq (.v 7) (.ss [108,101,118,101,108])) (.v 4)) .nil)))) .nil))) (.cons (.ex (.call 59 (.cons (.v 0) (.cons (.v 4) (.cons (.v 1) (.cons (.v 3) (.cons (.and (.cons (.cmp .ne (.v 6) (.lst .nil)) (.cons (.cmp .my (.v 5) (.tup (.cons (.ii 4) (.cons (.ii 5) .nil)))) .nil))) .nil))))))) .nil))) .nil))) .nil)) .nil)
noncomputable def TY:bk:=
 .cons (.asg 2 (.cj false)) (.cons (.dc [3,4] true (.lj (.call 57 (.cons (.v 0) (.cons (.aq (.v 1) (.ss [108,101,118,101,108])) .nil))) (.ii 1)) (.cons (.asg 5 (.comp (.v 9) [9] false (.aq (.v 0) (.ss [114,111,119,115])) (.cons (.and (.cons (.cmp .eq (.aq (.v 9) (.ss [108,101,118,101,108])) (.v 3)) (.cons (.cmp .eq (.aq (.v 9) (.ss [110,97,109,101])) (.aq (.v 1) (.ss [110,97,109,101]))) .nil))) .nil))) (.cons (.asg 6 (.comp (.v 10) [10] false (.v 5) (.cons (.cmp .eq (.aq (.v 10) (.ss [115,111,114,116])) (.aq (.v 1) (.ss [115,111,114,116]))) .nil))) (.cons (.asg 2 (.or (.cons (.v 2) (.cons (.cmp .gt (.len (.v 5)) (.len (.v 6))) .nil)))) (.cons (.b4 (.cmp .ne (.v 6) (.lst .nil)) (.cons (.b4 (.e (.v 2)) (.cons (.o4 (.v 1) (.ss [102,108,97,103,115]) .add (.ii 4)) (.cons (.ex (.append (.aq (.v 1) (.ss [115,116,97,110,100,115])) (.tup (.cons (.tup (.cons (.ss [103]) (.cons (.bin .add (.ii 66) (.v 3)) (.cons (.v 4) .nil)))) (.cons (.aq (.aq (.v 6) (.ii 0)) (.ss [109,105,100])) .nil))))) .nil)) (.nil)) (.cons (.dc [7,8] true (.aq (.aq (.v 6) (.ii 0)) (.ss [115,116,97,110,100,115])) (.cons (.ex (.append (.aq (.v 1) (.ss [115,116,97,110,100,115])) (.tup (.cons (.call 53 (.cons (.v 7) (.cons (.v 4) .nil))) (.cons (.v 8) .nil))))) .nil)) (.cons (.mD) .nil))) (.nil)) .nil))))) .nil)
noncomputable def zk:bk:=
 .cons (.asg 1 (.m4 [[105,110],[97,116],[114,111,119,115],[115,116,111,114,101]] (.cons (.comp (.bin .mod (.v 12) (.ii 1000003)) [12] false (.mF (.v 0) (.ii 63)) (.nil)) (.cons (.ii 0) (.cons (.lst .nil) (.cons (.new 3 .nil) .nil)))))) (.cons (.asg 2 (.aq (.v 1) (.ss [115,116,111,114,101]))) (.cons (.gJ (.v 1) (.ss [104,111,115,116]) (.new 9 (.cons (.at (.v 2) 35) .nil))) (.cons (.ex (.call 58 (.cons (.v 1) .nil))) (.cons (.gJ (.v 1) (.ss [103,105,118,101,110]) (.eP .s)) (.cons (.dc [3] false (.ss [109,110]) (.cons (.gJ (.aq (.v 1) (.ss [103,105,118,101,110])) (.v 3) (.call 55 (.cons (.v 1) (.cons (.aq (.aq (.v 1) (.ss [109,97,110,121])) (.ii 0)) .nil)))) .nil)) (.cons (.ex (.call 60 (.cons (.v 1) .nil))) (.cons (.cc (.aq (.v 1) (.ss [104,111,115,116])) 71 (.pa [34] (.cons (.ii 3) .nil))) (.cons (.asg 4 (.lst (.cons (.lst .nil) (.cons (.lst .nil) (.cons (.lst .nil) (.cons (.lst .nil) .nil)))))) (.cons (.dc [5] false (.aq (.v 1) (.ss [114,111,119,115])) (.cons (.b4 (.and (.cons (.cmp .lt (.aq (.v 5) (.ss [108,101,118,101,108])) (.ii 3)) (.cons (.cmp .eq (.call 52 (.cons (.v 1) (.cons (.ii 3) .nil))) (.ii 2)) .nil))) (.cons (.ex (.call 36 (.cons (.v 2) (.cons (.bin .add (.ii 66) (.aq (.v 5) (.ss [108,101,118,101,108]))) (.cons (.aq (.v 5) (.ss [109,105,100])) (.cons (.call 54 (.cons (.v 1) (.cons (.tup (.cons (.ss [103]) (.cons (.ii 34) (.cons (.tup .nil) .nil)))) .nil))) (.cons (.ii 900) .nil))))))) (.cons (.ex (.append (.aq (.v 4) (.aq (.v 5) (.ss [108,101,118,101,108]))) (.tup (.cons (.aq (.v 5) (.ss [109,105,100])) (.cons (.call 54 (.cons (.v 1) (.cons (.tup (.cons (.ss [103]) (.cons (.ii 34) (.cons (.tup .nil) .nil)))) .nil))) (.cons (.ii 900) .nil)))))) .nil)) (.nil)) .nil)) (.cons (.asg 6 (.new 7 (.cons (.new 6 (.cons (.v 2) (.cons (.ii 1) .nil))) (.cons (.aq (.v 1) (.ss [104,111,115,116])) (.cons (.ii 1) .nil))))) (.cons (.asg 7 (.new 8 (.cons (.at (.v 6) 55) (.cons (.v 6) .nil)))) (.cons (.asg 8 (.comp (.v 13) [13] false (.aq (.v 1) (.ss [114,111,119,115])) (.cons (.e (.aq (.v 13) (.ss [111,118,101,114]))) .nil))) (.cons (.b4 (.cmp .eq (.call 52 (.cons (.v 1) (.cons (.ii 2) .nil))) (.ii 1)) (.cons (.asg 8 (.rev (.v 8))) .nil) (.nil)) (.cons (.dc [5] false (.v 8) (.cons (.ex (.append (.at (.v 7) 65) (.tup (.cons (.bin .add (.ii 66) (.aq (.v 5) (.ss [108,101,118,101,108]))) (.cons (.aq (.v 5) (.ss [109,105,100])) (.cons (.new 4 (.cons (.gl [78,95,77,69,84,72,79,68] (.ii 91)) (.cons (.tup (.cons (.aq (.v 5) (.ss [110,97,109,101])) (.cons (.ii 0) .nil))) (.cons (.lst .nil) (.cons (.ii 128) (.cons (.aq (.v 5) (.ss [109,105,100])) .nil)))))) .nil)))))) .nil)) (.cons (.ex (.call 44 (.cons (.v 7) .nil))) (.cons (.dc [9] false (.gQ (.ii 4)) (.cons (.dc [5] false (.v 8) (.cons (.b4 (.cmp .eq (.aq (.v 5) (.ss [108,101,118,101,108])) (.v 9)) (.cons (.ex (.call 61 (.cons (.v 1) (.cons (.v 5) .nil)))) (.cons (.dc [10,11] true (.aq (.v 5) (.ss [115,116,97,110,100,115])) (.cons (.ex (.append (.aq (.v 4) (.v 9)) (.tup (.cons (.aq (.v 5) (.ss [109,105,100])) (.cons (.call 54 (.cons (.v 1) (.cons (.v 10) .nil))) (.cons (.v 11) .nil)))))) .nil)) .nil)) (.nil)) .nil)) .nil)) (.cons (.b4 (.or (.cons (.cmp .ne (.at (.v 6) 59) (.lst .nil)) (.cons (.cmp .ne (.comp (.at (.aq (.at (.v 2) 36) (.bin .add (.ii 66) (.v 14))) 19) [14] false (.gQ (.ii 4)) (.nil)) (.v 4)) .nil))) (.cons (.ret (.cj false)) .nil) (.nil)) (.cons (.ret (.cmp .eq (.comp (.at (.v 15) 8) [15] false (.lj (.at (.v 2) 15) (.ii 1)) (.nil)) (.comp (.aq (.v 16) (.ss [102,108,97,103,115])) [16] false (.aq (.v 1) (.ss [114,111,119,115])) (.nil)))) .nil))))))))))))))))))
noncomputable def jD:B (B C):=[[114,111,119,115],
 [105,110,100,101,120],
 [100,101,112,116,104,115],
 [119,101,105,103,104,116,115],
 [111,112,101,110,115],
 [116,105,100],
 [110,97,109,101],
 [115,111,114,116],
 [102,108,97,103,115],
 [98,97,115,101],
 [105,102,97,99,101,115],
 [112,97,114,97,109,115],
 [118,97,114,105,97,110,99,101,115],
 [98,111,117,110,100,115],
 [102,105,101,108,100,115],
 [109,101,116,104,111,100,115],
 [97,115,109],
 [99,99,116,111,114],
 [117,110,100,101,114],
 [105,109,112,108,115],
 [112,114,111,112,115],
 [101,118,101,110,116,115],
 [102,105,110,97,108,105,115,101,114],
 [104,111,109,101],
 [109,105,100],
 [111,119,110,101,114],
 [97,99,99,101,115,115],
 [110,103,101,110],
 [103,110,97,109,101,115],
 [103,98,111,117,110,100,115],
 [114,101,116],
 [112,110,97,109,101,115],
 [112,102,108,97,103,115],
 [98,111,100,121],
 [110,97,116,105,118,101],
 [107,116],
 [116,121,112,101,115],
 [102,105,101,108,100,115,95],
 [110,97,109,101,115],
 [97,115,109,115],
 [101,110,116,114,121],
 [107,105,110,100],
 [97],
 [107,105,100,115],
 [109,111,100,115],
 [97,116],
 [110,105,100],
 [115,116,111,114,101],
 [102,110,115],
 [118,97,114,115],
 [111,102,95,109,105,100],
 [100,105,97,103,115],
 [105,110,105,116,115],
 [115,105,110,105,116,115],
 [99,111,110,115,116,115],
 [117,110,105,116],
 [104,111,115,116],
 [107,105,110,100,115],
 [117,110,109,101,116],
 [116,111,108,100],
 [116,112,97,114,97,109,115],
 [101,97,114,108,121],
 [115,116,97,116,105,99],
 [99,120],
 [119,111,114,107],
 [111,118,101,114,114,105,100,101,115],
 [101,120,112,108,105,99,105,116,115],
 [108,97,116,101],
 [107,101,121,115],
 [111,112,101,114,115],
 [98,97,115,101,115],
 [115,111,114,116,115],
 [117,110,100,101,114,115],
 [103,102,108,97,103,115],
 [110,101,119,115],
 [114,111,119],
 [112,117,116]]
noncomputable def DN:C→Y oL
 |0=>some ⟨1,3,[[115,101,108,102],[110,117,109,98,101,114],[114,111,119]],Th⟩
 |1=>some ⟨2,2,[[115,101,108,102],[107]],Tj⟩
 |2=>some ⟨2,9,[[115,101,108,102],[114,111,119],[102,111,117,110,100],[100,101,112,116,104],[119,101,105,103,104,116],[111,112,101,110,101,100],[108,101,118,101,108],[105,110,110,101,114],[107]],Ti⟩
 |3=>some ⟨8,9,[[115,101,108,102],[116,105,100],[110,97,109,101],[115,111,114,116],[102,108,97,103,115],[98,97,115,101],[112,97,114,97,109,115],[97,115,109],[119,111,114,100]],Tn⟩
 |4=>some ⟨8,8,[[115,101,108,102],[109,105,100],[111,119,110,101,114],[110,97,109,101],[97,99,99,101,115,115],[102,108,97,103,115],[114,101,116],[112,97,114,97,109,115]],Tk⟩
 |5=>some ⟨1,1,[[115,101,108,102]],Tm⟩
 |6=>some ⟨6,6,[[115,101,108,102],[107,105,110,100],[97],[107,105,100,115],[109,111,100,115],[97,116]],Tl⟩
 |7=>some ⟨1,1,[[115,101,108,102]],Tg⟩
 |8=>some ⟨3,3,[[115,101,108,102],[115,116,111,114,101],[97,115,109]],To⟩
 |9=>some ⟨4,4,[[115,101,108,102],[117,110,105,116],[104,111,115,116],[97,115,109]],Tp⟩
 |10=>some ⟨3,3,[[115,101,108,102],[117,110,105,116],[99,120]],Tf⟩
 |11=>some ⟨2,2,[[115,101,108,102],[107,116]],Td⟩
 |12=>some ⟨2,2,[[115,101,108,102],[107]],Tc⟩
 |13=>some ⟨2,2,[[115,101,108,102],[107]],Te⟩
 |14=>some ⟨1,2,[[114,111,119],[115,111,114,116]],TM⟩
 |15=>some ⟨1,1,[[115,111,114,116]],T'⟩
 |16=>some ⟨1,1,[[115,111,114,116]],T9⟩
 |17=>some ⟨2,4,[[107,116],[114,111,119],[115,111,114,116],[105,110,110,101,114]],Tv⟩
 |18=>some ⟨2,2,[[107,116],[114,111,119]],Tw⟩
 |19=>some ⟨2,3,[[107,116],[97,114,103,115],[97,114,103]],Tu⟩
 |20=>some ⟨2,3,[[107,116],[107],[115,111,114,116]],T2⟩
 |21=>some ⟨3,3,[[107,116],[116,105,100],[97,114,103,115]],Tx⟩
 |22=>some ⟨2,2,[[107,116],[105]],Ud⟩
 |23=>some ⟨2,2,[[107,116],[107]],TP⟩
 |24=>some ⟨2,3,[[107,116],[107],[114,111,119]],Ub⟩
 |25=>some ⟨2,3,[[107,116],[107],[114,111,119]],Ts⟩
 |26=>some ⟨4,4,[[107,116],[107],[116,97,114,103,115],[109,97,114,103,115]],Tz⟩
 |27=>some ⟨5,8,[[107,116],[107],[116,97,114,103,115],[109,97,114,103,115],[115,101,101,110],[114,111,119],[105,110,110,101,114],[112,97,114,116]],TB⟩
 |28=>some ⟨3,4,[[107,116],[114,111,119],[105,110,110,101,114],[115,111,114,116]],Ue⟩
 |29=>some ⟨3,3,[[97,114,103,115],[112,108,97,99,101],[107]],T6⟩
 |30=>some ⟨4,6,[[107,116],[107,115],[116,97,114,103,115],[109,97,114,103,115],[111,117,116],[107]],TA⟩
 |31=>some ⟨1,3,[[99,111,117,110,116],[111,117,116],[112,108,97,99,101]],T7⟩
 |32=>some ⟨1,1,[[102,108,97,103,115]],TO⟩
 |33=>some ⟨7,9,[[115,116,111,114,101],[116,105,100],[110,97,109,101],[97,99,99,101,115,115],[102,108,97,103,115],[114,101,116],[112,97,114,97,109,115],[116],[109,105,100]],Tr⟩
 |34=>some ⟨2,4,[[115,116,111,114,101],[109,105,100],[109],[116]],T5⟩
 |35=>some ⟨2,2,[[114,111,119,115],[114,111,119]],T8⟩
 |36=>some ⟨5,5,[[115,116,111,114,101],[116,105,100],[98,111,100,121,95,109,105,100],[100,101,99,108,95,111,119,110,101,114],[100,101,99,108,95,109,105,100]],Tq⟩
 |37=>some ⟨2,5,[[115,116,111,114,101],[116,105,100],[116],[97,114,103,115],[112,108,97,99,101]],Ua⟩
 |38=>some ⟨3,4,[[115,116,111,114,101],[116,105,100],[97,114,103,115],[115,111,114,116]],TQ⟩
 |39=>some ⟨2,3,[[115,116,111,114,101],[107],[116,105,100]],Uc⟩
 |40=>some ⟨3,5,[[115,116,111,114,101],[116,105,100],[110,97,109,101],[111,117,116],[109,105,100]],TL⟩
 |41=>some ⟨2,4,[[115,116,111,114,101],[109,114,101,102],[109],[116,97,114,103,115]],T3⟩
 |42=>some ⟨2,2,[[104,111,115,116],[107]],TN⟩
 |43=>some ⟨2,4,[[104,111,115,116],[107],[111,117,116],[115,101,101,110]],Tt⟩
 |44=>some ⟨1,8,[[100],[114,111,119,115],[105],[111,119,110],[100,101,112,116,104],[116,105,100],[109,105,100],[110,111,100,101]],TG⟩
 |45=>some ⟨4,10,[[100],[116,105,100],[109,105,100],[110,111,100,101],[102,111,117,110,100],[109],[111,108,100],[110,117,109,98,101,114],[102,108,97,103,115],[107,105,110,100,115]],TE⟩
 |46=>some ⟨5,10,[[100],[116,105,100],[109,105,100],[102,111,117,110,100],[110,111,100,101],[114,111,119,115],[98,111,100,121],[111,119,110,101,114],[100,101,99,108],[109]],TK⟩
 |47=>some ⟨4,5,[[100],[109],[111,108,100],[102,111,117,110,100],[97,99,99,101,115,115]],TF⟩
 |48=>some ⟨3,10,[[100],[116,105,100],[109,105,100],[109],[110,101,97,114,101,114],[97,116],[108,105,107,101],[102,105,116]],TC⟩
 |49=>some ⟨3,3,[[100],[109],[111,108,100]],TD⟩
 |50=>some ⟨2,4,[[109],[111,116,104,101,114]],TH⟩
 |51=>some ⟨5,7,[[100],[97,116],[110,97,109,101],[110,103,101,110],[112,97,114,97,109,115],[111,117,116],[109,105,100]],TJ⟩
 |52=>some ⟨2,4,[[119],[110],[97,116],[102,105,108,108]],TZ⟩
 |53=>some ⟨2,3,[[116,101,114,109],[97,114,103,115]],TX⟩
 |54=>some ⟨2,4,[[119],[116,101,114,109],[107,116]],TR⟩
 |55=>some ⟨2,4,[[119],[109,97,110,121],[110],[112,97,114,116]],T0⟩
 |56=>some ⟨2,3,[[119],[108,101,118,101,108]],TV⟩
 |57=>some ⟨2,5,[[119],[108,101,118,101,108],[97,114,103,115],[111,117,116]],TS⟩
 |58=>some ⟨1,8,[[119],[115,116,111,114,101],[108,101,118,101,108],[107,105,110,100,115],[112,108,97,99,101]],T1⟩
 |59=>some ⟨5,10,[[119],[108,101,118,101,108],[110,97,109,101],[115,111,114,116],[111,118,101,114],[108,105,110,101],[116,101,114,109],[102,108,97,103,115],[109,105,100],[114,111,119]],TW⟩
 |60=>some ⟨1,8,[[119],[110,97,109,101],[102,111,114,109],[115,111,114,116],[108,101,118,101,108],[100,101,101,100],[97,98,111,118,101]],TU⟩
 |61=>some ⟨2,11,[[119],[114,111,119],[112,97,115,115,101,100],[97,116],[97,114,103,115],[108,105,107,101],[102,105,116],[111,119,110,101,114],[100,101,99,108]],TY⟩
 |62=>some ⟨1,17,[[115,99,114,105,112,116],[119],[115,116,111,114,101],[110,97,109,101],[119,97,110,116,101,100],[114,111,119],[121,97,114,100],[100],[111,118,101,114],[108,101,118,101,108],[111,119,110,101,114],[100,101,99,108]],zk⟩
 |_=>none
noncomputable def Fa:C→C→Y C
 |0,75=>some 1
 |0,76=>some 2
 |9,9=>some 12
 |9,7=>some 13
 |_,_=>none
noncomputable def xg:C→Y C
 |0=>some 0
 |1=>some 3
 |2=>some 4
 |3=>some 5
 |4=>some 6
 |5=>some 7
 |6=>some 8
 |7=>some 9
 |8=>some 10
 |9=>some 11
 |_=>none
noncomputable def zO:B (B C):=[[0,1,2,3,4],[5,6,7,8,9,10,11,12,13,14,15,16,17,18,19,20,21,22,23],[24,25,6,26,8,27,28,29,30,11,31,32,33,34],[35,36,37,15,38,39,40],[41,42,43,44,45,46],[0],[47,16,48,49,50,51,52,53,54],[55,47,35,56,16,57,58,59,60,25,24,61,62],[55,63,47,35,36,64,54,65,66,67,68,69,53],[35,70,10,71,12,72,13,73,74]]
noncomputable def wT(c f:C):Bool:=(zO.getD c []).contains f
noncomputable def ac:iW:=⟨DN,Fa,xg,wT⟩
end Mine
end
section
namespace Mine
noncomputable def Wn:B Nat:=[81,88,95,270,291,312,490,511,553,574,630,651,658,672,109,116,123,130,137,144,151,158,179,186,193,200,221,228,235,249,256,326,333,340,347,354,361,368,375,382,389,396,410,417,424,431,438,445,450,464,469,476,707,712,717,724,729,734,739,746,751,756,761]
noncomputable def UM:B Nat:=[98,273,294,315,493,535,556,605,633,696]
noncomputable def n0(f:C):Nat:=Wn.getD f 0
noncomputable def sv(f:C):Nat:=UM.getD f 0
end Mine
end
section
open PySem PySem.W PyProof.Rows
namespace Mine
variable{a:D}{α:Type}{o:Y α}{oG:Type}{v:au}{as:B D}{ar:B au}
noncomputable def st(s:B C):Str:=⟨s.toArray⟩
theorem yc{a b:B C}(h:st a=st b):a=b:=by
 have h:=an (λ x:aL=>x.cps.toList) h
 exact h
noncomputable def gb{α c4:Type}(R:α→c4→Prop):Y α→Y c4→Prop
 |some a,w=>∃v,w=some v∧R a v
 |none,w=>w=none
theorem gb.at{c4:Type}{R:α→c4→Prop}{w:Y c4}{a:α}(h:gb R o w)(e:o=some a):∃v,w=some v∧R a v:=(an (gb R · w) e).mp h
theorem gb.no{c4:Type}{R:α→c4→Prop}{w:Y c4}(h:gb R o w)(e:o=none):w=none:=(an (gb R · w) e).mp h
theorem gb.mono{c4:Type}{R hJ:α→c4→Prop}(m:∀a v,R a v→hJ a v){w:Y c4}(h:gb R o w):gb hJ o w:=by
 cases o with
 |none=>exact h
 |some a=>exact h.imp λ v h=>⟨h.1,m _ _ h.2⟩
theorem gb.xh{c4:Type}{R:α→c4→Prop}{w:Y c4}(h:gb R o w):w.isSome=o.isSome:=by
 cases o with
 |none=>exact an pY h
 |some a=>exact h.elim λ v h=>an pY h.1
theorem gb.getD{c4:Type}{R:α→c4→Prop}{w:Y c4}{a:α}{b:c4}(h:gb R o w)(d:R a b):R (o.getD a) (w.getD b):=by
 cases o with
 |none=>exact(show w=none from h)▸d
 |some a=>exact h.elim λ v h=>h.1▸h.2
theorem gb.map{c4:Type}{g:α→oG}{R:oG→c4→Prop}{w:Y c4}(h:gb (λ a v=>R (g a) v) o w):gb R (o.map g) w:=by
 cases o<;>exact h
theorem gb.mapR{c4:Type}{g:c4→oG}{R:α→oG→Prop}{w:Y c4}(h:gb (λ a v=>R a (g v)) o w):gb R o (w.map g):=by
 cases o with
 |none=>exact an (qV g) h
 |some a=>exact h.elim λ v h=>⟨g v,an (qV g) h.1,h.2⟩
theorem Ao{c4:Type}{P:α→c4→Prop}{b:av}{x y:α}{u v:c4}(h:P x u)(k:P y v):P (if b=true then x else y) (if b=true then u else v):=by
 cases b
 ·exact k
 ·exact h
structure cV where
 prog:lv
 w:eY
 h₀:dD
 os:jC
 K:kl
 ca:C→a8
 P:iW
noncomputable abbrev cA:=B (a8×a8)
noncomputable def Hx(c:cV)(O:B (am×am))(a:a8):Prop:=
 (a==kZ)=false∧∃f,c.h₀.MapOf (gs c.prog c.w) a f∧∀k,gb (λ i v=>∃t,v= .int i t) (O.lookup k) (f k)
noncomputable def tL:B am→B au→Prop
 | [],ar=>ar=[]
 |i::r,ar=>∃t G8,ar= .int i t::G8∧tL r G8
noncomputable def BW(c:cV)(l:B am)(a:a8):Prop:=∃items z,c.h₀.get? a=some {cls:=.type "list",data:=.seq items z}∧tL l items.toList
mutual
noncomputable def bA(c:cV)(G:cA)(h:dD):D→au→Prop
 | .nn,v=>v= .none
 | .cj b,v=>v= .bool b
 | .ii i,v=>∃t,v= .int i t
 | .ss s,v=>∃t,v= .str (st s) t
 | .tup l,v=>∃a items,v= .ref a∧h.IsTuple a items∧cs c G h l items.toList
 | .ew lo ay,v=>∃a t u cB,v= .ref a∧IsRange h a lo ay 1 t u cB
 | .cd O,v=>∃a,v= .ref a∧Hx c O a
 | .ref z,v=>∃p,G[z]? =some p∧v= .ref p.1
 | .fv l,v=>∃a,v= .ref a∧BW c l a
noncomputable def cs(c:cV)(G:cA)(h:dD):B D→B au→Prop
 | [],ar=>ar=[]
 |x::xs,ar=>∃v r,ar=v::r∧bA c G h x v∧cs c G h xs r
end
noncomputable def ij(o:fP):Prop:=(o.cls= .type "tuple"∧∃items z,o.data= .seq items z)∨(o.cls= .type "range"∧∃ar,o.data= .fields ar)
noncomputable def fW(h H:dD):Prop:=∀b o,h.get? b=some o→ij o→H.get? b=some o
noncomputable def ha(G bv:cA):Prop:=∀(z:C) p,G[z]? =some p→bv[z]? =some p
theorem An{h H:dD}{a:a8}{items:gS au}(k:fW h H)(x:h.IsTuple a items):H.IsTuple a items:=by
 obtain⟨o,be,hc,z,a1⟩:=x
 exact⟨o,k _ _ be (.inl ⟨hc,items,z,a1⟩),hc,z,a1⟩
mutual
theorem bA.keep{c:cV}{G bv:cA}{h H:dD}(l:ha G bv)(k:fW h H):∀{a:D} {v:au},bA c G h a v→bA c bv H a v
 | .nn,_,x=>x
 | .cj _,_,x=>x
 | .ii _,_,x=>x
 | .ss _,_,x=>x
 | .tup _,_,x=>x.imp λ _ x=>x.imp λ _ x=>⟨x.1,An k x.2.1,cs.keep l k x.2.2⟩
 | .ew _ _,_,x=>x.imp λ _ x=>x.imp λ _ x=>x.imp λ _ x=>x.imp λ _ x=>⟨x.1,k _ _ x.2 (.inr ⟨rfl,_,rfl⟩)⟩
 | .cd _,_,x=>x
 | .ref _,_,x=>x.imp λ p x=>⟨l _ p x.1,x.2⟩
 | .fv _,_,x=>x
theorem cs.keep{c:cV}{G bv:cA}{h H:dD}(l:ha G bv)(k:fW h H):∀{as:B D} {ar:B au},cs c G h as ar→cs c bv H as ar
 | [],_,x=>x
 |_::_,_,x=>x.imp λ _ x=>x.imp λ _ x=>⟨x.1,bA.keep l k x.2.1,cs.keep l k x.2.2⟩
end
section
variable{c:cV}{G:cA}{h:dD}
theorem cs.length:∀{ar:B au},cs c G h as ar→ar.length=as.length:=by
 induction as with
 |nil=>exact λ x=>an f' x
 |cons a as aZ=>exact λ x=>x.elim λ v x=>x.elim λ r x=>(an f' x.1).trans (an l2 (aZ x.2.2))
theorem cs.nil:cs c G h [] []:=rfl
theorem cs.cons(x:bA c G h a v)(y:cs c G h as ar):cs c G h (a::as) (v::ar):=⟨v,ar,rfl,x,y⟩
theorem cs.append{bs:B D}{BH:B au}:∀{ar:B au},cs c G h as ar→cs c G h bs BH→cs c G h (as++bs) (ar++BH):=by
 induction as with
 |nil=>exact λ x y=>(show _=[]from x)▸y
 |cons a as aZ=>exact λ x y=>x.imp λ v x=>x.elim λ r x=>⟨r++BH,an (· ++BH) x.1,x.2.1,aZ x.2.2 y⟩
theorem cs.get:∀{ar:B au} {i:C},cs c G h as ar→as[i]? =some a→∃v,ar[i]? =some v∧bA c G h a v:=by
 induction as with
 |nil=>exact λ _ e=>nomatch e
 |cons b as aZ=>exact λ{ar i} x=>x.elim λ v x=>x.elim λ r x=>x.1▸Rl i (λ e=>⟨v,rfl,ej e▸x.2.1⟩) λ i e=>aZ (i:=i) x.2.2 e
theorem cs.none{i:C}(x:cs c G h as ar)(e:as[i]? = .none):ar[i]? = .none:=
 yC.mpr (x.length▸yC.mp e)
theorem cs.drop(z:C):∀{as:B D} {ar:B au},cs c G h as ar→cs c G h (as.drop z) (ar.drop z):=by
 induction z with
 |zero=>exact id
 |succ z aZ=>
  intro as ar x
  cases as with
  |nil=>exact(show ar=[]from x)▸rfl
  |cons a as=>exact x.elim λ v x=>x.elim λ r x=>x.1▸aZ x.2.2
theorem cs.take(z:C):∀{as:B D} {ar:B au},cs c G h as ar→cs c G h (as.take z) (ar.take z):=by
 induction z with
 |zero=>exact λ _=>rfl
 |succ z aZ=>
  intro as ar x
  cases as with
  |nil=>exact(show ar=[]from x)▸rfl
  |cons a as=>exact x.elim λ v x=>x.elim λ r x=>x.1▸⟨v,_,rfl,x.2.1,aZ x.2.2⟩
theorem cs.reverse:∀{ar:B au},cs c G h as ar→cs c G h as.reverse ar.reverse:=by
 induction as with
 |nil=>exact λ x=>(show _=[]from x)▸rfl
 |cons a as aZ=>exact λ x=>x.elim λ v x=>x.elim λ r x=>(by rw[x.1,Rb,Rb];exact cs.append (aZ x.2.2) ⟨v,[],rfl,x.2.1,rfl⟩)
theorem cs.replicate(x:bA c G h a v)(z:C):cs c G h (dw z a) (dw z v):=by
 induction z with
 |zero=>exact rfl
 |succ z aZ=>exact⟨v,_,rfl,x,aZ⟩
end
noncomputable def fp{dm K c4:Type}(f:dm→K)(R:D→c4→Prop):B (dm×D)→B (K×c4)→Prop
 | [],cZ=>cZ=[]
 | (k,a)::r,cZ=>∃v rn,cZ=(f k,v)::rn∧R a v∧fp f R r rn
section
variable{dm K c4:Type}{f:dm→K}{R hJ:D→c4→Prop}
theorem fp.mono(m:∀a v,R a v→hJ a v){O:B (dm×D)}:∀{cZ:B (K×c4)},fp f R O cZ→fp f hJ O cZ:=by
 induction O with
 |nil=>exact id
 |cons e r aZ=>exact λ h=>h.imp λ v h=>h.imp λ rn h=>⟨h.1,m _ _ h.2.1,aZ h.2.2⟩
theorem fp.length{O:B (dm×D)}:∀{cZ:B (K×c4)},fp f R O cZ→cZ.length=O.length:=by
 induction O with
 |nil=>exact λ h=>an f' h
 |cons e r aZ=>exact λ h=>h.elim λ v h=>h.elim λ rn h=>(an f' h.1).trans (an l2 (aZ h.2.2))
theorem fp.snoc{k:dm}{v:c4}(x:R a v){O:B (dm×D)}:∀{cZ:B (K×c4)},fp f R O cZ→fp f R (O++[(k,a)]) (cZ++[(f k,v)]):=by
 induction O with
 |nil=>exact λ{cZ} h=>by cases h;exact⟨v,[],rfl,x,rfl⟩
 |cons e r aZ=>exact λ h=>h.imp λ v h=>h.elim λ rn h=>⟨rn++[_],an (· ++[_]) h.1,h.2.1,aZ h.2.2⟩
theorem fp.find[nA dm][oM dm][jw K](inj:∀a b,f a=f b→a=b)(k:dm){O:B (dm×D)}:∀{cZ:B (K×c4)},fp f R O cZ→gb R (O.lookup k) ((cZ.find? λ e6=>decide (e6.1=f k)).map (·.2)):=by
 induction O with
 |nil=>exact λ{cZ} h=>(show cZ=[]from h)▸rfl
 |cons e r aZ=>
  refine λ h=>h.elim λ v h=>h.elim λ rn h=>h.1▸?_
  by_cases hk:k=e.1
  ·rw[HR (p:=λ e6:K×c4=>decide (e6.1=f k)) (iL (an f hk.symm)),hk]
   exact(H2 (k:=e.1)).symm▸⟨v,rfl,h.2.1⟩
  ·rw[HQ (p:=λ e6:K×c4=>decide (e6.1=f k)) (λ q=>hk (inj _ _ (gi q)).symm),l1,ma.mpr hk]
   exact aZ h.2.2
theorem fp.upd[nA dm][oM dm][jw K](inj:∀a b,f a=f b→a=b)(k:dm){w:c4→c4}(x:∀b,R a (w b)){O:B (dm×D)}:∀{cZ:B (K×c4)},fp f R O cZ→
  fp f R (O.map λ e=>if e.1==k then(e.1,a)else e) (cZ.map λ e6=>if e6.1=f k then(e6.1,w e6.2)else e6):=by
 induction O with
 |nil=>exact λ{cZ} h=>(show cZ=[]from h)▸rfl
 |cons e r aZ=>
  refine λ h=>h.elim λ v h=>h.elim λ rn h=>h.1▸?_
  rw[oN,oN]
  by_cases hk:e.1=k
  ·rw[if_pos (jk.mpr hk),if_pos (an f hk)]
   exact⟨_,_,rfl,x v,aZ h.2.2⟩
  ·rw[if_neg λ q=>hk (eq_of_beq q),if_neg λ q=>hk (inj _ _ q)]
   exact⟨_,_,rfl,h.2.1,aZ h.2.2⟩
theorem S0{c4:Type}{p:α→av}(g:α→c4)(l:B α):l.any p=((l.find? p).map g).isSome:=by
 induction l with
 |nil=>rfl
 |cons x r aZ=>
  rw[List.any_cons,aZ]
  cases q:p x with
  |true=>rw[HR q];rfl
  |false=>rw[HQ (rX.mp q)];rfl
theorem fp.has[nA dm][oM dm][jw K](inj:∀a b,f a=f b→a=b)(k:dm){O:B (dm×D)}{cZ:B (K×c4)}(h:fp f R O cZ):((cZ.find? λ e6=>decide (e6.1=f k)).map (·.2)).isSome=(O.lookup k).isSome:=(h.find inj k).xh
end
theorem fp.put{dm K:Type}{f:dm→K}{R:D→au→Prop}[nA dm][oM dm][jw K](inj:∀a b,f a=f b→a=b)(k:dm)(x:R a v){O:B (dm×D)}{cZ:B (K×au)}(h:fp f R O cZ):
  fp f R (c7 O k a) (CP cZ (f k) v):=by
 unfold c7 CP
 rw[S0 (λ e6=>e6.2),h.has inj k]
 exact Ao (h.upd inj k λ _=>x) (h.snoc x)
end Mine
end
section
open PySem PySem.W PyProof.Rows
namespace Mine
variable{h:dD}{a:a8}{x y:gT}{p:am ⊕ B am}{v:au}{H:dD}{k:gT}{Q:av→a2→Prop}{z:C}{α:Type}{g:α→yR}
section
variable{prog:lv}{w:eY}
noncomputable def p0(prog:lv)(w:eY)(h:dD)(p:am ⊕ B am)(v:au):Prop:=p.elim (λ i=>∃t,v= .int i t) λ l=>∃b,v= .ref b∧IG (gs prog w) h l b
noncomputable def l4(prog:lv)(w:eY)(h:dD):gT→B au→Prop
 | [],ar=>ar=[]
 |p::k,ar=>∃v r,ar=v::r∧p0 prog w h p v∧l4 prog w h k r
noncomputable def FS(prog:lv)(w:eY):am ⊕ B am→am
 | .inl i=>hashInt i
 | .inr l=>tupleKeyHash (gs prog w) l
noncomputable def tc:am ⊕ B am→C
 | .inl _=>1
 | .inr l=>l.length+1
noncomputable def MK(prog:lv)(w:eY)(k:gT):Int:=I5 (Builtin.Tuple.tupleHashOf (k.map (FS prog w)))
noncomputable def MJ(k:gT):Nat:=(k.map tc).sum+1
noncomputable def lX(prog:lv)(w:eY)(h:dD)(k:gT)(a:a8):Prop:=∃items,h.IsTuple a items∧l4 prog w h k items.toList
theorem Y8{x y:gS au}(aA:h.IsTuple a x)(bI:h.IsTuple a y):x=y:=
 aA.elim λ o aA=>bI.elim λ c3 bI=>aA.2.2.elim λ z a1=>bI.2.2.elim λ qr gw=>(Data.seq.inj (a1.symm.trans ((an IH (ej (aA.1.symm.trans bI.1))).trans gw))).1
theorem p0.inj{q:am ⊕ B am}(aA:p0 prog w h p v)(bI:p0 prog w h q v):p=q:=by
 cases p<;>cases q
 ·exact aA.elim λ t e=>bI.elim λ cB bC=>an _ (Value.int.inj (e.symm.trans bC)).1
 ·exact aA.elim λ t e=>bI.elim λ b bC=>nomatch e.symm.trans bC.1
 ·exact aA.elim λ t e=>bI.elim λ b bC=>nomatch e.1.symm.trans bC
 ·exact aA.elim λ b e=>bI.elim λ hw bC=>an _ (e.2.inj ((IV (bC.1.symm.trans e.1))▸bC.2))
theorem l4.inj:∀{y:gT} {ar:B au},l4 prog w h x ar→l4 prog w h y ar→x=y:=by
 induction x with
 |nil=>
  intro y ar aA bI
  cases y with
  |nil=>rfl
  |cons q k=>exact bI.elim λ v bI=>bI.elim λ r bI=>nomatch aA.symm.trans bI.1
 |cons p x aZ=>
  refine λ{y ar} aA bI=>aA.elim λ v aA=>aA.elim λ r aA=>?_
  cases y with
  |nil=>exact nomatch bI.symm.trans aA.1
  |cons q k=>exact bI.elim λ ahp bI=>bI.elim λ bw bI=>have e:=B5 (bI.1.symm.trans aA.1);congr (an QT (aA.2.1.inj (e.1▸bI.2.1))) (aZ aA.2.2 (e.2▸bI.2.2))
theorem l4.mono(m:∀l b,IG (gs prog w) h l b→IG (gs prog w) H l b):∀{ar:B au},l4 prog w h k ar→l4 prog w H k ar:=by
 induction k with
 |nil=>exact id
 |cons p k aZ=>exact λ x=>x.imp λ v x=>x.imp λ r x=>⟨x.1,(by cases p<;>first|exact x.2.1|exact x.2.1.imp λ b y=>⟨y.1,m _ _ y.2⟩:p0 prog w H p v),aZ x.2.2⟩
theorem l4.mem:∀{ar:B au},l4 prog w h k ar→v∈ar→∃p,p0 prog w h p v:=by
 induction k with
 |nil=>exact λ x y=>nomatch(show _=[]from x)▸y
 |cons p k aZ=>exact λ x y=>x.elim λ u x=>x.elim λ r x=>(kh.mp (x.1▸y)).elim (λ e=>⟨p,(show u=v from e.symm)▸x.2.1⟩) (aZ x.2.2)
theorem lX.inj(aA:lX prog w h x a)(bI:lX prog w h y a):x=y:=
 aA.elim λ i p=>bI.elim λ jN f3=>p.2.inj (Y8 f3.1 p.1▸f3.2)
theorem Y9{d:a8}{o:fP}{O hL}{items}(x:h.IsTuple a items)(be:h.get? d=some o)(a1:o.data= .dict O hL)(hs:tY d h H):H.IsTuple a items:=
 x.imp λ c3 x=>⟨(hs.2 a λ e=>x.2.2.elim λ z q=>nomatch a1.symm.trans ((an IH (ej (be.symm.trans (e▸x.1)))).trans q)).trans x.1,x.2⟩
theorem lX.nc(d8:fW h H)(x:lX prog w h k a):lX prog w H k a:=
 x.imp λ items x=>⟨An d8 x.1,x.2.mono λ l b y=>y.imp λ o y=>y.imp λ items y=>y.imp λ z y=>⟨d8 _ _ y.1 (.inl ⟨y.2.1,items,z,y.2.2.1⟩),y.2⟩⟩
variable{A:eB}{ab:au→a2→Prop}{s:a2}
theorem acq{Q:am→a2→Prop}(dS:A.units<kY)(x:p0 prog w s.heap p v)(h:Q (FS prog w p) {s with toks:=s.toks+tc p}):bg (bc prog w) A (pyHash v) Q ab s:=by
 cases p with
 |inl i=>exact x.elim λ t e=>e▸wpAny_pyHash_int h
 |inr l=>exact x.elim λ b e=>e.1▸wpAny_pyHash_tuple dS e.2 h
noncomputable def QJ(prog:lv)(w:eY)(s:a2)(k:gT)(lQ:B au)(b:gS am)(a9:a2):Prop:=
 ∃done left,k=done++left∧l4 prog w s.heap left lQ∧b.toList=done.map (FS prog w)∧a9={s with toks:=s.toks+(done.map tc).sum}
theorem Zq{Q:am→a2→Prop}(dS:A.units+1<kY)(hk:lX prog w s.heap k a)(h:Q (MK prog w k) {s with toks:=s.toks+MJ k}):
  bg (bc prog w) A (pyHash (.ref a)) Q ab s:=by
 refine hk.elim λ items t=>?_
 have fY:=t.1.typeIs
 refine t.1.elim λ o a1=>a1.2.2.elim λ z gw=>?_
 unfold pyHash
 unfold pyHashByItsType
 refine cK (wpAny_cRoomFor_or (.inr (mR dS)) (cK (CR fY F.slot_tuple_hash.lookup ((if_neg (beq_builtin_none _▸mM)).symm▸
  cK (CR fY F.slot_tuple_hash.lookup (cK (wpAny_callSpecialIfBoundUnlessNone?_slot fY F.slot_tuple_hash (Sb F.slot_tuple_hash fY F.entry_tuple_hash ?_ (F.args_tuple_hash_1 _)))))))))
 show bg _ _ (Builtin.Tuple.tupleItemsOf (.ref a)>>=_) _ _ s
 refine cK (wpAny_tupleItemsOf a1.1 gw (cK ?_))
 rw[←Qi]
 refine Sd _ (QJ prog w s k) _ (λ x lQ b a9 hl=>?_) (λ b a9 hl=>?_) _ _ ⟨[],k,rfl,t.2,rfl,rfl⟩
 ·refine hl.elim λ done hl=>hl.elim λ left hl=>hl.2.2.2▸?_
  cases left with
  |nil=>exact nomatch hl.2.1
  |cons p left=>
   refine hl.2.1.elim λ v q=>q.elim λ r q=>cK (acq (show A.in1.units<kY from dS) ((B5 q.1).1▸q.2.1) (eG ⟨done++[p],left,hl.1.trans (mP _ _ _),(B5 q.1).2▸q.2.2,Hs.trans ((an (· ++[_]) hl.2.2.1).trans (nF (l₂:=[p])).symm),?_⟩))
   exact an (λ t=>{s with toks:=t}) (show s.toks+(done.map tc).sum+tc p=s.toks+((done++[p]).map tc).sum from by rw[nF,List.sum_append,←mQ];rfl)
 ·refine hl.elim λ done hl=>hl.elim λ left hl=>hl.2.2.2▸?_
  cases left with
  |cons p left=>exact hl.2.1.elim λ v q=>q.elim λ r q=>nomatch q.1
  |nil=>
   have h:Q (I5 (Builtin.Tuple.tupleHashOf b.toList)) {s with toks:=s.toks+(done.map tc).sum+1}:=by
    have e:=hl.1.trans (eX done)
    subst e
    exact hl.2.2.1▸h
   refine wpAny_ret_mkInt ?_
   unfold I5 at h
   show bg _ _ (if(decide (-(2:am)^63≤Builtin.Tuple.tupleHashOf b.toList)&&decide (Builtin.Tuple.tupleHashOf b.toList<2^63))=true then _ else _) Q ab _
   by_cases a4:(decide (-(2:am)^63≤Builtin.Tuple.tupleHashOf b.toList)&&decide (Builtin.Tuple.tupleHashOf b.toList<2^63))=true
   ·rw[if_pos a4]at h
    exact(if_pos a4).symm▸eG h
   ·rw[if_neg a4]at h
    exact(if_neg a4).symm▸cK (wpAny_rule (eG h))
theorem PE{items:gS au}(t:s.heap.IsTuple a items)(Xq:∀v∈items.toList,∀km:av→a2→Prop,km true s→bg (bc prog w) A (yZ z v) km ab s)(h:Q true s):bg (bc prog w) A (yZ (z+1) (.ref a)) Q ab s:=by
 have fY:=t.typeIs
 refine t.elim λ o a1=>a1.2.2.elim λ m gw=>?_
 unfold yZ
 refine cK (CR fY F.slot_tuple_eq.lookup (cK (wpAny_isInstance fY isSubtype_tuple_tuple (cK (wpAny_seqItems a1.1 gw (cK ?_))))))
 show bg _ _ (forIn items _ _) _ _ s
 rw[←Qi]
 refine Sd _ (λ lQ r a9=>r=(none,())∧a9=s∧∀v∈lQ,v∈items.toList) _ (λ v lQ r a9 q=>?_) (λ r a9 q=>q.1▸q.2.1▸eG h) _ _ ⟨rfl,rfl,λ _=>id⟩
 obtain⟨rfl,rfl,q⟩:=q
 exact cK (Xq v (q v (.head _)) _ (eG ⟨rfl,rfl,λ u dS=>q u (.tail _ dS)⟩))
theorem acu(x:p0 prog w s.heap p v)(h:Q true s):bg (bc prog w) A (yZ (z+1) v) Q ab s:=by
 cases p with
 |inl i=>exact x.elim λ t e=>e▸eG h
 |inr l=>exact x.elim λ b e=>e.1▸e.2.elim λ o y=>y.elim λ items y=>y.elim λ m y=>PE ⟨o,y.1,y.2.1,m,y.2.2.1⟩ (λ v cP km du=>eqIsQuiet_byValue _ (y.2.2.2.byValue v cP)▸eG du) h
theorem Zr(hk:lX prog w s.heap k a)(h:Q true s):bg (bc prog w) A (yZ 8 (.ref a)) Q ab s:=
 hk.elim λ items t=>PE t.1 (λ v cP km du=>(t.2.mem cP).elim λ p y=>acu y du) h
noncomputable def pz:am ⊕ B am→yR
 | .inl i=>.int i
 | .inr l=>.tuple (l.map .int)
theorem Zb{l:B am}{ar:B au}(x:ItemsAre (gs prog w) l ar):yS h ar (l.map .int) []:=by
 induction x with
 |nil=>exact .nil
 |cons ax _ aZ=>exact(Value.isInt_shape ax).elim λ t e=>e▸RW (as:=[]) (.int _ t) aZ
theorem acr(x:p0 prog w h p v):t0 h v (pz p) []:=by
 cases p with
 |inl i=>exact x.elim λ t e=>e▸.int _ _
 |inr l=>exact x.elim λ b e=>e.1▸e.2.elim λ o y=>y.elim λ items y=>y.elim λ m y=>.tuple y.1 y.2.1 y.2.2.1 (Zb y.2.2.2)
theorem acv:∀{ar:B au},l4 prog w h k ar→yS h ar (k.map pz) []:=by
 induction k with
 |nil=>exact λ x=>(show _=[]from x)▸.nil
 |cons p k aZ=>exact λ x=>x.elim λ v x=>x.elim λ r x=>x.1▸RW (as:=[]) (acr x.2.1) (aZ x.2.2)
theorem wH(l:B α):(∀a∈l,(g a).canLay0=true∧(g a).depth≤z)→RT (l.map g)=true∧PyData.depthAll (l.map g)≤z:=by
 induction l with
 |nil=>exact λ _=>⟨rfl,fs _⟩
 |cons x r ihl=>exact λ h=>have ax:=h x (.head _);have aH:=ihl λ y bI=>h y (.tail _ bI);⟨dI.mpr ⟨ax.1,aH.1⟩,Nat.max_le.mpr ⟨ax.2,aH.2⟩⟩
theorem acs(p:am ⊕ B am):(pz p).canLay0=true∧(pz p).depth≤1:=by
 cases p with
 |inl i=>exact⟨rfl,fs _⟩
 |inr l=>have L:=wH (g:=PyData.int) (z:=0) l λ a _=>⟨rfl,cJ _⟩;exact⟨L.1,gq L.2⟩
theorem KV[jw α](e:∀a b,iH (g a) (g b)=decide (a=b))(l:B α):∀cf:B α,IJ (l.map g) (cf.map g)=decide (l=cf):=by
 induction l with
 |nil=>exact λ cf=>by cases cf<;>rfl
 |cons a r aZ=>
  intro cf
  cases cf with
  |nil=>rfl
  |cons b t=>exact(congr (an and (e a b)) (aZ t)).trans ((Bool.decide_and _ _).symm.trans (q9.mpr List.cons_eq_cons.symm))
theorem act(p q:am ⊕ B am):iH (pz p) (pz q)=decide (p=q):=by
 cases p<;>cases q
 ·exact q9.mpr ⟨an _,Sum.inl.inj⟩
 ·rfl
 ·rfl
 ·exact(KV (λ a b=>rfl) _ _).trans (q9.mpr ⟨an _,Sum.inr.inj⟩)
theorem Zp{b:a8}(dS:A.units+8<kY)(aA:lX prog w s.heap x a)(bI:lX prog w s.heap y b)(h:Q (decide (x=y)) s):
  bg (bc prog w) A (eqBool (.ref a) (.ref b)) Q ab s:=by
 have r:∀{k a},lX prog w s.heap k a→t0 s.heap (.ref a) (.tuple (k.map pz)) []:=λ L=>L.elim λ items L=>L.1.elim λ o t=>t.2.2.elim λ z d=>.tuple t.1 t.2.1 d (acv L.2)
 have L:∀k:gT,(RV (k.map pz)).canLay0=true∧(RV (k.map pz)).depth≤2:=λ k=>have L:=wH (g:=pz) k λ p _=>acs p;⟨L.1,gq L.2⟩
 refine SeqAt.eqBoolOverData prog w A ab s _ _ _ _ _ _ Q (r aA) (r bI) (L x).1 (L y).1 ?_ (show Q (IJ _ _) s from(KV act x y).symm▸h)
 have:=(L x).2
 have:=(L y).2
 omega
noncomputable def Ar(prog:lv)(w:eY):HeapKind prog w gT where
 is:=lX prog w
 hash:=MK prog w
 draws:=MJ
 room:=λ A=>A.units+8<kY
 inj:=λ aA bI=>aA.inj bI
 keeps:=λ x be a1 hs=>x.imp λ items x=>⟨Y9 x.1 be a1 hs,x.2.mono λ _ _ y=>y.keeps be a1 hs⟩
 pyHash:=λ dS hk h=>Zq (by omega) hk h
 eqBool:=λ dS aA bI h=>Zp dS aA bI h
 quiet:=λ hk h=>Zr hk h
end
variable{c:cV}
noncomputable def gK(names:B (B C))(f:C):Str:=st (names.getD f [])
noncomputable def l7(_:cV)(R:D→au→Prop)(O:B (gT×D))(xs:B (gT×a8×au)):Prop:=fp id (λ a (v:a8×au)=>R a v.2) O xs
noncomputable def v3(names:B (B C))(R:D→au→Prop)(aG:B (C×D))(m:aL→Y au):Prop:=
 ∀f,f<names.length→gb R (aG.lookup f) (m (gK names f))
noncomputable def gC(c:cV)(names:B (B C))(G:cA)(h:dD)(p:a8×a8):a0→Prop
 | .li xs=>p.2=p.1∧xs.length≤room∧∃items z,h.get? p.1=some {cls:=.type "list",data:=.seq items z}∧cs c G h xs items.toList
 | .cq O=>p.2=p.1∧∃cZ,h.DictOf (gs c.prog c.w) p.1 cZ∧fp id (bA c G h) O cZ
 | .ds O=>p.2=p.1∧∃cZ,h.DictOf (strKind c.prog c.w) p.1 cZ∧fp st (bA c G h) O cZ
 | .h9 O=>p.2=p.1∧∃xs,h.DictOfH (Ar c.prog c.w) p.1 xs∧l7 c (bA c G h) O xs
 | .bF V aG=>h.get? p.1=some (nL (c.ca V) p.2)∧(c.P.i5 V).isSome=true∧(∀f a,aG.lookup f=some a→c.P.fld V f=true)∧
   ∃O z m,h.get? p.2=some (p2 O z)∧O.length≤aG.length∧h.Ns p.2 m∧v3 names (bA c G h) aG m
end Mine
end
section
open PySem PySem.W PyProof.Rows
namespace Mine
variable{X:a8→Prop}{a:a8}{z:C}{p:a8×a8}{b:a8}{R hJ:D→au→Prop}{o:a0}{t:C}{c3:a0}{q:a8}
noncomputable def eF(G:cA)(b:a8):Prop:=∃p∈G,b=p.1∨b=p.2
noncomputable def cu(X:a8→Prop)(h H:dD):Prop:=∀b o,h.get? b=some o→¬X b→H.get? b=some o
noncomputable def yv(G bv:cA)(h:dD):Prop:=ha G bv∧∀b,eF bv b→eF G b∨h.get? b=none
theorem ha.refl(G:cA):ha G G:=λ _ _ e=>e
theorem ha.trans{G bv Qe:cA}(x:ha G bv)(y:ha bv Qe):ha G Qe:=λ z p e=>y z p (x z p e)
theorem ha.snoc(G:cA)(p:a8×a8):ha G (G++[p]):=λ z q e=>by
 have h:=(jZ.mp e).1
 rw[qR h];exact e
theorem cu.refl(X:a8→Prop)(h:dD):cu X h h:=λ _ _ e _=>e
theorem cu.mono{he:a8→Prop}{h H:dD}(x:cu X h H)(m:∀b,X b→he b):cu he h H:=λ b o e z=>x b o e λ q=>z (m b q)
theorem cu.trans{h H pc:dD}(x:cu X h H)(y:cu X H pc):cu X h pc:=λ b o e z=>y b o (x b o e z) z
theorem cu.push(h:dD)(o:fP):cu X h (h.push o):=λ _ _ e _=>lu o e
theorem cu.same{h H:dD}(s:tY a h H)(x:X a):cu X h H:=λ b o e z=>(s.2 b λ q=>z (q▸x)).trans e
theorem cu.all{h H:dD}(x:cu (λ _=>False) h H):cu X h H:=x.mono λ _=>HE
theorem lG{G:cA}(e:(G:B (a8×a8))[z]? =some p):eF G p.1∧eF G p.2:=
 ⟨⟨p,h3 e,.inl rfl⟩,⟨p,h3 e,.inr rfl⟩⟩
theorem DP{G:cA}(x:eF G b):∃(z:C) (p:a8×a8),G[z]? =some p∧(b=p.1∨b=p.2):=by
 obtain⟨p,bM,h⟩:=x
 obtain⟨z,e⟩:=List.mem_iff_getElem?.mp bM
 exact⟨z,p,e,h⟩
theorem uv{G:cA}(x:eF (G++[p]) b):eF G b∨b=p.1∨b=p.2:=by
 obtain⟨q,du,h⟩:=x
 rcases nG.mp du with du|du
 ·exact .inl ⟨q,du,h⟩
 ·rw[jz]at du;subst du;exact .inr h
theorem ha.foot{G bv:cA}(l:ha G bv)(x:eF G b):eF bv b:=by
 obtain⟨z,p,e,h⟩:=DP x
 exact⟨p,h3 (l z p e),h⟩
theorem yv.refl(G:cA)(h:dD):yv G G h:=⟨.refl _,λ _=>.inl⟩
structure Step(G:cA)(s:a2)(bv:cA)(a9:a2):Prop where
 ext:yv G bv s.heap
 ch:cu (eF G) s.heap a9.heap
theorem Step.refl(G:cA)(s:a2):Step G s G s:=⟨.refl _ _,.refl _ _⟩
theorem NC{h:dD}{X:Prop}(f:h.get? b=none→X)(g:∀o,h.get? b=some o→X):X:=by
 cases e:h.get? b with
 |none=>exact f e
 |some o=>exact g o e
theorem Step.trans{G bQ dz:cA}{s aJ b':a2}(x:Step G s bQ aJ)(y:Step bQ aJ dz b'):Step G s dz b' where
 ext:=⟨x.ext.1.trans y.ext.1,λ b az=>(y.ext.2 b az).elim (x.ext.2 b) λ h=>r2 .inl λ f=>NC .inr λ o e=>nomatch h.symm.trans (x.ch b o e f)⟩
 ch:=λ b o e z=>y.ch b o (x.ch b o e z) λ f=>(x.ext.2 b f).elim z λ h=>nomatch h.symm.trans e
theorem Step.ni{G:cA}{s a9:a2}(x:cu (eF G) s.heap a9.heap):Step G s G a9:=⟨.refl _ _,x⟩
structure Inv(c:cV)(nm:B (B C))(G:cA)(n:St)(s:a2):Prop where
 base:∀b o,c.h₀.get? b=some o→s.heap.get? b=some o
 out:∀b,eF G b→c.h₀.get? b=none
 len:G.length=n.length
 apart:∀(i j:C) (p q:a8×a8),G[i]? =some p→G[j]? =some q→i≠j→p.1≠q.1∧p.1≠q.2∧p.2≠q.1∧p.2≠q.2
 obj:∀(i:C) (p:a8×a8) o,G[i]? =some p→n[i]? =some o→gC c nm G s.heap p o
 gens:s.gens= #[]
 os:s.os=c.os
 low:∀b,eF G b→kZ<b
 two:∃b o,kZ<b∧c.h₀.get? b=some o
section
variable{c:cV}{nm:B (B C)}{G bv:cA}{n:St}{s a9:a2}{h H:dD}
theorem v3.mono(m:∀a v,R a v→hJ a v){aG:B (C×D)}{f:aL→Y au}(x:v3 nm R aG f):v3 nm hJ aG f:=λ i ay=>(x i ay).mono m
theorem l7.mono(m:∀a v,R a v→hJ a v){O:B (gT×D)}{xs:B (gT×a8×au)}(x:l7 c R O xs):l7 c hJ O xs:=fp.mono (λ _ _=>m _ _) x
theorem gC.keep(l:ha G bv)(k:fW h H)(ax:∀b,h.get? p.1=some b→H.get? p.1=some b)(aH:∀b,h.get? p.2=some b→H.get? p.2=some b)(x:gC c nm G h p o):gC c nm bv H p o:=by
 have m:∀a v,bA c G h a v→bA c bv H a v:=λ a v=>bA.keep l k
 cases o with
 |li xs=>exact⟨x.1,x.2.1,x.2.2.imp λ items y=>y.imp λ z y=>⟨ax _ y.1,y.2.keep l k⟩⟩
 |cq O=>exact⟨x.1,x.2.imp λ cZ y=>⟨y.1.at ax,y.2.mono m⟩⟩
 |ds O=>exact⟨x.1,x.2.imp λ cZ y=>⟨y.1.at ax,y.2.mono m⟩⟩
 |h9 O=>exact⟨x.1,x.2.imp λ cZ y=>⟨y.1.imp λ o L=>L.imp λ jJ L=>L.imp λ hL L=>⟨ax _ L.1,L.2.1,L.2.2.1,L.2.2.2.1,λ x aA=>(L.2.2.2.2.1 x aA).nc k,L.2.2.2.2.2⟩,l7.mono m y.2⟩⟩
 |bF V aG=>exact⟨ax _ x.1,x.2.1,x.2.2.1,x.2.2.2.imp λ O y=>y.imp λ z y=>y.imp λ Fc y=>⟨aH _ y.1,y.2.1,y.2.2.1.imp λ c3 L=>L.imp λ jJ L=>L.imp λ qr L=>⟨aH _ L.1,L.2⟩,y.2.2.2.mono m⟩⟩
theorem AM{b:fP}(h:(∀i z,b.data≠ .seq i z∨b.cls≠ .type "tuple")∧((∀i,b.data≠ .fields i)∨b.cls≠ .type "range")):¬ij b
 | .inl ⟨c,i,z,f⟩=>(h.1 i z).elim (λ x=>x f) λ x=>x c
 | .inr ⟨c,i,f⟩=>h.2.elim (λ x=>x i f) λ x=>x c
theorem pw{b:fP}{O z}(e:b.data= .dict O z):¬ij b:=AM ⟨λ _ _=>.inl λ f=>(nomatch e.symm.trans f),.inl λ _ f=>(nomatch e.symm.trans f)⟩
theorem abB{b:fP}{v}(e:b.data= .cell v):¬ij b:=AM ⟨λ _ _=>.inl λ f=>(nomatch e.symm.trans f),.inl λ _ f=>(nomatch e.symm.trans f)⟩
theorem abD{i z}:¬ij {cls:=.type "list",data:=.seq i z}:=AM ⟨λ _ _=>.inr λ f=>absurd (Value.type.inj f) (by decide),.inl λ _ f=>(nomatch f)⟩
theorem abC{a d}:¬ij (nL a d):=AM ⟨λ _ _=>.inr λ f=>(nomatch f),.inr λ f=>(nomatch f)⟩
theorem gC.objs{X:Prop}(x:gC c nm G h p o)(k:∀gf i0,h.get? p.1=some gf→¬ij gf→h.get? p.2=some i0→¬ij i0→X):X:=by
 have one:p.2=p.1→∀b,h.get? p.1=some b→¬ij b→X:=λ q b e f=>k b b e f (q.symm▸e) f
 cases o with
 |li xs=>exact x.2.2.elim λ items ht=>ht.elim λ z ht=>one x.1 _ ht.1 abD
 |cq O=>exact x.2.elim λ cZ d=>d.1.elim λ o d=>d.elim λ jJ d=>d.elim λ hL d=>one x.1 o d.1 (pw d.2.2.1)
 |ds O=>exact x.2.elim λ cZ d=>d.1.elim λ o d=>d.elim λ jJ d=>d.elim λ hL d=>one x.1 o d.1 (pw d.2.2.1)
 |h9 O=>exact x.2.elim λ cZ d=>d.1.elim λ o d=>d.elim λ jJ d=>d.elim λ hL d=>one x.1 o d.1 (pw d.2.2.1)
 |bF V aG=>exact x.2.2.2.elim λ O y=>y.elim λ z y=>y.elim λ m y=>k _ _ x.1 abC y.1 (pw rfl)
theorem gC.aby(x:gC c nm G h p o)(a:a8)(b:fP)(bO:a=p.1∨a=p.2)(e:h.get? a=some b):¬ij b:=
 x.objs λ _ _ aw ir aB gD=>bO.elim (λ q=>ej (aw.symm.trans (q▸e))▸ir) λ q=>ej (aB.symm.trans (q▸e))▸gD
theorem Inv.xJ(I:Inv c nm G n s)(e:(G:B (a8×a8))[z]? =some p):∃o,n[z]? =some o∧gC c nm G s.heap p o:=by
 have ax:=(jZ.mp e).1
 have aH:z<n.length:=I.len▸ax
 exact⟨_,h2 aH,I.obj z p _ e (h2 aH)⟩
theorem Inv.K9(I:Inv c nm G n s){b:fP}(f:eF G a)(e:s.heap.get? a=some b):¬ij b:=by
 obtain⟨z,p,bM,bO⟩:=DP f
 obtain⟨o,_,x⟩:=I.xJ bM
 exact x.aby a b bO e
theorem gC.live(x:gC c nm G h p o):(∃b,h.get? p.1=some b)∧∃b,h.get? p.2=some b:=
 x.objs λ _ _ aw _ aB _=>⟨⟨_,aw⟩,⟨_,aB⟩⟩
theorem Inv.wV(I:Inv c nm G n s)(f:eF G a):∃b,s.heap.get? a=some b:=by
 obtain⟨z,p,bM,bO⟩:=DP f
 obtain⟨o,_,x⟩:=I.xJ bM
 rcases bO with rfl|rfl
 ·exact x.live.1
 ·exact x.live.2
theorem Inv.nc(I:Inv c nm G n s){H:dD}(x:cu (eF G) s.heap H):fW s.heap H:=λ b o e f=>x b o e λ q=>I.K9 q e f
theorem Inv.Ug(I:Inv c nm G n s){o:fP}(e:c.h₀.get? b=some o):¬eF G b:=λ f=>by rw[I.out b f]at e;cases e
theorem Inv.K(I:Inv c nm G n s)(k:c.K.In c.h₀):c.K.In s.heap:=k.keeps I.base
theorem Inv.change(I:Inv c nm G n s){H:dD}(x:cu X s.heap H)(iz:∀b,X b→¬eF G b)(kH:∀b,X b→c.h₀.get? b=none)
  (ol:∀b o,X b→s.heap.get? b=some o→¬ij o):Inv c nm G n {s with heap:=H,toks:=t} where
 base:=λ b o e=>x b o (I.base b o e) λ q=>by rw[kH b q]at e;cases e
 out:=I.out
 len:=I.len
 apart:=I.apart
 obj:=λ i p o aw aB=>(I.obj i p o aw aB).keep (.refl G) (λ b o e f=>x b o e λ q=>ol b o q e f)
  (λ b e=>x _ b e λ q=>iz _ q (lG aw).1) (λ b e=>x _ b e λ q=>iz _ q (lG aw).2)
 gens:=I.gens
 os:=I.os
 low:=I.low
 two:=I.two
theorem Inv.tok(I:Inv c nm G n s)(t:C):Inv c nm G n {s with toks:=t}:=⟨I.base,I.out,I.len,I.apart,I.obj,I.gens,I.os,I.low,I.two⟩
theorem Inv.more(I:Inv c nm G n s){H:dD}(x:cu (λ _=>False) s.heap H):Inv c nm G n {s with heap:=H,toks:=t}:=
 I.change x (λ _=>HE) (λ _=>HE) λ _ _ q=>q.elim
theorem Inv.store(I:Inv c nm G n s){H:dD}(bM:(G:B (a8×a8))[z]? =some p)(x:cu (λ b=>b=p.1∨b=p.2) s.heap H)(r:gC c nm G H p c3):
  Inv c nm G (n.set z c3) {s with heap:=H,toks:=t}:=by
 have P9:cu (eF G) s.heap H:=x.mono λ b az=>az.elim (λ e=>e▸(lG bM).1) λ e=>e▸(lG bM).2
 refine⟨λ b o e=>P9 b o (I.base b o e) (I.Ug e),I.out,I.len.trans (H0 ..).symm,I.apart,λ i q o aw aB=>?_,I.gens,I.os,I.low,I.two⟩
 by_cases ay:z=i
 ·have aB:=(an (λ k=>(n.set z c3)[k]?) ay).trans aB
  exact ej (bM.symm.trans (ay▸aw))▸ej ((yE (jZ.mp bM |>.1 |> λ h=>I.len▸h)).symm.trans aB)▸r
 ·have a:=I.apart i z q p aw bM (Ic ay)
  exact(I.obj i q o aw ((tP ay).symm.trans aB)).keep (.refl G) (I.nc P9) (λ b e=>x _ b e λ L=>L.elim a.1 a.2.1) (λ b e=>x _ b e λ L=>L.elim a.2.2.1 a.2.2.2)
theorem Inv.qm(I:Inv c nm G n s){H:dD}(k:∀b o,s.heap.get? b=some o→H.get? b=some o):kZ<H.objs.size:=by
 obtain⟨b,o,h,e⟩:=I.two
 exact fh h (mU (k _ _ (I.base _ _ e)))
theorem vC{α:Type}{l:B α}{p x:α}{k:C}{X:Prop}(h:(l++[p])[k]? =some x)(f:l[k]? =some x→X)(g:k=l.length→p=x→X):X:=
 (Cm k l.length).elim (λ q=>f ((qR q).symm.trans h)) λ q=>by
  have e:=(yA q).symm.trans h
  have L:=(jZ.mp e).1
  have L:k-l.length=0:=Nat.lt_one_iff.mp L
  exact g (Rn (Nat.sub_eq_zero_iff_le.mp L) q) (ej ((an (λ k=>[p][k]?) L).symm.trans e))
theorem Inv.adopt(I:Inv c nm G n s)(d':kZ<p.1)(cO:kZ<p.2)(gk:¬eF G p.1∧c.h₀.get? p.1=none)(fT:¬eF G p.2∧c.h₀.get? p.2=none)
  (r:gC c nm (G++[p]) s.heap p c3):Inv c nm (G++[p]) (n++[c3]) s:=by
 have old:∀{k:C} {w:a8×a8},G[k]? =some w→∀a,¬eF G a→w.1≠a∧w.2≠a:=λ e a bO=>⟨λ L=>bO (L▸(lG e).1),λ L=>bO (L▸(lG e).2)⟩
 refine⟨I.base,λ b f=>(uv f).elim (I.out b) λ e=>e.elim (λ e=>e▸gk.2) λ e=>e▸fT.2,(fg).trans ((an (· +1) I.len).trans (fg (as:=n) (bs:=[c3])).symm),λ i j u v aw aB LL=>?_,λ i q o aw aB=>?_,I.gens,I.os,
  λ b f=>(uv f).elim (I.low b) λ e=>e.elim (λ e=>e▸d') λ e=>e▸cO,I.two⟩
 ·exact vC aw (λ g1=>vC aB (λ g2=>I.apart i j u v g1 g2 LL) λ _ w=>have a:=old g1 _ gk.1;have b:=old g1 _ fT.1;w▸⟨a.1,b.1,a.2,b.2⟩)
   λ c2 w=>vC aB (λ g2=>have a:=old g2 _ gk.1;have b:=old g2 _ fT.1;w▸⟨a.1.symm,a.2.symm,b.1.symm,b.2.symm⟩) λ dW _=>absurd (c2.trans dW.symm) LL
 ·exact vC aw (λ g1=>vC aB (λ g2=>(I.obj i q o g1 g2).keep (ha.snoc G p) (λ _ _ e _=>e) (λ _ e=>e) (λ _ e=>e)) λ k _=>absurd (jZ.mp g1).1 (r7.mpr (dg (I.len.trans k.symm))))
   λ c2 w=>vC aB (λ g2=>absurd (jZ.mp g2).1 (r7.mpr (dg (I.len.symm.trans c2.symm)))) λ _ kQ=>w▸kQ▸r
theorem Inv.vd(I:Inv c nm G n s)(h:s.heap.get? a=none):¬eF G a∧c.h₀.get? a=none:=
 ⟨λ q=>(I.wV q).elim λ o e=>(nomatch h.symm.trans e),we.mpr λ o e=>nomatch h.symm.trans (I.base _ _ e)⟩
theorem Inv.alloc(I:Inv c nm G n s){H:dD}(x:cu (λ _=>False) s.heap H)(d':kZ<p.1)(cO:kZ<p.2)(gk:s.heap.get? p.1=none)(fT:s.heap.get? p.2=none)
  (r:gC c nm (G++[p]) H p c3):Inv c nm (G++[p]) (n++[c3]) {s with heap:=H,toks:=t}:=
 (I.more x).adopt d' cO (I.vd gk) (I.vd fT) r
theorem Step.alloc{H:dD}(x:cu (λ _=>False) s.heap H)(gk:s.heap.get? p.1=none)(fT:s.heap.get? p.2=none):Step G s (G++[p]) {s with heap:=H,toks:=t} where
 ext:=⟨ha.snoc G p,λ b f=>(uv f).imp id λ e=>e.elim (λ e=>e▸gk) λ e=>e▸fT⟩
 ch:=x.all
theorem Step.store{H:dD}(bM:(G:B (a8×a8))[z]? =some p)(x:cu (λ b=>b=p.1∨b=p.2) s.heap H):Step G s G {s with heap:=H,toks:=t}:=
 .ni (x.mono λ b az=>az.elim (λ e=>e▸(lG bM).1) λ e=>e▸(lG bM).2)
theorem Step.more{H:dD}(x:cu (λ _=>False) s.heap H):Step G s G {s with heap:=H,toks:=t}:=.ni x.all
theorem Step.f6(S:Step G s bv a9)(I:Inv c nm G n s){a:D}{v:au}(x:bA c G s.heap a v):bA c bv a9.heap a v:=x.keep S.ext.1 (I.nc S.ch)
theorem Step.vO(S:Step G s bv a9)(I:Inv c nm G n s){a:B D}{v:B au}(x:cs c G s.heap a v):cs c bv a9.heap a v:=x.keep S.ext.1 (I.nc S.ch)
end
noncomputable def sk(c:cV)(G:cA)(h:dD)(ai:eg)(m:aL→Y au)(x:aL)(a:D):Prop:=
 ∃v,bA c G h a v∧(ai.kindOf x=some .local∧m x=some v∨(ai.kindOf x=some .cell∨ai.kindOf x=some .free)∧∃q,ai.cells.lookup x=some q∧h.IsCell q (some v))
noncomputable def e2(ai:eg)(b:a8):Prop:=b=ai.locals∨∃x,ai.cells.lookup x=some b
structure c9(c:cV)(aj:B (Y aL))(G:cA)(env:aX)(ai:eg)(h:dD)(m:aL→Y au):Prop where
 kind:ai.scope.kind= .function
 rd:ai.globals=ly
 blt:ai.builtins=CI
 len:env.length=aj.length
 ns:h.Ns ai.locals m
 cells:∀x q,ai.cells.lookup x=some q→∃v,h.IsCell q v
 apart:∀x y q,ai.cells.lookup x=some q→ai.cells.lookup y=some q→x=y
 foot:∀b,e2 ai b→¬eF G b
 out:∀b,e2 ai b→c.h₀.get? b=none
 uniq:∀(i j:C) x,(aj:B (Y aL))[i]? =some (some x)→(aj:B (Y aL))[j]? =some (some x)→i=j
 has:∀x,ai.kindOf x=some .cell→(ai.cells.lookup x).isSome=true
 vars:∀(i:C) x a,(aj:B (Y aL))[i]? =some (some x)→(env:B (Y D))[i]? =some (some a)→sk c G h ai m x a
section
variable{c:cV}{nm:B (B C)}{G bv:cA}{n:St}{s a9:a2}{h H:dD}{aj:B (Y aL)}{env:aX}{ai:eg}{m:aL→Y au}
theorem sk.keep{c0:aL→Y au}{x:aL}{a:D}(v:sk c G h ai m x a)(l:ha G bv)(k:fW h H)(hm:∀v,m x=some v→c0 x=some v)(hc:∀q v,ai.cells.lookup x=some q→h.IsCell q v→H.IsCell q v):sk c bv H ai c0 x a:=
 v.imp λ u v=>⟨v.1.keep l k,v.2.imp (λ w=>⟨w.1,hm u w.2⟩) λ w=>⟨w.1,w.2.imp λ q w=>⟨w.1,hc q _ w.1 w.2⟩⟩⟩
theorem tM.ch(x:cu X h H)(z:¬X q){v:Y au}(y:h.IsCell q v):H.IsCell q v:=y.imp λ _ d=>⟨x _ _ d.1 z,d.2⟩
theorem tW.ch(x:cu X h H)(z:¬X q){m:aL→Y au}(y:h.Ns q m):H.Ns q m:=y.imp λ _ y=>y.imp λ _ y=>y.imp λ _ d=>⟨x _ _ d.1 z,d.2⟩
theorem e2.old(F:c9 c aj G env ai h m)(o:e2 ai b):∃x,h.get? b=some x∧¬ij x:=by
 exact o.elim (λ q=>F.ns.imp λ o y=>y.elim λ O y=>y.elim λ hL d=>⟨q▸d.1,pw d.2.1⟩) λ y=>y.elim λ x e=>(F.cells x b e).elim λ v y=>y.imp λ o d=>⟨d.1,abB d.2⟩
theorem c9.step(F:c9 c aj G env ai s.heap m)(I:Inv c nm G n s)(S:Step G s bv a9):c9 c aj bv env ai a9.heap m where
 kind:=F.kind
 rd:=F.rd
 blt:=F.blt
 len:=F.len
 ns:=tW.ch S.ch (F.foot _ (.inl rfl)) F.ns
 cells:=λ x q e=>(F.cells x q e).imp λ _=>tM.ch S.ch (F.foot _ (.inr ⟨x,e⟩))
 apart:=F.apart
 foot:=λ b o f=>(S.ext.2 b f).elim (F.foot b o) λ g=>(e2.old F o).elim λ _ e=>nomatch e.1.symm.trans g
 out:=F.out
 uniq:=F.uniq
 has:=F.has
 vars:=λ i x a ax aH=>(F.vars i x a ax aH).keep S.ext.1 (I.nc S.ch) (λ _=>id) λ q v e cP=>tM.ch S.ch (F.foot _ (.inr ⟨x,e⟩)) cP
end
end Mine
end
section
open PySem PySem.W PyProof.Rows
namespace Mine
variable{Q:dC}{a:D}{v:au}{a9:a2}{i:am}{f:C→C→am}{b:am}{α:Type}{r:α}{ak:D→Prop}{u:au}{op:iS}{z m:C}{xs:B D}
noncomputable def Back(c:cV)(nm:B (B C))(G:cA)(s:a2)(Q:dC)(v:au)(a9:a2):Prop:=
 ∃a bv J,Q a J∧bA c bv a9.heap a v∧Inv c nm bv J a9∧Step G s bv a9
noncomputable def kT(c:cV)(nm:B (B C))(G:cA)(s:a2)(Q:av→St→Prop)(b:av)(a9:a2):Prop:=
 ∃bv J,Q b J∧Inv c nm bv J a9∧Step G s bv a9
noncomputable def vX(c:cV)(nm:B (B C))(G:cA)(s:a2)(Q:St→Prop)(_:p6)(a9:a2):Prop:=
 ∃bv J,Q J∧Inv c nm bv J a9∧Step G s bv a9
section
variable{c:cV}{nm:B (B C)}{G bQ:cA}{n:St}{s aJ:a2}
theorem Back.here(h:Q a n)(x:bA c G s.heap a v)(I:Inv c nm G n s)(t:C):Back c nm G s Q v {s with toks:=t}:=
 ⟨a,G,n,h,x,I.tok t,.ni (.refl _ _)⟩
theorem Back.after(S:Step G s bQ aJ)(b:Back c nm bQ aJ Q v a9):Back c nm G s Q v a9:=
 let⟨a,bv,J,h,x,I,fB⟩:=b;⟨a,bv,J,h,x,I,S.trans fB⟩
theorem kT.after{Q:av→St→Prop}{v:av}(S:Step G s bQ aJ)(b:kT c nm bQ aJ Q v a9):kT c nm G s Q v a9:=
 let⟨bv,J,h,I,fB⟩:=b;⟨bv,J,h,I,S.trans fB⟩
theorem Back.more{H:dD}{t:C}(h:Q a n)(I:Inv c nm G n s)(x:cu (λ _=>False) s.heap H)(r:bA c G H a v):Back c nm G s Q v {s with heap:=H,toks:=t}:=
 ⟨a,G,n,h,r,I.more x,.more x⟩
theorem aez(a b:B C):st a++st b=st (a++b):=by
 show RX _ _=_
 simp[RX,st]
theorem yd(a:B C):(st a).length=a.length:=by simp[st,PySem.Str.length]
theorem x1:room=1000000:=rfl
end
noncomputable def ta:iS→yQ
 | .add=>.Add| .sub=>.Sub| .mul=>.Mult| .mod=>.Mod| .band=>.BitAnd| .bor=>.BitOr| .bxor=>.BitXor
theorem Gr:small i=true↔ -(2:am)^62<i∧i< (2:am)^62:=by simp[small]
theorem Ur{a r:am}(h:su f a b=some r):0≤a∧0≤b∧r=f a.toNat b.toNat:=by
 unfold su at h
 split at h
 ·rename_i q;cases h;exact⟨q.1,q.2,rfl⟩
 ·cases h
theorem bitAnd_nn{a:am}(bO:0≤a)(az:0≤b):Builtin.bitAnd a b=((a.toNat&&& b.toNat:C):am):=by
 unfold Builtin.bitAnd;rw[iL bO,iL az]
theorem Dh(a:am):Builtin.bitNot a= -a-1:=by unfold Builtin.bitNot;omega
theorem Di{a:am}(bO:0≤a)(az:0≤b):Builtin.bitOr a b=((a.toNat|||b.toNat:C):am):=by
 unfold Builtin.bitOr Builtin.bitAnd
 have ax:¬0≤Builtin.bitNot a:=by rw[Dh];omega
 have aH:¬0≤Builtin.bitNot b:=by rw[Dh];omega
 rw[j3 ax,j3 aH]
 simp only[Dh]
 have e:∀x:am,- (-x-1)-1=x:=by intro x;omega
 rw[e,e,e]
theorem Us{a:am}(bO:0≤a)(az:0≤b):Builtin.bitXor a b=((a.toNat|||b.toNat:C):am)- ((a.toNat&&& b.toNat:C):am):=by
 unfold Builtin.bitXor;rw[Di bO az,bitAnd_nn bO az]
theorem aaW{a:am}(bO:small a=true):IntMulOk a b:=by
 rw[Gr]at bO
 exact IntMulOk.of_left (intBits_le_64 (by omega) (by omega))
section
variable{c:cV}{nm:B (B C)}{G:cA}{n:St}{s:a2}{A:eB}{ab:au→a2→Prop}
@[elab_as_elim] theorem EC{f:am→Y α}(h:jO f a=some r)(k:∀i,f i=some r→ak (.ii i)):ak a:=by
 cases a<;>first|exact k _ h|exact nomatch h
@[elab_as_elim] theorem aep{f:B C→Y α}(h:ya f a=some r)(k:∀i,f i=some r→ak (.ss i)):ak a:=by
 cases a<;>first|exact k _ h|exact nomatch h
@[elab_as_elim] theorem mj{f:am→am→Y α}{b:D}{h:dD}{M:au→au→Prop}(e:kC f a b=some r)(x:bA c G h a v)(y:bA c G h b u)(k:∀i j t cB,f i j=some r→M (.int i t) (.int j cB)):M v u:=by
 revert x y
 exact EC e λ i e=>EC e λ j e ⟨t,x⟩ ⟨cB,y⟩=>x▸y▸k i j t cB e
theorem zo{j:am}{r:D}{M:Prop}(e:(su f i j).map D.ii=some r)(k:0≤i→0≤j→r= .ii (f i.toNat j.toNat)→M):M:=by
 obtain⟨x,bC,rfl⟩:=l3.mp e
 obtain⟨ax,aH,rfl⟩:=Ur bC
 exact k ax aH rfl
theorem Un{b r:D}(h:fG op a b=some r)(x:bA c G s.heap a v)(y:bA c G s.heap b u)(bz:Q r n)(I:Inv c nm G n s):
  bg (bc c.prog c.w) A (I1 (ta op) v u) (Back c nm G s Q) ab s:=by
 cases op with
 |add=>
  have h:Jp a b=some r:=h
  cases b with
  |ii j=>
   obtain⟨cB,rfl⟩:=y
   revert x
   exact EC h λ i h ⟨t,x⟩=>by cases x;cases h;exact add_int (Back.here bz ⟨_,rfl⟩ I _)
  |ss l=>
   obtain⟨cB,rfl⟩:=y
   revert x
   refine aep h λ i h ⟨t,x⟩=>x▸?_
   split at h
   ·rename_i q
    cases h
    refine add_str (λ cB oy=>?_) (by simp only[yd];rw[lz];omega)
    rw[aez]
    exact Back.here bz ⟨_,rfl⟩ I _
   ·cases h
  |_=>exact nomatch h
 |sub=>exact mj h x y λ i j t cB e=>by cases e;exact sub_int (Back.here bz ⟨_,rfl⟩ I _)
 |mul=>
  refine mj h x y λ i j t cB e=>?_
  unfold AF at e
  split at e
  ·rename_i q
   cases e
   rw[jX]at q
   exact mul_int (Back.here bz ⟨_,rfl⟩ I _) (aaW q.1)
  ·cases e
 |mod=>
  refine mj h x y λ i j t cB e=>?_
  split at e
  ·cases e
  ·rename_i q
   cases e
   exact mod_int q (Back.here bz ⟨_,rfl⟩ I _)
 |band=>exact mj h x y λ i j t cB e=>zo e λ ax aH e=>by cases e;exact and_int (Back.here bz ⟨_,an (qX · _) (bitAnd_nn ax aH)⟩ I _)
 |bor=>exact mj h x y λ i j t cB e=>zo e λ ax aH e=>by cases e;exact or_int (Back.here bz ⟨_,an (qX · _) (Di ax aH)⟩ I _)
 |bxor=>exact mj h x y λ i j t cB e=>zo e λ ax aH e=>by cases e;exact xor_int (Back.here bz ⟨_,an (qX · _) (Us ax aH)⟩ I _)
theorem Y3{b r:D}(h:kD op a b=some r)(x:bA c G s.heap a v)(y:bA c G s.heap b u)(bz:Q r n)(I:Inv c nm G n s):
  bg (bc c.prog c.w) A (inplaceOp (ta op) v u) (Back c nm G s Q) ab s:=by
 cases op with
 |add=>exact mj h x y λ i j t cB e=>by cases e;exact iadd_int (Back.here bz ⟨_,rfl⟩ I _)
 |sub=>exact mj h x y λ i j t cB e=>by cases e;exact isub_int (Back.here bz ⟨_,rfl⟩ I _)
 |bor=>exact mj h x y λ i j t cB e=>zo e λ ax aH e=>by cases e;exact ior_int (Back.here bz ⟨_,an (qX · _) (Di ax aH)⟩ I _)
 |_=>exact nomatch h
theorem Ns(x:bA c G s.heap (.ii i) v)(bz:Q (.ii (-i)) n)(I:Inv c nm G n s):
  bg (bc c.prog c.w) A (unaryOp .USub v) (Back c nm G s Q) ab s:=by
 obtain⟨t,rfl⟩:=x
 exact neg_int (Back.here bz (by first|exact⟨_,rfl⟩|exact rfl|simp[bA]) I _)
noncomputable def eu(n:St):C→D→yR
 |_,.ii i=>.int i
 |_,.ss s=>.str (st s)
 |z+1,.tup l=>.tuple (l.map (eu n z))
 |z+1,.ref a=>match n[a]? with
  |some (.li xs)=>.list (xs.map (eu n z))
  |_=>.none
 |_,_=>.none
theorem NS{s:B C}(h:vf s=true):RU (st s)=true:=by
 unfold vf at h
 simp only[jX,g',zC]at h
 unfold RU st
 rw[QR,g']
 intro x aA
 have:=h.2 x aA
 exact iL (by omega)
theorem xL(h:eK n 0 a=true)(ay:∀i,ak (.ii i))(hs:∀s,vf s=true→ak (.ss s)):ak a:=by
 cases a<;>first|exact ay _|exact hs _ h|exact jv h
theorem NQ{z m:C}{o:Y a0}(e:n[m]? =o):eK n (z+1) (.ref m)=(λ o:Y a0=>match o with|some (.li xs)=>xs.all (eK n z)|_=>false) o:=an (λ o:Y a0=>match o with|some (.li xs)=>xs.all (eK n z)|_=>false) e
theorem abX(h:eK n (z+1) (.ref m)=true):∃xs,n[m]? =some (.li xs)∧∀x∈xs,eK n z x=true:=by
 cases e:n[m]? with
 |none=>exact jv ((NQ e).symm.trans h)
 |some o=>
  have h:=(NQ e).symm.trans h
  cases o<;>first|exact⟨_,rfl,g'.mp h⟩|exact jv h
theorem s8(h:eK n (z+1) a=true)(ay:∀i,ak (.ii i))(hs:∀s,vf s=true→ak (.ss s))(bD:∀l,(∀x∈l,eK n z x=true)→ak (.tup l))(a4:∀m xs,n[m]? =some (.li xs)→(∀x∈xs,eK n z x=true)→ak (.ref m)):ak a:=by
 cases a<;>first|exact ay _|exact hs _ h|exact bD _ (g'.mp h)|exact(abX h).elim λ xs q=>a4 _ xs q.1 q.2|exact jv h
theorem AY(e:n[m]? =some (.li xs)):eu n (z+1) (.ref m)= .list (xs.map (eu n z)):=an (λ o:Y a0=>match o with|some (.li xs)=>PyData.list (xs.map (eu n z))|_=>.none) e
theorem vp(n:St)(z:C):∀a:D,eK n z a=true→(eu n z a).canLay0=true∧(eu n z a).depth≤z:=by
 induction z with
 |zero=>exact λ a h=>xL (ak:=λ a=>(eu n 0 a).canLay0=true∧(eu n 0 a).depth≤0) h (λ i=>⟨rfl,cJ _⟩) λ s h=>⟨NS h,cJ _⟩
 |succ z aZ=>
  exact λ a h=>s8 (ak:=λ a=>(eu n (z+1) a).canLay0=true∧(eu n (z+1) a).depth≤z+1) h (λ i=>⟨rfl,fs _⟩) (λ s h=>⟨NS h,fs _⟩) (λ l h=>have L:=wH l λ x aA=>aZ x (h x aA);⟨L.1,gq L.2⟩)
   λ m xs e h=>(an (λ p:yR=>p.canLay0=true∧p.depth≤z+1) (AY e)).mpr (have L:=wH xs λ x aA=>aZ x (h x aA);⟨L.1,gq L.2⟩)
theorem F6(aZ:∀(a:D) (v:au),eK n z a=true→bA c G s.heap a v→∃as,t0 s.heap v (eu n z a) as)(l:B D):∀ar:B au,(∀x∈l,eK n z x=true)→cs c G s.heap l ar→∃as,yS s.heap ar (l.map (eu n z)) as:=by
 induction l with
 |nil=>exact λ ar _ x=>x▸⟨_,.nil⟩
 |cons a r ihl=>exact λ ar h x=>x.elim λ v x=>x.elim λ f6 x=>(aZ a v (h a (.head _)) x.2.1).elim λ as fU=>(ihl f6 (λ y bI=>h y (.tail _ bI)) x.2.2).elim λ bs gP=>x.1▸⟨_,.cons fU gP⟩
theorem vu(I:Inv c nm G n s)(z:C):∀(a:D) (v:au),eK n z a=true→bA c G s.heap a v→∃as,t0 s.heap v (eu n z a) as:=by
 induction z with
 |zero=>exact λ a v h=>xL (ak:=λ a=>bA c G s.heap a v→∃as,t0 s.heap v (eu n 0 a) as) h (λ i x=>x.elim λ t e=>e▸⟨_,.int _ _⟩) λ s _ x=>x.elim λ t e=>e▸⟨_,.str _ _⟩
 |succ z aZ=>
  refine λ a v h=>s8 (ak:=λ a=>bA c G s.heap a v→∃as,t0 s.heap v (eu n (z+1) a) as) h (λ i x=>x.elim λ t e=>e▸⟨_,.int _ _⟩) (λ s _ x=>x.elim λ t e=>e▸⟨_,.str _ _⟩) (λ l h x=>?_) λ m xs e h x=>?_
  ·obtain⟨a,items,rfl,⟨o,be,hc,k,a1⟩,a4⟩:=x
   exact(F6 aZ l _ h a4).elim λ as r=>⟨_,.tuple be hc a1 r⟩
  ·obtain⟨p,bM,rfl⟩:=x
   obtain⟨o,be,ee⟩:=I.xJ bM
   cases ej (e.symm.trans be)
   obtain⟨_,_,items,k,bC,a4⟩:=ee
   exact(F6 aZ xs _ h a4).elim λ as r=>AY e▸⟨_,.list bC rfl rfl r⟩
theorem O6(i j:B C):iH (.str (st i)) (.str (st j))=decide (i=j):=by
 rw[iH]
 by_cases q:i=j
 ·rw[q];simp
 ·have:st i≠st j:=λ e=>q (yc e)
  simp[q,this]
theorem L7(i j:am):iH (.int i) (.int j)=decide (i=j):=by
 rw[iH]
 by_cases q:i=j<;>simp[q]
theorem KW(aZ:∀(a b:D),eK n z a=true→eK n z b=true→iH (eu n z a) (eu n z b)=fI n z a b)(l:B D):
  ∀cf:B D,(∀x∈l,eK n z x=true)→(∀x∈cf,eK n z x=true)→IJ (l.map (eu n z)) (cf.map (eu n z))=k5 (fI n z) l cf:=by
 induction l with
 |nil=>exact λ cf _ _=>match cf with
  | []=>rfl
  |_::_=>rfl
 |cons a r ihl=>exact λ cf h k=>match cf,k with
  | [],_=>rfl
  |b::t,k=>congr (an and (aZ a b (h a (.head _)) (k b (.head _)))) (ihl t (λ y bI=>h y (.tail _ bI)) λ y bI=>k y (.tail _ bI))
theorem VK{c0:C}{bf:B D}(e:n[m]? =some (.li xs))(bC:n[c0]? =some (.li bf)):fI n (z+1) (.ref m) (.ref c0)=k5 (fI n z) xs bf:=
 (an (λ o:Y a0=>match o,n[c0]? with|some (.li xs),some (.li bf)=>k5 (fI n z) xs bf|_,_=>false) e).trans (an (λ o:Y a0=>match some (a0.li xs),o with|some (.li xs),some (.li bf)=>k5 (fI n z) xs bf|_,_=>false) bC)
theorem F0(z:C):∀(a b:D),eK n z a=true→eK n z b=true→iH (eu n z a) (eu n z b)=fI n z a b:=by
 induction z with
 |zero=>exact λ a b h k=>xL (ak:=λ a=>iH (eu n 0 a) (eu n 0 b)=fI n 0 a b) h (λ i=>xL (ak:=λ b=>iH (.int i) (eu n 0 b)=fI n 0 (.ii i) b) k (λ j=>L7 i j) λ j _=>rfl) λ i _=>xL (ak:=λ b=>iH (.str (st i)) (eu n 0 b)=fI n 0 (.ss i) b) k (λ j=>rfl) λ j _=>O6 i j
 |succ z aZ=>
  have r:∀{x:yR} {m:C} {xs:B D} {b:av},n[m]? =some (.li xs)→iH x (.list (xs.map (eu n z)))=b→iH x (eu n (z+1) (.ref m))=b:=λ e h=>(an (iH _) (AY e)).trans h
  exact λ a b h k=>s8 (ak:=λ a=>iH (eu n (z+1) a) (eu n (z+1) b)=fI n (z+1) a b) h
   (λ i=>s8 (ak:=λ b=>iH (.int i) (eu n (z+1) b)=fI n (z+1) (.ii i) b) k (λ j=>L7 i j) (λ j _=>rfl) (λ l _=>rfl) λ m xs e _=>r e rfl)
   (λ i _=>s8 (ak:=λ b=>iH (.str (st i)) (eu n (z+1) b)=fI n (z+1) (.ss i) b) k (λ j=>rfl) (λ j _=>O6 i j) (λ l _=>rfl) λ m xs e _=>r e rfl)
   (λ l hl=>s8 (ak:=λ b=>iH (.tuple (l.map (eu n z))) (eu n (z+1) b)=fI n (z+1) (.tup l) b) k (λ j=>rfl) (λ j _=>rfl) (λ cf uI=>KW aZ l cf hl uI) λ m xs e _=>r e rfl)
   λ m xs e aA=>(an (iH · (eu n (z+1) b)) (AY e)).trans (s8 (ak:=λ b=>iH (.list (xs.map (eu n z))) (eu n (z+1) b)=fI n (z+1) (.ref m) b) k (λ j=>rfl) (λ j _=>rfl) (λ cf uI=>rfl) λ c0 bf bC bI=>r (x:=.list (xs.map (eu n z))) bC ((KW aZ xs bf aA bI).trans (VK e bC).symm))
theorem VJ{b:D}{r:av}(cy:z≤20)(dS:A.units+100<kY)(h:m5 z n a b=some r)(x:bA c G s.heap a v)(y:bA c G s.heap b u)(bz:Q (.cj r) n)(I:Inv c nm G n s):
  bg (bc c.prog c.w) A (t5 .Eq v u) (Back c nm G s Q) ab s:=by
 unfold m5 at h
 split at h
 ·rename_i q
  cases h
  rw[jX]at q
  obtain⟨as,lP⟩:=vu I z a v q.1 x
  obtain⟨bs,F3⟩:=vu I z b u q.2 y
  have bO:=vp n z a q.1
  have az:=vp n z b q.2
  refine SeqAt.compareEq_reads lP F3 bO.1 az.1 (by omega) ?_
  rw[F0 z a b q.1 q.2]
  exact⟨_,G,n,bz,by simp[bA],I,.refl _ _⟩
 ·cases h
theorem abc{b:D}{r:av}(cy:z≤20)(dS:A.units+100<kY)(h:m5 z n a b=some r)(x:bA c G s.heap a v)(y:bA c G s.heap b u)(bz:Q (.cj (!r)) n)(I:Inv c nm G n s):
  bg (bc c.prog c.w) A (t5 .NotEq v u) (Back c nm G s Q) ab s:=by
 unfold m5 at h
 split at h
 ·rename_i q
  cases h
  rw[jX]at q
  obtain⟨as,lP⟩:=vu I z a v q.1 x
  obtain⟨bs,F3⟩:=vu I z b u q.2 y
  have bO:=vp n z a q.1
  have az:=vp n z b q.2
  refine SeqAt.compareNe_reads lP F3 bO.1 az.1 (by omega) ?_
  rw[F0 z a b q.1 q.2]
  exact⟨_,G,n,bz,by simp[bA],I,.refl _ _⟩
 ·cases h
end
end Mine
end
section
open PySem PySem.W PyProof.Rows
namespace Mine
variable{b:D}{Q:dC}{a:D}{v:au}{h:dD}{ak:au→Prop}{z:C}{l:B D}{i:am}{α:Type}{f:am→Y au}{r:av}{X:Prop}{k:D}{ar:B au}{M:Prop}{u:au}
noncomputable def Du(K:kl)(V:a8):Bool:=
 plainGet K V (PySem.Str.mk #[])&&hasDictIn K V&&plainOver K V&&makesIn K V&&(oU K (.ref V) "__setattr__"==some (some (.builtin "object.__setattr__")))
structure jB(c:cV)(nm:B (B C)):Prop where
 K:c.K.In c.h₀
 lim:c.h₀.NoLimit
 cls:∀V,(c.P.i5 V).isSome=true→Du c.K (c.ca V)=true
 fld:∀V f,c.P.fld V f=true→f<nm.length∧oU c.K (.ref (c.ca V)) (gK nm f)=some none
 names:∀f g,f<nm.length→g<nm.length→gK nm f=gK nm g→f=g
section
variable{c:cV}{nm:B (B C)}{G:cA}{n:St}{s:a2}{A:eB}{ab:au→a2→Prop}
theorem Inv.NF(I:Inv c nm G n s)(bL:jB c nm){b:a8}(f:eF G b):(b==kZ)=false:=
 ma.mpr λ e=>absurd (I.low b f) (by rw[e];exact oR _)
theorem Back.now(h:Q a n)(x:bA c G s.heap a v)(I:Inv c nm G n s):Back c nm G s Q v s:=⟨a,G,n,h,x,I,.refl _ _⟩
theorem lm{b:av}:bA c G h (.cj b) (.bool b):=rfl
@[elab_as_elim] theorem lg(x:bA c G s.heap (.ref z) v)(I:Inv c nm G n s)(k:∀p o,(G:B (a8×a8))[z]? =some p→n[z]? =some o→gC c nm G s.heap p o→ak (.ref p.1)):ak v:=
 x.elim λ p x=>(I.xJ x.1).elim λ o y=>x.2▸k p o x.1 y.1 y.2
@[elab_as_elim] theorem tp(x:bA c G h (.tup l) v)(k:∀a items,h.IsTuple a items→cs c G h l items.toList→items.size=l.length→ak (.ref a)):ak v:=
 x.elim λ a x=>x.elim λ items x=>x.1▸k a items x.2.1 x.2.2 (yt.symm.trans x.2.2.length)
@[elab_as_elim] theorem YR(x:bA c G h (.ii i) v)(k:∀t,ak (.int i t)):ak v:=x.elim λ t e=>e▸k t
@[elab_as_elim] theorem aer{i:B C}(x:bA c G h (.ss i) v)(k:∀t,ak (.str (st i) t)):ak v:=x.elim λ t e=>e▸k t
@[elab_as_elim] theorem pj{f:am→Y α}{r:α}{ak:D→au→Prop}(e:jO f a=some r)(x:bA c G h a v)(k:∀i t,f i=some r→ak (.ii i) (.int i t)):ak a v:=by
 cases a<;>first|exact x.elim λ t q=>q▸k _ t e|exact nomatch e
@[elab_as_elim] theorem O5{f:B C→Y α}{r:α}{ak:D→au→Prop}(e:ya f a=some r)(x:bA c G h a v)(k:∀i t,f i=some r→ak (.ss i) (.str (st i) t)):ak a v:=by
 cases a<;>first|exact x.elim λ t q=>q▸k _ t e|exact nomatch e
theorem po{p:a8×a8}{xs:B D}(x:gC c nm G h p (.li xs))(k:∀items z,h.get? p.1=some {cls:=.type "list",data:=.seq items z}→h.IsList p.1 items→cs c G h xs items.toList→items.size=xs.length→X):X:=
 x.2.2.elim λ items y=>y.elim λ z y=>k items z y.1 ⟨_,y.1,rfl,z,rfl⟩ y.2 (yt.symm.trans y.2.length)
theorem Nd{a:a8}(I:Inv c nm G n s)(h:c.h₀.MapOf (gs c.prog c.w) a f):s.heap.MapOf (gs c.prog c.w) a f:=h.imp λ o h=>h.imp λ O h=>h.imp λ hL h=>⟨I.base _ _ h.1,h.2⟩
@[elab_as_elim] theorem Dp{O:B (am×am)}(x:bA c G s.heap (.cd O) v)(I:Inv c nm G n s)(k:∀a f,(a==kZ)=false→s.heap.MapOf (gs c.prog c.w) a f→(∀k,gb (λ i v=>∃t,v= .int i t) (O.lookup k) (f k))→ak (.ref a)):ak v:=
 x.elim λ a x=>x.2.2.elim λ f y=>x.1▸k a f x.2.1 (Nd I y.1) y.2
theorem Bp{a b:C}(h:a=b)(q:b≤room):(a:am)<2^63:=by
 have q:b≤1000000:=q
 omega
theorem GC{a b:C}(h:a=b)(q:b≤room):a≤sizeLine:=by
 have q:b≤1000000:=q
 rw[lz];omega
theorem SY(n:St)(hk:eK n z k=true)(l:B D):l.all (eK n z)=true→((l.map (eu n z)).any λ y=>iH y (eu n z k))=l.any λ x=>fI n z x k:=by
 induction l with
 |nil=>exact λ _=>rfl
 |cons a r aZ=>exact λ h=>have h:=dI.mp h;congr (an or (F0 z a k h.1 hk)) (aZ h.2)
theorem adc(I:Inv c nm G n s)(h:l.all (eK n z)=true)(x:cs c G s.heap l ar):∃as,yS s.heap ar (l.map (eu n z)) as:=F6 (vu I z) l ar (g'.mp h) x
theorem lK{p:Prop}{d:v1 p}{x r:α}(h:(if p then some x else none)=some r)(k:p→x=r→M):M:=
 r2 (λ q:p=>k q (ej ((if_pos q).symm.trans h))) λ q=>nomatch(if_neg q).symm.trans h
theorem Ma(I:Inv c nm G n s)(h:xe n k l=some r)(x:bA c G s.heap k v)(a4:cs c G s.heap l ar)
  (g:∀as bs,yS s.heap ar (l.map (eu n 2)) as→t0 s.heap v (eu n 2 k) bs→RT (l.map (eu n 2))=true→(eu n 2 k).canLay0=true→(eu n 2 k).depth≤2→((l.map (eu n 2)).any λ y=>iH y (eu n 2 k))=r→M):M:=
 lK h λ q e=>have q:=dI.mp q;(adc I q.1 a4).elim λ as fU=>(vu I 2 k v q.2 x).elim λ bs gP=>have L:=vp n 2 k q.2
  g as bs fU gP (wH (z:=2) l λ a bO=>vp n 2 a (g'.mp q.1 a bO)).1 L.1 L.2 ((SY n q.2 l q.1).trans e)
noncomputable def HI(c:cV)(nm:B (B C))(G:cA)(n:St)(s:a2)(A:eB)(ab:au→a2→Prop)(Q:dC)(r:av)(v u:au):Prop:=
 (Q (.cj r) n→bg (bc c.prog c.w) A (t5 .In v u) (Back c nm G s Q) ab s)∧(Q (.cj (!r)) n→bg (bc c.prog c.w) A (t5 .NotIn v u) (Back c nm G s Q) ab s)
theorem L'{a:a8}{t:iY}{b:av}(I:Inv c nm G n s)(hs:(a==kZ)=false)(hm:s.heap.MapOf (gs c.prog c.w) a f)(e:(f i).isSome=b):HI c nm G n s A ab Q b (.int i t) (.ref a):=by
 subst e
 exact⟨λ bz=>wpAny_in_of (knd:=gs c.prog c.w) (k:=i) (p4 _ _ _ _) hs hm (Back.here bz lm I _),λ bz=>wpAny_notIn_of (knd:=gs c.prog c.w) (k:=i) (p4 _ _ _ _) hs hm (Back.here bz lm I _)⟩
noncomputable def Mb(n:St)(k:D):Y a0→Y av
 |some (.li xs)=>xe n k xs
 |some (.cq O)=>jO (λ i=>some (O.lookup i).isSome) k
 |_=>none
theorem Mc(bL:jB c nm)(dS:A.units+100<kY)(h:Aj n k a=some r)(x:bA c G s.heap k v)(y:bA c G s.heap a u)(I:Inv c nm G n s):HI c nm G n s A ab Q r v u:=by
 have b:∀{z:C},z≤2→A.units+z+20<cLine:=λ q=>cn (fA (hb (a' q (aE rfl)) 20 |> λ L=>a' L (aE rfl:2+20≤100)) A.units |> λ L=>(mQ A.units _ 20).symm▸L) dS
 cases a with
 |tup l=>exact tp y λ a items bD a4 _=>Ma I h x a4 λ as bs fU gP cz cD hk e=>bD.elim λ o t=>t.2.2.elim λ z a1=>e▸⟨λ bz=>SeqAt.in_tuple_reads (.tuple t.1 t.2.1 a1 fU) gP cz cD (by omega) (Back.now bz lm I),λ bz=>SeqAt.notIn_tuple_reads (.tuple t.1 t.2.1 a1 fU) gP cz cD (by omega) (Back.now bz lm I)⟩
 |cd O=>exact Dp y I λ a f hs hm hl=>pj h x λ i t h=>L' I hs hm ((hl i).xh.trans (ej h))
 |ref z=>
  refine lg y I λ p o bM be ee=>?_
  have h:Mb n k (some o)=some r:=be▸(show Mb n k n[z]? =some r from h)
  cases o with
  |li xs=>exact po ee λ items z aw _ a4 _=>Ma I h x a4 λ as bs fU gP cz cD hk e=>e▸⟨λ bz=>SeqAt.in_list_reads (.list aw rfl rfl fU) gP cz cD (by omega) (Back.now bz lm I),λ bz=>SeqAt.notIn_list_reads (.list aw rfl rfl fU) gP cz cD (by omega) (Back.now bz lm I)⟩
  |cq O=>exact ee.2.elim λ cZ d=>pj h x λ i t h=>L' I (I.NF bL (lG bM).1) d.1.mapOf (((fp.find (λ a b e=>e) i d.2).xh).trans (ej h))
  |_=>exact nomatch h
 |_=>exact nomatch h
noncomputable def Nu:Y a0→Y a0→Y av
 |some (.li xs),some (.li [])=>some (!xs.isEmpty)
 |_,_=>none
theorem abo{o c3:a0}(h:Nu (some o) (some c3)=some r)(k:∀xs,o= .li xs→c3= .li []→(!xs.isEmpty)=r→X):X:=by
 cases o with
 |li xs=>cases c3 with
  |li bf=>cases bf with
   |nil=>exact k _ rfl rfl (ej h)
   |cons _ _=>exact nomatch h
  |_=>exact nomatch h
 |_=>exact nomatch h
@[elab_as_elim] theorem abm{ak:D→D→Prop}(h:s1 n a b=some r)(k:∀m z,Nu n[m]? n[z]? =some r→ak (.ref m) (.ref z)):ak a b:=by
 cases a with
 |ref m=>cases b<;>first|exact k _ _ h|exact nomatch h
 |_=>exact nomatch h
theorem abn(dS:A.units+100<kY)(h:s1 n a b=some r)(x:bA c G s.heap a v)(y:bA c G s.heap b u)(bz:Q (.cj r) n)(I:Inv c nm G n s):
  bg (bc c.prog c.w) A (t5 .NotEq v u) (Back c nm G s Q) ab s:=by
 revert x y
 refine abm h λ m z h x y=>lg x I λ p o bM be ee=>lg y I λ f3 c3 rg lJ Xi=>abo (be▸lJ▸h) λ xs e bC g=>?_
 have ag4:A.units+10<cLine:=cn (fA (aE rfl) _) dS
 refine po (e▸ee) λ items k _ dy _ eE=>po (bC▸Xi) λ Mo ct _ eD _ jU=>?_
 have kH:Mo.size=0:=jU
 have hM:Back c nm G s Q (.bool r) s:=Back.now bz lm I
 cases xs with
 |nil=>
  have iz:items.size=0:=eE
  have ada:=agv (A:=A) (e:=λ _=>true) dy eD (iz.trans kH.symm) (by omega) (λ j Zg=>absurd (iz▸Zg) (yM _))
  have gM:(!(ck items.size).all λ _=>true)=false:=iz▸rfl
  exact(gM▸ada) c.prog c.w ab _ ((show r=false from g.symm)▸hM)
 |cons L bR=>
  have iz:items.size≠Mo.size:=λ q=>Nat.noConfusion (eE.symm.trans (q.trans kH))
  exact agw (A:=A) dy eD (p8.mpr iz) (by omega) c.prog c.w ab _ ((show r=true from g.symm)▸hM)
noncomputable def Dw:jf→CmpOp
 | .eq=>.Eq| .ne=>.NotEq| .lt=>.Lt| .le=>.LtE| .gt=>.Gt| .ge=>.GtE| .is=>.Is| .pk=>.In| .my=>.NotIn
noncomputable def Fj(o e:Y av):Y Bool:=match o with
 |some r=>some r
 |none=>e.map (!·)
theorem Kr{op:jf}(bL:jB c nm)(dS:A.units+200<kY)(h:cY op a b n=some r)(x:bA c G s.heap a v)(y:bA c G s.heap b u)(bz:Q (.cj r) n)(I:Inv c nm G n s):
  bg (bc c.prog c.w) A (t5 (Dw op) v u) (Back c nm G s Q) ab s:=by
 cases op with
 |eq=>exact VJ (by decide:4≤20) (by omega) h x y bz I
 |ne=>
  have h:Fj (s1 n a b) (m5 4 n a b)=some r:=h
  cases q:s1 n a b with
  |none=>exact(l3.mp (show(m5 4 n a b).map (!·)=some r from(an (λ o=>Fj o (m5 4 n a b)) q).symm.trans h)).elim λ bw e=>abc (by decide:4≤20) (by omega) e.1 x y (e.2.symm▸bz) I
  |some bw=>exact abn (by omega) q x y ((ej ((an (λ o=>Fj o (m5 4 n a b)) q).symm.trans h):bw=r)▸bz) I
 |pk=>exact(Mc bL (by omega) h x y I).1 bz
 |my=>exact(l3.mp h).elim λ bw e=>(Mc bL (by omega) e.1 x y I).2 (e.2.symm▸bz)
 |is=>
  have h:Mh a b=some r:=h
  cases b with
  |nn=>
   have e:u= .none:=y
   subst e
   cases a with
   |nn=>cases x;cases h;exact is_none (Back.now bz lm I)
   |tup l=>exact tp x λ a items _ _ _=>by cases h;exact is_none (Back.now bz lm I)
   |ref z=>exact lg x I λ p o _ _ _=>by cases h;exact is_none (Back.now bz lm I)
   |_=>exact nomatch h
  |_=>exact nomatch h
 |lt=>exact mj h x y λ i j t cB e=>by cases e;exact lt_int (Back.now bz lm I)
 |le=>exact mj h x y λ i j t cB e=>by cases e;exact le_int (Back.now bz lm I)
 |gt=>exact mj h x y λ i j t cB e=>by cases e;exact gt_int (Back.now bz lm I)
 |ge=>exact mj h x y λ i j t cB e=>by cases e;exact ge_int (Back.now bz lm I)
noncomputable def PA:Y a0→Y av
 |some (.li xs)=>some (!xs.isEmpty)
 |_=>none
theorem GK{Q:av→St→Prop}(h:ie n a=some r)(x:bA c G s.heap a v)(bz:Q r n)(I:Inv c nm G n s):
  bg (bc c.prog c.w) A (y2 v) (kT c nm G s Q) ab s:=by
 cases a with
 |cj b=>exact(show v= .bool b from x)▸Sk ⟨G,n,(ej h:b=r)▸bz,I,.refl _ _⟩
 |ii i=>exact YR x λ t=>truthy_int ⟨G,n,(show(i != 0)=r from(decide_not (p:=i=0)).symm.trans (ej h))▸bz,I,.refl _ _⟩
 |ref z=>
  refine lg x I λ p o bM be ee=>?_
  have h:PA (some o)=some r:=be▸(show PA n[z]? =some r from h)
  cases o with
  |li xs=>exact po ee λ items k _ hl _ hs=>wpAny_truthy_list hl (Bp hs ee.2.1) ⟨G,n,(show(!items.isEmpty)=r from(an (λ z=>!decide (z=0)) hs).trans ((by cases xs<;>rfl:(!decide (xs.length=0))= !xs.isEmpty).trans (ej h)))▸bz,I.tok _,.ni (.refl _ _)⟩
  |_=>exact nomatch h
 |_=>exact nomatch h
end
end Mine
end
section
open PySem PySem.W PyProof.Rows
namespace Mine
variable{h H:dD}{i:am}{z:C}{xs:B D}{r:D}{l:B D}{a:D}{items:gS au}{t:C}{Q:dC}{k:C}{v:au}{ar:B au}{aI:dD}{dQ:a8}{gp:iY}
theorem cu.of_keep(k:∀b o,h.get? b=some o→H.get? b=some o):cu (λ _=>False) h H:=λ b o e _=>k b o e
theorem OT(ec:0≤i)(ax:i<z):wp i z=some i.toNat:=by
 unfold wp
 simp only[show¬i<0 from by omega,EA]
 rw[if_pos (by simp only[jX,zC];omega)]
theorem adW(ec:i<0)(ax:0≤i+z):wp i z=some (i+z).toNat:=by
 unfold wp
 simp only[ec,if_true]
 rw[if_pos (by simp only[jX,zC];omega)]
section
variable{c:cV}{nm:B (B C)}{G:cA}{n:St}{s:a2}{A:eB}{ab:au→a2→Prop}
theorem rq(I:Inv c nm G n s){p:a8×a8}(bM:(G:B (a8×a8))[z]? =some p)(e:n[z]? =some (.li xs)):
  xs.length≤1000000∧p.2=p.1∧∃items k,s.heap.get? p.1=some {cls:=.type "list",data:=.seq items k}∧s.heap.IsList p.1 items∧cs c G s.heap xs items.toList∧items.size=xs.length:=
 have x:=I.obj z p _ bM e
 ⟨x.2.1,x.1,po x λ items k a b d g=>⟨items,k,a,b,d,g⟩⟩
theorem zy{p:Prop}{d:v1 p}{α:Type}{x:Y α}{r:α}{M:Prop}(h:(if p then x else none)=some r)(k:p→x=some r→M):M:=
 r2 (λ q:p=>k q ((if_pos q).symm.trans h)) λ q=>nomatch(if_neg q).symm.trans h
theorem zW(h:n4 l i=some a):(-(l.length:am)≤i∧i<l.length)∧∃j,wp i l.length=some j∧l[j]? =some a∧j=(if i<0 then i+l.length else i).toNat:=by
 unfold n4 at h
 by_cases q:0≤i
 ·have h:=(if_pos q).symm.trans h
  have n7:=(jZ.mp h).1
  exact⟨⟨by omega,by omega⟩,i.toNat,OT q (by omega),h,by rw[if_neg (by omega)]⟩
 ·refine zy ((if_neg q).symm.trans h) λ cO h=>?_
  have n7:=(jZ.mp h).1
  exact⟨⟨by omega,by omega⟩,(i+l.length).toNat,adW (by omega) cO,h,by rw[if_pos (by omega)]⟩
theorem aaj{O:B (am×D)}{cZ:B (am×au)}{R:D→au→Prop}(r:fp id R O cZ)(e:O.lookup i=some a):∃v,valueAt cZ i=some v∧R a v:=(r.find (λ _ _=>id) i).at e
theorem ahk{m:C}(h:z=m)(q:m≤room):(z:am)<2^63:=Bp h q
theorem YI{a:a8}{t:iY}(I:Inv c nm G n s)(hl:s.heap.IsList a items)(a4:cs c G s.heap l items.toList)(hs:items.size=l.length)(a3:l.length≤room)(h:n4 l i=some r)(bz:Q r n):
  bg (bc c.prog c.w) A (t6 (.ref a) (.int i t)) (Back c nm G s Q) ab s:=by
 have a3:l.length≤1000000:=a3
 refine(zW h).2.elim λ j g=>(a4.get g.2.1).elim λ w cS=>?_
 have b:=(zW h).1
 have w':items[j]? =some w:=vW.symm.trans cS.1
 have zH:=g.2.2
 by_cases ec:i<0
 ·rw[if_pos ec]at zH
  exact wpAny_getItem_list_neg hl ec (by omega) (by omega) (x:=w) (hs.symm▸zH▸w') (Back.now bz cS.2 I)
 ·rw[if_neg ec]at zH
  exact wpAny_getItem_list hl (by omega) (by omega) (x:=w) (zH▸w') (Back.now bz cS.2 I)
theorem L5{k:D}{u:au}(h:dd n a k=some r)(x:bA c G s.heap a v)(y:bA c G s.heap k u)(bz:Q r n)(I:Inv c nm G n s):
  bg (bc c.prog c.w) A (t6 v u) (Back c nm G s Q) ab s:=by
 cases a with
 |tup l=>
  refine tp x λ a items bD a4 hs=>pj h y λ i t h=>zy h λ a3 h=>(zW h).2.elim λ j g=>(a4.get g.2.1).elim λ w cS=>?_
  have b:=(zW h).1
  have a3:l.length≤1000000:=a3
  exact getItem_tuple (t:=a) (items:=items) (j:=j) bD (by omega) (by omega) (hs.symm▸g.1) (vW.symm.trans cS.1) (Back.now bz cS.2 I)
 |ss l=>
  refine aer x λ t=>pj h y λ i cB h=>zy h λ a3 h=>(l3.mp h).elim λ Dx hc=>?_
  have LC:l[i.toNat]? =some Dx:=(if_pos a3.2).symm.trans hc.1
  have n7:=(jZ.mp LC).1
  have uO:l.length≤1000000:=a3.1
  have uP:=a3.2
  refine PySem.P.getItem_str (c:=Dx) ?_ ((an (λ o=>o.bind λ j=>(st l).cps[j]?) (OT a3.2 (by rw[yd];omega):wp i (st l).length=some i.toNat)).trans (HW.trans LC)) (Back.here (a:=.ss [Dx]) (hc.2.symm▸bz) ⟨_,rfl⟩ I _)
  simp only[Qs,decide_eq_false_iff_not];omega
 |cd O=>exact Dp x I λ a f _ hm hl=>pj h y λ i t h=>(l3.mp h).elim λ j bt=>((hl i).at bt.1).elim λ v cP=>cP.2.elim λ cB e=>Jc (knd:=gs c.prog c.w) (k:=i) (p4 _ _ _ _) hm (cP.1.trans (an some e)) (Back.here (a:=.ii j) (bt.2.symm▸bz) ⟨_,rfl⟩ I _)
 |ref z=>
  refine lg x I λ p o bM be ee=>?_
  have h:rj k (some o)=some r:=be▸(show rj k n[z]? =some r from h)
  cases o with
  |li xs=>exact po ee λ items z _ hl a4 hs=>pj h y λ i t h=>YI I hl a4 hs ee.2.1 h bz
  |ds O=>exact ee.2.elim λ cZ d=>O5 h y λ i t h=>((d.2.find (λ _ _=>yc) i).at h).elim λ w cS=>Jc (knd:=strKind c.prog c.w) (k:=st i) (I7 c.prog c.w _ _) d.1.mapOf cS.1 (Back.here bz cS.2 I _)
  |cq O=>exact ee.2.elim λ cZ d=>pj h y λ i t h=>(aaj d.2 h).elim λ w cS=>Jc (knd:=gs c.prog c.w) (k:=i) (p4 _ _ _ _) d.1.mapOf cS.1 (Back.here bz cS.2 I _)
  |_=>exact nomatch h
 |_=>exact nomatch h
noncomputable def MW:Y a0→Y am
 |some (.li xs)=>some xs.length
 |_=>none
theorem ZT{z:am}(h:la n a=some z)(x:bA c G s.heap a v)(bz:Q (.ii z) n)(I:Inv c nm G n s):
  bg (bc c.prog c.w) A (call (.builtin "len") [v]) (Back c nm G s Q) ab s:=by
 have b:∀{k l:C} {t u:C},k=l→(l:am)=z→Back c nm G s Q (.int (k:am) t) {s with toks:=u}:=λ e q=>Back.here bz ⟨_,an (qX · _) ((an Int.ofNat e).trans q)⟩ I _
 cases a with
 |tup l=>exact zy h λ a3 h=>tp x λ a items bD _ hs=>agt bD (Bp hs a3) (b hs (ej h))
 |ref m=>
  refine lg x I λ p o bM be ee=>?_
  have h:MW (some o)=some z:=be▸(show MW n[m]? =some z from h)
  cases o with
  |li xs=>exact po ee λ items k _ hl _ hs=>ags hl (Bp hs ee.2.1) (b hs (ej h))
  |_=>exact nomatch h
 |_=>exact nomatch h
theorem Nt(I:Inv c nm G n s)(x:cu (λ _=>False) s.heap H)(r:cs c G s.heap l ar)(bz:Q (.tup l) n):
  Back c nm G s Q (.ref H.objs.size) {s with heap:=H.push {cls:=.type "tuple",data:=.seq ar.toArray k},toks:=t}:=
 have ht:cu (λ _=>False) s.heap (H.push {cls:=.type "tuple",data:=.seq ar.toArray k}):=x.trans (cu.push _ _)
 Back.more bz I ht ⟨_,_,rfl,⟨_,nK _ rfl,rfl,k,rfl⟩,r.keep (.refl G) λ b o e _=>ht b o e id⟩
theorem afq(h:n[z]? =some (.li xs))(x:bA c G s.heap (.ref z) v)(bz:Q (.tup xs) n)(I:Inv c nm G n s):
  bg (bc c.prog c.w) A (call (.type "tuple") [v]) (Back c nm G s Q) ab s:=
 lg x I λ p o bM be ee=>po (ej (be.symm.trans h)▸ee) λ items d9 _ hl a4 hs=>call_tuple_list hl (λ H k=>Nt (ar:=items.toList) I (cu.of_keep k) a4 bz) (GC hs (ej (be.symm.trans h)▸ee).2.1)
theorem afr(x:bA c G s.heap (.tup l) v)(bz:Q (.tup l) n)(I:Inv c nm G n s):
  bg (bc c.prog c.w) A (call (.type "tuple") [v]) (Back c nm G s Q) ab s:=
 tp (ak:=λ v=>bA c G s.heap (.tup l) v→bg (bc c.prog c.w) A (call (.type "tuple") [v]) (Back c nm G s Q) ab s) x (λ a items bD _ _ x=>call_tuple_same bD (Back.now bz x I)) x
theorem AJ(I:Inv c nm G n s)(x:cu (λ _=>False) s.heap H)(r:cs c G s.heap l ar)(L:l.length≤room)(bz:Q (.ref n.length) (n++[.li l]))
  (cl:s.heap.get? H.objs.size=none):Back c nm G s Q (.ref H.objs.size) {s with heap:=H.push {cls:=.type "list",data:=.seq ar.toArray k},toks:=t}:=
 have ht:cu (λ _=>False) s.heap (H.push {cls:=.type "list",data:=.seq ar.toArray k}):=x.trans (cu.push _ _)
 have w:=I.qm λ b o e=>x b o e id
 ⟨.ref n.length,G++[(H.objs.size,H.objs.size)],n++[.li l],bz,⟨(H.objs.size,H.objs.size),I.len▸HU,rfl⟩,
  I.alloc ht w w cl cl (show gC c nm _ _ _ (.li l)from⟨rfl,L,_,k,nK _ rfl,r.keep (ha.snoc _ _) λ b o e _=>ht b o e id⟩),.alloc ht cl cl⟩
theorem n1(k:∀b o,h.get? b=some o→H.get? b=some o):h.get? H.objs.size=none:=
 we.mpr λ o e=>absurd (mU (k _ _ e)) (oR _)
theorem aed{rT vP ar:au}{lo ay ea:Y am}{bf:B D}(h:n[z]? =some (.li xs))(x:bA c G s.heap (.ref z) v)(lO:wh rT lo)(FZ:wh vP ay)(cp:wh ar ea)(ec:ea≠some 0)
  (bI:∀items:gS au,cs c G s.heap xs items.toList→cs c G s.heap bf (sc items lo ay ea).toList)(a3:bf.length≤xs.length)
  (bz:Q (.ref n.length) (n++[.li bf]))(I:Inv c nm G n s)(hs:aI.IsSliceOf dQ rT vP ar)(k:∀b o,s.heap.get? b=some o→aI.get? b=some o):
  bg (bc c.prog c.w) A (t6 v (.ref dQ)) (Back c nm G s Q) ab {s with heap:=aI,toks:=t}:=by
 exact lg x I λ p o bM be ee=>have ee:=ej (be.symm.trans h)▸ee;po ee λ items d9 aw hl a4 jM=>Se (s:={s with heap:=aI,toks:=t}) (hl:=⟨_,k _ _ aw,rfl,d9,rfl⟩) hs lO FZ cp ec
  (AJ (H:=aI) (ar:=(sc items lo ay ea).toList) I (cu.of_keep k) (bI items a4) (a' a3 ee.2.1) bz (n1 k)) (GC jM ee.2.1)
theorem pick_from{z:am}(cy:0≤z)(r:cs c G s.heap xs items.toList):cs c G s.heap (xs.drop z.toNat) (sc items (some z) none none).toList:=by
 obtain⟨k,rfl⟩:=B1 cy
 rw[slicePick_from']
 simpa using r.drop k
theorem N3{z:am}(cy:0≤z)(r:cs c G s.heap xs items.toList):cs c G s.heap (xs.take z.toNat) (sc items none (some z) none).toList:=by
 obtain⟨k,rfl⟩:=B1 cy
 rw[slicePick_upto']
 simpa using r.take k
theorem acG(r:cs c G s.heap xs items.toList):cs c G s.heap xs.reverse (sc items none none (some (-1))).toList:=by
 rw[krv_pick]
 simpa using r.reverse
theorem acH{l:B C}{z:am}(cy:0≤z):∃m,I6 (st l) none (some (z,gp)) none=(ck m).map (0+·)∧l.take m=l.take z.toNat:=by
 obtain⟨k,rfl⟩:=B1 cy
 have e:(st l).length=l.length:=yd l
 rcases Nat.le_total k l.length with q|q
 ·exact⟨k,(RY _ _).trans (RZ (a:=0) (fs _) (e.symm▸q)),rfl⟩
 ·exact⟨l.length,((sliceIdx_hi_beyond _ (QO.mpr (e.symm▸q))).trans (RY _ _)).trans ((RZ (a:=0) (fs _) (cJ _)).trans (e▸rfl)),(Rc).trans (Rd q).symm⟩
theorem aeY{l:B C}{t:iY}{z:am}(cy:0≤z)(hl:l.length≤1000)(bz:Q (.ss (l.take z.toNat)) n)(I:Inv c nm G n s)(hs:aI.IsSliceOf dQ .none (.int z gp) .none)
  (k:∀b o,s.heap.get? b=some o→aI.get? b=some o){cB:C}:bg (bc c.prog c.w) A (t6 (.str (st l) t) (.ref dQ)) (Back c nm G s Q) ab {s with heap:=aI,toks:=cB}:=by
 refine wpAny_getItem_str_slice (s:={s with heap:=aI,toks:=cB}) (l:=none) (u:=some (z,gp)) (st:=none) hs rfl ?_
 obtain⟨m,dj,hm⟩:=acH (l:=l) (gp:=gp) cy
 have hM:∀(x:aL) (eN:iY) (dW:C),x=st (l.take z.toNat)→Back c nm G s Q (.str x eN) {s with heap:=aI,toks:=dW}:=λ x eN dW e=>Back.more bz I (cu.of_keep k) ⟨_,an (Value.str · _) e⟩
 have cl:(⟨((I6 (st l) none (some (z,gp)) none).filterMap ((st l).cps[·]?)).toArray⟩:aL)=st (l.take z.toNat):=an (λ l:B C=>(⟨l.toArray⟩:aL)) ((an (QX _) dj).trans ((pick_run l.toArray 0 m).trans hm))
 unfold sliceMade
 by_cases q:(((none:Y (am×iY)).map (·.1)).getD 1==1&&(I6 (st l) none (some (z,gp)) none).length==(st l).length)=true
 ·rw[if_pos q]
  have e:m=l.length:=(by rw[dj,cG,gB,yd]at q;exact eq_of_beq (dI.mp q).2)
  exact hM _ _ _ (an st ((Rc).symm.trans (e▸hm)))
 ·rw[if_neg q]
  exact⟨by rw[cl,yd,lz,H1];omega,hM _ _ _ cl⟩
end
end Mine
end
section
open PySem PySem.W PyProof.Rows
namespace Mine
variable{a:D}{v:au}{h:dD}{O:B mT}{z:C}{m:aL→Y au}{x:aL}{p:a8×a8}{V:C}{aG:B (C×D)}{r:D}{f:C}{Q:dC}{R:D→au→Prop}{dm:Type}{ct q k:dm}{H:dD}{u:au}{J:St}{xs:B (gT×a8×au)}{w:au}
section
variable{c:cV}{nm:B (B C)}{G:cA}{n:St}{s:a2}{A:eB}{ab:au→a2→Prop}
theorem bA.handed(x:bA c G h a v):handedIn v=true:=by
 cases a with
 |nn=>exact(show v=_ from x)▸rfl
 |cj b=>exact(show v=_ from x)▸rfl
 |ii _=>exact x.elim λ _ e=>e▸rfl
 |ss _=>exact x.elim λ _ e=>e▸rfl
 |tup _=>exact x.elim λ _ x=>x.elim λ _ e=>e.1▸rfl
 |ew _ _=>exact x.elim λ _ x=>x.elim λ _ x=>x.elim λ _ x=>x.elim λ _ e=>e.1▸rfl
 |cd _=>exact x.elim λ _ e=>e.1▸rfl
 |ref _=>exact x.elim λ _ e=>e.2▸rfl
 |fv _=>exact x.elim λ _ e=>e.1▸rfl
theorem NB(g:∀e∈O,∃k t,e.key= .str k t):O.any (·.refKey)=false:=
 QS.mpr λ e b3=>(g e b3).elim λ k q=>q.elim λ t q=>by rw[DictEntry.refKey,q];exact mM
theorem Fy{a:a8}(be:h.get? a=some (p2 O z))(N:h.Ns a m):getL x O=some (m x)∧∀e∈O,∃k t,e.key= .str k t:=by
 obtain⟨o,jJ,hL,lJ,a1,hk,hm⟩:=N
 cases ej (be.symm.trans lJ)
 cases a1
 have g:∀e∈O,∃k t,e.key= .str k t:=λ e b3=>hk e (Qj.mp b3)
 refine⟨?_,g⟩
 rw[←hm x]
 unfold getL nsFind CK
 rw[←Qh]
 cases cl:O.find? (·.key.isStr x)with
 |some e=>rfl
 |none=>exact(an (λ b:av=>if b=true then(none:Y (Y au))else some none) (NB g)).trans rfl
structure Ct(c:cV)(nm:B (B C))(G:cA)(h:dD)(p:a8×a8)(V:C)(aG:B (C×D))(O:B mT)(z:C)(m:aL→Y au):Prop where
 inst:InstAt h p.1 (nL (c.ca V) p.2) (c.ca V) (some (p2 O z))
 i5:(c.P.i5 V).isSome=true
 fld:∀f a,aG.lookup f=some a→c.P.fld V f=true
 at2:h.get? p.2=some (p2 O z)
 size:O.length≤aG.length
 ns:h.Ns p.2 m
 wX:v3 nm (bA c G h) aG m
theorem FG{X:Prop}(x:gC c nm G h p (.bF V aG))(k:∀O z m,Ct c nm G h p V aG O z m→X):X:=
 x.2.2.2.elim λ O y=>y.elim λ z y=>y.elim λ m y=>k O z m ⟨⟨x.1,rfl,rfl,y.1⟩,x.2.1,x.2.2.1,y.1,y.2.1,y.2.2.1,y.2.2.2⟩
theorem wL{K:kl}{V:a8}(h:Du K V=true):(∀x,plainGet K V x=true)∧hasDictIn K V=true∧plainOver K V=true∧makesIn K V=true∧oU K (.ref V) "__setattr__"=some (some (.builtin "object.__setattr__")):=
 have h:=dI.mp h;have gh:=dI.mp h.1;have cI:=dI.mp gh.1;have aH:=dI.mp cI.1
 ⟨λ _=>aH.1,aH.2,cI.2,gh.2,eq_of_beq h.2⟩
theorem JK{b:av}(bL:jB c nm)(h:d7 n a f=some r)(x:bA c G s.heap a v)(bz:Q r n)(I:Inv c nm G n s):
  bg (bc c.prog c.w) A (getAttr v (gK nm f) b) (Back c nm G s Q) ab s:=by
 cases a with
 |ref z=>
  refine lg x I λ p o bM be ee=>?_
  have h:sp f (some o)=some r:=be▸(show sp f n[z]? =some r from h)
  cases o with
  |bF V aG=>
   refine FG ee λ O k m al=>?_
   have cl:=bL.fld V f (al.fld f r h)
   have e4:=wL (bL.cls V al.i5)
   exact((al.wX f cl.1).at h).elim λ v cP=>get_value (I.K bL.K) al.inst (IY (e4.1 (gK nm f))).1 (findObj_own e4.2.1 cl.2 rfl ((lookIn_dict _ _ _).trans ((Fy al.at2 al.ns).1.trans (an some cP.1)))) cP.2.handed (Back.here bz cP.2 I _)
  |_=>exact nomatch h
 |_=>exact nomatch h
theorem acR(name:aL)(w8:am)(iy v:au)(O:B mT):(putL name w8 iy v O).length≤O.length+1∧(O.any (·.key.isStr name)=true→(putL name w8 iy v O).length=O.length):=by
 induction O with
 |nil=>exact⟨cJ _,λ h=>nomatch h⟩
 |cons e r aZ=>
  unfold putL
  by_cases q:e.key.isStr name=true
  ·rw[if_pos q];exact⟨h5 _,λ _=>rfl⟩
  ·rw[if_neg q];exact⟨gq aZ.1,λ h=>an l2 (aZ.2 ((BX.mp h).resolve_left q))⟩
theorem acS{a:a8}{w8:am}{t:iY}(be:h.get? a=some (p2 O z))(N:h.Ns a m):
  (h.update a (II x w8 (.str x t) v)).Ns a (λ y=>if y=x then some v else m y):=by
 obtain⟨o,jJ,hL,lJ,a1,hk,hm⟩:=N
 rw[be]at lJ;cases lJ
 cases a1
 cases ay:O.toArray.findIdx? (·.key.isStr x)with
 |some i=>
  refine⟨_,_,z,IF _ be (by simp only[CD,CC,ay];rfl),by simp only[CD,CC,ay];rfl,hk.modify _ _,λ y=>?_⟩
  show _=if y=x then some v else m y
  rw[←hm];exact findBy_modify (λ z v=>v.isStr z) Value.isStr_inj O.toArray x y v i ay
 |none=>
  refine⟨_,_,z+1,IF _ be (by simp only[CD,CC,ay];rfl),by simp only[CD,CC,ay];rfl,hk.push _ _ _ _,λ y=>?_⟩
  show _=if y=x then some v else m y
  rw[←hm]
  exact findBy_push (λ z v=>v.isStr z) O.toArray x y _ _ v (λ L=>by
   show(x==L)=decide (L=x)
   by_cases h:L=x
   ·subst h;simp
   ·have:¬x=L:=λ e=>h e.symm
    simp[h,this]) ay
theorem ab8{oy:iY}{R:yT→a2→Prop}(bL:jB c nm)(X:c.K.In s.heap)(al:Ct c nm G s.heap p V aG O z m)
  (aA:oU c.K (.ref (c.ca V)) x=some none)(a3:O.length≤1000)
  (h:∀H jJ qr,tY p.2 s.heap H→H.get? p.2=some (p2 jJ qr)→H.Ns p.2 (λ y=>if y=x then some v else m y)→jJ.length≤O.length+1→((m x).isSome=true→jJ.length=O.length)→
   R (.ok (.ret .none)) {s with heap:=H,toks:=s.toks+1}):
  t4 (bc c.prog c.w) A (.call (.builtin "object.__setattr__") ⟨[.ref p.1,.str x oy,v],[]⟩) R s:=by
 have e4:=wL (bL.cls V al.i5)
 refine osa_open X al.inst e4.2.2.1 (r:=none) (by unfold takerIn;rw[aA];rfl) λ b=>?_
 obtain⟨cd,hc,gw⟩:=any_some e4.2.1
 have ag:=al.at2
 obtain⟨sP,ag0,cy,-⟩:=al.inst
 obtain⟨g1,g2⟩:=Fy (x:=x) ag al.ns
 have Sv:=IE s.heap p.2 (II x (wi c.w.params x) (.str x s.toks) v)
 have Jm:(s.heap.update p.2 (II x (wi c.w.params x) (.str x s.toks) v)).get? p.2=some (p2 (putL x (wi c.w.params x) (.str x s.toks) v O) (putN x O z)):=by
  rw[←putName_dict]
  exact IF _ ag (by rw[putName_dict];rfl)
 have Sw:=acS (x:=x) (w8:=wi c.w.params x) (t:=s.toks) (v:=v) ag al.ns
 have ae:=acR x (wi c.w.params x) (.str x s.toks) v O
 refine cK (eG (cK (cK (Si sP (cK ((looks_clsIn X hc).here ?_))))))
 rw[gw]
 refine eG (a:=some p.2) (cK (eG (cK ?_)))
 unfold nsSet
 refine cK (cK (wpAny_askSetting (eG (cK (wpAny_mkText (cK (Si ag ?_)))))))
 dsimp only
 have LA:O.any (·.refKey)=false:=NB g2
 have ui:(!O.toArray.any (·.key.isStr x)&&O.toArray.any (·.refKey))=false:=by
  rw[←Qg,←Qg,LA,Qp]
 rw[aRefKeyMayBeTheName_at,ui]
 refine wpAny_updatePart ag ?_
 refine cK (wpAny_lookBehind Jm (pastItsLine_dict (by rw[yJ,lz];omega)) ?_)
 refine eG (h _ _ _ Sv Jm Sw ae.1 λ hm=>ae.2 (Bool.not_eq_false _▸λ q=>?_))
 have L:getL x O=some none:=by
  unfold getL
  rw[List.find?_eq_none.mpr (QS.mp q),LA];rfl
 exact nomatch(an pY (ej (g1.symm.trans L))).symm.trans hm
theorem rr[nA dm][oM dm]{r:B (dm×D)}(h:ct≠q):((q,a)::r).lookup ct=r.lookup ct:=by rw[l1,ma.mpr h]
theorem u2[nA dm][oM dm]{r:B (dm×D)}(h:ct=q):((q,a)::r).lookup ct=some a:=h▸H2
theorem acP[nA dm][oM dm][jw dm]{O:B (dm×D)}{v:D}:(c7 O k v).lookup k=some v:=by
 have map:(O.lookup k).isSome=true→(O.map λ e=>if e.1==k then(e.1,v)else e).lookup k=some v:=by
  induction O with
  |nil=>exact λ h=>nomatch h
  |cons e r aZ=>
   intro h
   rw[oN]
   by_cases q:k=e.1
   ·rw[if_pos (jk.mpr q.symm)];exact u2 q
   ·rw[if_neg λ L=>q (eq_of_beq L).symm];exact(rr q).trans (aZ ((an pY (rr (a:=e.2) q)).symm.trans h))
 unfold c7
 by_cases h:(O.lookup k).isSome=true
 ·rw[if_pos h];exact map h
 ·rw[if_neg h,yH,Option.not_isSome_iff_eq_none.mp h];exact u2 rfl
theorem N'[nA dm][oM dm][jw dm]{O:B (dm×D)}{v:D}(hk:ct≠k):(c7 O k v).lookup ct=O.lookup ct:=by
 have map:(O.map λ e=>if e.1==k then(e.1,v)else e).lookup ct=O.lookup ct:=by
  induction O with
  |nil=>rfl
  |cons e r aZ=>
   rw[oN]
   by_cases q:ct=e.1
   ·rw[if_neg λ L=>hk (q.trans (eq_of_beq L))];exact(u2 (a:=e.2) q).trans (u2 q).symm
   ·exact(Ao (P:=λ x (_:p6)=>(x::r.map λ e=>if e.1==k then(e.1,v)else e).lookup ct=(r.map λ e=>if e.1==k then(e.1,v)else e).lookup ct) (u:=()) (v:=()) (rr q) (rr (a:=e.2) q)).trans (aZ.trans (rr (a:=e.2) q).symm)
 unfold c7
 by_cases h:(O.lookup k).isSome=true
 ·rw[if_pos h];exact map
 ·rw[if_neg h,yH];exact(an (Option.or _) (rr (r:=[]) hk)).trans RC
theorem acQ[nA dm](O:B (dm×D))(k:dm)(v:D):(c7 O k v).length=if(O.lookup k).isSome=true then O.length else O.length+1:=by
 unfold c7
 exact Ao (P:=λ(l:B (dm×D)) z=>l.length=z) (cG _) (fg)
noncomputable def OM(P:iW)(n:St)(z f:C)(x:D):Y a0→Y St
 |some (.bF c aG)=>if P.fld c f=true∧aG.length<200 then some (n.set z (.bF c (c7 aG f x)))else none
 |_=>none
theorem abR{jJ:B mT}{qr:C}{x:D}(bL:jB c nm)(al:Ct c nm G h p V aG O z m)(cr:c.P.fld V f=true)(qC:bA c G h x u)(d8:fW h H)(aw:H.get? p.1=some (nL (c.ca V) p.2))
  (j6:H.get? p.2=some (p2 jJ qr))(uL:H.Ns p.2 (λ y=>if y=gK nm f then some u else m y))(dy:jJ.length≤O.length+1)(eD:(m (gK nm f)).isSome=true→jJ.length=O.length):gC c nm G H p (.bF V (c7 aG f x)):=by
 refine⟨aw,al.i5,λ g b i1=>r2 (λ q:g=f=>q▸cr) λ q=>al.fld g b ((N' q).symm.trans i1),jJ,qr,_,j6,?_,uL,λ g i1=>r2 (λ q:g=f=>?_) λ q=>?_⟩
 ·rw[acQ]
  by_cases q:(aG.lookup f).isSome=true
  ·rw[if_pos q,eD ((al.wX f (bL.fld V f cr).1).xh.trans q)];exact al.size
  ·rw[if_neg q];exact a' dy (gq al.size)
 ·subst q
  exact acP (O:=aG)▸⟨u,if_pos rfl,qC.keep (.refl G) d8⟩
 ·rw[N' q,if_neg λ e=>q (bL.names g f i1 (bL.fld V f cr).1 e)]
  exact(al.wX g i1).mono λ _ _ y=>y.keep (.refl G) d8
theorem xT{c3:a0}{t:C}{Q:St→Prop}(I:Inv c nm G n s)(bM:(G:B (a8×a8))[z]? =some p)(ny:cu (λ b=>b=p.1∨b=p.2) s.heap H)(r:fW s.heap H→gC c nm G H p c3)(bz:Q (n.set z c3)):vX c nm G s Q () {s with heap:=H,toks:=t}:=
 ⟨G,_,bz,I.store bM ny (r (I.nc (ny.mono λ b az=>az.elim (λ e=>e▸(lG bM).1) λ e=>e▸(lG bM).2))),.store bM ny⟩
theorem OV{x:D}{Q:St→Prop}(bL:jB c nm)(h:lh c.P n a f x=some J)(lP:bA c G s.heap a v)(qC:bA c G s.heap x u)(bz:Q J)(I:Inv c nm G n s):
  bg (bc c.prog c.w) A (setAttr v (gK nm f) u) (vX c nm G s Q) ab s:=by
 cases a with
 |ref z=>
  refine lg lP I λ p o bM be ee=>?_
  have h:OM c.P n z f x (some o)=some J:=be▸(show OM c.P n z f x n[z]? =some J from h)
  cases o with
  |bF V aG=>
   refine lK h λ a3 e=>FG ee λ O k m al=>?_
   have X:=I.K bL.K
   refine set_plain X al.inst (wL (bL.cls V al.i5)).2.2.2.2 (ab8 (s:={s with toks:=s.toks+1}) (G:=G) (aG:=aG) (O:=O) (z:=k) (m:=m) bL X ⟨al.inst,al.i5,al.fld,al.at2,al.size,al.ns,al.wX⟩ (bL.fld V f a3.1).2 (a' al.size (a' (h4 a3.2) (aE rfl))) λ H jJ qr hs j6 uL XW XX=>?_)
   have Yb:p.1≠p.2:=λ q=>nomatch an (λ o:Y fP=>o.map (·.cls)) ((q▸al.inst.at_).symm.trans al.at2)
   exact xT I bM (λ b o e z=>(hs.2 b λ q=>z (.inr q)).trans e) (λ d8=>abR bL al a3.1 qC d8 ((hs.2 _ Yb).trans al.inst.at_) j6 uL XW XX) (e.symm▸bz)
  |_=>exact nomatch h
 |_=>exact nomatch h
theorem Bf(I:Inv c nm G n s)(bM:(G:B (a8×a8))[z]? =some p)(hs:tY p.1 s.heap H):cu (λ b=>b=p.1∨b=p.2) s.heap H∧fW s.heap H:=by
 have ny:cu (λ b=>b=p.1∨b=p.2) s.heap H:=λ b o e z=>(hs.2 b λ q=>z (.inl q)).trans e
 exact⟨ny,I.nc (ny.mono λ b az=>az.elim (λ e=>e▸(lG bM).1) λ e=>e▸(lG bM).2)⟩
theorem l7.find(k:gT){O:B (gT×D)}(h:l7 c R O xs):gb (λ a (v:a8×au)=>R a v.2) (O.lookup k) (atKey xs k):=have:=Au;fp.find (λ _ _=>id) k h
theorem aeT{O:B (gT×D)}{k:gT}{b:a8}(x:R a v)(h:l7 c R O xs):l7 c R (c7 O k a) (storedH xs k b v):=by
 have:=Au
 unfold c7 storedH
 rw[(h.find k).xh]
 exact Ao (P:=λ a b=>l7 c R a b) (fp.upd (f:=id) (λ _ _=>id) k (w:=λ b=>(b.1,v)) (λ _=>x) h) (fp.snoc (f:=id) (R:=λ a (v:a8×au)=>R a v.2) x h)
theorem l7.length{O:B (gT×D)}(h:l7 c R O xs):xs.length=O.length:=fp.length h
theorem afg(l:B D):∀{is:B am} {ar:B au},vJ l=some is→cs c G s.heap l ar→ItemsAre (gs c.prog c.w) is ar:=by
 induction l with
 |nil=>exact λ h x=>(show _=[]from x)▸ej h▸.nil
 |cons a r aZ=>
  refine λ h x=>x.elim λ v x=>x.elim λ f6 x=>?_
  cases a with
  |ii i=>exact(l3.mp h).elim λ is e=>x.2.1.elim λ t q=>x.1▸e.2▸q▸.cons (p4 _ _ _ _) (aZ e.1 x.2.2)
  |_=>exact nomatch h
theorem afh(l:B D):∀{k:gT} {ar:B au},vK l=some k→cs c G s.heap l ar→l4 c.prog c.w s.heap k ar:=by
 induction l with
 |nil=>exact λ h x=>ej h▸x
 |cons a r aZ=>
  refine λ h x=>x.elim λ v x=>x.elim λ f6 x=>?_
  cases a with
  |ii i=>exact(l3.mp h).elim λ is e=>e.2▸⟨v,f6,x.1,x.2.1,aZ e.1 x.2.2⟩
  |tup l=>exact(yN.mp h).elim λ is g=>(l3.mp g.2).elim λ k e=>e.2▸⟨v,f6,x.1,tp x.2.1 λ a items t a4 _=>⟨a,rfl,t.imp λ o t=>⟨items,t.2.2.imp λ z d=>⟨t.1,t.2.1,d,afg l g.1 a4⟩⟩⟩,aZ e.1 x.2.2⟩
  |_=>exact nomatch h
@[elab_as_elim] theorem ML{ak:au→Prop}{k:gT}(h:Bu a=some k)(x:bA c G s.heap a v)(g:∀b,lX c.prog c.w s.heap k b→ak (.ref b)):ak v:=by
 cases a with
 |tup l=>exact tp x λ a items bD a4 _=>g a ⟨items,bD,afh l h a4⟩
 |_=>exact nomatch h
theorem Bq{m:C}(h:z=m)(q:m<room):z≤sizeLine:=GC h (h4 q)
theorem OU{k:D}{Q:St→Prop}(dS:A.units+200<kY)(h:Gn n z k a=some J)(F':bA c G s.heap (.ref z) v)(hW:bA c G s.heap k u)(lP:bA c G s.heap a w)(bz:Q J)(I:Inv c nm G n s):
  bg (bc c.prog c.w) A (setItem v u w) (vX c nm G s Q) ab s:=by
 refine lg F' I λ p o bM be ee=>?_
 have h:rL n z k a (some o)=some J:=be▸(show rL n z k a n[z]? =some J from h)
 have m:∀{H},fW s.heap H→∀a v,bA c G s.heap a v→bA c G H a v:=λ d8 a v=>bA.keep (.refl G) d8
 cases o with
 |ds O=>exact ee.2.elim λ cZ d=>O5 h hW λ ss t h=>lK h λ a3 e=>Sj (knd:=strKind c.prog c.w) (k:=st ss) (I7 c.prog c.w _ _) d.1 (λ H gw hs=>xT I bM (Bf I bM hs).1 (λ d8=>(show gC c nm G H p (.ds (c7 O ss a))from⟨ee.1,_,gw,fp.mono (m d8) (fp.put (λ _ _=>yc) ss lP d.2)⟩)) (e.symm▸bz)) (Bq d.2.length a3)
 |cq O=>exact ee.2.elim λ cZ d=>pj h hW λ i t h=>lK h λ a3 e=>Sj (knd:=gs c.prog c.w) (k:=i) (p4 _ _ _ _) d.1 (λ H gw hs=>xT I bM (Bf I bM hs).1 (λ d8=>(show gC c nm G H p (.cq (c7 O i a))from⟨ee.1,_,gw,fp.mono (m d8) (fp.put (f:=id) (λ _ _=>id) i lP d.2)⟩)) (e.symm▸bz)) (Bq d.2.length a3)
 |h9 O=>exact ee.2.elim λ xs d=>(yN.mp h).elim λ d9 g=>lK g.2 λ a3 e=>ML g.1 hW λ b az=>wpAny_setItem_heap (knd:=Ar c.prog c.w) (k:=d9) (show A.units+1+8<kY from cn (fA (aE rfl:9≤200) _) dS) az d.1 (λ H gw hs=>xT I bM (Bf I bM hs).1 (λ d8=>(show gC c nm G H p (.h9 (c7 O d9 a))from⟨ee.1,_,gw,l7.mono (m d8) (aeT lP d.2)⟩)) (e.symm▸bz)) (Bq d.2.length a3)
 |_=>exact nomatch h
theorem WW{k d:D}(bL:jB c nm)(dS:A.units+200<kY)(h:uD n a k d=some r)(lP:bA c G s.heap a v)(hW:bA c G s.heap k u)(F4:bA c G s.heap d w)(bz:Q r n)(I:Inv c nm G n s):
  bg (bc c.prog c.w) A (call (.builtin "dict.get") [v,u,w]) (Back c nm G s Q) ab s:=by
 have hM:∀{b:a8} {i:am} {t:iY} {f:am→Y au},(b==kZ)=false→s.heap.MapOf (gs c.prog c.w) b f→bA c G s.heap r ((f i).getD w)→bg (bc c.prog c.w) A (call (.builtin "dict.get") [.ref b,.int i t,w]) (Back c nm G s Q) ab s:=λ hs hm a4=>
  call_meetsIn Iz hm.typeIs RL (RJ _ _ _) (meets_dict_get_default (gs c.prog c.w) _ (p4 _ _ _ _) hs w) ⟨_,hm,Back.here bz a4 I _⟩
 cases a with
 |cd O=>exact Dp lP I λ a f hs hm hl=>pj h hW λ i t h=>hM hs hm (ej h▸gb.getD (gb.map (R:=bA c G s.heap) (hl i)) F4)
 |ref z=>
  refine lg lP I λ p o bM be ee=>?_
  have h:w0 k d (some o)=some r:=be▸(show w0 k d n[z]? =some r from h)
  have ns:=I.NF bL (lG bM).1
  cases o with
  |cq O=>exact ee.2.elim λ cZ g=>pj h hW λ i t h=>hM ns g.1.mapOf (ej h▸gb.getD (fp.find (λ _ _=>id) i g.2) F4)
  |h9 O=>exact ee.2.elim λ xs g=>(yN.mp h).elim λ d9 q=>ML q.1 hW λ b az=>call_meetsIn Iz g.1.typeIs RL (RJ _ _ _) (meetsH_dict_get_default (Ar c.prog c.w) p.1 b ns w) ⟨cn (fA (aE rfl:9≤200) A.units) dS,d9,xs,az,g.1,Back.here bz (ej q.2▸gb.getD (gb.mapR (g:=λ v:a8×au=>v.2) (g.2.find d9)) F4) I _⟩
  |_=>exact nomatch h
 |_=>exact nomatch h
theorem S2{xs:B D}(h:n[z]? =some (.li xs))(a3:xs.length<room)(F':bA c G s.heap (.ref z) v)(lP:bA c G s.heap a u)(bz:Q .nn (n.set z (.li (xs++[a]))))(I:Inv c nm G n s):
  bg (bc c.prog c.w) A (call (.builtin "list.append") [v,u]) (Back c nm G s Q) ab s:=by
 refine lg F' I λ p o bM be ee=>?_
 have ee:gC c nm G s.heap p (.li xs):=ej (be.symm.trans h)▸ee
 refine po ee λ items k aw _ a4 hs=>append_at aw (λ H z' j6=>?_) (Bq hs a3)
 have b:vX c nm G s (λ J=>Q .nn J) () {s with heap:=H,toks:=s.toks}:=xT I bM (Bf I bM z').1 (λ d8=>(show gC c nm G H p (.li (xs++[a]))from⟨ee.1,fg▸a3,_,k+1,j6,Hs.symm▸cs.append (a4.keep (.refl G) d8) (cs.cons (lP.keep (.refl G) d8) cs.nil)⟩)) bz
 exact b.elim λ bv b=>b.elim λ J b=>⟨.nn,bv,J,b.1,rfl,b.2⟩
end
end Mine
end
section
open PySem PySem.W PyProof.Rows
namespace Mine
variable{h:dD}{a:D}{v:au}{z:C}{ar:B au}{xs:B D}
section
variable{c:cV}{nm:B (B C)}{G:cA}{n:St}{s:a2}{A:eB}{ab:au→a2→Prop}
theorem MH{α:Type}{cmp:C→C→(av→a2→Prop)→a2→Prop}{f:C→C→av}{z:C}{Q:α→a2→Prop}(hc:∀i j V,i<z→j<z→V (f i j) s→cmp i j V s):
  ∀{t:IW α} {p:α},oc f z t=some p→Q p s→t.kasWp cmp Q s
 | .ret a,p,h,q=>by
  simp only[oc]at h
  cases h;exact q
 | .ask i j k,p,h,q=>by
  simp only[oc]at h
  split at h
  ·rename_i az
   exact hc i j _ az.1 az.2 (MH hc h q)
  ·cases h
noncomputable def r'(h:dD)(v:au)(a b:am):Prop:=∃x t u,v= .ref x∧h.IsTuple x #[.int a t,.int b u]
theorem Y7(bO:m' a=true)(x:bA c G h a v):∃m z,a= .tup [.ii m,.ii z]∧r' h v m z:=by
 unfold m' at bO
 split at bO
 ·rename_i m z
  simp only[bA,cs]at x
  obtain⟨y,items,rfl,bD,PT,fU,aw,⟨t,rfl⟩,PU,gP,rfl,⟨u,rfl⟩,rfl⟩:=x
  refine⟨m,z,rfl,y,t,u,rfl,?_⟩
  have:items= #[.int m t,.int z u]:=by
   apply BU.mp
   rw[aw]
  rw[←this];exact bD
 ·cases bO
theorem acn{u:au}{a b x y:am}{Q:av→a2→Prop}(p:r' s.heap v a b)(q:r' s.heap u x y)(h:Q (decide (a<x)||(decide (a=x)&&decide (b<y))) s):
  bg (bc c.prog c.w) A (keyLt' (tuples' true) v u) Q ab s:=by
 obtain⟨i,t,cB,rfl,o,be,_,z,a1⟩:=p
 obtain⟨j,w,vQ,rfl,c3,lJ,_,qr,gw⟩:=q
 refine kat_lt be a1 lJ gw ?_
 show KatLex _ _ _ _ _ _ [(.int a t,.int x w),(.int b cB,.int y vQ)] 0 s
 refine kat_cons (Sc ?_)
 by_cases e:a=x
 ·subst e
  rw[lE]
  refine kat_yes (kat_cons (Sc ?_))
  simp only[Int.lt_irrefl,decide_false,Qq,decide_true,Bool.true_and]at h
  by_cases e:b=y
  ·subst e
   rw[lE]
   refine kat_yes (kat_nil ?_)
   simpa using h
  ·rw[ma.mpr e]
   refine kat_no (kat_one _ _ (lt_int ?_))
   exact h
 ·rw[ma.mpr e]
  refine kat_no ?_
  simp only[j3 e,Bool.false_and,Bool.or_false]at h
  exact oneLt_int h
theorem aef{ak:Model}(rc:ak=bc c.prog c.w){a:a8}{cp:B (am×am)}{p:gS C}{P:Fin→a2→Prop}(be:s.heap.get? a=some (iX "list" ar.toArray z))(Lu:ar.length<64)
  (bM:∀(i:C),i<ar.length→r' s.heap (ar.getD i .none) (cp.getD i (0,0)).1 (cp.getD i (0,0)).2)
  (a4:ar.length<2∧p=(ck ar.length).toArray∨oc (λ i j=>let x:=cp.getD i (0,0);let y:=cp.getD j (0,0);decide (x.1<y.1)||(decide (x.1=y.1)&&decide (x.2<y.2))) ar.length (CG ar.length)=some p∧2≤ar.length)
  (h:∀H k,(∀b o,b≠a→s.heap.get? b=some o→H.get? b=some o)→H.get? a=some (iX "list" (p.toList.map λ i=>ar.getD i .none).toArray k)→P (.done (.ret .none)) {s with heap:=H}):
  bg ak A (Builtin.«list.sort» ⟨[.ref a],[]⟩) P ab s:=by
 subst rc
 have bO:a<s.heap.objs.size:=mU be
 have eE:=IE s.heap a (mW λ _=>(#[]:gS au))
 obtain⟨aw,w5⟩:∃aw,(s.heap.update a (mW λ _=>(#[]:gS au))).get? a=some (iX "list" #[] aw):=⟨_,RF be λ _=>#[]⟩
 rw[list_sort_plain]
 refine cK (listItems_at be rfl ?_)
 refine cK (If be rfl ?_ (by rw[yJ,lz];omega) (fs _))
 refine cK (Ig w5 rfl ?_)
 refine cK (wpAny_newTuple ?_ (by show ar.length≤_;rw[lz];omega))
 refine cK (Je ?_ (fs _))
 refine sf ?_
 have keep:∀b o,b≠a→s.heap.get? b=some o→(((s.heap.update a (mW λ _=>(#[]:gS au))).push (iX "tuple" ar.toArray 0)).push (iX "list" #[] 0)).get? b=some o:=λ b o az e=>
  lu _ (lu _ ((eE.2 b az).trans e))
 have uc:(((s.heap.update a (mW λ _=>(#[]:gS au))).push (iX "tuple" ar.toArray 0)).push (iX "list" #[] 0)).get? a=some (iX "list" #[] aw):=lu _ (lu _ w5)
 show bg (bc c.prog c.w) A _ P ab {s with heap:=((s.heap.update a (mW λ _=>(#[]:gS au))).push (iX "tuple" ar.toArray 0)).push (iX "list" #[] 0)}
 dsimp only
 generalize((s.heap.update a (mW λ _=>(#[]:gS au))).push (iX "tuple" ar.toArray 0)).push (iX "list" #[] 0)=ax at keep uc
 have hM:∀out:gS au,out=(p.toList.map λ i=>ar.getD i .none).toArray→P (.done (.ret .none)) {s with heap:=ax.update a (mW λ _=>out)}:=λ out uq=>by
  have jU:=IE ax a (mW λ _=>out)
  obtain⟨cD,Xz⟩:∃cD,(ax.update a (mW λ _=>out)).get? a=some (iX "list" out cD):=⟨_,RF uc λ _=>out⟩
  exact h _ cD (λ b o az e=>(jU.2 b az).trans (keep b o az e)) (by rw[←uq];exact Xz)
 have FR:∀(i:C),i<ar.length→r' ax (ar.getD i .none) (cp.getD i (0,0)).1 (cp.getD i (0,0)).2:=λ i ay=>by
  obtain⟨x,t,u,e,o,lJ,hc,a1⟩:=bM i ay
  refine⟨x,t,u,e,o,keep x o (λ q=>?_) lJ,hc,a1⟩
  rw[q,be]at lJ
  cases lJ
  exact absurd (show CE "list"=CE "tuple" from hc) (by decide)
 rcases a4 with⟨aH,hpe⟩| ⟨sL,aH⟩
 ·have w4:ar.toArray.size<2:=by rw[yJ];omega
  rw[if_pos w4,if_pos w4]
  refine cK (eG ?_)
  rw[StateT.run_pure]
  refine cK (eG ?_)
  dsimp only
  refine cK (Ig uc rfl ?_)
  refine cK (If uc rfl ?_ (hsz2:=by rw[Array.size_map];show(pairsOf ar).size≤_;rw[pairsOf_size,lz];omega))
  simp only[J1,Hu,EA]
  refine eG (hM _ ?_)
  refine kat_snds rfl (st:=SortSt.mk' general' (ar.toArray.zip ar.toArray) #[] 7 none) ?_
  have e:=kas_range (ar.toArray.zip ar.toArray)
  rw[show(ar.toArray.zip ar.toArray).size=ar.length by simp]at e
  rw[hpe,e]
 ·have w4:¬ar.toArray.size<2:=by rw[yJ];omega
  rw[if_neg w4,if_neg w4]
  have Wu:∃aG,KatTups ax ar aG∧0<aG.length∧∀v∈aG,∃i t,v= .int i t:=by
   have:∀(df:B au),(∀u∈df,∃i j,r' ax u i j)→∃aG,KatTups ax df aG∧aG.length=df.length∧∀v∈aG,∃i t,v= .int i t:=by
    intro df
    induction df with
    |nil=>intro _;exact⟨[],.nil,rfl,λ _ h=>by cases h⟩
    |cons u df aZ=>
     intro dS
     obtain⟨aG,er,eN,hr⟩:=aZ λ v cP=>dS v (.tail _ cP)
     obtain⟨i,j,x,t,GR,rfl,o,lJ,hc,qr,a1⟩:=dS u (.head _)
     refine⟨.int i t::aG,KatTups.cons lJ hc a1 rfl er,by simp[eN],λ v cP=>?_⟩
     rcases kh.mp cP with rfl|cP
     ·exact⟨_,_,rfl⟩
     ·exact hr v cP
   obtain⟨aG,er,eN,hr⟩:=this ar λ u dS=>by
    obtain⟨i,ay,e⟩:=H3.mp dS
    have:=FR i ay
    rw[show ar.getD i .none=u by simp[ay,e]]at this
    exact⟨_,_,this⟩
   exact⟨aG,er,by omega,hr⟩
  obtain⟨aG,er,eN,hr⟩:=Wu
  refine cK (kat_kind (s:={s with heap:=ax}) (T:=.type "int") er eN (λ v cP=>?_) (by decide) ?_)
  ·obtain⟨i,t,rfl⟩:=hr v cP
   exact .now
  rw[show(CE "int" != CE "tuple")=true by decide]
  refine cK (fa (kat_run (ks:=ar) (Q:=λ Bk a9=>∃f3:gS C,f3.size=ar.length∧arrOf Bk=f3.map (kas_item (ar.toArray.zip ar.toArray))∧failedOf Bk=none∧(f3=p∧a9={s with heap:=ax}))
   rfl aH Lu (λ f3 Bk a9 hf iq k2 nS=>⟨f3,hf,iq,k2,nS⟩) (MH (s:={s with heap:=ax}) (λ i j V ay bt bV=>?_) sL ⟨rfl,rfl⟩)) ?_ λ _ _ e=>e)
  ·exact acn (s:={s with heap:=ax}) (FR i ay) (FR j bt) bV
  rintro⟨⟨⟩,Bk⟩ a9 ⟨f3,rg,Xs,cl,rfl,rfl⟩
  dsimp only
  have LQ:=kat_snds rfl Xs
  refine cK (Ig uc rfl ?_)
  refine cK (If uc rfl ?_ (fs _) ?_)
  ·rw[cl]
   simp only[J1,Hu,EA]
   exact eG (hM _ LQ)
  ·rw[LQ,yJ,cG,yt,rg,lz];omega
noncomputable def mk:D→am×am
 | .tup [.ii a,.ii b]=>(a,b)
 |_=>(0,0)
theorem pairs_at(aA:xs.all m'=true)(r:cs c G h xs ar):∀(i:C),i<ar.length→r' h (ar.getD i .none) ((xs.map mk).getD i (0,0)).1 ((xs.map mk).getD i (0,0)).2:=by
 intro i ay
 have h':i<xs.length:=by rw[←r.length];exact ay
 obtain⟨v,aw,x⟩:=r.get (h2 h')
 obtain⟨m,z,aB,acm⟩:=Y7 (g'.mp aA _ (yF h')) x
 have ax:ar.getD i .none=v:=by rw[jy,aw];rfl
 have aH:(xs.map mk).getD i (0,0)=(m,z):=by rw[jy,qS,h2 h',aB];rfl
 rw[ax,aH];exact acm
theorem cs.getD(r:cs c G h xs ar)(i:C):bA c G h (xs.getD i .nn) (ar.getD i .none):=by
 rw[jy,jy]
 cases e:xs[i]? with
 |none=>rw[r.none e];simp[bA]
 |some a=>obtain⟨v,aw,x⟩:=r.get e;rw[aw];exact x
theorem cs.picks{h:dD}{xs:B D}{ar:B au}(r:cs c G h xs ar):∀p:B C,cs c G h (p.map λ i=>xs.getD i .nn) (p.map λ i=>ar.getD i .none)
 | []=>cs.nil
 |i::p=>cs.cons (r.getD i) (cs.picks r p)
theorem aao{b:D}(bO:m' a=true)(az:m' b=true):E2 a b=(decide ((mk a).1< (mk b).1)||(decide ((mk a).1=(mk b).1)&&decide ((mk a).2< (mk b).2))):=by
 unfold m' at bO az
 split at bO
 ·split at az
  ·rfl
  ·cases az
 ·cases bO
theorem MG{α:Type}{f g:C→C→av}{z:C}(h:∀i j,i<z→j<z→f i j=g i j):∀t:IW α,oc f z t=oc g z t
 | .ret a=>rfl
 | .ask i j k=>by
  simp only[oc]
  split
  ·rename_i q;rw[h i j q.1 q.2];exact MG h _
  ·rfl
theorem Lh(aA:xs.all m'=true){i:C}(ay:i<xs.length):m' (xs.getD i .nn)=true∧(xs.map mk).getD i (0,0)=mk (xs.getD i .nn):=by
 rw[jy,jy,qS,h2 ay]
 exact⟨g'.mp aA _ (yF ay),rfl⟩
theorem ad5:∀{xs:B D},xs.length<2→xs=((ck xs.length).toArray.toList.map λ i=>xs.getD i .nn)
 | [],_=>rfl
 | [_],_=>rfl
 |_::_::_,h=>absurd (Rq (Rq h)) (yM _)
theorem ael{bf:B D}{Q:dC}(h:n[z]? =some (.li xs))(Lu:xs.length<64)(aA:xs.all m'=true)(bI:pJ xs=some bf)(uO:bf.length≤room)(x:bA c G s.heap (.ref z) v)(bz:Q (.ref n.length) (n++[.li bf]))(I:Inv c nm G n s):
  bg (bc c.prog c.w) A (call (.builtin "sorted") [v]) (Back c nm G s Q) ab s:=by
 obtain⟨q,du,rfl⟩:=x
 obtain⟨a3,_,items,d9,aw,hl,a4,hs⟩:=rq I du h
 have i2:=a4.length
 have b7:s.heap.IsList q.1 items.toList.toArray:=by rw[Array.toArray_toList];exact hl
 generalize items.toList=ar at a4 i2 b7
 clear hl hs aw
 have sL:∃p:gS C,bf=(p.toList.map λ i=>xs.getD i .nn)∧(ar.length<2∧p=(ck ar.length).toArray∨
   oc (λ i j=>let x:=(xs.map mk).getD i (0,0);let y:=(xs.map mk).getD j (0,0);decide (x.1<y.1)||(decide (x.1=y.1)&&decide (x.2<y.2))) ar.length (CG ar.length)=some p∧2≤ar.length):=by
  unfold pJ at bI
  split at bI
  ·rename_i aH
   cases bI
   refine⟨(ck ar.length).toArray,?_,.inl ⟨by omega,rfl⟩⟩
   rw[i2]
   exact ad5 aH
  ·rename_i aH
   obtain⟨p,bM,rfl⟩:=l3.mp bI
   refine⟨p,rfl,.inr ⟨?_,by omega⟩⟩
   rw[i2,←bM]
   refine MG (λ i j ay bt=>?_) _
   obtain⟨hf,iq⟩:=Lh aA ay
   obtain⟨gf,i0⟩:=Lh aA bt
   rw[aao hf gf]
   dsimp only
   rw[iq,i0]
 obtain⟨p,Yi,sL⟩:=sL
 refine Calls.call_function_entry kind_sorted plain_sorted entry_sorted (args_sorted1 _) ?_
 unfold Builtin.«sorted»
 refine cK (m:=checkCount "sorted" 1 1 _) (eG ?_)
 refine cK (collect_list b7 ?_ (by rw[lz];omega))
 refine cK (Je ?_ (by rw[lz];omega))
 have uN:((s.heap.push (iX "list" #[] 0)).update s.heap.objs.size (mW (· ++ar.toArray))).objs.size=s.heap.objs.size+1:=by
  rw[Heap.size_update,size_push']
 have keep:∀b o,s.heap.get? b=some o→((s.heap.push (iX "list" #[] 0)).update s.heap.objs.size (mW (· ++ar.toArray))).get? b=some o:=λ b o q=>by
  have n7:b<s.heap.objs.size:=mU q
  rw[Heap.get?_update_ne _ _ _ _ (mS n7),Heap.get?_push_ne _ _ _ (mS n7)]
  exact q
 show bg _ _ _ _ _ {s with heap:=((s.heap.push (iX "list" #[] 0)).update s.heap.objs.size (mW (· ++ar.toArray))).push (iX "list" ar.toArray 0)}
 generalize(s.heap.push (iX "list" #[] 0)).update s.heap.objs.size (mW (· ++ar.toArray))=ax at keep uN
 have LP:(ax.push (iX "list" ar.toArray 0)).get? ax.objs.size=some (iX "list" ar.toArray 0):=nK _ rfl
 refine cK (sf (Sb slot_list_sort ⟨_,LP,rfl⟩ entry_list_sort
  (aef (s:={s with heap:=ax.push (iX "list" ar.toArray 0)}) rfl LP (by omega) (pairs_at aA (a4.keep (.refl G) λ b o e _=>lu _ (keep b o e))) sL λ H k hk j6=>⟨_,rfl,?_⟩) (args_list_sort _)))
 refine eG ⟨_,rfl,?_⟩
 have ht:cu (λ _=>False) s.heap H:=λ b o e _=>hk b o (λ q=>by
  have:=mU e
  rw[q,uN]at this
  exact Rs (h5 _) this) (lu _ (keep b o e))
 have cl:s.heap.get? ax.objs.size=none:=n1 keep
 have uM:cs c (G++[(ax.objs.size,ax.objs.size)]) H bf (p.toList.map λ i=>ar.getD i .none):=by
  rw[Yi];exact(a4.picks p.toList).keep (ha.snoc _ _) λ b o e _=>ht b o e id
 have be:gC c nm (G++[(ax.objs.size,ax.objs.size)]) H (ax.objs.size,ax.objs.size) (.li bf):=⟨rfl,uO,_,k,j6,by simpa using uM⟩
 refine⟨.ref n.length,G++[(ax.objs.size,ax.objs.size)],n++[.li bf],bz,?_,I.alloc (t:=s.toks) ht (I.qm keep) (I.qm keep) cl cl be,.alloc ht cl cl⟩
 exact⟨(ax.objs.size,ax.objs.size),by rw[←I.len];simp,rfl⟩
end
end Mine
end
section
open PySem PySem.W PyProof.Rows
namespace Mine
variable{z:am}{v u:au}{Q:dC}
section
variable{c:cV}{nm:B (B C)}{G:cA}{n:St}{s:a2}{A:eB}{ab:au→a2→Prop}
theorem adi{m:C}{a:D}(h:n[m]? =some (.li [a]))(ec:0≤z)(ax:z<1000)(x:bA c G s.heap (.ref m) v)(y:bA c G s.heap (.ii z) u)
  (bz:Q (.ref n.length) (n++[.li (dw z.toNat a)]))(I:Inv c nm G n s):bg (bc c.prog c.w) A (I1 .Mult v u) (Back c nm G s Q) ab s:=by
 obtain⟨p,bM,rfl⟩:=x
 obtain⟨t,rfl⟩:=y
 obtain⟨a3,_,items,d9,aw,hl,a4,hs⟩:=rq I bM h
 have uM:=a4
 obtain⟨w,r,aB,cP,rfl⟩:=uM
 have un:items= #[w]:=by apply BU.mp;rw[aB]
 subst un
 refine Sa (T:="list") (U:="int") (by decide) ⟨_,aw,rfl⟩ (λ a9=>CQ a9 z t) noFill_list_mul RN CB repeat_list RO.lookup
  (CJ CB (CQ s z t) RM (RK _ _) (int___rmul___int_list z t p.1 #[w] d9)
   ⟨aw,rfl,⟨_,aw,rfl⟩,CJ PySem.F.slot_list_mul ⟨_,aw,rfl⟩ PySem.F.entry_list_mul (PySem.F.args_list_mul_2 _ _)
    (AutoListH.list___mul___list_int_3 p.1 #[w] d9 z t (by simp[Builtin.List.listFitsIndex];omega) (by simp;omega) (by simp[Builtin.List.listTooLong,lz];omega))
    ⟨aw,?_⟩⟩)
 have e:HS (λ aV aQ=>aV++aQ) #[] (dw (if(#[w]:gS au).isEmpty=true then 0 else z.toNat) #[w])=(dw z.toNat w).toArray:=by
  have:∀(k:C) (acc:gS au),HS (λ aV aQ=>aV++aQ) acc (dw k #[w])=acc++(dw k w).toArray:=by
   intro k
   induction k with
   |zero=>intro acc;simp
   |succ k aZ=>
    intro acc
    rw[Q',List.foldl_cons,aZ,Q']
    apply BU.mp
    simp
  rw[if_neg (by simp),this]
  simp
 rw[e]
 exact AJ (k:=0) (H:=s.heap) (t:=s.toks) I (.refl _ _) (cs.replicate cP z.toNat) (by rw[Cb,x1];omega) bz (n1 λ _ _ e=>e)
theorem abw:fillsNumberSlot (.type "tuple") "mul"=pure false:=
 PySem.fillsNumberSlot_seq (id:="tuple.__mul__") (r:=some (.builtin "tuple.__rmul__")) IB.lookup (by decide+kernel) RQ.lookup (by decide+kernel)
theorem adk:seqRepeat? (.type "tuple")=pure (some (.builtin "tuple.__mul__")):=by
 unfold seqRepeat?
 rw[R7 (T:="tuple") (name:="__mul__") (id:="tuple.__mul__") IB.lookup (by decide+kernel),R7 (T:="tuple") (name:="__rmul__") (id:="tuple.__rmul__") RQ.lookup (by decide+kernel)]
 rfl
theorem YZ(a:am)(t:iY)(l:a8)(items:gS au)(z:C)(d:Y a8)(dQ:gS (Y au)):
  Meets (Builtin.«int.__rmul__» ⟨[.int a t,.ref l],[]⟩) (λ _ R s=>s.heap.get? l=some {cls:=.type "tuple",dict:=d,data:=.seq items z,slots:=dQ}∧R (.ok (.ret Value.notImplemented)) s):=
 .of_wp λ prog w A R s h=>by obtain⟨bM,g,d,oy,os⟩:=s;obtain⟨hl,h⟩:=h;wp_walk;exact⟨_,rfl,h⟩
theorem afs(l:a8)(u:iY)(items:gS au)(z:C)(d:Y a8)(dQ:gS (Y au)):
  Meets (Builtin.«tuple.__mul__» ⟨[.ref l,.int 1 u],[]⟩) (λ _ R s=>s.heap.get? l=some {cls:=.type "tuple",dict:=d,data:=.seq items z,slots:=dQ}∧R (.ok (.ret (.ref l))) s):=
 .of_wp λ prog w A R s h=>by obtain⟨bM,g,d,oy,os⟩:=s;obtain⟨hl,h⟩:=h;wp_walk;exact⟨_,rfl,h⟩
theorem adj{l:B D}(x:bA c G s.heap (.tup l) v)(y:bA c G s.heap (.ii 1) u)(bz:Q (.tup l) n)(I:Inv c nm G n s):bg (bc c.prog c.w) A (I1 .Mult v u) (Back c nm G s Q) ab s:=by
 have ht:=x
 obtain⟨a,items,rfl,⟨o,be,hc,z,a1⟩,a4⟩:=x
 obtain⟨t,rfl⟩:=y
 obtain⟨cls,d,data,dQ⟩:=o
 simp only at hc a1
 subst hc a1
 exact Sa (T:="tuple") (U:="int") (by decide) ⟨_,be,rfl⟩ (λ a9=>CQ a9 1 t) abw RN CB adk RO.lookup
  (CJ CB (CQ s 1 t) RM (RK _ _) (YZ 1 t a items z d dQ)
   ⟨be,rfl,⟨_,be,rfl⟩,CJ IB ⟨_,be,rfl⟩ PySem.F.entry_tuple_mul (PySem.F.args_tuple_mul_2 _ _) (afs a t items z d dQ) ⟨be,Back.now bz ht I⟩⟩)
theorem adp(y:bA c G s.heap (.ii z) u)(bz:Q (.ew 0 z) n)(I:Inv c nm G n s):bg (bc c.prog c.w) A (call (.type "range") [u]) (Back c nm G s Q) ab s:=by
 obtain⟨t,rfl⟩:=y
 refine call_range_1 (Back.more bz I (cu.push _ _) ?_)
 exact⟨_,_,_,_,rfl,RS ..⟩
theorem adr{m:am}(x:bA c G s.heap (.ii m) v)(y:bA c G s.heap (.ii z) u)(bz:Q (.ew m z) n)(I:Inv c nm G n s):bg (bc c.prog c.w) A (call (.type "range") [v,u]) (Back c nm G s Q) ab s:=by
 obtain⟨t,rfl⟩:=x
 obtain⟨cB,rfl⟩:=y
 refine call_range_2 (Back.more bz I (cu.push _ _) ?_)
 exact⟨_,_,_,_,rfl,RS ..⟩
theorem aeX{i:am}{d:B C}(a1:zD i=some d)(x:bA c G s.heap (.ii i) v)(bz:Q (.ss d) n)(I:Inv c nm G n s):bg (bc c.prog c.w) A (call (.type "str") [v]) (Back c nm G s Q) ab s:=by
 obtain⟨t,rfl⟩:=x
 unfold zD at a1
 split at a1
 ·rename_i az
  cases a1
  have iy:(IS (toString i))=st [48+i.toNat]∧i.natAbs.log2<1920:=by
   obtain⟨k,rfl⟩:=B1 az.1
   have hk:k<10:=by omega
   revert hk bz az
   intro _ az hk
   match k,hk with
   |0,_|1,_|2,_|3,_|4,_|5,_|6,_|7,_|8,_|9,_=>exact⟨by decide+kernel,by decide+kernel⟩
  refine PySem.P.str_of_int iy.2 ?_
  show Back c nm G s Q (.str (IS (toString i)) s.toks) _
  rw[iy.1]
  exact Back.here bz (by first|exact⟨_,rfl⟩|exact rfl|simp[bA]) I _
 ·cases a1
end
end Mine
end
section
open PySem PySem.W PyProof.Rows
namespace Mine
variable{l:B D}{k:C}{a:D}{Q:Y au→a2→Prop}
section
variable{c:cV}{nm:B (B C)}{G bv:cA}{n:St}{s:a2}{A:eB}{ab:au→a2→Prop}{h H:dD}
noncomputable def ln(c:cV)(G:cA)(h:dD)(bb:a8)(l:B D)(k:C):D→Prop
 | .tup _=>∃t items,h.IsTuple t items∧cs c G h l items.toList∧h.IsTupleIter bb t k
 | .ss s=>∃t,l=s.map (λ x=>.ss [x])∧h.IsStrIter bb "str_ascii_iterator" (st s) t k
 | .ew lo ay=>l=upTo lo (ay-lo).toNat∧IsRangeIter h bb (lo+(k:am)) (((ay-lo).toNat:am)- (k:am)) 1
 | .ref z=>∃p,(G:B (a8×a8))[z]? =some p∧h.IsListIter bb p.1 k
 |_=>False
theorem ln.live{bb:a8}(T:ln c G h bb l k a):∃o,h.get? bb=some o∧¬ij o:=by
 cases a with
 |tup _=>
  obtain⟨t,items,_,_,o,be,hc,a1⟩:=T
  exact⟨o,be,by rintro(⟨q,_⟩| ⟨q,_⟩)<;>rw[hc]at q<;>exact absurd q (by decide)⟩
 |ss _=>
  obtain⟨t,_,o,be,hc,a1⟩:=T
  exact⟨o,be,by rintro(⟨q,_⟩| ⟨q,_⟩)<;>rw[hc]at q<;>exact absurd q (by decide)⟩
 |ew _ _=>
  obtain⟨_,be⟩:=T
  exact⟨_,be,by rintro(⟨q,_⟩| ⟨q,_⟩)<;>exact absurd q (by simp)⟩
 |ref _=>
  obtain⟨p,_,o,be,hc,a1⟩:=T
  exact⟨o,be,by rintro(⟨q,_⟩| ⟨q,_⟩)<;>rw[hc]at q<;>exact absurd q (by decide)⟩
 |_=>exact T.elim
theorem ln.keep{bb:a8}(T:ln c G h bb l k a)(lo:ha G bv)(d8:fW h H)(e:∀o,h.get? bb=some o→H.get? bb=some o):ln c bv H bb l k a:=by
 cases a with
 |tup _=>
  obtain⟨t,items,bD,a4,o,be,hc,a1⟩:=T
  exact⟨t,items,An d8 bD,a4.keep lo d8,o,e _ be,hc,a1⟩
 |ss _=>
  obtain⟨t,hl,o,be,hc⟩:=T
  exact⟨t,hl,o,e _ be,hc⟩
 |ew _ _=>
  obtain⟨hl,be⟩:=T
  exact⟨hl,e _ be⟩
 |ref _=>
  obtain⟨p,bM,o,be,hc⟩:=T
  exact⟨p,lo _ _ bM,o,e _ be,hc⟩
 |_=>exact T.elim
theorem fW.same{bb:a8}{o:fP}(be:h.get? bb=some o)(cy:¬ij o)(hs:tY bb h H):fW h H:=λ b x e f=>by
 by_cases az:b=bb
 ·subst az;rw[be]at e;cases e;exact absurd f cy
 ·exact(hs.2 b az).trans e
theorem G1:∀(lo:am) (z:C),(upTo lo z).length=z
 |_,0=>rfl
 |lo,z+1=>by simp[upTo,G1]
theorem PS:∀(lo:am) (z k:C),k<z→(upTo lo z)[k]? =some (.ii (lo+k))
 |lo,0,k,h=>absurd h (yM _)
 |lo,z+1,0,_=>by simp[upTo]
 |lo,z+1,k+1,h=>by
  rw[upTo,Q0,PS (lo+1) z k (by omega)]
  congr 2
  push_cast
  omega
theorem Ml{v:au}{Q:au→a2→Prop}(I:Inv c nm G n s)(ay:hR n a=some l)(x:bA c G s.heap a v)
  (bz:∀bb H,cu (λ _=>False) s.heap H→s.heap.get? bb=none→ln c G H bb l 0 a→Q (.ref bb) {s with heap:=H}):bg (bc c.prog c.w) A (pyIter v) Q ab s:=by
 have fresh:s.heap.get? s.heap.objs.size=none:=n1 λ _ _ e=>e
 cases a with
 |tup cf=>
  cases ay
  obtain⟨b,items,rfl,bD,a4⟩:=x
  refine wpAny_pyIter_tuple bD (bz _ _ (cu.push _ _) fresh ⟨b,items,bD.push _,a4.keep (.refl G) λ b o e _=>lu _ e,⟨_,nK _ rfl,rfl,rfl⟩⟩)
 |ss w=>
  simp only[hR]at ay
  split at ay
  ·rename_i bO
   cases ay
   obtain⟨t,rfl⟩:=x
   refine wpAny_pyIter_ascii ?_ (bz _ _ (cu.push _ _) fresh ⟨t,rfl,⟨_,nK _ rfl,rfl,rfl⟩⟩)
   show(w.toArray).all _=true
   rw[QR]
   exact bO
  ·cases ay
 |ew lo h'=>
  simp only[hR]at ay
  split at ay
  ·rename_i bO
   cases ay
   rw[jX,Gr,Gr]at bO
   obtain⟨b,t,u,cB,rfl,a4⟩:=x
   refine wpAny_pyIter_range a4 (small_one (by omega) (by omega) (by omega) (by omega)) (bz _ _ (cu.push _ _) fresh ⟨rfl,?_⟩)
   have uN:Builtin.Range.rangeSize lo h' 1=((h'-lo).toNat:am)- ((0:C):am):=by rw[rangeSize_one];split<;>omega
   rw[←uN]
   have e:lo+((0:C):am)=lo:=by simp
   rw[e]
   exact nK _ rfl
  ·cases ay
 |ref z=>
  simp only[hR]at ay
  split at ay
  ·rename_i xs e
   cases ay
   obtain⟨p,bM,rfl⟩:=x
   obtain⟨a3,_,items,d9,aw,hl,a4,hs⟩:=rq I bM e
   refine wpAny_pyIter_list hl (bz _ _ (cu.push _ _) fresh ⟨p,bM,⟨_,nK _ rfl,rfl,rfl⟩⟩)
  ·cases ay
 |_=>cases ay
theorem Mm{x:D}{bb:a8}(I:Inv c nm G n s)(ae:live a l n)(T:ln c G s.heap bb l k a)(aA:l[k]? =some x)
  (bz:∀H t v,tY bb s.heap H→ln c G H bb l (k+1) a→bA c G H x v→Q (some v) {s with heap:=H,toks:=t}):bg (bc c.prog c.w) A (pyNext (.ref bb)) Q ab s:=by
 obtain⟨o,be,cy⟩:=T.live
 cases a with
 |tup _=>
  obtain⟨t,items,bD,a4,ay⟩:=T
  obtain⟨v,cP,r⟩:=a4.get aA
  refine wpAny_pyNext_tuple_item ay bD (by rw[←vW];exact cP) λ H h' hs=>?_
  have d8:=fW.same be cy hs
  exact bz H s.toks v hs ⟨t,items,An d8 bD,a4.keep (.refl G) d8,h'⟩ (r.keep (.refl G) d8)
 |ss w=>
  obtain⟨t,hl,ay⟩:=T
  subst hl
  rw[qS]at aA
  obtain⟨y,bI,rfl⟩:=l3.mp aA
  refine wpAny_pyNext_ascii_item (c:=y) ay (by show w.toArray[k]? =_;rw[HW];exact bI) λ H h' hs=>?_
  exact bz H (s.toks+1) _ hs ⟨t,rfl,h'⟩ ⟨_,rfl⟩
 |ew lo ay=>
  obtain⟨hl,h'⟩:=T
  subst hl
  have hk:k< (ay-lo).toNat:=by
   have:=(jZ.mp aA).1
   rwa [G1]at this
  rw[PS _ _ _ hk]at aA
  cases aA
  refine wpAny_pyNext_range_item h' (by omega) λ H XN hs=>?_
  refine bz H (s.toks+1) _ hs ⟨rfl,?_⟩ ⟨_,rfl⟩
  have aw:lo+((k+1:C):am)=lo+(k:am)+1:=by push_cast;omega
  have aB:((ay-lo).toNat:am)- ((k+1:C):am)=((ay-lo).toNat:am)- (k:am)-1:=by push_cast;omega
  rw[aw,aB]
  exact XN
 |ref z=>
  obtain⟨p,bM,ay⟩:=T
  obtain⟨a3,_,items,d9,aw,hl,a4,hs⟩:=rq I bM ae
  obtain⟨v,cP,r⟩:=a4.get aA
  refine wpAny_pyNext_list_item ay hl (by rw[←vW];exact cP) λ H h' hs=>?_
  have d8:=fW.same be cy hs
  exact bz H s.toks v hs ⟨p,bM,h'⟩ (r.keep (.refl G) d8)
 |_=>exact T.elim
theorem Mk{bb:a8}(gM:A.handled=none)(I:Inv c nm G n s)(ae:live a l n)(T:ln c G s.heap bb l k a)(aA:l[k]? =none)
  (bz:∀H,Heap.ExtBut bb s.heap H→Q none {s with heap:=H}):bg (bc c.prog c.w) A (pyNext (.ref bb)) Q ab s:=by
 cases a with
 |tup _=>
  obtain⟨t,items,bD,a4,ay⟩:=T
  exact wpAny_pyNext_tuple_end gM ay bD (by rw[←vW];exact a4.none aA) bz
 |ss w=>
  obtain⟨t,hl,ay⟩:=T
  subst hl
  rw[qS,Option.map_eq_none_iff]at aA
  exact wpAny_pyNext_ascii_end gM ay (by show w.toArray[k]? =_;rw[HW];exact aA) bz
 |ew lo ay=>
  obtain⟨hl,h'⟩:=T
  subst hl
  have hk:=yC.mp aA
  rw[G1]at hk
  exact wpAny_pyNext_range_end gM h' (by omega) bz
 |ref z=>
  obtain⟨p,bM,ay⟩:=T
  obtain⟨a3,_,items,d9,aw,hl,a4,hs⟩:=rq I bM ae
  exact wpAny_pyNext_list_end gM ay hl (by rw[←vW];exact a4.none aA) bz
 |_=>exact T.elim
end
end Mine
end
section
open PySem PySem.W PyProof.Rows
namespace Mine
variable{H:dD}{t i:C}{x:aL}{a:D}{Q:dC}
structure fi(X:a8→Prop)(G:cA)(s:a2)(bv:cA)(a9:a2):Prop where
 ext:yv G bv s.heap
 ch:cu (λ b=>eF G b∨X b) s.heap a9.heap
 off:∀b,X b→¬eF bv b
section
variable{c:cV}{nm:B (B C)}{X he:a8→Prop}{G bQ dz:cA}{n:St}{s aJ b':a2}
theorem fi.refl(s:a2)(h:∀b,X b→¬eF G b):fi X G s G s:=⟨.refl _ _,.refl _ _,h⟩
theorem fi.trans(x:fi X G s bQ aJ)(y:fi X bQ aJ dz b'):fi X G s dz b' where
 ext:=⟨x.ext.1.trans y.ext.1,λ b az=>(y.ext.2 b az).elim (x.ext.2 b) λ h=>by
  exact r2 .inl λ f=>NC .inr λ o e=>nomatch h.symm.trans (x.ch b o e λ L=>L.elim f λ q=>y.off b q az)⟩
 ch:=λ b o e z=>y.ch b o (x.ch b o e z) λ f=>f.elim (λ f=>(x.ext.2 b f).elim (λ f=>z (.inl f)) λ h=>nomatch h.symm.trans e) λ q=>z (.inr q)
 off:=y.off
theorem fi.FI(S:Step G s bQ aJ)(h:∀b,X b→¬eF G b∧∃o,s.heap.get? b=some o):fi X G s bQ aJ where
 ext:=S.ext
 ch:=S.ch.mono λ _=>.inl
 off:=λ b q f=>(S.ext.2 b f).elim (h b q).1 λ g=>(h b q).2.elim λ o e=>nomatch e.symm.trans g
theorem fi.toStep(S:fi X G s bQ aJ)(h:∀b,X b→s.heap.get? b=none):Step G s bQ aJ where
 ext:=S.ext
 ch:=λ b o e z=>S.ch b o e λ q=>q.elim z λ x=>nomatch e.symm.trans (h b x)
theorem fi.mono(S:fi X G s bQ aJ)(h:∀b,X b→he b)(off:∀b,he b→¬eF bQ b):fi he G s bQ aJ:=⟨S.ext,S.ch.mono λ _ q=>q.imp id (h _),off⟩
theorem fi.drop(S:fi he G s bQ aJ)(h:∀b,he b→X b∨s.heap.get? b=none)(off:∀b,X b→¬eF bQ b):fi X G s bQ aJ where
 ext:=S.ext
 ch:=λ b o e z=>S.ch b o e λ q=>q.elim (λ f=>z (.inl f)) λ y=>(h b y).elim (λ x=>z (.inr x)) λ g=>nomatch e.symm.trans g
 off:=off
theorem fi.ni(x:cu X s.heap H)(off:∀b,X b→¬eF G b):fi X G s G {s with heap:=H,toks:=t}:=⟨.refl _ _,x.mono λ _=>.inr,off⟩
theorem fi.nc(S:fi X G s bQ aJ)(I:Inv c nm G n s)(h:∀b o,X b→s.heap.get? b=some o→¬ij o):fW s.heap aJ.heap:=λ b o e f=>
 S.ch b o e λ q=>q.elim (λ q=>I.K9 q e f) λ q=>h b o q e f
end
section
variable{c:cV}{nm:B (B C)}{aj:B (Y aL)}{G bQ:cA}{n:St}{s aJ:a2}{A:eB}{ab:au→a2→Prop}{env:aX}{ai:eg}{m:aL→Y au}
noncomputable def pA(x:aL):Bool:=!(x==("__debug__":aL))&& !(x==("__classdict__":aL))
theorem M4(F:c9 c aj G env ai s.heap m)(I:Inv c nm G n s)(aA:(aj:B (Y aL))[i]? =some (some x))(bM:pA x=true)(bO:(env[i]?).join=some a)(bz:Q a n):
  bg (bc c.prog c.w) A (loadName ai x) (Back c nm G s Q) ab s:=
 (F.vars i x a aA (Option.join_eq_some_iff.mp bO)).elim λ v kp=>kp.2.elim (λ h=>wpAny_loadName_local F.kind h.1 F.ns h.2 (Back.now bz kp.1 I)) λ h=>h.2.elim λ q w=>
  h.1.elim (λ k=>wpAny_loadName_cell F.kind k w.1 w.2 (Back.now bz kp.1 I)) λ k=>wpAny_loadName_free F.kind k w.1 w.2 (Back.now bz kp.1 I) (Qr (y:=false) (dI.mp bM).2)
theorem aag{cg:hd}(F:c9 c aj G env ai s.heap m)(I:Inv c nm G n s)(aA:(aj:B (Y aL))[i]? =some (some x))(bM:pA x=true)(bO:(env[i]?).join=some a)(bz:Q a n):
  bg (bc c.prog c.w) A (eval (.Name x cg) ai) (Back c nm G s Q) ab s:=
 wpAny_Name (M4 F I aA bM bO bz) (Qr (y:=false) (dI.mp bM).1)
theorem c9.vj(F:c9 c aj G env ai s.heap m){q:a8}(h:ai.cells.lookup x=some q):ai.locals≠q:=λ L=>
 F.ns.elim λ o y=>y.elim λ O y=>y.elim λ hL d=>(F.cells x _ h).elim λ v y=>y.elim λ c3 ku=>nomatch d.2.1.symm.trans ((an IH (ej (d.1.symm.trans (L▸ku.1)))).trans ku.2)
theorem adZ{env:aX}{j:C}{o:Y D}(h:(iP env i a:B (Y D))[j]? =some o):(i=j∧o=some a)∨(i≠j∧(env:B (Y D))[j]? =some o):=
 have hl:j<f' (env:B (Y D)):=Rp (jZ.mp h).1 H0
 r2 (λ q:i=j=>.inl ⟨q,by subst q;exact ej (h.symm.trans (yE hl))⟩) λ q=>.inr ⟨q,(tP q).symm.trans h⟩
theorem c9.wJ(F:c9 c aj G env ai s.heap m)(I:Inv c nm G n s)(x:cu (e2 ai) s.heap H):Inv c nm G n {s with heap:=H,toks:=t}∧fW s.heap H:=
 have rz:∀b o,e2 ai b→s.heap.get? b=some o→¬ij o:=λ b o q e=>(e2.old F q).elim λ y bC=>ej (bC.1.symm.trans e)▸bC.2
 ⟨I.change x (λ b=>F.foot b) (λ b=>F.out b) rz,λ b o e f=>x b o e λ q=>rz b o q e f⟩
theorem c9.stored{c0:aL→Y au}(F:c9 c aj G env ai s.heap m)(aA:(aj:B (Y aL))[i]? =some (some x))(cy:H.Ns ai.locals c0)(hc:∀y p,ai.cells.lookup y=some p→∃u,H.IsCell p u)(cP:sk c G H ai c0 x a)
  (be:∀y,y≠x→∀b,sk c G s.heap ai m y b→sk c G H ai c0 y b):c9 c aj G (iP env i a) ai H c0:=
 ⟨F.kind,F.rd,F.blt,H0.trans F.len,cy,hc,F.apart,F.foot,F.out,F.uniq,F.has,λ j y b bI az=>(adZ az).elim (λ e=>ej (ej (aA.symm.trans (e.1▸bI)))▸ej e.2▸cP)
  λ e=>be y (λ q=>e.1 (F.uniq _ _ _ aA (q▸bI))) b (F.vars j y b bI e.2)⟩
theorem Gx{v:au}{Q:p6→a2→Prop}(F:c9 c aj G env ai s.heap m)(I:Inv c nm G n s)(aA:(aj:B (Y aL))[i]? =some (some x))
  (hk:ai.kindOf x=some .local∨ai.kindOf x=some .cell∧(ai.cells.lookup x).isSome=true)(r:bA c G s.heap a v)
  (h:∀H t c0,cu (e2 ai) s.heap H→(ai.kindOf x=some .local→cu (λ b=>b=ai.locals) s.heap H)→c9 c aj G (iP env i a) ai H c0→Inv c nm G n {s with heap:=H,toks:=t}→Q () {s with heap:=H,toks:=t}):
  bg (bc c.prog c.w) A (storeName ai x v) Q ab s:=by
 refine hk.elim (λ hk=>?_) λ hk=>(oT.mp hk.2).elim λ q du=>(F.cells x q du).elim λ ahq Yx=>?_
 ·refine wpAny_storeName_local hk F.ns (λ H cy hs=>?_) (by rw[F.kind];rfl)
  have ny:cu (e2 ai) s.heap H:=cu.same hs (.inl rfl)
  have b9:=F.wJ (t:=s.toks+1) I ny
  exact h H (s.toks+1) _ ny (λ _=>cu.same hs rfl) (F.stored aA cy (λ y q e=>(F.cells y q e).imp λ _ hc=>hc.sameBut hs (F.vj e).symm) ⟨v,r.keep (.refl G) b9.2,.inl ⟨hk,if_pos rfl⟩⟩
   λ y bI b kp=>kp.keep (.refl G) b9.2 (λ _ e=>(if_neg bI).trans e) λ q _ e hc=>hc.sameBut hs (F.vj e).symm) b9.1
 ·refine wpAny_storeName_cell F.kind hk.1 du Yx λ H hc hs=>?_
  have ny:cu (e2 ai) s.heap H:=cu.same hs (.inr ⟨x,du⟩)
  have b9:=F.wJ (t:=s.toks) I ny
  have e4:∀y p u,ai.cells.lookup y=some p→s.heap.IsCell p u→y≠x→H.IsCell p u:=λ y p u e z5 YB=>z5.sameBut hs λ L=>YB (F.apart y x q (L▸e) du)
  exact h H s.toks m ny (λ q=>nomatch hk.1.symm.trans q) (F.stored aA (F.ns.sameBut hs (F.vj du)) (λ y p e=>r2 (λ g:y=x=>⟨_,ej (du.symm.trans (g▸e))▸hc⟩) λ g=>(F.cells y p e).imp λ u dS=>e4 y p u e dS g)
   ⟨v,r.keep (.refl G) b9.2,.inr ⟨.inl hk.1,q,du,hc⟩⟩ λ y bI b kp=>kp.keep (.refl G) b9.2 (λ _=>id) λ p u e dS=>e4 y p u e dS bI) b9.1
end
end Mine
end
section
open PySem PySem.W PyProof.Rows
namespace Mine
variable{gR:B au}{cr:IC}{aJ:a2}{a:a8}{ja:B ft}{np:C}{b6:B D}
noncomputable def xR(cr:IC):Bool:=
 cr.params.posonlyargs.isEmpty&&cr.params.kwonlyargs.isEmpty&&cr.params.vararg.isNone&&cr.params.kwarg.isNone&&(cr.defaults== .none)&&cr.closure.isEmpty&&(cr.globals==ly)&&(cr.builtins==CI)
  && !cr.scope.isCoroutine&& !cr.scope.isGenerator&&(cr.scope.kind== .function)
theorem Qb{α:Type}:∀(ns:B aL) (ar:B α) (xS:B (aL×α)),ns.Nodup→ns.length=ar.length→(∀z∈ns,xS.lookup z=none)→
  ns.filterMap (λ z=>((xS++ns.zip ar).lookup z).map (z,·))=ns.zip ar
 | [],_,_,_,_,_=>rfl
 |z::ns,[],_,_,h,_=>by cases h
 |z::ns,v::ar,xS,a1,hl,bM=>by
  obtain⟨ax,aH⟩:=nH.mp a1
  have aw:(xS++(z::ns).zip (v::ar)).lookup z=some v:=by
   rw[yH,bM z (.head _)]
   simp
  rw[List.filterMap_cons]
  simp only[aw,Option.map_some]
  rw[yK]
  congr 1
  have:=Qb ns ar (xS++[(z,v)]) aH (by simpa using hl) λ m hm=>by
   rw[yH,bM m (.tail _ hm)]
   have:(m==z)=false:=by
    rw[ma]
    rintro rfl
    exact ax hm
   simp[l1,this]
  refine v2 ?_ this
  simp
theorem UB{l:B aL}(hl:l.length=gR.length)(k:C):((l.take k).filter λ z=>(yG z (l.zip gR)).isNone)=[]:=
 tO.mpr λ z hm az=>(H3.mp (List.mem_of_mem_take hm)).elim λ i b3=>b3.elim λ ay e=>
  absurd (List.lookup_eq_none_iff.mp (Cv.mp az) (z,gR[i]'(hl▸ay)) (H3.mpr ⟨i,Q5▸Nat.lt_min.mpr ⟨ay,hl▸ay⟩,e▸List.getElem_zip⟩)) λ q=>mM ((J1 z).symm.trans q)
theorem WN{α c4 oG Qd:Type}{l:B α}{k:C}{s:oG}{f:α×c4→oG→ik (ForInStep oG)}{r:oG→ik Qd}{M:ik Qd}(h:r s=M):(forIn (List.zip l (List.drop k ([]:B c4))) s f>>=r)=M:=by
 rw[List.drop_nil,List.zip_nil_right];exact h
theorem UC{mZ:B Arg}{q:aL}{xl wO nm body aS gl e4 eS fR FV wy co Dy aR}(cy:(mZ.map (·.arg)).Nodup)(hl:(mZ.map (·.arg)).length=gR.length):
  I2 ⟨nm,q,⟨[],mZ,none,[],xl,none,wO⟩,body,aS,gl,e4,.none,eS,fR,FV,wy,co,Dy,aR⟩ ⟨gR,[]⟩=pure ((mZ.map (·.arg)).zip gR):=
 (if_neg λ h=>absurd (gi ((dI.mp h).1)) (r7.mpr (dg hl.symm))).trans
  ((if_neg λ h=>mM ((an (λ l=>!List.isEmpty l) (UB hl _)).symm.trans h)).trans (WN (an (Pure.pure:B (aL×au)→ik (B (aL×au))) ((an (QX _) (eX _)).trans (Qb _ _ [] cy hl λ _ _=>rfl)))))
theorem acl{P:Arguments→Prop}(h:∀mZ xl wO,P ⟨[],mZ,none,[],xl,none,wO⟩):∀p:Arguments,p.posonlyargs=[]→p.kwonlyargs=[]→p.vararg=none→p.kwarg=none→P p
 | ⟨_,_,_,_,_,_,_⟩,rfl,rfl,rfl,rfl=>h _ _ _
theorem Uq(bM:xR cr=true)(cy:(cr.params.args.map (·.arg)).Nodup)(hl:(cr.params.args.map (·.arg)).length=gR.length):
  I2 cr ⟨gR,[]⟩=pure ((cr.params.args.map (·.arg)).zip gR):=
 have kz:=dI.mp (dI.mp (dI.mp (dI.mp (dI.mp (dI.mp (dI.mp (bM)).1).1).1).1).1).1
 have gh:=dI.mp kz.1
 have cI:=dI.mp gh.1
 have aH:=dI.mp cI.1
 acl (P:=λ p=>(p.args.map (·.arg)).Nodup→(p.args.map (·.arg)).length=gR.length→∀d,d= .none→I2 ⟨cr.name,cr.qualname,p,cr.body,cr.scope,cr.globals,cr.closure,d,cr.kwdefaults,cr.doc,cr.pyModule,cr.annotations,cr.code,cr.closureTuple,cr.builtins⟩ ⟨gR,[]⟩=pure ((p.args.map (·.arg)).zip gR))
  (λ _ _ _ cy hl _ e=>e▸UC cy hl) cr.params (Ca.mp aH.1) (Ca.mp aH.2) (Cv.mp cI.2) (Cv.mp gh.2) cy hl _ (eq_of_beq kz.2)
noncomputable def mY(c:cV)(nm:B (B C))(aj:B (Y aL))(ai:eg)(G:cA)(s:a2)(cb:iV)(cF:dC)(f:Flow)(a9:a2):Prop:=match f with
 | .next=>∃aF bv J c0,cb aF J∧c9 c aj bv aF ai a9.heap c0∧Inv c nm bv J a9∧fi (e2 ai) G s bv a9
 | .ret v=>∃a bv J,cF a J∧bA c bv a9.heap a v∧Inv c nm bv J a9∧fi (e2 ai) G s bv a9
 |_=>False
theorem mY.after{c:cV}{nm:B (B C)}{aj:B (Y aL)}{ai:eg}{G bQ:cA}{s a9:a2}{cb:iV}{cF:dC}{f:Flow}(S:fi (e2 ai) G s bQ aJ)(b:mY c nm aj ai bQ aJ cb cF f a9):mY c nm aj ai G s cb cF f a9:=by
 cases f with
 |next=>obtain⟨e,p,g,m,ax,aH,cI,gh⟩:=b;exact⟨e,p,g,m,ax,aH,cI,S.trans gh⟩
 |ret v=>obtain⟨e,p,g,ax,aH,cI,gh⟩:=b;exact⟨e,p,g,ax,aH,cI,S.trans gh⟩
 |_=>exact b.elim
theorem Df(k:aL→Y mV)(z:aL)(v:au)(r:B (aL×au))(m:aL→Y au):wm k ((z,v)::r) m=wm k r (if k z=some .local then λ y=>if y=z then some v else m y else m):=rfl
theorem De(k:aL→Y mV)(z:aL)(v:au)(r:B (aL×au))(m:aL→Y au):yV k ((z,v)::r) m=yV k r (if k z=some .local then m else λ y=>if y=z then some v else m y):=rfl
theorem JW{k:aL→Y mV}{x:aL}:∀{bs:B (aL×au)} {m:aL→Y au},(∀b∈bs,b.1≠x)→wm k bs m x=m x
 | [],_,_=>rfl
 | (z,v)::r,m,h=>by
  have ax:=h (z,v) (.head _)
  rw[Df,JW λ b az=>h b (.tail _ az)]
  split
  ·exact if_neg (Ic ax)
  ·rfl
theorem JU{k:aL→Y mV}{x:aL}:∀{bs:B (aL×au)} {m:aL→Y au},(∀b∈bs,b.1≠x)→yV k bs m x=m x
 | [],_,_=>rfl
 | (z,v)::r,m,h=>by
  have ax:=h (z,v) (.head _)
  rw[De,JU λ b az=>h b (.tail _ az)]
  split
  ·rfl
  ·exact if_neg (Ic ax)
theorem JV{k:aL→Y mV}{x:aL}{v:au}(hk:k x=some .local):∀{ns:B aL} {ar:B au} {i:C} {m:aL→Y au},ns.Nodup→ns[i]? =some x→ar[i]? =some v→wm k (ns.zip ar) m x=some v
 | [],_,_,_,_,h,_=>by simp at h
 |_::_,[],_,_,_,_,h=>by simp at h
 |z::ns,u::ar,0,m,a1,h,cP=>by
  obtain⟨ax,aH⟩:=nH.mp a1
  simp only[yB,yO]at h cP
  subst h cP
  rw[yK,Df,JW λ b az=>?_,if_pos hk,if_pos rfl]
  rintro rfl
  exact ax (H5 az).1
 |z::ns,u::ar,i+1,m,a1,h,cP=>by
  obtain⟨ax,aH⟩:=nH.mp a1
  rw[yK,Df]
  exact JV hk aH (by simpa using h) (by simpa using cP)
theorem JT{k:aL→Y mV}{x:aL}{v:au}(hk:¬k x=some .local):∀{ns:B aL} {ar:B au} {i:C} {m:aL→Y au},ns.Nodup→ns[i]? =some x→ar[i]? =some v→yV k (ns.zip ar) m x=some v
 | [],_,_,_,_,h,_=>by simp at h
 |_::_,[],_,_,_,_,h=>by simp at h
 |z::ns,u::ar,0,m,a1,h,cP=>by
  obtain⟨ax,aH⟩:=nH.mp a1
  simp only[yB,yO]at h cP
  subst h cP
  rw[yK,De,JU λ b az=>?_,if_neg hk,if_pos rfl]
  rintro rfl
  exact ax (H5 az).1
 |z::ns,u::ar,i+1,m,a1,h,cP=>by
  obtain⟨ax,aH⟩:=nH.mp a1
  rw[yK,De]
  exact JT hk aH (by simpa using h) (by simpa using cP)
section
variable{c:cV}{nm:B (B C)}{aj:B (Y aL)}{G:cA}{n:St}{s:a2}{A:eB}{ab:au→a2→Prop}
structure FnAt(c:cV)(aj:B (Y aL))(np:C)(a:a8)(cr:IC)(ja:B ft):Prop where
 at_:∃xK FH NY,c.K.lookup a=some ⟨xK,FH,.func cr,NY⟩
 plain:xR cr=true
 body:cr.body= .stmts ja
 code:codeIn c.K cr.code cr.qualname=true
 np:(cr.params.args.map (·.arg)).length=np
 names:(cr.params.args.map (·.arg)).Nodup
 kinds:((cr.params.args.map (·.arg)).all λ x=>cr.scope.names.lookup x==some .local||cr.scope.names.lookup x==some .cell)=true
 abJ:∀(i:C) x,(cr.params.args.map (·.arg))[i]? =some x→(aj:B (Y aL))[i]? =some (some x)
 uniq:∀(i j:C) x,(aj:B (Y aL))[i]? =some (some x)→(aj:B (Y aL))[j]? =some (some x)→i=j
theorem InCallC.mf(bL:jB c nm)(M:FnAt c aj np a cr ja)(I:Inv c nm G n s)(r:cs c G s.heap b6 gR)(hl:b6.length=np)(Eo:np≤aj.length)
  (x:InCallC s (nM cr s.heap.objs.size a).locals (wm (nM cr s.heap.objs.size a).kindOf ((cr.params.args.map (·.arg)).zip gR) λ _=>none) (nM cr s.heap.objs.size a).cells
    (yV (nM cr s.heap.objs.size a).kindOf ((cr.params.args.map (·.arg)).zip gR) λ _=>none) aJ):
  c9 c aj G (b6.map some++dw (aj.length-np) none) (nM cr s.heap.objs.size a) aJ.heap (wm (nM cr s.heap.objs.size a).kindOf ((cr.params.args.map (·.arg)).zip gR) λ _=>none)∧Inv c nm G n aJ:=by
 have bM:=M.plain
 simp only[xR,jX,jk]at bM
 obtain⟨⟨⟨⟨⟨⟨⟨⟨⟨⟨ax,aH⟩,cI⟩,gh⟩,kz⟩,zZ⟩,pd⟩,z0⟩,z1⟩,zY⟩,D5⟩:=bM
 obtain⟨H,oy,rfl⟩:=x.toInCall.same
 have ch:cu (λ _=>False) s.heap H:=λ b o e _=>x.toInCall.keep b o e
 have ey:Inv c nm G n {s with heap:=H,toks:=oy}:=I.more ch
 have d8:fW s.heap H:=λ b o e _=>x.toInCall.keep b o e
 have Ul:∀b,e2 (nM cr s.heap.objs.size a) b→s.heap.objs.size≤b:=by
  rintro b (rfl| ⟨y,e⟩)
  ·exact cJ _
  ·exact h4 (x.above y b (mem_of_lookup e))
 have fresh:∀b,e2 (nM cr s.heap.objs.size a) b→s.heap.get? b=none:=λ b q=>by
  cases e:s.heap.get? b with
  |none=>rfl
  |some o=>exact absurd (mU e) (r7.mpr (Ul b q))
 refine⟨⟨D5,pd,z0,?_,x.toInCall.ns,λ y q e=>⟨_,x.cell y q e⟩,λ y L q aw aB=>name_of_addr x.apart (mem_of_lookup aw) (mem_of_lookup aB),λ b q f=>?_,λ b q=>?_,M.uniq,λ y q=>IX cr.scope.names (s.heap.objs.size+1) [] (.inl q),λ i y b bI az=>?_⟩,ey⟩
 ·simp only[fg,cG,Cb,hl];omega
 ·obtain⟨o,e⟩:=I.wV f
  rw[fresh b q]at e;cases e
 ·cases e:c.h₀.get? b with
  |none=>rfl
  |some o=>have:=I.base b o e;rw[fresh b q]at this;cases this
 ·have ay:i<np:=by
   rcases Cm i np with h|h
   ·exact h
   ·rw[yA (by simp[hl];exact h),HV]at az
    split at az<;>cases az
  have bO:b6[i]? =some b:=by
   rw[qR (by simp[hl];exact ay),qS]at az
   obtain⟨hw,e,q⟩:=l3.mp az
   cases q;exact e
  obtain⟨v,cP,hG⟩:=r.get bO
  have Er:(cr.params.args.map (·.arg))[i]? =some y:=by
   have:i< (cr.params.args.map (·.arg)).length:=by rw[M.np];exact ay
   have e:=M.abJ i _ (h2 this)
   rw[bI]at e;cases e
   exact h2 this
  have adE:=hG.keep (.refl G) d8
  refine⟨v,adE,(BX.mp (g'.mp M.kinds y (h3 Er))).imp (λ hk=>?_) λ hk=>?_⟩
  ·have n6:(nM cr s.heap.objs.size a).kindOf y=some .local:=eq_of_beq hk
   exact⟨n6,JV n6 M.names Er cP⟩
  ·have n6:(nM cr s.heap.objs.size a).kindOf y=some .cell:=eq_of_beq hk
   refine⟨.inl n6,(oT.mp (IX cr.scope.names (s.heap.objs.size+1) [] (.inl n6))).imp λ q du=>⟨du,?_⟩⟩
   exact JT (λ L=>nomatch n6.symm.trans L) M.names Er cP▸x.cell y q du
theorem UN{R:yT→a2→Prop}{Q:dC}(bL:jB c nm)(M:FnAt c aj np a cr ja)(I:Inv c nm G n s)(r:cs c G s.heap b6 gR)(hl:b6.length=np)(Eo:np≤aj.length)
  (sK:A.depth<CN)(fQ:∀v a9,Back c nm G s Q v a9→R (.ok (.ret v)) a9)
  (h:∀ai aJ m g8,ai.scope=cr.scope→c9 c aj G (b6.map some++dw (aj.length-np) none) ai aJ.heap m→Inv c nm G n aJ→bg (bc c.prog c.w) (A.deeper ai) (execs ja ai) (mY c nm aj ai G aJ (λ _ J=>Q .nn J) Q) g8 aJ):
  t4 (bc c.prog c.w) A (.call (.ref a) ⟨gR,[]⟩) R s:=by
 obtain⟨xK,FH,NY,Xh⟩:=M.at_
 have bM:=M.plain
 simp only[xR,jX,jk,tI]at bM
 obtain⟨⟨⟨⟨⟨⟨⟨⟨⟨⟨ax,aH⟩,cI⟩,gh⟩,kz⟩,zZ⟩,pd⟩,z0⟩,z1⟩,zY⟩,D5⟩:=bM
 have X:=I.K bL.K
 have i2:(cr.params.args.map (·.arg)).length=gR.length:=by rw[M.np,r.length,hl]
 refine codeAny_call_cells sK (X _ _ Xh) rfl (bL.lim.keeps I.base) (codeRec_of X M.code) M.body (Uq M.plain M.names i2) (Ca.mp zZ) (kindsX ?_ _) (λ aJ x=>?_) z1 zY D5
 ·rw[g']
  rintro⟨z,v⟩ az
  exact g'.mp M.kinds z (H5 az).1
 ·obtain⟨F,ey⟩:=InCallC.mf bL M I r hl Eo x
  have fresh:∀b,e2 (nM cr s.heap.objs.size a) b→s.heap.get? b=none:=by
   rintro b q
   have:s.heap.objs.size≤b:=by
    rcases q with rfl| ⟨y,e⟩
    ·exact cJ _
    ·exact h4 (x.above y b (mem_of_lookup e))
   cases e:s.heap.get? b with
   |none=>rfl
   |some o=>exact absurd (mU e) (r7.mpr this)
  have wt:fi (e2 (nM cr s.heap.objs.size a)) G s G aJ:=⟨.refl _ _,λ b o e _=>x.toInCall.keep b o e,F.foot⟩
  refine fa (h _ aJ _ _ rfl F ey) (λ f a9 az=>?_) λ _ _ y=>y
  cases f with
  |next=>
   obtain⟨aF,bv,J,c0,q,g9,nC,S⟩:=az
   exact fQ _ _ ⟨.nn,bv,J,q,by simp[bA],nC,(wt.trans S).toStep fresh⟩
  |ret v=>
   obtain⟨b,bv,J,q,hG,nC,S⟩:=az
   exact fQ _ _ ⟨b,bv,J,q,hG,nC,(wt.trans S).toStep fresh⟩
  |_=>exact az.elim
end
end Mine
end
section
open PySem PySem.W PyProof.Rows
namespace Mine
variable{x:aL}{cg:hd}{v:au}{Q:au→a2→Prop}{b6:B bn}{V z:C}{lO:ik av}
structure v5(c:cV):Prop where
 top:∃qp pr,c.h₀.Ns ly qp∧c.h₀.Ns CI pr∧∀x,x≠("__name__":aL)→pr x=bootBuiltins x
section
variable{c:cV}{nm:B (B C)}{aj:B (Y aL)}{G:cA}{n:St}{s:a2}{A:eB}{ab:au→a2→Prop}{env:aX}{ai:eg}{m:aL→Y au}
theorem D3(bL:jB c nm)(M:v5 c)(F:c9 c aj G env ai s.heap m)(I:Inv c nm G n s)(e:qY c.K ly x=some (some v))(hk:ai.kindOf x=some .globalImplicit)(bM:pA x=true)(h:Q v s):
  bg (bc c.prog c.w) A (eval (.Name x cg) ai) Q ab s:=by
 obtain⟨qp,pr,g,b,az⟩:=M.top
 unfold pA at bM
 simp only[jX,tI]at bM
 exact RG F.kind hk (Calls.loadGlobal_global (F.rd▸g.keeps I.base) (mg_of bL.K g e) h) bM.1
theorem uf(bL:jB c nm)(M:v5 c)(F:c9 c aj G env ai s.heap m)(I:Inv c nm G n s)(e:qY c.K ly x=some none)(cP:bootBuiltins x=some v)(cy:x≠("__name__":aL))(hk:ai.kindOf x=some .globalImplicit)(bM:pA x=true)(h:Q v s):
  bg (bc c.prog c.w) A (eval (.Name x cg) ai) Q ab s:=by
 obtain⟨qp,pr,g,b,az⟩:=M.top
 unfold pA at bM
 simp only[jX,tI]at bM
 exact RG F.kind hk (Calls.loadGlobal_builtin (F.rd▸g.keeps I.base) (mg_none_of bL.K g e) (F.blt▸b.keeps I.base) ((az x cy).trans cP) h) bM.1
end
noncomputable def f2(x:bn):Bool:=!kj x.ctorIdx 22
theorem vF{e:bn}{r:B bn}{env:eg}(h:f2 e=true):j1 (e::r) env=(false,eval e env)::j1 r env:=by
 cases e<;>first|rfl|exact jv (show false=true from h)
theorem Bn{env:eg}{cg:hd}:∀{r:B bn},r.all f2=true→(kX cg (j1 r env)).any (·.1)=false
 | [],_=>rfl
 |e::r,h=>vF (a7 h)▸Bn (r:=r) (aD h)
theorem O'{env:eg}{cg:hd}:∀{r:B bn},r.all f2=true→(kX cg (j1 r env)).all (λ x=>!x.1)=true
 | [],_=>rfl
 |e::r,h=>vF (a7 h)▸O' (r:=r) (aD h)
section
variable{ak:Model}{A:eB}{ab:au→a2→Prop}{s:a2}{env:eg}
theorem DH{f:au}{Q:Args→a2→Prop}(hs:b6.all f2=true)(h:bg ak A (sd (kX cg (j1 b6 env))) (λ ar a9=>Q ⟨ar,[]⟩ a9) ab s):bg ak A (evalArgs f true (kX cg (j1 b6 env)) []) Q ab s:=by
 cases b6 with
 |nil=>
  unfold evalArgs
  show bg ak A (sd []>>=_) Q ab s
  refine cK (fa h (λ ar a9 du=>?_) λ _ _ e=>e)
  refine cK (eG ?_)
  refine sf ?_
  exact cK (eG (cK (eG (eG du))))
 |cons e r=>
  rw[List.all_cons,jX]at hs
  rw[vF hs.1]at h⊢
  exact Calls.evalArgs_plain h
theorem method_call{o:bn}{name:aL}{C5:hd}(Eg:IZ o name env (eval o env)=eval o env)(hs:b6.all f2=true)(cy:b6.length<30)(X0:(C5.endLine==cg.line)=true)
  (h:bg ak A (eval o env) (λ eL aJ=>∀lO,bg ak A (y0 eL name lO) (λ r b'=>bg ak A (yX cg r.1 r.2 (kX cg (j1 b6 env)) []) Q ab b') ab aJ) ab s):
  bg ak A (eval (.Call (.Attribute o name C5) b6 [] cg) env) Q ab s:=by
 rw[arm_eval_Call,Eg]
 refine cK (fa h (λ eL aJ aI=>?_) λ _ _ e=>e)
 refine cK (sg ?_)
 have XJ:methodCallForm (b6.length+([]:B Keyword).length) (kX cg (j1 b6 env)) (backToKw cg (keywordEach [] env))=true:=
  dI.mpr ⟨dI.mpr ⟨O' hs,rfl⟩,iL cy⟩
 have Yh:R6 true o env C5 cg=pure cg:=by unfold R6;simp[X0]
 unfold methodCall
 rw[XJ]
 refine cK (sf (fa (Q:=λ r b'=>bg ak A (yX cg r.1 r.2 (kX cg (j1 b6 env)) []) Q ab b') ?_ (λ r b' bJ=>cK (wpAny_of_eq Yh bJ)) λ _ _ e=>e))
 exact aI _
end
section
variable{c:cV}{nm:B (B C)}{aj:B (Y aL)}{G:cA}{n:St}{s:a2}{A:eB}{ab:au→a2→Prop}
theorem abQ(I:Inv c nm G n s)(ay:(c.P.i5 V).isSome=true):
  Inv c nm (G++[(s.heap.objs.size+1,s.heap.objs.size)]) (n++[.bF V []]) {s with heap:=(s.heap.push lx).push (nL (c.ca V) s.heap.objs.size)}∧
  Step G s (G++[(s.heap.objs.size+1,s.heap.objs.size)]) {s with heap:=(s.heap.push lx).push (nL (c.ca V) s.heap.objs.size)}:=by
 have k:∀b o,s.heap.get? b=some o→((s.heap.push lx).push (nL (c.ca V) s.heap.objs.size)).get? b=some o:=λ b o e=>lu _ (lu _ e)
 have none:∀b,s.heap.objs.size≤b→s.heap.get? b=none:=λ b az=>by
  cases e:s.heap.get? b with
  |none=>rfl
  |some o=>exact absurd (mU e) (r7.mpr az)
 have q8:(s.heap.push lx).get? s.heap.objs.size=some emptyDict:=nK _ rfl
 have DA:((s.heap.push lx).push (nL (c.ca V) s.heap.objs.size)).get? s.heap.objs.size=some (p2 [] 0):=lu _ q8
 have cT:((s.heap.push lx).push (nL (c.ca V) s.heap.objs.size)).get? (s.heap.objs.size+1)=some (nL (c.ca V) s.heap.objs.size):=by
  rw[←RR s.heap lx];exact nK _ rfl
 refine⟨I.alloc (t:=s.toks) (cu.of_keep k) (pX (I.qm λ _ _ e=>e)) (I.qm λ _ _ e=>e) (none _ (h5 _)) (none _ (cJ _)) ⟨cT,ay,λ f a h=>by simp at h,[],0,λ _=>.none,DA,cJ _,?_,λ f _=>rfl⟩,Step.alloc (t:=s.toks) (cu.of_keep k) (none _ (h5 _)) (none _ (cJ _))⟩
 exact(Heap.Ns.new s.heap (.type "dict")).keeps λ b o e=>lu _ e
theorem aaB{k:C}{gR:B au}{Q:au→a2→Prop}{aK:a8}(bL:jB c nm)(I:Inv c nm G n s)(ay:(c.P.i5 k).isSome=true)(cl:oU c.K (.ref (c.ca k)) "__init__"=some (some (.ref aK)))(bD:wk c.K (.ref aK)=some (.type "function"))
  (h:∀(nz:eB) (g8:au→a2→Prop),nz.handled=A.handled→nz.depth≤A.depth+2→nz.units≤A.units+8→
   t4 (bc c.prog c.w) nz (.call (.ref aK) ⟨.ref (s.heap.objs.size+1)::gR,[]⟩) (InitBack (s.heap.objs.size+1) λ r a9=>match r with| .ok (.ret v)=>Q v a9| .ok _=>False| .error e=>g8 e a9) {s with heap:=(s.heap.push lx).push (nL (c.ca k) s.heap.objs.size)}):
  bg (bc c.prog c.w) A (call (.ref (c.ca k)) gR) Q ab s:=by
 have X:=I.K bL.K
 have uh:=(wL (bL.cls k ay)).2.2.2.1
 refine Ja ?_
 obtain⟨gM,g,d,t,os⟩:=s
 refine make_core (makes_of X uh) (looks_findIn X cl) (λ Be=>bind_fn X Be bD) (.inl rfl) ?_
 refine h _ ab rfl ?_ ?_
 ·exact fA (show Code.weight (.builtin "type.__call__" ⟨.ref (c.ca k)::gR,[]⟩)≤2 from aE rfl) _
 ·exact fA (show Code.cUnits (.builtin "type.__call__" ⟨.ref (c.ca k)::gR,[]⟩)≤8 from aE rfl) _
theorem W1{aG:B (C×D)}{f:C}{Q:au×B au→a2→Prop}{aK:a8}(bL:jB c nm)(I:Inv c nm G n s)(h:n[z]? =some (.bF V aG))(Ek:aG.lookup f=none)(n7:f<nm.length)(x:bA c G s.heap (.ref z) v)
  (cl:oU c.K (.ref (c.ca V)) (gK nm f)=some (some (.ref aK)))(bD:wk c.K (.ref aK)=some (.type "function"))(bz:Q (.ref aK,[v]) s):
  bg (bc c.prog c.w) A (y0 v (gK nm f) lO) Q ab s:=by
 exact lg x I λ p o bM be ee=>FG (ej (be.symm.trans h)▸ee) λ O k m al=>have cz:=(wL (bL.cls V al.i5)).1;method_fn (I.K bL.K) al.inst (IY (cz (gK nm f))).1 (IY (cz (gK nm f))).2 cl bD
  (show(lookIn (gK nm f) (p2 O k)).map (·.isSome)=some false from an (qV (·.isSome)) ((Fy al.at2 al.ns).1.trans (an some ((al.wX f n7).no Ek)))) (x.elim λ q y=>(ej (y.1.symm.trans bM)▸y.2:v= .ref p.1)▸bz)
theorem WX{xs:B D}{Q:au×B au→a2→Prop}(I:Inv c nm G n s)(h:n[z]? =some (.li xs))(x:bA c G s.heap (.ref z) v)(bz:Q (.builtin "list.append",[v]) s):
  bg (bc c.prog c.w) A (y0 v "append" lO) Q ab s:=by
 exact x.elim λ p y=>(rq I y.1 h).2.2.elim λ items q=>q.elim λ k q=>y.2▸R5 q.2.1.typeIs PySem.F.plainAttrs_list PySem.F.slot_list_append PySem.F.type_list_append (λ a e=>IV e▸⟨_,q.1,rfl⟩) (y.2▸bz)
noncomputable def KH(o:Y a0):Bool:=match o with
 |some (.cq _)|some (.h9 _)=>true
 |_=>false
theorem Vl{X:Prop}:∀{o:Y a0},KH o=true→(∀O,o=some (.cq O)→X)→(∀O,o=some (.h9 O)→X)→X:=λ{o} h f g=>by
 cases o with
 |none=>exact jv (show false=true from h)
 |some o=>cases o<;>first|exact f _ rfl|exact g _ rfl|exact jv (show false=true from h)
theorem WZ{a:D}{Q:au×B au→a2→Prop}(I:Inv c nm G n s)(h:rh n a=true)(x:bA c G s.heap a v)(bz:Q (.builtin "dict.get",[v]) s):
  bg (bc c.prog c.w) A (y0 v "get" lO) Q ab s:=by
 have iy:∀{b:a8},v= .ref b→s.TypeIs (.ref b) "dict"→(∃o,s.heap.get? b=some o∧o.dict=none)→bg (bc c.prog c.w) A (y0 v "get" lO) Q ab s:=λ e fY be=>by
  subst e
  exact R5 fY PySem.F.plainAttrs_dict Iz PySem.F.type_dict_get (λ a e=>IV e▸be) bz
 cases a with
 |cd O=>exact x.elim λ b x=>x.2.2.elim λ f y=>have hm:=Nd I y.1;iy x.1 hm.typeIs (hm.noDict _ rfl)
 |ref z=>exact x.elim λ p x=>Vl (show KH n[z]? =true from h) (λ O e=>(I.obj z p _ x.1 e).2.elim λ cZ d=>iy x.2 d.1.typeIs (d.1.mapOf.noDict _ rfl)) λ O e=>(I.obj z p _ x.1 e).2.elim λ xs d=>iy x.2 d.1.typeIs (d.1.imp λ o d=>d.elim λ O d=>d.elim λ hL d=>⟨d.1,d.2.1.2.1⟩)
 |_=>exact nomatch h
end
end Mine
end
section
open PySem PySem.W PyProof.Rows
namespace Mine
variable{v:au}{Q:p6→a2→Prop}{l:B D}{k:C}{a:D}{t:bn}{i:C}{x:aL}
section
variable{c:cV}{nm:B (B C)}{aj:B (Y aL)}{G:cA}{n:St}{s:a2}{A:eB}{ab:au→a2→Prop}{env:aX}{ai:eg}{m:aL→Y au}
theorem Za{bb:a8}{o:fP}{z:ws}{ar:gS au}{O:B bn}{x}{p:hd}(be:s.heap.get? bb=some o)(hc:o.cls= .type z)(a1:o.data= .fields ar)(cy:(["enumerate","zip","dict_itemiterator","dict_reverseitemiterator","odict_iterator","itertools.zip_longest","itertools.pairwise"].contains z)=false)(h:Q () s):
  bg (bc c.prog c.w) A (CM (.Tuple O x p) (.ref bb) v) Q ab s:=by
 have k:∀{b:av} {X:ik p6},bg (bc c.prog c.w) A (if(["enumerate","zip","dict_itemiterator","dict_reverseitemiterator","odict_iterator","itertools.zip_longest","itertools.pairwise"].contains z&&b)=true then X else pure ()) Q ab s:=λ{b X}=>by
  rw[cy];exact eG h
 cases v<;>first|exact eG h| (refine cK (wpAny_load be ?_);rw[hc,a1];exact k)
theorem Mn{bb:a8}(T:ln c G s.heap bb l k a)(h:Q () s):bg (bc c.prog c.w) A (CM t (.ref bb) v) Q ab s:=by
 have e:∀{X:Prop},(∀o z ar,s.heap.get? bb=some o→o.cls= .type z→o.data= .fields ar→(["enumerate","zip","dict_itemiterator","dict_reverseitemiterator","odict_iterator","itertools.zip_longest","itertools.pairwise"].contains z)=false→X)→X:=λ{X} f=>by
  cases a with
  |tup _=>obtain⟨_,_,_,_,o,be,hc,a1⟩:=T;exact f o _ _ be hc a1 (by decide)
  |ss _=>obtain⟨_,_,o,be,hc,a1⟩:=T;exact f o _ _ be hc a1 (by decide)
  |ew _ _=>obtain⟨_,be⟩:=T;exact f _ _ _ be rfl rfl (by decide)
  |ref _=>obtain⟨p,_,o,be,hc,a1⟩:=T;exact f o _ _ be hc a1 (by decide)
  |_=>exact T.elim
 refine e λ o z ar be hc a1 cy=>?_
 have g:∀O x p,bg (bc c.prog c.w) A (CM (.Tuple O x p) (.ref bb) v) Q ab s:=λ O x p=>Za be hc a1 cy h
 cases t<;>first|exact eG h|exact g _ _ _|exact g [] default default
theorem Y'{bb:a8}{Q:au→a2→Prop}(T:ln c G s.heap bb l k a)(h:Q (.ref bb) s):bg (bc c.prog c.w) A (pyIter (.ref bb)) Q ab s:=by
 cases a with
 |tup _=>obtain⟨_,_,_,_,ay⟩:=T;exact wpAny_pyIter_tupleiter ay h
 |ss _=>obtain⟨_,_,ay⟩:=T;exact wpAny_pyIter_striter_ascii ay h
 |ew _ _=>obtain⟨_,ay⟩:=T;exact wpAny_pyIter_rangeiter ay h
 |ref _=>obtain⟨p,_,ay⟩:=T;exact wpAny_pyIter_listiter ay h
 |_=>exact T.elim
noncomputable def tl(aS:gc)(x:aL):Bool:=aS.names.lookup x==some .local||aS.names.lookup x==some .cell
noncomputable def u'(aj:B (Y aL))(i:C)(x:aL):Bool:=cT (cT λ y=>decide (y=x)) (aj:B (Y aL))[i]?
theorem va(h:u' aj i x=true):(aj:B (Y aL))[i]? =some (some x):=
 qt h λ o h=>qt h λ y h=>an (λ y=>some (some y)) (gi h)
noncomputable def DE(aj:B (Y aL))(aS:gc)(i:C):bn→Bool:=nx λ x=>u' aj i x&&tl aS x
noncomputable def zI(aj:B (Y aL))(aS:gc):B C→B bn→av
 | [],O=>hh O
 |i::xs,O=>oe (λ e O=>DE aj aS i e&&zI aj aS xs O) O
noncomputable def rM(aj:B (Y aL))(aS:gc)(many:av)(xs:B C)(t:bn):Bool:=cond many (yr (zI aj aS xs) t) (dy (λ i=>DE aj aS i t) xs)
noncomputable def xu(aS:gc):bn→Bool:=nx λ x=>aS.names.lookup x==some .local
noncomputable def rt(aS:gc)(t:bn):Bool:=cond (kj t.ctorIdx 23) (xu aS t) (yr (λ O=>O.all (xu aS)) t)
theorem Gw{ai:eg}(h:tl ai.scope x=true)(hc:∀x,ai.kindOf x=some .cell→(ai.cells.lookup x).isSome=true):
  ai.kindOf x=some .local∨ai.kindOf x=some .cell∧(ai.cells.lookup x).isSome=true:=
 (BX.mp h).imp eq_of_beq λ q=>⟨eq_of_beq q,hc x (eq_of_beq q)⟩
noncomputable def y6(c:cV)(nm:B (B C))(aj:B (Y aL))(G:cA)(n:St)(ai:eg)(aF:aX)(loc:av)(Q:p6→a2→Prop)(s:a2):Prop:=
 ∀H t c0,cu (e2 ai) s.heap H→(loc=true→cu (λ b=>b=ai.locals) s.heap H)→c9 c aj G aF ai H c0→Inv c nm G n {s with heap:=H,toks:=t}→Q () {s with heap:=H,toks:=t}
theorem KO{e:bn}(F:c9 c aj G env ai s.heap m)(I:Inv c nm G n s)(h:DE aj ai.scope i e=true)(r:bA c G s.heap a v)(du:y6 c nm aj G n ai (iP env i a) (xu ai.scope e) Q s):bg (bc c.prog c.w) A (assign e ai v) Q ab s:=by
 revert du
 exact mL h λ x p o du=>R' (Gx F I (va (a7 o)) (Gw (aD o) F.has) r λ H t c0 c2 dW g9 ey=>du H t c0 c2 (λ q=>dW (eq_of_beq q)) g9 ey)
theorem VF(xs:B C):∀{O:B bn} {l:B D} {ar:B au} {env aF:aX} {m:aL→Y au} {s:a2} {Q:p6→a2→Prop},c9 c aj G env ai s.heap m→Inv c nm G n s→
  zI aj ai.scope xs O=true→ti env xs l=some aF→cs c G s.heap l ar→y6 c nm aj G n ai aF (O.all (xu ai.scope)) Q s→
  bg (bc c.prog c.w) A (R4 ((t3 O ai).map (·.2)) ar) Q ab s:=by
 induction xs with
 |nil=>
  intro O l ar env aF m s Q F I h
  refine g0 h λ b3 r du=>?_
  cases l with
  |nil=>exact(show ar=[]from r)▸eG (du s.heap s.toks m (.refl _ _) (λ _=>.refl _ _) (ej b3▸F) I)
  |cons a l=>cases b3
 |cons i xs aZ=>
  intro O l ar env aF m s Q F I h
  refine jq h λ e O h b3 r du=>?_
  cases l with
  |nil=>cases b3
  |cons a l=>
   refine r.elim λ v r=>r.elim λ f6 r=>r.1▸?_
   have w:(t3 (e::O) ai).map (·.2)=assign e ai::(t3 O ai).map (·.2):=mL (a7 h) λ x p o=>rfl
   refine(an (R4 · (v::f6)) w).symm▸wpAny_assignInOrder_more (KO F I (a7 h) r.2.1 λ H t c0 c2 dW g9 ey=>aZ g9 ey (aD h) b3 (r.2.2.keep (.refl G) (F.wJ (t:=s.toks) I c2).2) λ pc cB xw g1 g2 kf nC=>du pc cB xw (c2.trans g1) (λ q=>(dW (a7 q)).trans (g2 (aD q))) kf nC)
theorem VE{aS:gc}{ai:eg}(xs:B C):∀{O:B bn},zI aj aS xs O=true→(t3 O ai).length=xs.length∧(t3 O ai).findIdx? (·.1)=none:=by
 induction xs with
 |nil=>exact λ h=>g0 h ⟨rfl,rfl⟩
 |cons i xs aZ=>
  refine λ h=>jq h λ e O h=>?_
  have w:t3 (e::O) ai=(false,assign e ai)::t3 O ai:=mL (a7 h) λ x p o=>rfl
  have a:=aZ (aD h)
  exact w▸⟨an l2 a.1,List.findIdx?_cons.trans (an (qV l2) a.2)⟩
theorem ad0(xs:B C):∀{l:B D} {env aF:aX},ti env xs l=some aF→xs.length=l.length:=by
 induction xs with
 |nil=>exact λ{l} _ _ h=>by cases l<;>first|rfl|cases h
 |cons x xs aZ=>exact λ{l} _ _ h=>by cases l<;>first|cases h|exact an l2 (aZ h)
theorem C7{many:av}{xs:B C}{aF:aX}(gM:A.handled=none)(F:c9 c aj G env ai s.heap m)(I:Inv c nm G n s)
  (bD:rM aj ai.scope many xs t=true)(az:dh many xs a env=some aF)(r:bA c G s.heap a v)(du:y6 c nm aj G n ai aF (rt ai.scope t) Q s):
  bg (bc c.prog c.w) A (assign t ai v) Q ab s:=by
 cases many with
 |false=>
  revert az
  refine jp bD λ i o az=>KO F I o r ?_
  have du:y6 c nm aj G n ai (iP env i a) (rt ai.scope t) Q s:=ej az▸du
  exact(show rt ai.scope t=xu ai.scope t from mL o λ _ _ _=>rfl)▸du
 |true=>
  revert du
  refine Hl bD λ O k cg bD du=>?_
  cases a with
  |tup l=>
   obtain⟨b,items,rfl,Yq,a4⟩:=r
   have dy:=VE (ai:=ai) xs bD
   refine wpAny_assign_Tuple gM Yq (dy.1.trans ((ad0 xs az).trans (a4.length.symm.trans yt))) dy.2 λ H b3=>?_
   have ch:cu (λ _=>False) s.heap H:=λ b o e _=>b3 b o (λ q=>absurd (mU e) (by rw[q];exact oR _)) e
   have S:Step G s G {s with heap:=H}:=.more (t:=s.toks) ch
   have ey:Inv c nm G n {s with heap:=H}:=I.more (t:=s.toks) ch
   exact VF xs (s:={s with heap:=H}) (F.step I S) ey bD az (S.vO I a4) λ pc cB xw g1 g2 kf nC=>du pc cB xw (ch.all.trans g1) (λ q=>ch.all.trans (g2 q)) kf nC
  |_=>cases az
end
end Mine
end
section
open PySem PySem.W PyProof.Rows
namespace Mine
variable{xs:B C}{a:D}{e:aX}{i:C}{o:Y D}{bC:aX}{many:av}{r:aX}{bG:gc}{gp:B aL}
noncomputable def Agree(xs:B C)(e bC:aX):Prop:=e.length=bC.length∧∀j,j∉xs→(e:B (Y D))[j]? =(bC:B (Y D))[j]?
theorem Agree.refl(xs:B C)(e:aX):Agree xs e e:=⟨rfl,λ _ _=>rfl⟩
theorem Agree.trans{a b d:aX}(x:Agree xs a b)(y:Agree xs b d):Agree xs a d:=⟨x.1.trans y.1,λ j h=>(x.2 j h).trans (y.2 j h)⟩
theorem Agree.set(h:i∈xs):Agree xs e (yI e i o):=⟨by simp,λ j bt=>by
 rw[tP];rintro rfl;exact bt h⟩
theorem Agree.both{x:C}(h:Agree (x::xs) e bC):Agree xs (yI e x o) (yI bC x o):=by
 refine⟨by simp[h.1],λ j bt=>?_⟩
 by_cases aA:x=j
 ·subst aA
  by_cases hl:x<e.length
  ·rw[yE hl,yE (h.1▸hl)]
  ·rw[B9 (by simp;omega),B9 (by simp[←h.1];omega)]
 ·rw[tP aA,tP aA]
  exact h.2 j (by simp only[kh,not_or];exact⟨λ q=>aA q.symm,bt⟩)
theorem Jr(h:Agree [] e bC):e=bC:=List.ext_getElem? λ j=>h.2 j (by simp)
theorem OW:∀{xs:B C} {l:B D} {e bC r:aX},Agree xs e bC→ti e xs l=some r→ti bC xs l=some r
 | [],[],e,bC,r,h,q=>by cases q;rw[Jr h];rfl
 | [],_::_,_,_,_,_,q=>by cases q
 |_::_,[],_,_,_,_,q=>by cases q
 |x::xs,a::l,e,bC,r,h,q=>OW (xs:=xs) (Agree.both h) q
theorem OX:∀{xs bf:B C} {l:B D} {e r:aX},(∀x∈xs,x∈bf)→ti e xs l=some r→Agree bf e r
 | [],_,[],e,r,_,q=>by cases q;exact .refl _ _
 | [],_,_::_,_,_,_,q=>by cases q
 |_::_,_,[],_,_,_,q=>by cases q
 |x::xs,bf,a::l,e,r,h,q=>(Agree.set (h x (.head _))).trans (OX (xs:=xs) (λ y bI=>h y (.tail _ bI)) q)
theorem Uo(h:Agree xs e bC)(q:dh many xs a e=some r):dh many xs a bC=some r:=by
 unfold dh at q⊢
 split at q
 ·cases q
  rename_i x
  exact an some (Jr (Agree.both h)).symm
 ·exact OW h q
 ·cases q
theorem Up(q:dh many xs a e=some r):Agree xs e r:=by
 unfold dh at q
 split at q
 ·cases q;exact Agree.set (.head _)
 ·exact OX (λ _ h=>h) q
 ·cases q
noncomputable def zw(xs:B C)(e:aX):aX:=xs.foldl (λ e i=>yI e i none) e
theorem zx{bf:B C}:∀{xs:B C} {e:aX},(∀x∈xs,x∈bf)→Agree bf e (zw xs e)
 | [],_,_=>.refl _ _
 |x::xs,e,h=>(Agree.set (h x (.head _))).trans (zx (xs:=xs) λ y bI=>h y (.tail _ bI))
theorem Kq{i:C}{a:D}:∀{xs:B C} {e:aX},(e:B (Y D))[i]? ≠some (some a)→(zw xs e:B (Y D))[i]? ≠some (some a)
 | [],_,h=>h
 |x::xs,e,h=>Kq (xs:=xs) λ q=>by
  by_cases aA:x=i
  ·subst aA
   rw[Q1]at q
   split at q
   ·split at q<;>cases q
   ·exact absurd rfl ‹¬_›
  ·rw[tP aA]at q;exact h q
theorem Kp{i:C}{a:D}:∀{xs:B C} {e:aX},i∈xs→(zw xs e:B (Y D))[i]? ≠some (some a)
 |x::xs,e,h=>by
  rcases kh.mp h with rfl|h
  ·refine Kq (xs:=xs) (e:=yI e i none) λ q=>?_
   rw[Q1]at q
   split at q
   ·split at q<;>cases q
   ·exact absurd rfl ‹¬_›
  ·exact Kp (xs:=xs) h
noncomputable def gg(cells:B (aL×a8)):B (aL×mV)→B (aL×a8)→B (aL×a8)
 | [],acc=>acc
 | (z,k)::r,acc=>if k== .free then gg cells r ((z,(cells.lookup z).getD 0)::acc)else gg cells r acc
theorem U5{ai:eg}(h:∀x∈bG.names,x.2= .free→(ai.cells.lookup x.1).isSome=true):closureFor bG ai=pure (gg ai.cells bG.names []):=by
 unfold closureFor
 have:∀(names:B (aL×mV)) (acc:B (aL×a8)),(∀x∈names,x.2= .free→(ai.cells.lookup x.1).isSome=true)→
   (forIn names acc λ x Kz=>match x with
    | (name,kind)=>if(kind==tZ)=true then(do let a←cellOf ai name;pure (kV ((name,a)::Kz)))else pure (kV Kz):ik (B (aL×a8)))=pure (gg ai.cells names acc):=by
  intro names
  induction names with
  |nil=>intro acc _;rfl
  |cons p r aZ=>
   obtain⟨z,k⟩:=p
   intro acc gM
   rw[HT]
   unfold gg
   by_cases hk:(k==tZ)=true
   ·obtain⟨a,bO⟩:=oT.mp (gM (z,k) (.head _) (jk.mp hk))
    have e:cellOf ai z=pure a:=by unfold cellOf;rw[bO]
    simp only[hk,if_true,e,pure_bind,bO,RA]
    exact aZ _ λ x aA=>gM x (.tail _ aA)
   ·simp only[hk,pure_bind,Hu,EA]
    exact aZ _ λ x aA=>gM x (.tail _ aA)
 have t:=this bG.names [] h
 simp only[]at t⊢
 rw[t]
 rfl
theorem zu{cells:B (aL×a8)}{x:aL}{q:a8}:∀{names:B (aL×mV)} {acc:B (aL×a8)},(∀y∈names,y.2= .free→(cells.lookup y.1).isSome=true)→(gg cells names acc).lookup x=some q→acc.lookup x=some q∨cells.lookup x=some q
 | [],_,_,h=>.inl h
 | (z,k)::r,acc,gM,h=>by
  unfold gg at h
  split at h
  ·rename_i hk
   obtain⟨a,bO⟩:=oT.mp (gM (z,k) (.head _) (jk.mp hk))
   rcases zu (λ y bI=>gM y (.tail _ bI)) h with e|e
   ·rw[l1]at e
    split at e
    ·rename_i aA
     cases e
     right
     rw[bO,RA,jk.mp aA]
     exact bO
    ·exact .inl e
   ·exact .inr e
  ·exact zu (λ y bI=>gM y (.tail _ bI)) h
theorem zv{cells:B (aL×a8)}{x:aL}:∀{names:B (aL×mV)} {acc:B (aL×a8)},names.lookup x=some .free∨(acc.lookup x).isSome=true→((gg cells names acc).lookup x).isSome=true
 | [],_,h=>h.elim (λ e=>by cases e) id
 | (z,k)::r,acc,h=>by
  unfold gg
  by_cases hk:(k==tZ)=true
  ·rw[if_pos hk]
   refine zv (names:=r) ?_
   by_cases aA:(x==z)=true
   ·exact .inr (by rw[l1,aA];rfl)
   ·refine h.imp (λ e=>?_) λ e=>?_
    ·rw[l1]at e;simpa only[aA]using e
    ·rw[l1];simpa only[aA]using e
  ·rw[if_neg hk]
   refine zv (names:=r) (h.imp (λ e=>?_) id)
   rw[l1]at e
   split at e
   ·cases e;exact absurd rfl hk
   ·exact e
noncomputable def pD(bG aS:gc):Scope:=wo bG {scope:=aS,locals:=0,globals:=0,cells:=[]}
theorem M5{g:aL→mV→mV}{x:aL}:∀{names:B (aL×mV)},(names.map λ p=>(p.1,g p.1 p.2)).lookup x=(names.lookup x).map (g x)
 | []=>rfl
 | (z,k)::r=>by
  rw[oN,l1,l1]
  by_cases h:(x==z)=true
  ·rw[h,jk.mp h];rfl
  ·simp only[Bool.not_eq_true]at h
   rw[h];exact M5
theorem On(bG:gc)(ai:eg)(x:aL):(wo bG ai).names.lookup x=(bG.names.lookup x).map λ k=>if(k==tZ&&ai.scope.kind== .function&&ai.kindOf x==some .cell)=true then .cell else k:=by
 rw[←M5 (g:=λ z k=>if(k==tZ&&ai.scope.kind== .function&&ai.kindOf z==some .cell)=true then .cell else k)]
 have:(wo bG ai).names=bG.names.map λ p=>(p.1,if(p.2==tZ&&ai.scope.kind== .function&&ai.kindOf p.1==some .cell)=true then .cell else p.2):=by
  unfold wo
  show eA _ _=eA _ _
  congr 1
  funext p
  obtain⟨z,k⟩:=p
  dsimp only
  split<;>rfl
 rw[this]
noncomputable def Dv(aS bG:gc):Bool:=
 bG.kind== .function&&(bG.names.all λ x=>x.2 != .cell)&&(bG.names.all λ x=>x.2 != .local||bG.names.lookup x.1==some .local)&&(bG.names.all λ x=>x.2 != .free||aS.names.lookup x.1==some .cell)
structure v0(aS bG:gc):Prop where
 kind:bG.kind= .function
 cell:∀x∈bG.names,x.2≠ .cell
 loc:∀x∈bG.names,x.2= .local→bG.names.lookup x.1=some .local
 free:∀x∈bG.names,x.2= .free→aS.names.lookup x.1=some .cell
theorem Kt{aS:gc}(h:Dv aS bG=true):v0 aS bG:=by
 unfold Dv at h
 simp only[jX,g',Bool.or_eq_true,jk,p8]at h
 obtain⟨⟨⟨ax,aH⟩,cI⟩,gh⟩:=h
 exact⟨ax,aH,λ x aA e=>(cI x aA).resolve_left λ q=>q e,λ x aA e=>(gh x aA).resolve_left λ q=>q e⟩
noncomputable def ib(aj:B (Y aL))(xs:B C)(gp:B aL)(bG:gc):B (Y aL):=
 (ck aj.length).map λ i=>if i∈xs then((xs.zip gp).lookup i)else match(aj:B (Y aL))[i]? with
  |some (some x)=>if bG.names.lookup x==some .free then some x else none
  |_=>none
theorem abH(aj:B (Y aL))(xs:B C)(gp:B aL)(bG:gc):(ib aj xs gp bG).length=aj.length:=by simp[ib]
theorem abI{aj:B (Y aL)}{x:aL}(h:(ib aj xs gp bG:B (Y aL))[i]? =some (some x))(ay:i∉xs):(aj:B (Y aL))[i]? =some (some x)∧bG.names.lookup x=some .free:=by
 unfold ib at h
 rw[qS]at h
 obtain⟨j,bt,e⟩:=l3.mp h
 have:j=i:=by
  rw[yD]at bt
  ·cases bt;rfl
  ·have:=(jZ.mp bt).1;simpa using this
 subst this
 rw[if_neg ay]at e
 split at e
 ·rename_i y wR
  split at e
  ·rename_i cl
   cases e
   exact⟨wR,jk.mp cl⟩
  ·cases e
 ·cases e
noncomputable def ts(aj:B (Y aL)):Bool:=decide ((aj.filterMap id).Nodup)
theorem GX:∀{aj:B (Y aL)},(aj.filterMap id).Nodup→∀(i j:C) x,(aj:B (Y aL))[i]? =some (some x)→(aj:B (Y aL))[j]? =some (some x)→i=j
 | [],_,i,_,_,h,_=>by simp at h
 |none::r,a1,i,j,x,ax,aH=>by
  cases i with
  |zero=>simp at ax
  |succ i=>
   cases j with
   |zero=>simp at aH
   |succ j=>rw[GX (aj:=r) (by simpa using a1) i j x (by simpa using ax) (by simpa using aH)]
 |some y::r,a1,i,j,x,ax,aH=>by
  have gw:y∉r.filterMap id∧(r.filterMap id).Nodup:=by simpa using a1
  have mem:∀{k:C},(r:B (Y aL))[k]? =some (some y)→False:=λ e=>gw.1 (List.mem_filterMap.mpr ⟨some y,h3 e,rfl⟩)
  cases i with
  |zero=>
   simp only[yB,yO]at ax
   subst ax
   cases j with
   |zero=>rfl
   |succ j=>exact(mem (by simpa using aH)).elim
  |succ i=>
   cases j with
   |zero=>
    simp only[yB,yO]at aH
    subst aH
    exact(mem (by simpa using ax)).elim
   |succ j=>rw[GX (aj:=r) gw.2 i j x (by simpa using ax) (by simpa using aH)]
theorem GW{aj:B (Y aL)}(h:ts aj=true):∀(i j:C) x,(aj:B (Y aL))[i]? =some (some x)→(aj:B (Y aL))[j]? =some (some x)→i=j:=GX (gi h)
section
variable{c:cV}{nm:B (B C)}{aj:B (Y aL)}{G:cA}{n:St}{s:a2}{A:eB}{ab:au→a2→Prop}{env:aX}{ai:eg}{m:aL→Y au}
theorem Va{V:a8}{H:dD}{c0:aL→Y au}{t:C}(F:c9 c aj G env ai s.heap m)(I:Inv c nm G n s)(Z:v0 ai.scope bG)(dS:ts (ib aj xs gp bG)=true)(bV:s.heap.get? V=none)
  (hk:∀b o,s.heap.get? b=some o→H.get? b=some o)(cy:H.Ns V c0):c9 c (ib aj xs gp bG) G (zw xs env) (compEnvC bG (gg ai.cells bG.names []) V ai) H c0∧Inv c nm G n {s with heap:=H,toks:=t}:=by
 have ch:cu (λ _=>False) s.heap H:=λ b o e _=>hk b o e
 have S:Step G s G {s with heap:=H,toks:=t}:=.more ch
 have g9:=F.step I S
 have z7:∀x∈bG.names,x.2= .free→(ai.cells.lookup x.1).isSome=true:=λ x aA e=>F.has _ (Z.free x aA e)
 have e4:∀{x q},(gg ai.cells bG.names []).lookup x=some q→ai.cells.lookup x=some q:=λ h=>(zu z7 h).elim (λ e=>by cases e) id
 refine⟨⟨?_,F.rd,F.blt,?_,cy,λ x q e=>g9.cells x q (e4 e),λ x y q aw aB=>F.apart x y q (e4 aw) (e4 aB),λ b o f=>?_,λ b o=>?_,GW dS,λ x e=>?_,λ i x a aA bO=>?_⟩,I.more ch⟩
 ·show(wo bG ai).kind= .function
  exact Z.kind
 ·rw[←(zx (bf:=xs) λ _ h=>h).1,F.len,abH]
 ·rcases o with rfl| ⟨x,e⟩
  ·obtain⟨o,e⟩:=I.wV f
   rw[bV]at e;cases e
  ·exact F.foot b (.inr ⟨x,e4 e⟩) f
 ·rcases o with rfl| ⟨x,e⟩
  ·cases e:c.h₀.get? b with
   |none=>rfl
   |some o=>have:=I.base _ _ e;rw[bV]at this;cases this
  ·exact F.out b (.inr ⟨x,e4 e⟩)
 ·have bC:((bG.names.lookup x).map λ k=>if(k==tZ&&ai.scope.kind== .function&&ai.kindOf x==some .cell)=true then .cell else k)=some .cell:=(On bG ai x)▸e
  obtain⟨k,n6,aB⟩:=l3.mp bC
  split at aB
  ·rename_i q
   simp only[jX,jk]at q
   exact zv (.inl (q.1.1▸n6))
  ·subst aB
   exact absurd rfl (Z.cell _ (mem_of_lookup n6))
 ·have ay:i∉xs:=λ q=>Kp q bO
  obtain⟨ax,aH⟩:=abI aA ay
  have Xp:(env:B (Y D))[i]? =some (some a):=by
   rw[(zx (bf:=xs) (e:=env) λ _ h=>h).2 i ay];exact bO
  have kp:=g9.vars i x a ax Xp
  have LF:=Z.free _ (mem_of_lookup aH) rfl
  obtain⟨q,du⟩:=oT.mp (zv (cells:=ai.cells) (acc:=[]) (.inl aH))
  have XV:(compEnvC bG (gg ai.cells bG.names []) V ai).kindOf x=some .cell:=by
   show(wo bG ai).names.lookup x=_
   rw[On,aH]
   have aw:ai.kindOf x=some .cell:=LF
   simp[F.kind,aw]
  have aw:ai.kindOf x=some .cell:=LF
  exact kp.imp λ v kp=>⟨kp.1,kp.2.elim (λ w=>nomatch aw.symm.trans w.1) λ w=>.inr ⟨.inl XV,q,du,w.2.elim λ ep w=>ej (w.1.symm.trans (e4 du))▸w.2⟩⟩
end
end Mine
end
section
open PySem PySem.W PyProof.Rows
namespace Mine
variable{l:B D}{k:C}{h:dD}{b:a8}{H:dD}{X:a8→Prop}{fV:cA}{fm:a2}{a:D}{bv:cA}{a9:a2}{J:St}{ag:a8}{acc:B D}{L:C}{el:eg}{aF:aX}{xs:B C}
section
variable{prog:lv}{w:eY}{A:eB}{ab:au→a2→Prop}{R:yT→a2→Prop}{s:a2}
theorem U9{kw iQ hy:bn}{eo:B bn}{scope:gc}{cg:hd}{bb acc:au}{env:eg}(I:C→a2→Prop)
  (aft:∀z s,I z s→bg (bc prog w) A (pyNext bb) (λ r aJ=>match r with
   |none=>R (.ok .next) aJ
   |some v=>bg (bc prog w) A (CM iQ bb v) (λ _ Ph=>bg (bc prog w) A (assign iQ env v) (λ _ b'=>
     bg (bc prog w) A (forIn eo true λ c r=>if r=true then do let ok←isTrue c env (eval c env);pure (kV ok)else pure (kV r)) (λ ok jt=>
      if ok=true then bg (bc prog w) A (eval kw env) (λ x tm=>
       bg (bc prog w) A (call (.builtin "list.append") [acc,x]) (λ _ yf=>∃m,m<z∧I m yf) (wn (bc prog w) A env λ e a9=>R (.error e) a9) tm) (wn (bc prog w) A env λ e a9=>R (.error e) a9) jt
      else∃m,m<z∧I m jt) (wn (bc prog w) A env λ e a9=>R (.error e) a9) b') (wn (bc prog w) A env λ e a9=>R (.error e) a9) Ph) (wn (bc prog w) A env λ e a9=>R (.error e) a9) aJ) (wn (bc prog w) A env λ e a9=>R (.error e) a9) s)
  (z:C)(h:I z s):t4 (bc prog w) A (.compLoop (.ListComp kw [⟨iQ,hy,eo,0⟩] scope cg) 0 bb acc env) R s:=by
 refine codeAny_loop rfl I (λ z s dj=>?_) z h
 show bg _ A ((compTurn (.ListComp kw [⟨iQ,hy,eo,0⟩] scope cg) 0 bb acc env).onRaise (λ x=>do noteFrame x env;theTreesLotGoes x)) _ _ s
 refine wpAny_noted ?_
 rw[compTurn_list]
 refine cK (sg (cK (fa (aft z s dj) (λ r aJ aI=>?_) λ _ _ H=>H)))
 cases r with
 |none=>exact eG aI
 |some v=>
  refine cK (fa aI (λ _ Ph aI=>?_) λ _ _ H=>H)
  refine cK (fa aI (λ _ b' bJ=>cK (fa bJ (λ ok jt cQ=>?_) λ _ _ H=>H)) λ _ _ H=>H)
  cases ok with
  |false=>exact eG ⟨rfl,cQ⟩
  |true=>
   exact cK (cK (fa cQ (λ x tm hP=>cK (fa hP (λ _ yf i4=>eG (eG ⟨rfl,i4⟩)) λ _ _ H=>H)) λ _ _ H=>H))
end
section
variable{c:cV}{nm:B (B C)}{aj:B (Y aL)}{G:cA}{n:St}{s:a2}{A:eB}{ab:au→a2→Prop}{env:aX}{ai:eg}{m:aL→Y au}
noncomputable def r0(ag ae bb:a8)(b:a8):Prop:=b=ag∨b=ae∨b=bb
theorem Lj{α:Type}{l r:B α}{x:α}(h:l.drop k=x::r):l[k]? =some x∧l.drop (k+1)=r:=by
 constructor
 ·have:=List.getElem?_drop (xs:=l) (i:=k) (j:=0)
  rw[h]at this
  simpa using this.symm
 ·have:(l.drop k).drop 1=r:=by rw[h];rfl
  rwa [List.drop_drop]at this
structure rY(c:cV)(nm:B (B C))(aj:B (Y aL))(fV:cA)(fm:a2)(xs:B C)(env:aX)(el:eg)(bb ag:a8)(a:D)(l:B D)(k:C)(acc:B D)(G:cA)(n:St)(s:a2):Prop where
 inv:Inv c nm G n s
 mf:∃aF m,Agree xs env aF∧c9 c aj G aF el s.heap m
 at_:ln c G s.heap bb l k a
 out:∃bf d9,s.heap.get? ag=some {cls:=.type "list",data:=.seq bf d9}∧cs c G s.heap acc bf.toList∧bf.size≤k
 le:k≤l.length
 step:fi (r0 ag el.locals bb) fV fm G s
 base:∀b,r0 ag el.locals bb b→c.h₀.get? b=none
 ne:ag≠el.locals∧ag≠bb∧bb≠el.locals∧∀x q,el.cells.lookup x=some q→q≠ag∧q≠bb
structure lq(c:cV)(nm:B (B C))(X:a8→Prop)(fV:cA)(fm:a2)(bb:a8)(a:D)(l:B D)(k:C)(G:cA)(n:St)(s:a2):Prop where
 inv:Inv c nm G n s
 at_:ln c G s.heap bb l k a
 step:fi X fV fm G s
 base:c.h₀.get? bb=none
 BO:X bb
theorem Fq(x:∃o,h.get? b=some o∧¬ij o)(o:fP)(e:h.get? b=some o):¬ij o:=let⟨_,bC,z⟩:=x;(ej (e.symm.trans bC))▸z
theorem c9.zt{aj:B (Y aL)}{env:aX}{ai:eg}{G:cA}{m:aL→Y au}(F:c9 c aj G env ai h m)(ch:cu X h H)(own:∀b,e2 ai b→¬X b)(d8:fW h H):c9 c aj G env ai H m:=
 ⟨F.kind,F.rd,F.blt,F.len,tW.ch ch (own _ (.inl rfl)) F.ns,λ y q e=>let⟨v,cP⟩:=F.cells y q e;⟨v,tM.ch ch (own _ (.inr ⟨y,e⟩)) cP⟩,F.apart,F.foot,F.out,F.uniq,F.has,λ i y b ax aH=>
  (F.vars i y b ax aH).keep (.refl G) d8 (λ _=>id) λ q v e cP=>tM.ch ch (own _ (.inr ⟨y,e⟩)) cP⟩
theorem Inv.JI(I:Inv c nm G n s)(t:C)(ch:cu (λ q=>q=b) s.heap H)(off:¬eF G b)(base:c.h₀.get? b=none)(rz:∃o,s.heap.get? b=some o∧¬ij o):Inv c nm G n {s with heap:=H,toks:=t}∧fW s.heap H:=
 ⟨I.change ch (λ q e=>e▸off) (λ q e=>e▸base) λ q o e g=>Fq rz o (e▸g),λ q o e f=>ch q o e λ L=>Fq rz o (L▸e) f⟩
theorem lq.off{bb:a8}(cU:lq c nm X fV fm bb a l k G n s):¬eF G bb:=cU.step.off _ cU.BO
theorem lq.chg{bb:a8}(cU:lq c nm X fV fm bb a l k G n s)(t:C)(ch:cu (λ b=>b=bb) s.heap H):Inv c nm G n {s with heap:=H,toks:=t}∧fW s.heap H∧fi X fV fm G {s with heap:=H,toks:=t}:=
 have L:=cU.inv.JI t ch cU.off cU.base cU.at_.live
 ⟨L.1,L.2,cU.step.trans (.ni (ch.mono λ _ q=>q▸cU.BO) cU.step.off)⟩
theorem lq.br{bb:a8}(cU:lq c nm X fV fm bb a l k G n s)(t:C)(ch:cu (λ b=>b=bb) s.heap H)(T:ln c G H bb l (k+1) a):lq c nm X fV fm bb a l (k+1) G n {s with heap:=H,toks:=t}:=
 have L:=cU.chg t ch;⟨L.1,T,L.2.2,cU.base,cU.BO⟩
theorem lq.ea{bb:a8}(cU:lq c nm X fV fm bb a l k G n s)(ey:Inv c nm bv J a9)(S:fi X G s bv a9)(d8:fW s.heap a9.heap)(e:∀o,s.heap.get? bb=some o→a9.heap.get? bb=some o):lq c nm X fV fm bb a l k bv J a9:=
 ⟨ey,cU.at_.keep S.ext.1 d8 e,cU.step.trans S,cU.base,cU.BO⟩
noncomputable def tX(c:cV)(G:cA)(h:dD)(ag:a8)(acc:B D)(L:C):Prop:=∃bf d9,h.get? ag=some {cls:=.type "list",data:=.seq bf d9}∧cs c G h acc bf.toList∧bf.size≤L
theorem tX.keep(bL:tX c G h ag acc L)(lo:ha G bv)(d8:fW h H)(e:∀o,h.get? ag=some o→H.get? ag=some o):tX c bv H ag acc L:=let⟨bf,d9,aw,r,l⟩:=bL;⟨bf,d9,e _ aw,r.keep lo d8,l⟩
theorem tX.rz(bL:tX c G h ag acc L):∃o,h.get? ag=some o∧¬ij o:=let⟨_,_,e,_⟩:=bL;⟨_,e,λ f=>f.elim (λ f=>absurd f.1 (by simp)) λ f=>absurd f.1 (by simp)⟩
structure ke(c:cV)(nm:B (B C))(aj:B (Y aL))(fV:cA)(fm:a2)(el:eg)(bb ag:a8)(a:D)(l:B D)(k L:C)(acc:B D)(env:aX)(m:aL→Y au)(G:cA)(n:St)(s:a2):Prop where
 h:lq c nm (r0 ag el.locals bb) fV fm bb a l k G n s
 mf:c9 c aj G env el s.heap m
 out:tX c G s.heap ag acc L
theorem ke.live{bb:a8}{env:aX}{m:aL→Y au}(ak:ke c nm aj fV fm el bb ag a l k L acc env m G n s):∀b,r0 ag el.locals bb b→¬eF G b∧∃o,s.heap.get? b=some o:=λ b az=>
 ⟨ak.h.step.off b az,az.elim (λ e=>e▸ak.out.rz.elim λ o q=>⟨o,q.1⟩) λ az=>az.elim (λ e=>e▸(e2.old ak.mf (.inl rfl)).elim λ o q=>⟨o,q.1⟩) λ e=>e▸ak.h.at_.live.elim λ o q=>⟨o,q.1⟩⟩
theorem ke.ea{bb:a8}{env:aX}{m:aL→Y au}(ak:ke c nm aj fV fm el bb ag a l k L acc env m G n s)(ey:Inv c nm bv J a9)(S:Step G s bv a9):ke c nm aj fV fm el bb ag a l k L acc env m bv J a9:=
 have d8:=ak.h.inv.nc S.ch
 ⟨ak.h.ea ey (.FI S ak.live) d8 λ o e=>S.ch _ o e ak.h.off,ak.mf.step ak.h.inv S,ak.out.keep S.ext.1 d8 λ o e=>S.ch _ o e (ak.h.step.off _ (.inl rfl))⟩
theorem ke.asg{bb:a8}{env:aX}{m c0:aL→Y au}{t:C}(ak:ke c nm aj fV fm el bb ag a l k L acc env m G n s)(Fg:ag≠el.locals)(Fh:bb≠el.locals)(ch:cu (λ b=>b=el.locals) s.heap H)(F:c9 c aj G aF el H c0)(I:Inv c nm G n {s with heap:=H,toks:=t}):ke c nm aj fV fm el bb ag a l k L acc aF c0 G n {s with heap:=H,toks:=t}:=
 have d8:=(ak.mf.wJ (t:=t) ak.h.inv (ch.mono λ b q=>.inl q)).2
 ⟨ak.h.ea I (.ni (ch.mono λ b q=>.inr (.inl q)) ak.h.step.off) d8 λ o e=>ch _ o e Fh,F,ak.out.keep (.refl G) d8 λ o e=>ch _ o e Fg⟩
theorem rY.uj{bb:a8}{X:Prop}(cU:rY c nm aj fV fm xs env el bb ag a l k acc G n s)(f:∀aF m,Agree xs env aF→ke c nm aj fV fm el bb ag a l k k acc aF m G n s→X):X:=
 let⟨aF,m,mZ,F⟩:=cU.mf;f aF m mZ ⟨⟨cU.inv,cU.at_,cU.step,cU.base _ (.inr (.inr rfl)),.inr (.inr rfl)⟩,F,cU.out⟩
theorem ke.head{bb:a8}{m:aL→Y au}(ak:ke c nm aj fV fm el bb ag a l k L acc aF m G n s)(mZ:Agree xs env aF)(a3:L≤k)(le:k≤l.length)(base:∀b,r0 ag el.locals bb b→c.h₀.get? b=none)(ne:ag≠el.locals∧ag≠bb∧bb≠el.locals∧∀x q,el.cells.lookup x=some q→q≠ag∧q≠bb):rY c nm aj fV fm xs env el bb ag a l k acc G n s:=
 ⟨ak.h.inv,⟨aF,m,mZ,ak.mf⟩,ak.h.at_,let⟨bf,d9,e,r,q⟩:=ak.out;⟨bf,d9,e,r,a' q a3⟩,le,ak.h.step,base,ne⟩
theorem vj{p:a8}(ax:p≠el.locals)(aH:∀x q,el.cells.lookup x=some q→q≠p):∀b,e2 el b→¬b=p:=λ b o e=>o.elim (λ L=>ax (e.symm.trans L)) λ⟨y,L⟩=>aH y b L e
theorem ke.app{bb:a8}{y:D}{env:aX}{m:aL→Y au}{u:au}{Q:au→a2→Prop}(ak:ke c nm aj fV fm el bb ag a l k L acc env m G n s)(Fg:ag≠el.locals)(Fh:ag≠bb)(e4:∀x q,el.cells.lookup x=some q→q≠ag)(base:c.h₀.get? ag=none)(a3:L≤100000)(adF:bA c G s.heap y u)
  (f:∀v a9,ke c nm aj fV fm el bb ag a l k (L+1) (acc++[y]) env m G n a9→Q v a9):bg (bc c.prog c.w) A (call (.builtin "list.append") [.ref ag,u]) Q ab s:=by
 have⟨bf,d9,e,r,hl⟩:=ak.out
 refine append_at e (λ H hs j6=>?_) (by rw[lz];omega)
 have ch:cu (λ b=>b=ag) s.heap H:=cu.same hs rfl
 have off:=ak.h.step.off ag (.inl rfl)
 have L:=ak.h.inv.JI s.toks ch off base ak.out.rz
 have d8:=L.2
 have VM:(bf.push u).toList=bf.toList++[u]:=Hs
 exact f _ _ ⟨ak.h.ea L.1 (.ni (t:=s.toks) (ch.mono λ b q=>.inl q) ak.h.step.off) d8 λ o e=>ch _ o e λ q=>Fh q.symm,ak.mf.zt ch (vj Fg e4) d8,bf.push u,d9+1,j6,VM▸cs.append (r.keep (.refl _) d8) (cs.cons (adF.keep (.refl _) d8) cs.nil),Array.size_push u▸gq hl⟩
theorem U'{kw iQ hy:bn}{eo:B bn}{bG:gc}{cg:hd}{bb:a8}{many:av}{R:yT→a2→Prop}
  {oz:aX→(av→St→Prop)→St→Prop}{kx:aX→dC→St→Prop}{ea:D→(B D→St→Prop)→St→Prop}{Q:B D→St→Prop}
  (gM:A.handled=none)(bD:rM aj el.scope many xs iQ=true)(sJ:rt el.scope iQ=true)(hl:l.length≤100000)
  (fY:∀aF G n s m K g8,c9 c aj G aF el s.heap m→Inv c nm G n s→oz aF K n→
   bg (bc c.prog c.w) A (forIn eo true λ c r=>if r=true then do let ok←isTrue c el (eval c el);pure (kV ok)else pure (kV r)) (kT c nm G s K) g8 s)
  (pe:∀aF G n s m Q g8,c9 c aj G aF el s.heap m→Inv c nm G n s→kx aF Q n→bg (bc c.prog c.w) A (eval kw el) (Back c nm G s Q) g8 s)
  (sM:∀x K n,ea x K n→∃aF,dh many xs x env=some aF∧oz aF (λ b bW=>if b=true then kx aF (λ r eO=>K [r] eO) bW else K [] bW) n)
  (fQ:∀acc G n s m bf d9,Inv c nm G n s→fi (r0 ag el.locals bb) fV fm G s→s.heap.Ns el.locals m→s.heap.get? ag=some {cls:=.type "list",data:=.seq bf d9}→cs c G s.heap acc bf.toList→bf.size≤100000→Q acc n→R (.ok .next) s)
  {At:C}{y8:B D}(HG:rY c nm aj fV fm xs env el bb ag a l At y8 G n s)(Lv:o' (live a l) ea (l.drop At) y8 Q n):
  t4 (bc c.prog c.w) A (.compLoop (.ListComp kw [⟨iQ,hy,eo,0⟩] bG cg) 0 (.ref bb) (.ref ag) el) R s:=by
 refine U9 (λ z s=>∃k acc G n,z=l.length-k∧rY c nm aj fV fm xs env el bb ag a l k acc G n s∧o' (live a l) ea (l.drop k) acc Q n) ?_ _ ⟨At,y8,G,n,rfl,HG,Lv⟩
 clear HG Lv At y8
 intro z s dj
 refine dj.elim λ k dj=>dj.elim λ acc dj=>dj.elim λ G dj=>dj.elim λ n dj=>?_
 have eQ:=dj.1
 have cU:=dj.2.1
 have bV:=dj.2.2
 clear dj
 have iz:=cU.ne.1
 have ol:=cU.ne.2.2.1
 refine cU.uj λ VH m mZ ak=>?_
 cases a1:l.drop k with
 |nil=>
  rw[a1]at bV
  refine Mk gM cU.inv bV.1 cU.at_ (yC.mpr (QV.mp a1)) λ H b3=>?_
  have ch:cu (λ b=>b=bb) s.heap H:=λ b o e z=>b3 b o z e
  have L:=ak.h.chg s.toks ch
  have⟨bf,d9,aw,r,uI⟩:=cU.out
  exact fQ acc G n _ m bf d9 L.1 L.2.2 (tW.ch ch (λ q=>ol q.symm) ak.mf.ns) (b3 ag _ cU.ne.2.1 aw) (r.keep (.refl G) L.2.1) (a' uI (a' cU.le hl)) bV.2
 |cons x r=>
  rw[a1]at bV
  have aA:=Lj a1
  have lt:=(jZ.mp aA.1).1
  have d4:k≤100000:=a' cU.le hl
  have abt:l.length- (k+1)<z:=eQ▸Rv _ _ lt
  refine Mm cU.inv bV.1 cU.at_ aA.1 λ aI jV v Es bX qC=>?_
  refine(sM x _ n bV.2).elim λ uo uH=>?_
  have q6:cu (λ b=>b=bb) s.heap aI:=cu.same Es rfl
  have L:=ak.h.chg jV q6
  have Cj:ke c nm aj fV fm el bb ag a l (k+1) k acc VH m G n {s with heap:=aI,toks:=jV}:=⟨ak.h.br jV q6 bX,ak.mf.zt q6 (vj ol λ x q e=>(cU.ne.2.2.2 x q e).2) L.2.1,ak.out.keep (.refl G) L.2.1 λ o e=>q6 _ o e cU.ne.2.1⟩
  refine Mn (s:={s with heap:=aI,toks:=jV}) bX ?_
  refine C7 (s:={s with heap:=aI,toks:=jV}) gM Cj.mf Cj.h.inv bD (Uo mZ uH.1) qC λ bJ yk pu _ dW qP c1=>?_
  have Rh:=Cj.asg iz ol (dW sJ) qP c1
  have hM:∀{lC bv J a9 Hq},ke c nm aj fV fm el bb ag a l (k+1) Hq lC uo pu bv J a9→Hq≤k+1→o' (live a l) ea r lC Q J→∃m,m<z∧∃k acc G n,m=l.length-k∧rY c nm aj fV fm xs env el bb ag a l k acc G n a9∧o' (live a l) ea (l.drop k) acc Q n:=λ{lC bv J a9 Hq} Rf uO q=>⟨_,abt,k+1,lC,bv,J,rfl,Rf.head (Up uH.1) uO lt cU.base cU.ne,aA.2.symm▸q⟩
  refine fa (fY uo G n _ pu _ _ qP c1 uH.2) (λ b jt az=>az.elim λ oH az=>az.elim λ bW az=>?_) λ _ _ y=>y
  have r5:=Rh.ea az.2.1 az.2.2
  cases b with
  |false=>exact(hM r5 (h5 k) (eX acc▸az.1))
  |true=>exact fa (pe uo oH bW jt pu _ _ r5.mf az.2.1 az.1) (λ u tm az=>az.elim λ y az=>az.elim λ Hr az=>az.elim λ eO az=>(r5.ea az.2.2.1 az.2.2.2).app iz cU.ne.2.1 (λ x q e=>(cU.ne.2.2.2 x q e).1) (cU.base _ (.inl rfl)) d4 az.2.1 λ _ yf Ck=>hM Ck (cJ _) az.1) λ _ _ y=>y
end
end Mine
end
section
open PySem PySem.W PyProof.Rows
namespace Mine
variable{kw iQ hy:bn}{eo:B bn}{bG:gc}{cg:hd}{xs:B C}{gp:B aL}{many:av}{oz:aX→(av→St→Prop)→St→Prop}{kx:aX→dC→St→Prop}{ea:D→(B D→St→Prop)→St→Prop}{W:dC}
section
variable{c:cV}{nm:B (B C)}{aj:B (Y aL)}{G:cA}{n:St}{s:a2}{A:eB}{ab:au→a2→Prop}{env:aX}{ai:eg}{m:aL→Y au}
theorem Kv{ag:a8}{acc:B D}{bv:cA}{J:St}{a9:a2}{bf:gS au}{d9:C}(I:Inv c nm bv J a9)(S:Step G s bv a9)(i3:kZ<ag)(j5:s.heap.get? ag=none)(cl:¬eF bv ag)(az:c.h₀.get? ag=none)
  (e:a9.heap.get? ag=some {cls:=.type "list",data:=.seq bf d9})(r:cs c bv a9.heap acc bf.toList)(a3:bf.size≤100000):
  Inv c nm (bv++[(ag,ag)]) (J++[.li acc]) a9∧Step G s (bv++[(ag,ag)]) a9∧bA c (bv++[(ag,ag)]) a9.heap (.ref J.length) (.ref ag):=by
 refine⟨I.adopt i3 i3 ⟨cl,az⟩ ⟨cl,az⟩ ⟨rfl,?_,bf,d9,e,r.keep (ha.snoc _ _) λ _ _ e _=>e⟩,⟨⟨S.ext.1.trans (ha.snoc _ _),λ b f=>(uv f).elim (S.ext.2 b) λ q=>q.elim (λ q=>.inr (q▸j5)) λ q=>.inr (q▸j5)⟩,S.ch⟩,?_⟩
 ·have:=r.length
  rw[x1,←this]
  simp only[yt];omega
 ·exact⟨(ag,ag),by rw[←I.len];simp,rfl⟩
theorem Ku{acL:hd}{use:Y (au→ik p6)}{km:au→a2→Prop}
  {Q:B D→St→Prop}
  (gM:A.handled=none)(F:c9 c aj G env ai s.heap m)(I:Inv c nm G n s)(Z:v0 ai.scope bG)(dS:ts (ib aj xs gp bG)=true)
  (bD:rM (ib aj xs gp bG) (pD bG ai.scope) many xs iQ=true)(sJ:rt (pD bG ai.scope) iQ=true)(hs:∀x,CL hy ai x=pure x)
  (dj:bg (bc c.prog c.w) A (eval hy ai) (Back c nm G s W) ab s)(sG:∀fM aa,W fM aa→∃l,hR aa fM=some l∧l.length≤100000∧o' (live fM l) ea l [] Q aa)
  (fY:∀V aF G n s m K g8,c9 c (ib aj xs gp bG) G aF (compEnvC bG (gg ai.cells bG.names []) V ai) s.heap m→Inv c nm G n s→oz aF K n→
   bg (bc c.prog c.w) A (forIn eo true λ c r=>if r=true then do let ok←isTrue c (compEnvC bG (gg ai.cells bG.names []) V ai) (eval c (compEnvC bG (gg ai.cells bG.names []) V ai));pure (kV ok)else pure (kV r)) (kT c nm G s K) g8 s)
  (pe:∀V aF G n s m Q g8,c9 c (ib aj xs gp bG) G aF (compEnvC bG (gg ai.cells bG.names []) V ai) s.heap m→Inv c nm G n s→kx aF Q n→bg (bc c.prog c.w) A (eval kw (compEnvC bG (gg ai.cells bG.names []) V ai)) (Back c nm G s Q) g8 s)
  (sM:∀x K n,ea x K n→∃aF,dh many xs x env=some aF∧oz aF (λ b bW=>if b=true then kx aF (λ r eO=>K [r] eO) bW else K [] bW) n)
  (Ej:∀ag V acc bv J a9 c0 bf d9,Inv c nm bv J a9→kZ<ag→s.heap.get? ag=none→s.heap.get? V=none→ag≠V→c.h₀.get? V=none→c.h₀.get? ag=none→¬eF bv ag→¬eF bv V→Step G s bv a9→a9.heap.Ns V c0→a9.heap.get? ag=some {cls:=.type "list",data:=.seq bf d9}→
   cs c bv a9.heap acc bf.toList→bf.size≤100000→Q acc J→compPost (bc c.prog c.w) A ab use km (.ref ag) V (.ok .next) a9):
  bg (bc c.prog c.w) A (comprehension (.ListComp kw [⟨iQ,hy,eo,0⟩] bG cg) bG ai acL (newList []) false (eval hy ai) use) km ab s:=by
 have z7:∀x∈bG.names,x.2= .free→(ai.cells.lookup x.1).isSome=true:=λ x aA e=>F.has _ (Z.free x aA e)
 refine wpAny_comprehension_free (use:=use) rfl hs (U5 z7) Z.kind Z.loc (fa dj (λ v aJ az=>?_) λ _ _ y=>y)
 obtain⟨fM,bQ,aa,cS,hG,ce,bU⟩:=az
 obtain⟨l,hl,i2,bV⟩:=sG fM aa cS
 have pN:=F.step I bU
 refine Ml ce hl hG λ bb bJ nW m9 cL=>?_
 have ahd:∀{b},aJ.heap.objs.size≤b→aJ.heap.get? b=none:=λ az=>by
  cases e:aJ.heap.get? _ with
  |none=>rfl
  |some o=>exact absurd (mU e) (r7.mpr az)
 have Oy:∀{H:dD},cu (λ _=>False) aJ.heap H→aJ.heap.get? H.objs.size=none:=λ ch=>n1 λ b o e=>ch b o e id
 refine Je ?_
 have q7:cu (λ _=>False) bJ (bJ.push {cls:=.type "list",data:=.seq ([]:B au).toArray}):=cu.push _ _
 have Lw:(bJ.push {cls:=.type "list",data:=.seq ([]:B au).toArray}).get? bJ.objs.size=some {cls:=.type "list",data:=.seq ([]:B au).toArray}:=nK _ rfl
 have D':bJ.objs.size≠(bJ.push {cls:=.type "list",data:=.seq ([]:B au).toArray}).objs.size:=by rw[RR];exact mS (qU _)
 show bg _ _ _ _ _ {aJ with heap:=bJ.push {cls:=.type "list",data:=.seq ([]:B au).toArray}}
 generalize bJ.push {cls:=.type "list",data:=.seq ([]:B au).toArray}=cQ at q7 Lw D'
 refine wpAny_newFunctionEnv Z.cell (by intro y bI;simp at bI) (λ hP uL z'=>?_) Z.kind
 dsimp only at uL z'
 have wI:cu (λ _=>False) cQ hP:=λ b o e _=>z'.extBut b o (mS (mU e)) (lu _ e)
 have Zj:cu (λ _=>False) aJ.heap hP:=(nW.trans q7).trans wI
 have h1:Inv c nm bQ aa {aJ with heap:=cQ}:=ce.more (t:=aJ.toks) (nW.trans q7)
 have ip:Step bQ aJ bQ {aJ with heap:=cQ}:=.more (t:=aJ.toks) (nW.trans q7)
 have tJ:=pN.step ce ip
 have Xe:cQ.get? cQ.objs.size=none:=n1 λ _ _ e=>e
 obtain⟨QE,pR⟩:=Va (xs:=xs) (gp:=gp) (t:=aJ.toks+([]:B (aL×au)).length) tJ h1 Z dS Xe (λ b o e=>wI b o e id) uL
 have z2:aJ.heap.get? bJ.objs.size=none:=Oy nW
 have D9:aJ.heap.get? cQ.objs.size=none:=Oy (nW.trans q7)
 have fresh:∀{b},aJ.heap.get? b=none→s.heap.get? b=none∨eF G b:=λ{b} az=>by
  cases e:s.heap.get? b with
  |none=>exact .inl rfl
  |some o=>
   by_cases f:eF G b
   ·exact .inr f
   ·rw[bU.ch b o e f]at az;cases az
 have ND:∀{b},aJ.heap.get? b=none→¬eF bQ b:=λ az f=>by obtain⟨o,e⟩:=ce.wV f;rw[e]at az;cases az
 have Lb:∀{b},aJ.heap.get? b=none→s.heap.get? b=none:=λ az=>(fresh az).elim id λ f=>absurd (bU.ext.1.foot f) (ND az)
 have Ft:∀{b},aJ.heap.get? b=none→c.h₀.get? b=none:=λ{b} az=>by
  cases e:c.h₀.get? b with
  |none=>rfl
  |some o=>rw[ce.base b o e]at az;cases az
 have nX:∀b,r0 bJ.objs.size cQ.objs.size bb b→aJ.heap.get? b=none:=by
  rintro b (rfl|rfl|rfl)
  ·exact z2
  ·exact D9
  ·exact m9
 obtain⟨ahe,un,K4⟩:=cL.live
 have Ze:bb<bJ.objs.size:=mU un
 have Zf:bb<cQ.objs.size:=mU (q7 _ _ un id)
 have cU:rY c nm (ib aj xs gp bG) bQ aJ xs env (compEnvC bG (gg ai.cells bG.names []) cQ.objs.size ai) bb bJ.objs.size fM l 0 [] bQ aa {aJ with heap:=hP,toks:=aJ.toks+([]:B (aL×au)).length}:=by
  refine⟨pR,⟨_,_,zx λ _ h=>h,QE⟩,cL.keep (.refl _) (λ b o e _=>(q7.trans wI) b o e id) λ o e=>(q7.trans wI) _ o e id,⟨_,0,wI _ _ Lw id,cs.nil,cJ _⟩,fs _,⟨.refl _ _,Zj.all,λ b az=>ND (nX b az)⟩,λ b az=>Ft (nX b az),D',Cn Ze,mS Zf,λ x q e=>?_⟩
  have bC:ai.cells.lookup x=some q:=(zu z7 e).elim (λ e=>by cases e) id
  obtain⟨v,o,uq,_⟩:=pN.cells x q bC
  exact⟨λ L=>(by rw[L,z2]at uq;cases uq),λ L=>(by rw[L,m9]at uq;cases uq)⟩
 have Az:t4 (bc c.prog c.w) A (.compLoop (.ListComp kw [⟨iQ,hy,eo,0⟩] bG cg) 0 (.ref bb) (.ref bJ.objs.size) (compEnvC bG (gg ai.cells bG.names []) cQ.objs.size ai))
   (compPost (bc c.prog c.w) A ab use km (.ref bJ.objs.size) cQ.objs.size) {aJ with heap:=hP,toks:=aJ.toks+([]:B (aL×au)).length}:=by
  refine U' gM bD sJ i2 (fY _) (pe _) sM (λ acc bv J a9 c0 bf d9 ey CX X9 Eb bw uO Yj=>?_) cU bV
  exact Ej _ _ acc bv J a9 c0 bf d9 ey (ce.qm λ b o e=>nW b o e id) (Lb z2) (Lb D9) D' (Ft D9) (Ft z2) (CX.off _ (.inl rfl)) (CX.off _ (.inr (.inl rfl))) (bU.trans (CX.toStep nX)) X9 Eb bw uO Yj
 exact codeAny_compStart_list Az (Y' cU.at_ Az)
theorem Vb
  {Q:dC}
  (gM:A.handled=none)(F:c9 c aj G env ai s.heap m)(I:Inv c nm G n s)(Z:v0 ai.scope bG)(dS:ts (ib aj xs gp bG)=true)
  (bD:rM (ib aj xs gp bG) (pD bG ai.scope) many xs iQ=true)(sJ:rt (pD bG ai.scope) iQ=true)(hs:∀x,CL hy ai x=pure x)
  (dj:bg (bc c.prog c.w) A (eval hy ai) (Back c nm G s W) ab s)(sG:∀fM aa,W fM aa→∃l,hR aa fM=some l∧l.length≤100000∧o' (live fM l) ea l [] (λ acc ao=>Q (.ref ao.length) (ao++[.li acc])) aa)
  (fY:∀V aF G n s m K g8,c9 c (ib aj xs gp bG) G aF (compEnvC bG (gg ai.cells bG.names []) V ai) s.heap m→Inv c nm G n s→oz aF K n→
   bg (bc c.prog c.w) A (forIn eo true λ c r=>if r=true then do let ok←isTrue c (compEnvC bG (gg ai.cells bG.names []) V ai) (eval c (compEnvC bG (gg ai.cells bG.names []) V ai));pure (kV ok)else pure (kV r)) (kT c nm G s K) g8 s)
  (pe:∀V aF G n s m Q g8,c9 c (ib aj xs gp bG) G aF (compEnvC bG (gg ai.cells bG.names []) V ai) s.heap m→Inv c nm G n s→kx aF Q n→bg (bc c.prog c.w) A (eval kw (compEnvC bG (gg ai.cells bG.names []) V ai)) (Back c nm G s Q) g8 s)
  (sM:∀x K n,ea x K n→∃aF,dh many xs x env=some aF∧oz aF (λ b bW=>if b=true then kx aF (λ r eO=>K [r] eO) bW else K [] bW) n):
  bg (bc c.prog c.w) A (eval (.ListComp kw [⟨iQ,hy,eo,0⟩] bG cg) ai) (Back c nm G s Q) ab s:=by
 rw[eval_ListComp]
 refine Ku gM F I Z dS bD sJ hs dj sG fY pe sM λ ag V acc bv J a9 c0 bf d9 ey i3 j5 bV z3 Ee Ef Ei Eh fB cy j6 r a3 du=>?_
 refine⟨c0,cy,λ H jM=>?_⟩
 have ch:cu (λ b=>b=V) a9.heap H:=cu.same jM rfl
 obtain⟨xK,O,hL,wQ,wM,_⟩:=cy
 have d8:fW a9.heap H:=fW.same wQ (pw wM) jM
 have nC:Inv c nm bv J {a9 with heap:=H}:=ey.change (t:=a9.toks) ch (λ b q=>q▸Eh) (λ b q=>q▸Ee) λ b o q e=>by subst q;rw[wQ]at e;cases e;exact pw wM
 have Sn:Step G s bv {a9 with heap:=H}:=⟨fB.ext,λ b o e z=>ch b o (fB.ch b o e z) λ q=>by rw[q,bV]at e;cases e⟩
 obtain⟨hf,iq,k2⟩:=Kv nC Sn i3 j5 Ei Ef (ch _ _ j6 z3) (r.keep (.refl _) d8) a3
 exact⟨_,_,_,du,k2,hf,iq⟩
theorem U8{AX O4:hd}{x:aL}{i:C}
  {cb:iV}{cF:dC}
  (sN:y1 (.ListComp kw [⟨iQ,hy,eo,0⟩] bG cg) (some (.Name x AX)) O4.line ai=pure true)
  (aA:(aj:B (Y aL))[i]? =some (some x))(n9:tl ai.scope x=true)
  (gM:A.handled=none)(F:c9 c aj G env ai s.heap m)(I:Inv c nm G n s)(Z:v0 ai.scope bG)(dS:ts (ib aj xs gp bG)=true)
  (bD:rM (ib aj xs gp bG) (pD bG ai.scope) many xs iQ=true)(sJ:rt (pD bG ai.scope) iQ=true)(hs:∀x,CL hy ai x=pure x)
  (dj:bg (bc c.prog c.w) A (eval hy ai) (Back c nm G s W) ab s)(sG:∀fM aa,W fM aa→∃l,hR aa fM=some l∧l.length≤100000∧o' (live fM l) ea l [] (λ acc ao=>cb (iP env i (.ref ao.length)) (ao++[.li acc])) aa)
  (fY:∀V aF G n s m K g8,c9 c (ib aj xs gp bG) G aF (compEnvC bG (gg ai.cells bG.names []) V ai) s.heap m→Inv c nm G n s→oz aF K n→
   bg (bc c.prog c.w) A (forIn eo true λ c r=>if r=true then do let ok←isTrue c (compEnvC bG (gg ai.cells bG.names []) V ai) (eval c (compEnvC bG (gg ai.cells bG.names []) V ai));pure (kV ok)else pure (kV r)) (kT c nm G s K) g8 s)
  (pe:∀V aF G n s m Q g8,c9 c (ib aj xs gp bG) G aF (compEnvC bG (gg ai.cells bG.names []) V ai) s.heap m→Inv c nm G n s→kx aF Q n→bg (bc c.prog c.w) A (eval kw (compEnvC bG (gg ai.cells bG.names []) V ai)) (Back c nm G s Q) g8 s)
  (sM:∀x K n,ea x K n→∃aF,dh many xs x env=some aF∧oz aF (λ b bW=>if b=true then kx aF (λ r eO=>K [r] eO) bW else K [] bW) n):
  bg (bc c.prog c.w) A (exec (.Assign [.Name x AX] (.ListComp kw [⟨iQ,hy,eo,0⟩] bG cg) O4) ai) (mY c nm aj ai G s cb cF) ab s:=by
 rw[exec_Assign_Name_used _ _ _ _ sN]
 refine cK (sg (cK ?_))
 show bg _ A (do let _←comprehension (.ListComp kw [⟨iQ,hy,eo,0⟩] bG cg) bG ai _ (newList []) false (eval hy ai) (some (assign (.Name x AX) ai))) _ _ s
 refine cK (fa (Q:=λ _ a9=>mY c nm aj ai G s cb cF .next a9) ?_ (λ _ a9 du=>eG (eG du)) λ _ _ e=>e)
 refine Ku gM F I Z dS bD sJ hs dj sG fY pe sM λ ag V acc bv J a9 c0 bf d9 ey i3 j5 bV z3 Ee Ef Ei Eh fB cy j6 r a3 du=>?_
 show bg _ A (assign (.Name x AX) ai (.ref ag)) _ _ a9
 obtain⟨hf,iq,k2⟩:=Kv ey fB i3 j5 Ei Ef j6 r a3
 have g9:=F.step I iq
 refine R' (Gx g9 hf aA (Gw n9 F.has) k2 λ H t xw c2 _ kf nC=>?_)
 have Ea:¬e2 ai V:=λ q=>by
  obtain⟨o,e,_⟩:=e2.old F q
  rw[bV]at e;cases e
 refine⟨c0,tW.ch c2 Ea cy,λ bJ w9=>?_⟩
 have X':=tW.ch c2 Ea cy
 obtain⟨xK,O,hL,wQ,wM,_⟩:=X'
 have ch:cu (λ b=>b=V) H bJ:=cu.same w9 rfl
 have d8:fW H bJ:=fW.same wQ (pw wM) w9
 have XH:¬eF (bv++[(ag,ag)]) V:=λ f=>(uv f).elim Eh λ q=>q.elim (λ q=>z3 q.symm) λ q=>z3 q.symm
 have h1:Inv c nm (bv++[(ag,ag)]) (J++[.li acc]) {a9 with heap:=bJ,toks:=t}:=Inv.change (s:={a9 with heap:=H,toks:=t}) nC ch (λ b q=>q▸XH) (λ b q=>q▸Ee) λ b o q e=>by subst q;rw[wQ]at e;cases e;exact pw wM
 have own:∀b,e2 ai b→b≠V:=λ b o q=>Ea (q▸o)
 have tJ:c9 c aj (bv++[(ag,ag)]) (iP env i (.ref J.length)) ai bJ xw:=
  ⟨kf.kind,kf.rd,kf.blt,kf.len,tW.ch ch (own _ (.inl rfl)) kf.ns,λ y q e=>let⟨v,cP⟩:=kf.cells y q e;⟨v,tM.ch ch (own _ (.inr ⟨y,e⟩)) cP⟩,kf.apart,kf.foot,kf.out,kf.uniq,kf.has,λ j y b ax aH=>
   (kf.vars j y b ax aH).keep (.refl _) d8 (λ _=>id) λ q v e cP=>tM.ch ch (own _ (.inr ⟨y,e⟩)) cP⟩
 refine⟨_,_,_,_,du,tJ,h1,?_⟩
 have Sx:fi (e2 ai) G s (bv++[(ag,ag)]) a9:=.FI iq λ b o=>⟨F.foot b o,let⟨x,e,_⟩:=e2.old F o;⟨x,e⟩⟩
 have sl:fi (e2 ai) G s (bv++[(ag,ag)]) {a9 with heap:=H,toks:=t}:=Sx.trans (.ni c2 g9.foot)
 refine⟨sl.ext,λ b o e z=>ch b o (sl.ch b o e z) λ q=>?_,sl.off⟩
 rw[q,bV]at e;cases e
end
end Mine
end
section
open PySem PySem.W PyProof.Rows
namespace Mine
variable{rS:bn}{cg:hd}{Q:au→a2→Prop}{e:bn}{v:au}{K dm:Type}{f:dm→K}{h:dD}{ag:a8}{ea:B bn→(B D→St→Prop)→St→Prop}
section
variable{prog:lv}{w:eY}{A:eB}{ab:au→a2→Prop}{s:a2}{env:eg}
theorem ae1{o i:au}(tk:bn):∃ar,subscripted tk false o i=operate ar (t6 o i):=by
 cases tk with
 |Slice a b c p=>cases c<;>exact⟨_,rfl⟩
 |_=>exact⟨_,rfl⟩
theorem Bo{tk:bn}
  (h:bg (bc prog w) A (eval rS env) (λ o aJ=>bg (bc prog w) A (eval tk env) (λ i b'=>wj (bc prog w) A o i Q ab b') ab aJ) ab s):bg (bc prog w) A (eval (.Subscript rS tk cg) env) Q ab s:=by
 rw[eval_Subscript]
 refine cK (fa h (λ o aJ aI=>cK (sf (fa aI (λ i b' bJ=>cK (sg ?_)) λ _ _ x=>x))) λ _ _ x=>x)
 refine bJ.elim λ T bJ=>bJ.elim λ id bJ=>cK ((getitemInPython_of_ne bJ.2.1.not_modules).symm▸cK (CR bJ.2.1 bJ.1 ?_))
 have hM:bg (bc prog w) A (subscripted tk false o i) (λ r jt=>bg (bc prog w) A (letTemporaryGo rS o r>>=λ _=>pure r) Q ab jt) ab b':=
  (ae1 tk).elim λ ar e=>e.symm▸wpAny_operating (fa bJ.2.2 (λ r jt cQ=>cK (Sh (eG cQ))) λ _ _ x=>x)
 first
  |exact eG (cK hM)
  |exact cK (eG (cK hM))
  |exact cK hM
theorem S7{gW:aL}(az:IZ rS gW env (eval rS env)=eval rS env)
  (h:bg (bc prog w) A (eval rS env) (λ o aJ=>bg (bc prog w) A (getAttr o gW true) Q ab aJ) ab s):bg (bc prog w) A (eval (.Attribute rS gW cg) env) Q ab s:=by
 rw[arm_eval_Attribute,az]
 exact cK (fa h (λ o aJ aI=>cK (sg (cK (sf (fa aI (λ r b' bJ=>cK (Sh (eG bJ))) λ _ _ x=>x))))) λ _ _ x=>x)
theorem J2{op:Cy}{cg:hd}{x y:ik au}{r:B (ik au)}{Q:au→a2→Prop}
  (h:bg (bc prog w) A x (λ v aJ=>bg (bc prog w) A (y2 v) (λ b b'=>match op,b with| .And,false| .Or,true=>Q v b'|_,_=>bg (bc prog w) A (yW cg op (y::r)) Q ab b') ab aJ) ab s):
  bg (bc prog w) A (yW cg op (x::y::r)) Q ab s:=by
 refine cK (fa h (λ v aJ aI=>cK (sg (cK (sf (fa aI (λ b b' bJ=>?_) λ _ _ x=>x))))) λ _ _ x=>x)
 cases op<;>cases b<;>first|exact eG bJ|exact bJ
theorem J3{op:Cy}{x:ik au}(h:bg (bc prog w) A x Q ab s):bg (bc prog w) A (yW cg op [x]) Q ab s:=h
noncomputable def FU(x:bn):Bool:=!(kj x.ctorIdx 0||(kj x.ctorIdx 3||(kj x.ctorIdx 5||kj x.ctorIdx 15)))
theorem afb(bM:FU e=true):isTrue e env (eval e env)=(do let v←eval e env;CO e.pos;holding [v] (y2 v)):=by
 cases e<;>first|rfl|exact jv (show false=true from bM)
theorem afc{Q:av→a2→Prop}(bM:FU e=true)(h:bg (bc prog w) A (eval e env) (λ v aJ=>bg (bc prog w) A (y2 v) Q ab aJ) ab s):bg (bc prog w) A (isTrue e env (eval e env)) Q ab s:=
 afb bM▸cK (fa h (λ v aJ aI=>cK (sg (sf aI))) λ _ _ x=>x)
theorem afa{l r:bn}{op:CmpOp}{BF:ik au}{Q:av→a2→Prop}(hm:I0 op r=false)
  (h:bg (bc prog w) A (eval l env) (λ a aJ=>bg (bc prog w) A (eval r env) (λ b b'=>bg (bc prog w) A (t5 op a b) (λ c jt=>bg (bc prog w) A (y2 c) Q ab jt) ab b') ab aJ) ab s):
  bg (bc prog w) A (isTrue (.Compare l [op] [r] cg) env BF) Q ab s:=by
 rw[arm_isTrue_Compare]
 show bg _ A (do testChain cg (←eval l env) [op] [markedBehindIn op r (eval r env)]) Q ab s
 rw[markedBehindIn_of_false hm]
 exact cK (fa h (λ a aJ aI=>test_last aI) λ _ _ x=>x)
end
section
variable{c:cV}{nm:B (B C)}{aj:B (Y aL)}{G bQ:cA}{n:St}{s aJ:a2}{A:eB}{ab:au→a2→Prop}{env:aX}{ai:eg}{m:aL→Y au}
noncomputable def Ht(c:cV)(nm:B (B C))(G:cA)(s:a2)(Q:B D→St→Prop)(ar:B au)(a9:a2):Prop:=
 ∃as bv J,Q as J∧cs c bv a9.heap as ar∧Inv c nm bv J a9∧Step G s bv a9
theorem ae0{a k r:D}{u:au}{Q:dC}(h:dd n a k=some r)(x:bA c G s.heap a v)(y:bA c G s.heap k u)(bz:Q r n)(I:Inv c nm G n s):wj (bc c.prog c.w) A v u (Back c nm G s Q) ab s:=by
 have g:=L5 (A:=A) (ab:=ab) h x y bz I
 have ag:∀{b:a8},s.TypeIs (.ref b) "dict"→bg (bc c.prog c.w) A (t6 (.ref b) u) (Back c nm G s Q) ab s→wj (bc c.prog c.w) A (.ref b) u (Back c nm G s Q) ab s:=λ fY g=>⟨"dict",_,PySem.F.slot_dict_getitem.lookup,fY,g⟩
 clear y bz
 revert g
 cases a with
 |tup l=>exact x.elim λ b x=>x.elim λ items x=>x.1▸λ g=>⟨"tuple",_,PySem.F.slot_tuple_getitem.lookup,x.2.1.typeIs,g⟩
 |ss w=>exact x.elim λ t e=>e▸λ g=>⟨"str",_,RP.lookup,typeIs_str _ _ _,g⟩
 |cd O=>exact x.elim λ b x=>x.1▸λ g=>x.2.2.elim λ f x=>x.1.elim λ o m=>m.elim λ jJ m=>m.elim λ hL m=>ag (Heap.MapOf.typeIs (knd:=gs c.prog c.w) (f:=f) ⟨o,jJ,hL,I.base _ _ m.1,m.2⟩) g
 |ref z=>
  refine x.elim λ p x=>x.2▸λ g=>(I.xJ x.1).elim λ o be=>?_
  have h:rj k (some o)=some r:=be.1▸(show rj k n[z]? =some r from h)
  have ee:=be.2
  cases o with
  |li xs=>exact(rq I x.1 be.1).2.2.elim λ items q=>q.elim λ d9 q=>⟨"list",_,IA.lookup,q.2.1.typeIs,g⟩
  |ds O=>exact ee.2.elim λ cZ d=>ag d.1.typeIs g
  |cq O=>exact ee.2.elim λ cZ d=>ag d.1.typeIs g
  |_=>exact nomatch h
 |_=>exact nomatch h
theorem aeU[jw K]{cZ:B (K×au)}{k:K}(h:k∉cZ.map (·.1)):CP cZ k v=cZ++[(k,v)]:=by
 unfold CP
 rw[if_neg]
 intro q
 obtain⟨p,bM,e⟩:=List.any_eq_true.mp q
 exact h (hu.mpr ⟨p,bM,gi e⟩)
theorem aaN[jw K](more:B (K×au)):∀{cZ:B (K×au)},((cZ++more).map (·.1)).Nodup→merged cZ more=cZ++more:=by
 induction more with
 |nil=>exact λ{cZ} _=>(eX cZ).symm
 |cons p more aZ=>
  refine λ{cZ} h=>?_
  have e:cZ++p::more=(cZ++[p])++more:=(jx cZ [p] more).symm
  have hk:p.1∉cZ.map (·.1):=λ q=>(Cc.mp ((nF (f:=λ p:K×au=>p.1))▸h)).2.2 p.1 q p.1 (.head _) rfl
  exact(an (merged · more) (aeU hk)).trans ((aZ (e▸h)).trans e.symm)
theorem fp.zip{R:D→au→Prop}(ks:B dm):∀{as:B D} {ar:B au},ks.length=as.length→(as.length=ar.length)→(∀(i:C) a v,as[i]? =some a→ar[i]? =some v→R a v)→fp f R (ks.zip as) ((ks.map f).zip ar):=by
 induction ks with
 |nil=>exact λ _ _ _=>rfl
 |cons k ks aZ=>
  intro as ar ax aH h
  cases as with
  |nil=>cases ax
  |cons a as=>cases ar with
   |nil=>cases aH
   |cons v ar=>exact⟨v,_,rfl,h 0 a v rfl rfl,aZ (oS ax) (oS aH) λ i b u aw aB=>h (i+1) b u aw aB⟩
theorem cs.at{as:B D}{ar:B au}(r:cs c G h as ar)(i:C)(a:D)(v:au)(aw:as[i]? =some a)(aB:ar[i]? =some v):bA c G h a v:=
 (r.get aw).elim λ u q=>ej (q.1.symm.trans aB)▸q.2
theorem DB[jw K]{knd:KeyKind c.prog c.w K}(e:h.get? ag=some lx):h.DictOf knd ag []:=by
 refine⟨_,#[],0,e,⟨rfl,rfl,rfl⟩,rfl,?_,?_,Cd⟩
 ·intro x aA;simp at aA
 ·exact .nil
noncomputable def yy(c:cV)(ai:eg)(A:eB)(ab:au→a2→Prop)[jw K](knd:KeyKind c.prog c.w K)(k:K)(na:bn):Prop:=
 ∀(s:a2) (Q:au→a2→Prop),(∀v t,knd.is k v=true→Q v {s with toks:=t})→bg (bc c.prog c.w) A (eval na ai) Q ab s
noncomputable def CV(c:cV)(nm:B (B C))(aj:B (Y aL))(env:aX)(ai:eg)(A:eB)(ab:au→a2→Prop)(ea:B bn→(B D→St→Prop)→St→Prop)(e:bn)(r:B bn):Prop:=
 ∀G n s m Q,c9 c aj G env ai s.heap m→Inv c nm G n s→ea (e::r) Q n→bg (bc c.prog c.w) A (eval e ai) (Back c nm G s λ v aa=>ea r (λ ar ao=>Q (v::ar) ao) aa) ab s
structure RE(c:cV)(nm:B (B C)){K:Type}[jw K](knd:KeyKind c.prog c.w K)(ks:B K)(G:cA)(s:a2)(Q:B D→St→Prop)(ar:B (au×au))(a9:a2)(df:B au)(as:B D)(bv:cA)(J:St):Prop where
 Kd:Carries knd ar (ks.zip df)
 len:ar.length=df.length
 q:Q as J
 vO:cs c bv a9.heap as df
 inv:Inv c nm bv J a9
 ea:Step G s bv a9
noncomputable def RD(c:cV)(nm:B (B C))[jw K](knd:KeyKind c.prog c.w K)(ks:B K)(G:cA)(s:a2)(Q:B D→St→Prop)(ar:B (au×au))(a9:a2):Prop:=∃df as bv J,RE c nm knd ks G s Q ar a9 df as bv J
noncomputable def FQ(ai:eg)(cg:hd)(p:bn×bn):ik au×ik Value:=(eval p.1 ai,do let x←eval p.2 ai;CO cg;pure x)
theorem aco[jw K]{knd:KeyKind c.prog c.w K}(ec:∀Q n,ea [] Q n→Q [] n)(ks:B K):∀{fd f4:B bn} {Q:B D→St→Prop} {G:cA} {n:St} {s:a2} {m:aL→Y au},
  c9 c aj G env ai s.heap m→Inv c nm G n s→ks.length=fd.length→fd.length=f4.length→(∀(i:C) k na,ks[i]? =some k→fd[i]? =some na→yy c ai A ab knd k na)→(∀e r,(e::r)<:+f4→CV c nm aj env ai A ab ea e r)→ea f4 Q n→
  bg (bc c.prog c.w) A (evalPairs ((fd.zip f4).map (FQ ai cg))) (RD c nm knd ks G s Q) ab s:=by
 induction ks with
 |nil=>
  intro fd f4 Q G n s m F I ax aH hk cP h
  cases fd with
  |nil=>cases f4 with
   |nil=>exact evalPairs_nil ⟨[],[],G,n,trivial,rfl,ec _ _ h,rfl,I,.refl _ _⟩
   |cons _ _=>cases aH
  |cons _ _=>cases ax
 |cons k ks aZ=>
  intro fd f4 Q G n s m F I ax aH hk cP h
  cases fd with
  |nil=>cases ax
  |cons na fd=>cases f4 with
   |nil=>cases aH
   |cons ve f4=>
    refine evalPairs_cons (hk 0 k na rfl rfl s _ λ e6 t XU=>cK (fa (cP ve f4 (List.suffix_refl _) G n {s with toks:=t} m Q F (I.tok t) h) (λ v b' az=>cK (sg (eG ?_))) λ _ _ y=>y))
    refine az.elim λ a az=>az.elim λ dz az=>az.elim λ ao az=>?_
    refine fa (aZ (c9.step (s:={s with toks:=t}) F (I.tok t) az.2.2.2) az.2.2.1 (oS ax) (oS aH) (λ i=>hk (i+1)) (λ e r hs=>cP e r (hs.trans (List.suffix_cons _ _))) az.1) (λ ar jt g=>?_) λ _ _ y=>y
    exact g.elim λ df g=>g.elim λ as g=>g.elim λ oH g=>g.elim λ bW g=>⟨v::df,a::as,oH,bW,⟨XU,rfl,g.Kd⟩,an l2 g.len,g.q,⟨v,df,rfl,g.ea.f6 az.2.2.1 az.2.1,g.vO⟩,g.inv,Step.trans (aJ:=b') (bQ:=dz) ⟨az.2.2.2.ext,az.2.2.2.ch⟩ g.ea⟩
theorem Yn{env:eg}(fd:B bn):∀{f4:B bn},fd.length=f4.length→
  (evalEachOpt (fd.map some) env).zip ((I3 f4 env).map λ v=>(do let x←v;CO cg;pure x))=((fd.zip f4).map (FQ env cg)).map λ p=>(some p.1,p.2):=by
 induction fd with
 |nil=>exact λ _=>rfl
 |cons k ks aZ=>
  intro f4 h
  cases f4 with
  |nil=>cases h
  |cons v ar=>exact an (QT (some (eval k env),(do let x←eval v env;CO cg;pure x))) (aZ (oS h))
theorem abi(s:a2):s.heap.get? s.heap.objs.size=none:=n1 λ _ _ e=>e
theorem SQ{o:a0}{H:dD}{t:C}{fm:a2}{Q:dC}(HK:Inv c nm G n fm)(j5:fm.heap.get? ag=none)(hs:kZ<ag){bv:cA}{J:St}{bF:fP}(ey:Inv c nm bv J s)(S:Step G fm bv s)(cl:¬eF bv ag)(e:s.heap.get? ag=some bF)(hx:¬ij bF)(OO:tY ag s.heap H)
  (a4:fW s.heap H→gC c nm (bv++[(ag,ag)]) H (ag,ag) o)(q:Q (.ref J.length) (J++[o])):Back c nm G fm Q (.ref ag) {s with heap:=H,toks:=t}:=by
 have ch:cu (λ b=>b=ag) s.heap H:=cu.same OO rfl
 have d8:fW s.heap H:=fW.same e hx OO
 have c1:Inv c nm bv J {s with heap:=H,toks:=t}:=ey.change ch (λ b q=>q▸cl) (λ b q=>q▸(HK.vd j5).2) λ b o q g=>ej (e.symm.trans (q▸g))▸hx
 have l:ha bv (bv++[(ag,ag)]):=ha.snoc _ _
 have p:¬eF bv ag∧c.h₀.get? ag=none:=⟨cl,(HK.vd j5).2⟩
 exact⟨.ref J.length,bv++[(ag,ag)],J++[o],q,⟨(ag,ag),c1.len▸HU,rfl⟩,c1.adopt hs hs p p (a4 d8),
  ⟨S.ext.1.trans l,λ b q=>(uv q).elim (S.ext.2 b) λ L=>.inr ((L.elim id id:b=ag)▸j5)⟩,λ b o g z=>ch b o (S.ch b o g z) λ L=>nomatch(L▸j5:fm.heap.get? b=none).symm.trans g⟩
theorem KI[jw K]{knd:KeyKind c.prog c.w K}{ks:B dm}{fd f4:B bn}{AE:B (dm×D)→a0}{Q:dC}
  (X7:∀G h ag O cZ,h.DictOf knd ag cZ→fp f (bA c G h) O cZ→gC c nm G h (ag,ag) (AE O))
  (F:c9 c aj G env ai s.heap m)(I:Inv c nm G n s)(ax:ks.length=fd.length)(aH:fd.length=f4.length)(ec:fd≠ [])(i2:fd.length≤15)(En:(ks.map f).Nodup)
  (hk:∀(i:C) k na,(ks.map f)[i]? =some k→fd[i]? =some na→yy c ai A ab knd k na)
  (cP:∀e r,(e::r)<:+f4→CV c nm aj env ai A ab ea e r)
  (cy:∀Q n,ea [] Q n→Q [] n)(h:ea f4 (λ l aa=>ks.length=l.length∧Q (.ref aa.length) (aa++[AE (ks.zip l)])) n):
  bg (bc c.prog c.w) A (eval (.Dict (fd.map some) f4 cg) ai) (Back c nm G s Q) ab s:=by
 have rs:((fd.zip f4).map (FQ ai cg)).length=fd.length:=(cG _).trans (Q5.trans (aH▸Nat.min_self _))
 have wt:Step G s G {s with heap:=s.heap.push lx}:=.more (t:=s.toks) (cu.push _ _)
 have zF:(s.heap.push lx).get? s.heap.objs.size=some emptyDict:=nK _ rfl
 have j5:=abi s
 refine wpAny_Dict_pairs (knd:=knd) (Yn fd aH) (λ q=>ec (HN (rs.symm.trans (an f' q)))) (rs.symm▸i2)
  (fa (aco cy (ks.map f) (F.step I wt) (I.more (t:=s.toks) (cu.push _ _)) ((cG _).trans ax) aH hk cP h) (λ ar aJ az=>?_) λ _ _ y=>y)
 refine az.elim λ df az=>az.elim λ as az=>az.elim λ bv az=>az.elim λ J az=>?_
 have KJ:aJ.heap.get? s.heap.objs.size=some emptyDict:=az.ea.ch _ _ zF (I.vd j5).1
 have LV:as.length=df.length:=az.vO.length.symm
 have X4:([]++(ks.map f).zip df).map (λ p:K×au=>p.1)=ks.map f:=List.map_fst_zip (dg ((cG f).trans (az.q.1.trans LV)))
 refine⟨(ks.map f).zip df,az.Kd,DB KJ,λ H hm hs=>SQ I j5 (I.qm λ _ _ e=>e) az.inv (wt.trans az.ea) (λ q=>(az.ea.ext.2 _ q).elim (I.vd j5).1 λ g=>(nomatch g.symm.trans zF)) KJ (pw rfl) hs (λ d8=>?_) az.q.2⟩
 have ia:H.DictOf knd s.heap.objs.size ((ks.map f).zip df):=((aaN _ (X4.symm▸En)).trans (H4 _))▸hm
 exact X7 _ _ _ _ _ ia (fp.zip ks az.q.1 LV ((az.vO.keep (.refl bv) d8).keep (ha.snoc bv (s.heap.objs.size,s.heap.objs.size)) (λ _ _ e _=>e)).at)
end
end Mine
end
section
open PySem PySem.W PyProof.Rows
namespace Mine
variable{α:Type}{x:ft}{f:bn→B ft→B ft→av}{o:Y α}{ak:ft→Prop}{c:cV}{a:a8}{aS:gc}{K:kl}{env:eg}
structure qL where
 K:kl
 aK:C→a8
 ca:C→a8
 nm:B (B C)
noncomputable def NM(d:α)(z m:C)(f:z=m→α):α:=match Rm z m with
 | .isTrue h=>f h
 | .isFalse _=>d
noncomputable def G5(f:a8→av)(x:au):Bool:=gj x.ctorIdx 10 λ h=>IU (motive:=λ _=>av) x h f
theorem PV{x:au}{f:a8→av}(h:G5 f x=true):∃a,x= .ref a∧f a=true:=
 gE h λ e q=>IU (motive:=λ x=>∀e,IU (motive:=λ _=>av) x e f=true→∃a,x= .ref a∧f a=true) x e (λ a _ q=>⟨a,rfl,q⟩) e q
noncomputable def KC(f:gS mT→av)(x:Data):Bool:=gj x.ctorIdx 3 λ h=>Ik (motive:=λ _=>av) x h λ d _=>f d
theorem Vd{x:Data}{f:gS mT→av}(h:KC f x=true):∃d z,x= .dict d z∧f d=true:=
 gE h λ e q=>Ik (motive:=λ x=>∀e,Ik (motive:=λ _=>av) x e (λ d _=>f d)=true→∃d z,x= .dict d z∧f d=true) x e (λ d z _ q=>⟨d,z,rfl,q⟩) e q
theorem G4{x:au}{f:am→av}(h:vInt f x=true):∃i t,x= .int i t∧f i=true:=afN (ak:=λ x=>∃i t,x= .int i t∧f i=true) h λ i t q=>⟨i,t,rfl,q⟩
theorem rB{f:α→av}(h:cT f o=true):∃x,o=some x∧f x=true:=qt (ak:=λ o=>∃x,o=some x∧f x=true) h λ x q=>⟨x,rfl,q⟩
theorem NL(h:on o=true):o=none:=rA (ak:=λ o=>o=none) h rfl
noncomputable def Do:B mT→B (am×am)→av
 | [],O=>hh O
 |d::r,O=>oe (λ p q=>vInt (λ k=>k==p.1) d.key&&(vInt (λ v=>v==p.2) d.val&&(d.hash==hashInt p.1&&Do r q))) O
noncomputable def Kf(K:kl)(a:a8)(O:B (am×am)):Bool:=
 cT (λ o:fP=>o.cls== .type "dict"&&(on o.dict&&(KC (λ m2=>Do m2.toList O) o.data&&(o.slots.toList.isEmpty&&a != kZ)))) (K.lookup a)
noncomputable def Lk(K:kl)(x:aL):D→av
 | .ii i=>cT (cT (vInt λ j=>i==j)) (qY K ly x)
 | .cd O=>cT (cT (G5 λ a=>Kf K a O)) (qY K ly x)
 |_=>false
noncomputable def uB(aS:gc)(x:aL):Bool:=aS.names.lookup x==some .globalImplicit&&pA x
noncomputable def DZ(K:kl)(x:aL)(a:a8):Bool:=cT (cT (G5 λ b=>a==b)) (qY K ly x)
noncomputable def DX(K:kl)(x:aL):Bool:=cT on (qY K ly x)
noncomputable def q4(K:kl)(aS:gc)(id:aL):bn→Bool:=nx λ y=>decide (y=id)&&(uB aS y&&DX K y)
noncomputable def wE(x:bn):Bool:=nx (λ _=>true) x||(rU (λ _ _ _=>true) x||(rW (λ _ _=>true) x||mK (λ g xs _ _=>nx (λ _=>true) g&&oe (λ _ _=>true) xs) x))
noncomputable def Fv(x:bn):Bool:=!kj x.ctorIdx 7
noncomputable def AL(x:bn):Bool:=!(kj x.ctorIdx 8||(kj x.ctorIdx 9||kj x.ctorIdx 10))
noncomputable def abA(x:bn):Bool:=!kj x.ctorIdx 25
noncomputable def abz(x:bn):Bool:=!kj x.ctorIdx 26
noncomputable def Ny(x:bn):B Str:=NM [] x.ctorIdx 23 λ h=>Cz (motive_1:=λ _=>B aL) x h λ y _=>[y]
noncomputable def Bs(x:bn):B Str:=Ny x++NM [] x.ctorIdx 25 λ h=>CA (motive_1:=λ _=>B aL) x h λ l _ _=>l.flatMap Ny
noncomputable def Gy:B (B C)→B (Y bn)→av
 | [],ks=>hh ks
 |k::ks,O=>oe (λ e r=>cT (rV (Dk λ x=>decide (x=st k))) e&&Gy ks r) O
noncomputable def EE:B am→B (Y bn)→av
 | [],ks=>hh ks
 |k::ks,O=>oe (λ e r=>cT (rV (zq λ x=>x==k)) e&&EE ks r) O
mutual
noncomputable def dU(k:qL):ab→gc→B (Y aL)→bn→av
 | .nn,_,_=>rV Ka
 | .cj b,_,_=>rV (J7 λ hw=>hw==b)
 | .ii i,_,_=>rV (zq λ hw=>hw==i)
 | .ss s,_,_=>rV (Dk λ y=>decide (y=st s))
 | .v i,_,aj=>nx λ y=>u' aj i y&&pA y
 | .gl _ val,aS,_=>nx λ y=>Lk k.K y val&&uB aS y
 | .bin op a b,aS,aj=>BJ λ l o r=>o==ta op&&(dU k a aS aj l&&dU k b aS aj r)
 | .qA a b,aS,aj=>BJ λ l o r=>o== .Mult&&(dU k a aS aj l&&dU k b aS aj r)
 | .pE a b,aS,aj=>BJ λ l o r=>o== .Mult&&(dU k a aS aj l&&dU k b aS aj r)
 | .neg a,aS,aj=>BN λ o y=>o== .USub&&dU k a aS aj y
 | .and O,aS,aj=>yq λ o xs=>o== .And&&kI k O aS aj xs
 | .or O,aS,aj=>yq λ o xs=>o== .Or&&kI k O aS aj xs
 | .cmp op a b,aS,aj=>Hi λ l os d3=>dy (λ r=>dy (λ o=>o==Dw op&&(!I0 o r&&(dU k a aS aj l&&dU k b aS aj r))) os) d3
 | .ite t a b,aS,aj=>P5 λ u l r=>vg k t aS aj u&&(dU k a aS aj l&&dU k b aS aj r)
 | .tup O,aS,aj=>yr λ xs=>kI k O aS aj xs&&xs.all f2
 | .lst O,aS,aj=>P8 λ xs=>kI k O aS aj xs&&xs.all f2
 | .m4 ks ar,aS,aj=>BL λ mn f4=>Gy ks mn&&(kI k ar aS aj f4&&(decide (ks.length=f4.length)&&(!ks.isEmpty&&(decide (ks.length≤15)&&decide ks.Nodup))))
 | .pa ks ar,aS,aj=>BL λ mn f4=>EE ks mn&&(kI k ar aS aj f4&&(decide (ks.length=f4.length)&&(!ks.isEmpty&&(decide (ks.length≤15)&&decide ks.Nodup))))
 | .eP _,_,_=>BL λ ks ar=>hh ks&&hh ar
 | .at a f,aS,aj=>rU λ y gW _=>decide (gW=gK k.nm f)&&(wE y&&dU k a aS aj y)
 | .aq a i,aS,aj=>rW λ y dQ=>dU k a aS aj y&&dU k i aS aj dQ
 | .lj a lo,aS,aj=>rW λ y dQ=>dU k a aS aj y&&BM (λ l h c=>on h&&(on c&&cT (dU k lo aS aj) l)) dQ
 | .mF a ay,aS,aj=>rW λ y dQ=>dU k a aS aj y&&BM (λ l h c=>on l&&(on c&&cT (dU k ay aS aj) h)) dQ
 | .rev a,aS,aj=>rW λ y dQ=>dU k a aS aj y&&BM (λ l h c=>on l&&(on h&&cT (BN λ o u=>o== .USub&&rV (zq λ i=>i==1) u) c)) dQ
 | .comp b7 xs many bb eo,aS,aj=>P6 λ e en bG=>dy (λ g=>g.is_async==0&&(Dv aS bG&&(ts (ib aj xs (Bs g.target) bG)&&(rM (ib aj xs (Bs g.target) bG) (pD bG aS) many xs g.target&&(rt (pD bG aS) g.target&&(Fv g.iter&&(dU k bb aS aj g.iter&&(s9 k eo (pD bG aS) (ib aj xs (Bs g.target) bG) g.ifs&&dU k b7 (pD bG aS) (ib aj xs (Bs g.target) bG) e)))))))) en
 | .call f b6,aS,aj=>mK λ g xs f0 _=>hh f0&&(nx (λ y=>uB aS y&&(DZ k.K y (k.aK f)&&yU k.K (.ref (k.aK f)))) g&&(kI k b6 aS aj xs&&xs.all f2))
 | .new c b6,aS,aj=>mK λ g xs f0 _=>hh f0&&(nx (λ y=>uB aS y&&(DZ k.K y (k.ca c)&&yU k.K (.ref (k.ca c)))) g&&(kI k b6 aS aj xs&&xs.all f2))
 | .hj o m b6,aS,aj=>mK λ g xs f0 cg=>hh f0&&(decide (m<k.nm.length)&&(decide (xs.length<30)&&(rU (λ y gW ez=>decide (gW=gK k.nm m)&&(wE y&&((ez.endLine==cg.line)&&dU k o aS aj y))) g&&(kI k b6 aS aj xs&&xs.all f2))))
 | .len a,aS,aj=>mK λ g xs f0 _=>q4 k.K aS "len" g&&(hh f0&&dy (λ L=>dU k a aS aj L&&f2 L) xs)
 | .jb a,aS,aj=>mK λ g xs f0 _=>q4 k.K aS "tuple" g&&(hh f0&&dy (λ L=>dU k a aS aj L&&f2 L) xs)
 | .sorted a,aS,aj=>mK λ g xs f0 _=>q4 k.K aS "sorted" g&&(hh f0&&dy (λ L=>dU k a aS aj L&&f2 L) xs)
 | .strOf a,aS,aj=>mK λ g xs f0 _=>q4 k.K aS "str" g&&(hh f0&&dy (λ L=>dU k a aS aj L&&f2 L) xs)
 | .gQ a,aS,aj=>mK λ g xs f0 _=>q4 k.K aS "range" g&&(hh f0&&dy (λ L=>dU k a aS aj L&&f2 L) xs)
 | .pF a b,aS,aj=>mK λ g xs f0 _=>q4 k.K aS "range" g&&(hh f0&&oe (λ L r=>dy (λ u=>(dU k a aS aj L&&f2 L)&&(dU k b aS aj u&&f2 u)) r) xs)
 | .append o a,aS,aj=>mK λ g xs f0 cg=>hh f0&&(rU (λ y gW ez=>decide (gW="append")&&(wE y&&((ez.endLine==cg.line)&&dU k o aS aj y))) g&&dy (λ L=>dU k a aS aj L&&f2 L) xs)
 | .m3 o a d,aS,aj=>mK λ g xs f0 cg=>hh f0&&(rU (λ y gW ez=>decide (gW="get")&&(wE y&&((ez.endLine==cg.line)&&dU k o aS aj y))) g&&oe (λ L r=>dy (λ u=>(dU k a aS aj L&&f2 L)&&(dU k d aS aj u&&f2 u)) r) xs)
 | .bad,_,_=>λ _=>true
noncomputable def kI(k:qL):d6→gc→B (Y aL)→B bn→av
 | .nil,_,_=>hh
 | .cons e r,aS,aj=>oe λ x bf=>dU k e aS aj x&&kI k r aS aj bf
noncomputable def vg(k:qL):T→gc→B (Y aL)→bn→av
 | .e a,aS,aj=>λ x=>FU x&&dU k a aS aj x
 | .g4 t,aS,aj=>BN λ o y=>o== .Not&&vg k t aS aj y
 | .and bE,aS,aj=>yq λ o xs=>o== .And&&s9 k bE aS aj xs
 | .or bE,aS,aj=>yq λ o xs=>o== .Or&&s9 k bE aS aj xs
 | .cmp op a b,aS,aj=>Hi λ l os d3=>dy (λ r=>dy (λ o=>o==Dw op&&(!I0 o r&&(dU k a aS aj l&&dU k b aS aj r))) os) d3
noncomputable def s9(k:qL):fb→gc→B (Y aL)→B bn→av
 | .nil,_,_=>hh
 | .cons t r,aS,aj=>oe λ x bf=>vg k t aS aj x&&s9 k r aS aj bf
end
noncomputable def x3(f:B bn→bn→hd→av)(x:ft):Bool:=gj x.ctorIdx 5 λ h=>IK (motive_2:=λ _=>av) x h λ t v p=>f t v p
@[elab_as_elim] theorem A7{f:B bn→bn→hd→av}(h:x3 f x=true)(k:∀t v p,f t v p=true→ak (.Assign t v p)):ak x:=
 gE h λ e q=>IK (motive_2:=λ x=>∀e,IK (motive_2:=λ _=>av) x e (λ t v p=>f t v p)=true→ak x) x e (λ t v p _ q=>k t v p q) e q
noncomputable def A8(f:bn→yQ→bn→av)(x:ft):Bool:=gj x.ctorIdx 7 λ h=>IL (motive_2:=λ _=>av) x h λ t o v _=>f t o v
@[elab_as_elim] theorem Ge{f:bn→yQ→bn→av}(h:A8 f x=true)(k:∀t o v p,f t o v=true→ak (.AugAssign t o v p)):ak x:=
 gE h λ e q=>IL (motive_2:=λ x=>∀e,IL (motive_2:=λ _=>av) x e (λ t o v _=>f t o v)=true→ak x) x e (λ t o v p _ q=>k t o v p q) e q
noncomputable def OC(f:bn→av)(x:ft):Bool:=gj x.ctorIdx 24 λ h=>IM (motive_2:=λ _=>av) x h λ v _=>f v
@[elab_as_elim] theorem adJ{f:bn→av}(h:OC f x=true)(k:∀v p,f v=true→ak (.Expr v p)):ak x:=
 gE h λ e q=>IM (motive_2:=λ x=>∀e,IM (motive_2:=λ _=>av) x e (λ v _=>f v)=true→ak x) x e (λ v p _ q=>k v p q) e q
noncomputable def Gh(f:Y bn→av)(x:ft):Bool:=gj x.ctorIdx 3 λ h=>IQ (motive_2:=λ _=>av) x h λ v _=>f v
@[elab_as_elim] theorem OI{f:Y bn→av}(h:Gh f x=true)(k:∀v p,f v=true→ak (.Return v p)):ak x:=
 gE h λ e q=>IQ (motive_2:=λ x=>∀e,IQ (motive_2:=λ _=>av) x e (λ v _=>f v)=true→ak x) x e (λ v p _ q=>k v p q) e q
noncomputable def OF(f:bn→B ft→B ft→av)(x:ft):Bool:=gj x.ctorIdx 12 λ h=>IP (motive_2:=λ _=>av) x h λ u v w _=>f u v w
@[elab_as_elim] theorem adL(h:OF f x=true)(k:∀u v w p,f u v w=true→ak (.If u v w p)):ak x:=
 gE h λ e q=>IP (motive_2:=λ x=>∀e,IP (motive_2:=λ _=>av) x e (λ u v w _=>f u v w)=true→ak x) x e (λ u v w p _ q=>k u v w p q) e q
noncomputable def OK(f:bn→B ft→B ft→av)(x:ft):Bool:=gj x.ctorIdx 11 λ h=>IR (motive_2:=λ _=>av) x h λ u v w _=>f u v w
@[elab_as_elim] theorem adN(h:OK f x=true)(k:∀u v w p,f u v w=true→ak (.While u v w p)):ak x:=
 gE h λ e q=>IR (motive_2:=λ x=>∀e,IR (motive_2:=λ _=>av) x e (λ u v w _=>f u v w)=true→ak x) x e (λ u v w p _ q=>k u v w p q) e q
noncomputable def OD(f:bn→bn→B ft→B ft→av)(x:ft):Bool:=gj x.ctorIdx 9 λ h=>IN (motive_2:=λ _=>av) x h λ t u v w _=>f t u v w
@[elab_as_elim] theorem adK{f:bn→bn→B ft→B ft→av}(h:OD f x=true)(k:∀t u v w p,f t u v w=true→ak (.For t u v w p)):ak x:=
 gE h λ e q=>IN (motive_2:=λ x=>∀e,IN (motive_2:=λ _=>av) x e (λ t u v w _=>f t u v w)=true→ak x) x e (λ t u v w p _ q=>k t u v w p q) e q
noncomputable def Mi(e:ab):Bool:=gj e.ctorIdx 24 λ _=>true
@[elab_as_elim] theorem Y4{ak:ab→Prop}{e:ab}(h:Mi e=true)(k:∀a b c d f,ak (.comp a b c d f)):ak e:=gE h λ i _=>ab.comp.elim (motive_1:=ak) e i k
mutual
noncomputable def NT(k:qL):S→gc→B (Y aL)→ft→av
 | .asg i e,aS,aj=>x3 λ bE v _=>dy (nx λ y=>u' aj i y&&tl aS y) bE&&((Mi e||AL v)&&dU k e aS aj v)
 | .o1 xs e,aS,aj=>x3 λ bE v _=>dy (λ t=>yr (λ _=>true) t&&rM aj aS true xs t) bE&&(AL v&&(abA v&&dU k e aS aj v))
 | .cc o f e,aS,aj=>x3 λ bE v _=>dy (rU λ y gW _=>decide (gW=gK k.nm f)&&dU k o aS aj y) bE&&dU k e aS aj v
 | .gJ o i e,aS,aj=>x3 λ bE v _=>dy (rW λ y L=>dU k o aS aj y&&dU k i aS aj L) bE&&dU k e aS aj v
 | .aug i op e,aS,aj=>A8 λ t o v=>o==ta op&&(nx (λ y=>u' aj i y&&(tl aS y&&pA y)) t&&dU k e aS aj v)
 | .o3 o f op e,aS,aj=>A8 λ t p v=>p==ta op&&(rU (λ y gW _=>decide (gW=gK k.nm f)&&dU k o aS aj y) t&&dU k e aS aj v)
 | .o4 o i op e,aS,aj=>A8 λ t p v=>p==ta op&&(rW (λ y L=>abz L&&(dU k o aS aj y&&dU k i aS aj L)) t&&dU k e aS aj v)
 | .ex e,aS,aj=>OC λ v=>AL v&&dU k e aS aj v
 | .ret e,aS,aj=>Gh (cT (dU k e aS aj))
 | .mD,_,_=>Gh on
 | .b4 t a b,aS,aj=>OF λ u p q=>vg k t aS aj u&&(px k a aS aj p&&px k b aS aj q)
 | .pL t b,aS,aj=>OK λ u p q=>hh q&&(vg k t aS aj u&&px k b aS aj p)
 | .dc xs many bb b,aS,aj=>OD λ Br hy p q=>hh q&&(rM aj aS many xs Br&&(Fv hy&&(dU k bb aS aj hy&&px k b aS aj p)))
 | .bad,_,_=>λ _=>true
noncomputable def px(k:qL):bk→gc→B (Y aL)→B ft→av
 | .nil,_,_=>hh
 | .cons s r,aS,aj=>oe λ x bf=>NT k s aS aj x&&px k r aS aj bf
end
theorem UQ{prog:lv}{w:eY}(m2:B mT):∀{O:B (am×am)},Do m2 O=true→
  (∀e∈m2,∃k,(gs prog w).is k e.key=true∧e.hash=(gs prog w).hash k)∧∀k,gb (λ i v=>∃t,v= .int i t) (O.lookup k) ((m2.find? λ e=>(gs prog w).is k e.key).map (·.val)):=by
 induction m2 with
 |nil=>exact λ h=>g0 h ⟨λ _ h=>(nomatch h),λ _=>rfl⟩
 |cons d r aZ=>
  refine λ h=>jq h λ p q h=>(G4 (a7 h)).elim λ k L=>L.elim λ t L=>(G4 (a7 (aD h))).elim λ v y=>y.elim λ u y=>?_
  have i:=aZ (aD (aD (aD h)))
  have dp:d.key= .int p.1 t:=L.1.trans (an (qX · t) (eq_of_beq L.2))
  refine⟨λ e b3=>(kh.mp b3).elim (λ g=>⟨p.1,g▸dp▸p4 _ _ _ _,g▸eq_of_beq (a7 (aD (aD h)))⟩) (i.1 e),λ ct=>?_⟩
  by_cases hk:ct=p.1
  ·rw[HR (p:=λ e:mT=>(gs prog w).is ct e.key) (dp▸hk▸p4 _ _ _ _),hk]
   exact(H2 (k:=p.1)).symm▸⟨d.val,rfl,u,y.1.trans (an (qX · u) (eq_of_beq y.2))⟩
  ·rw[HQ (p:=λ e:mT=>(gs prog w).is ct e.key) (λ g=>hk (eq_of_beq (show(gs prog w).is ct (.int p.1 t)=true from dp▸g)).symm),l1,ma.mpr hk]
   exact i.2 ct
theorem UP{O:B (am×am)}(X:c.K.In c.h₀)(h:Kf c.K a O=true):Hx c O a:=
 (rB h).elim λ o g=>(Vd (a7 (aD (aD g.2)))).elim λ m2 q=>q.elim λ hL q=>have i:=UQ (prog:=c.prog) (w:=c.w) m2.toList q.2;have L:=aD (aD (aD g.2))
  ⟨ma.mpr (p8.mp (aD L)),λ k=>CK (gs c.prog c.w).is m2 k,⟨o,m2,hL,X _ _ g.1,⟨eq_of_beq (a7 g.2),NL (a7 (aD g.2)),BU.mp (Ca.mp (a7 L))⟩,q.1,λ x aA=>i.1 x (Qj.mpr aA),λ _=>rfl⟩,λ k=>by
   have e:CK (gs c.prog c.w).is m2 k=(m2.toList.find? λ e=>(gs c.prog c.w).is k e.key).map (·.val):=by
    unfold CK
    rw[←Qh]
   exact(an (gb (λ i v=>∃t,v=qX i t) (O.lookup k)) e).mpr (i.2 k)⟩
theorem W5{x:aL}{a:D}{G:cA}{h:dD}(X:c.K.In c.h₀)(e:Lk c.K x a=true):∃v,qY c.K ly x=some (some v)∧bA c G h a v:=by
 cases a with
 |ii i=>exact(rB e).elim λ o g=>(rB g.2).elim λ v y=>⟨v,g.1.trans (an _ y.1),(G4 y.2).elim λ j y=>y.imp λ t y=>y.1.trans (an (qX · t) (eq_of_beq y.2).symm)⟩
 |cd O=>exact(rB e).elim λ o g=>(rB g.2).elim λ v y=>⟨v,g.1.trans (an _ y.1),(PV y.2).imp λ b y=>⟨y.1,UP X y.2⟩⟩
 |_=>exact nomatch e
theorem jK{x:aL}(h:uB aS x=true):aS.names.lookup x=some .globalImplicit∧pA x=true:=⟨eq_of_beq (a7 h),aD h⟩
theorem Le{x:aL}(h:DZ K x a=true):qY K ly x=some (some (.ref a)):=
 (rB h).elim λ o g=>(rB g.2).elim λ v y=>(PV y.2).elim λ b L=>g.1.trans (an _ (y.1.trans (an _ (L.1.trans (an _ (eq_of_beq L.2).symm)))))
theorem uz{x:aL}(h:DX K x=true):qY K ly x=some none:=(rB h).elim λ o g=>g.1.trans (an _ (NL g.2))
theorem AO{a b:av}{M:Prop}(h:(a||b)=true)(c2:a=true→M)(dW:b=true→M):M:=(BX.mp h).elim c2 dW
theorem zm{o:bn}{name:aL}{BF:ik au}(h:wE o=true):IZ o name env BF=BF:=
 AO h (λ h=>mL h λ _ _ _=>rfl) λ h=>AO h (λ h=>tA h λ _ _ _ _=>rfl) λ h=>AO h (λ h=>tC h λ _ _ _ _=>rfl) λ h=>nw h λ g xs ks p h=>by
  have aH:=aD h
  revert aH
  exact mL (a7 h) λ _ _ _ aH=>jq aH λ _ _ _=>rfl
theorem Go{e:bn}(h:Fv e=true):∀x,CL e env x=pure x:=by
 intro x
 cases e<;>first|rfl|exact K1 (show false=true from h)
theorem GA{v:bn}{t:Y bn}{z:C}(h:AL v=true):y1 v t z env=pure false:=by
 cases v<;>first|rfl|exact K1 (show false=true from h)
@[elab_as_elim] theorem ud{id:aL}{ak:bn→Prop}:∀{x:bn},q4 K aS id x=true→(∀p,uB aS id=true→DX K id=true→ak (.Name id p))→ak x:=by
 intro x h k
 unfold q4 at h
 refine mL h λ y p h=>?_
 have e:y=id:=gi (a7 h)
 subst e;exact k p (a7 (aD h)) (aD (aD h))
theorem Uw:bootBuiltins "len"=some (.builtin "len"):=by decide+kernel
theorem Ux:bootBuiltins "sorted"=some (.builtin "sorted"):=by decide+kernel
theorem Uz:bootBuiltins "tuple"=some (.type "tuple"):=by decide+kernel
theorem Uy:bootBuiltins "str"=some (.type "str"):=by decide+kernel
theorem J0:bootBuiltins "range"=some (.type "range"):=by decide+kernel
end Mine
end
section
open PySem PySem.W PyProof.Rows
namespace Mine
variable{A:eB}{G bQ:cA}{s aJ b':a2}{t:ik au}{α:Type}{o:Y α}{k:α→Prop}{r:D}{ak:D→D→Prop}{v:D}{J:St}{m:C}{l:B C}{O:d6}
noncomputable def BS(A:eB)(z:C):Prop:=A.handled=none∧A.depth+4*z<CN∧A.units+12*z+300<kY
noncomputable def iE(A:eB)(z:C):Prop:=A.handled=none∧A.depth+4*z+3<CN∧A.units+12*z+309<kY
theorem iE.a{z:C}(h:iE A z):BS A z:=⟨h.1,by have:=h.2.1;omega,by have:=h.2.2;omega⟩
theorem iE.u{z:C}(h:iE A z):A.units+200<cLine:=by have:=h.2.2;omega
structure Ci(c:cV)(nm:B (B C))(aK:C→a8):Prop where
 i5:∀V f,c.P.i5 V=some f→oU c.K (.ref (c.ca V)) "__init__"=some (some (.ref (aK f)))∧wk c.K (.ref (aK f))=some (.type "function")
 pv:∀V m f,c.P.pv V m=some f→oU c.K (.ref (c.ca V)) (gK nm m)=some (some (.ref (aK f)))∧wk c.K (.ref (aK f))=some (.type "function")∧yU c.K (.ref (aK f))=true
noncomputable def jE(c:cV)(nm:B (B C))(aK:C→a8):qL:=⟨c.K,aK,c.ca,nm⟩
noncomputable def Hy(c:cV)(nm:B (B C))(aK:C→a8)(z:C)(V:C→B D→dC→St→Prop):Prop:=
 ∀(A:eB) f b6 gR G n s Q (R:yT→a2→Prop),BS A z→Inv c nm G n s→cs c G s.heap b6 gR→V f b6 Q n→(∀v a9,Back c nm G s Q v a9→R (.ok (.ret v)) a9)→t4 (bc c.prog c.w) A (.call (.ref (aK f)) ⟨gR,[]⟩) R s
structure hK(c:cV)(nm:B (B C))(aK:C→a8)(z:C)(V:C→B D→dC→St→Prop):Prop where
 ok:jB c nm
 gl:v5 c
 more:Ci c nm aK
 call:Hy c nm aK z V
noncomputable def cv(c:cV)(nm:B (B C))(aK:C→a8)(z:C)(V:C→B D→dC→St→Prop)(e:ab):Prop:=
 ∀(x:bn) (aj:B (Y aL)) (env:aX) (ai:eg) (G:cA) (n:St) (s:a2) (m:aL→Y au) (A:eB) (ab:au→a2→Prop) (Q:dC),
  dU (jE c nm aK) e ai.scope aj x=true→c9 c aj G env ai s.heap m→Inv c nm G n s→iE A z→di c.P V e env Q n→bg (bc c.prog c.w) A (eval x ai) (Back c nm G s Q) ab s
noncomputable def kU(c:cV)(nm:B (B C))(aK:C→a8)(z:C)(V:C→B D→dC→St→Prop):d6→Prop
 | .nil=>True
 | .cons e r=>cv c nm aK z V e∧kU c nm aK z V r
noncomputable def nQ(c:cV)(nm:B (B C))(aK:C→a8)(z:C)(V:C→B D→dC→St→Prop)(t:T):Prop:=
 ∀(x:bn) (aj:B (Y aL)) (env:aX) (ai:eg) (G:cA) (n:St) (s:a2) (m:aL→Y au) (A:eB) (ab:au→a2→Prop) (Q:av→St→Prop),
  vg (jE c nm aK) t ai.scope aj x=true→c9 c aj G env ai s.heap m→Inv c nm G n s→iE A z→qI c.P V t env Q n→bg (bc c.prog c.w) A (isTrue x ai (eval x ai)) (kT c nm G s Q) ab s
noncomputable def p5(c:cV)(nm:B (B C))(aK:C→a8)(z:C)(V:C→B D→dC→St→Prop):fb→Prop
 | .nil=>True
 | .cons e r=>nQ c nm aK z V e∧p5 c nm aK z V r
section
variable{c:cV}{nm:B (B C)}{aK:C→a8}{z:C}{V:C→B D→dC→St→Prop}
theorem je{ab:au→a2→Prop}{Q:dC}(S:Step G s bQ aJ)(h:bg (bc c.prog c.w) A t (Back c nm bQ aJ Q) ab b'):bg (bc c.prog c.w) A t (Back c nm G s Q) ab b':=fa h (λ _ _ b=>b.after S) λ _ _ y=>y
theorem BG{ab:au→a2→Prop}{Q:av→St→Prop}{t:ik av}(S:Step G s bQ aJ)(h:bg (bc c.prog c.w) A t (kT c nm bQ aJ Q) ab b'):bg (bc c.prog c.w) A t (kT c nm G s Q) ab b':=fa h (λ _ _ b=>b.after S) λ _ _ y=>y
theorem fL{ab:au→a2→Prop}{W:dC}{X:au→a2→Prop}(h:bg (bc c.prog c.w) A t (Back c nm G s W) ab s)
  (k:∀v a bQ aa aJ,W a aa→bA c bQ aJ.heap a v→Inv c nm bQ aa aJ→Step G s bQ aJ→X v aJ):bg (bc c.prog c.w) A t X ab s:=
 fa h (λ v aJ ⟨a,bQ,aa,q,r,I,S⟩=>k v a bQ aa aJ q r I S) λ _ _ y=>y
theorem vH{ab:au→a2→Prop}{W:B D→St→Prop}{t:ik (B au)}{X:B au→a2→Prop}(h:bg (bc c.prog c.w) A t (Ht c nm G s W) ab s)
  (k:∀v a bQ aa aJ,W a aa→cs c bQ aJ.heap a v→Inv c nm bQ aa aJ→Step G s bQ aJ→X v aJ):bg (bc c.prog c.w) A t X ab s:=
 fa h (λ v aJ ⟨a,bQ,aa,q,r,I,S⟩=>k v a bQ aa aJ q r I S) λ _ _ y=>y
theorem qF{ab:au→a2→Prop}{W:av→St→Prop}{t:ik av}{X:av→a2→Prop}(h:bg (bc c.prog c.w) A t (kT c nm G s W) ab s)
  (k:∀v bQ aa aJ,W v aa→Inv c nm bQ aa aJ→Step G s bQ aJ→X v aJ):bg (bc c.prog c.w) A t X ab s:=
 fa h (λ v aJ ⟨bQ,aa,q,I,S⟩=>k v bQ aa aJ q I S) λ _ _ y=>y
theorem q5(h:et o k):∃a,o=some a∧k a:=by
 cases o with
 |none=>exact h.elim
 |some a=>exact⟨a,rfl,h⟩
theorem fC{M:Prop}(h:et o k)(g:∀a,o=some a→k a→M):M:=let⟨a,e,q⟩:=q5 h;g a e q
section
variable{n:St}{a b:D}
theorem ac'{ak:D→D→D→Prop}(h:xZ a b=some r)(k:∀x,ak (.tup [x]) (.ii 1) (.tup [x])):ak a b r:=by
 unfold xZ at h
 split at h
 ·split at h
  ·rename_i e;cases h;rw[e];exact k _
  ·cases h
 ·cases h
theorem xr{m:C}{α:Type}{f:B D→Y α}{r:α}(h:(match n[m]? with
  |some (.li xs)=>f xs
  |_=>none)=some r){M:Prop}(k:∀xs,n[m]? =some (.li xs)→f xs=some r→M):M:=by
 split at h
 ·exact k _ ‹_› h
 ·cases h
theorem ac9{r:B D}{ak:D→D→B D→Prop}(h:vs n a b=some r)(k:∀m z x,n[m]? =some (.li [x])→0≤z→z<1000→ak (.ref m) (.ii z) (dw z.toNat x)):ak a b r:=by
 unfold vs at h
 split at h
 ·split at h
  ·refine lK h λ p e=>?_
   subst e;exact k _ _ _ ‹_› p.1 p.2
  ·cases h
 ·cases h
theorem abg(h:xE a=some r)(k:∀i,ak (.ii i) (.ii (-i))):ak a r:=by
 unfold xE at h
 split at h
 ·cases h;exact k _
 ·cases h
theorem ZZ{r:B D}{ak:D→B D→Prop}(h:uZ n a=some r)(k:∀m xs,n[m]? =some (.li xs)→ak (.ref m) xs):ak a r:=by
 unfold uZ at h
 split at h
 ·refine xr (f:=some) h λ xs e q=>?_
  cases q;exact k _ _ e
 ·cases h
theorem WL{r:B D}{ak:D→D→B D→Prop}(h:uw n a b=some r)(k:∀m z xs,n[m]? =some (.li xs)→0≤z→ak (.ref m) (.ii z) (xs.drop z.toNat)):ak a b r:=by
 unfold uw at h
 split at h
 ·refine xr (f:=λ xs:B D=>if 0≤_∧_< (1000:am)then some (xs.drop (HJ _))else none) h λ xs e q=>?_
  refine lK q λ p q=>?_
  subst q;exact k _ _ _ e p.1
 ·cases h
theorem afL{r:D ⊕ B D}{ak:D→D→D ⊕ B D→Prop}(h:rR n a b=some r)(c2:∀m z xs,n[m]? =some (.li xs)→0≤z→ak (.ref m) (.ii z) (.inr (xs.take z.toNat)))
  (dW:∀t z,0≤z→t.length≤1000→ak (.ss t) (.ii z) (.inl (.ss (t.take z.toNat))))(ob:∀l z,0≤z→l.length≤1000→ak (.fv l) (.ii z) (.inr ((l.take z.toNat).map .ii))):ak a b r:=by
 unfold rR at h
 split at h
 ·refine xr (f:=λ xs:B D=>if 0≤_∧_< (1000:am)then some (Sum.inr (xs.take (HJ _)))else none) h λ xs e q=>?_
  refine lK q λ p q=>?_
  subst q;exact c2 _ _ _ e p.1
 ·refine lK h λ p q=>?_
  subst q;exact dW _ _ p.1 p.2.2
 ·refine lK h λ p q=>?_
  subst q;exact ob _ _ p.1 p.2.2
 ·cases h
theorem afp(h:rO n a=some r)(k:∀m xs,n[m]? =some (.li xs)→ak (.ref m) (.tup xs))(dW:∀l,ak (.tup l) (.tup l)):ak a r:=by
 unfold rO at h
 split at h
 ·refine xr (f:=λ xs=>some (D.tup xs)) h λ xs e q=>?_
  cases q;exact k _ _ e
 ·cases h;exact dW _
 ·cases h
theorem aee{r:B D}{ak:D→B D→Prop}(h:vD n a=some r)(k:∀m xs bf,n[m]? =some (.li xs)→xs.length<64→xs.all m'=true→pJ xs=some bf→bf.length<64→ak (.ref m) bf):ak a r:=by
 unfold vD at h
 split at h
 ·split at h
  ·split at h
   ·rename_i p
    obtain⟨bf,e,h⟩:=yN.mp h
    refine lK h λ fT q=>?_
    subst q;exact k _ _ _ ‹_› p.1 p.2 e fT
   ·cases h
  ·cases h
 ·cases h
theorem aeV(h:ye a=some r)(k:∀i d,zD i=some d→ak (.ii i) (.ss d)):ak a r:=by
 unfold ye at h
 split at h
 ·obtain⟨d,e,h⟩:=l3.mp h
  subst h;exact k _ _ e
 ·cases h
theorem adn(h:ov a=some r)(k:∀i,ak (.ii i) (.ew 0 i)):ak a r:=by
 unfold ov at h
 split at h
 ·refine lK h λ p q=>?_
  subst q;exact k _
 ·cases h
theorem adq{ak:D→D→D→Prop}(h:vx a b=some r)(k:∀i j,ak (.ii i) (.ii j) (.ew i j)):ak a b r:=by
 unfold vx at h
 split at h
 ·refine lK h λ p q=>?_
  subst q;exact k _ _
 ·cases h
theorem S1{ak:St→Prop}(h:l8 n (.ref m) v=some J)(k:∀xs,n[m]? =some (.li xs)→xs.length<room→ak (n.set m (.li (xs++[v])))):ak J:=by
 unfold l8 at h
 refine xr (f:=λ xs=>if xs.length<room then some (n.set m (.li (xs++[v])))else none) h λ xs e q=>lK q λ p q=>?_
 subst q;exact k _ e p
theorem Y5{ak:D→Prop}(h:ml n a=true)(k:∀m xs,n[m]? =some (.li xs)→ak (.ref m)):ak a:=by
 unfold ml at h
 split at h
 ·unfold Am at h
  split at h
  ·exact k _ _ ‹_›
  ·cases h
 ·cases h
theorem aaO{P:iW}{f:C}{ak:D→Prop}(h:mu P n m a=some f)(k:∀z c aG,n[z]? =some (.bF c aG)→aG.lookup m=none→P.pv c m=some f→ak (.ref z)):ak a:=by
 unfold mu at h
 split at h
 ·split at h
  ·split at h
   ·exact k _ _ _ ‹_› (Cv.mp ‹_›) h
   ·cases h
  ·cases h
 ·cases h
theorem ad1{k:D}{ak:D→Prop}(h:j' n a k v=some J)(g:∀z,Gn n z k v=some J→ak (.ref z)):ak a:=by
 unfold j' at h
 split at h
 ·exact g _ h
 ·cases h
theorem ade{k:D}{ak:D→Prop}(h:vv n a k=some r)(g:∀z,dd n (.ref z) k=some r→ak (.ref z)):ak a:=by
 unfold vv at h
 split at h
 ·exact g _ h
 ·cases h
end
theorem V8:cv c nm aK z V .nn:=by
 intro x aj env ai G n s m A ab Q ok F I hA q
 refine tB ok λ k z p ok=>UJ ok ?_
 exact wpAny_Constant_none (Back.now q rfl I)
theorem VR{b:av}:cv c nm aK z V (.cj b):=by
 intro x aj env ai G n s m A ab Q ok F I hA q
 refine tB ok λ k z p ok=>UF ok λ hw ok=>jI ok ?_
 exact wpAny_Constant_bool (Back.now q lm I)
theorem V0{i:am}:cv c nm aK z V (.ii i):=by
 intro x aj env ai G n s m A ab Q ok F I hA q
 refine tB ok λ k z p ok=>Dj ok λ hw ok=>jI ok ?_
 exact I9 (Back.here q ⟨_,rfl⟩ I _)
theorem Wh:cv c nm aK z V (.ss l):=by
 intro x aj env ai G n s m A ab Q ok F I hA q
 refine tB ok λ k z p ok=>Kb ok λ hw ok=>?_
 rw[show hw=st l from gi ok]
 exact R8 (Back.here q ⟨_,rfl⟩ I _)
theorem Wl{i:C}:cv c nm aK z V (.v i):=by
 intro x aj env ai G n s m A ab Q ok F I hA q
 refine mL ok λ y p ok=>fC q λ a bO q=>?_
 exact aag F I (va (a7 ok)) (aD ok) bO q
theorem VZ(Z:hK c nm aK z V){a:D}:cv c nm aK z V (.gl l a):=by
 intro x aj env ai G n s m A ab Q ok F I hA q
 refine mL ok λ y p ok=>?_
 obtain⟨v,e,r⟩:=W5 (G:=G) (h:=s.heap) Z.ok.K (a7 ok)
 exact D3 Z.ok Z.gl F I e (jK (aD ok)).1 (jK (aD ok)).2 (Back.now q r I)
theorem two{a b:ab}(bO:cv c nm aK z V a)(az:cv c nm aK z V b){x y:bn}{aj:B (Y aL)}{env:aX}{ai:eg}{n:St}{m:aL→Y au}{ab:au→a2→Prop}{W:D→D→St→Prop}{X:au→au→a2→Prop}
  (cT:dU (jE c nm aK) a ai.scope aj x=true)(bu:dU (jE c nm aK) b ai.scope aj y=true)(F:c9 c aj G env ai s.heap m)(I:Inv c nm G n s)(hA:iE A z)(q:di c.P V a env (λ db aa=>di c.P V b env (W db) aa) n)
  (k:∀v u cx ed dz ao b',W cx ed ao→bA c dz b'.heap cx v→bA c dz b'.heap ed u→Inv c nm dz ao b'→Step G s dz b'→X v u b'):bg (bc c.prog c.w) A (eval x ai) (λ v aJ=>bg (bc c.prog c.w) A (eval y ai) (X v) ab aJ) ab s:=
 fL (bO _ _ _ _ _ _ _ _ _ _ _ cT F I hA q) λ _ _ _ _ _ q r ce bU=>fL (az _ _ _ _ _ _ _ _ _ _ _ bu (F.step I bU) ce hA q) λ _ _ _ _ _ q ef c1 dt=>k _ _ _ _ _ _ _ q (dt.f6 ce r) ef c1 (bU.trans dt)
theorem VQ{op:iS}{a b:ab}(bO:cv c nm aK z V a)(az:cv c nm aK z V b):cv c nm aK z V (.bin op a b):=by
 intro x aj env ai G n s m A ab Q ok F I hA q
 refine Hh ok λ l o r p ok=>jI (a7 ok) ?_
 exact I8 (two bO az (a7 (aD ok)) (aD (aD ok)) F I hA q λ v u cx ed dz ao b' q r ef c1 S=>fC q λ y e q=>je S (Un e r ef q c1))
theorem Wa{a b:ab}(bO:cv c nm aK z V a)(az:cv c nm aK z V b):cv c nm aK z V (.qA a b):=by
 intro x aj env ai G n s m A ab Q ok F I hA q
 refine Hh ok λ l o r p ok=>jI (a7 ok) ?_
 refine I8 (two bO az (a7 (aD ok)) (aD (aD ok)) F I hA q λ v u cx ed dz ao b' q r ef c1 S=>fC q λ y e=>?_)
 revert r ef
 exact ac' (ak:=λ cx ed y=>bA c dz b'.heap cx v→bA c dz b'.heap ed u→Q y ao→_) e λ _ r ef q=>je S (adj r ef q c1)
theorem V'{a b:ab}(bO:cv c nm aK z V a)(az:cv c nm aK z V b):cv c nm aK z V (.pE a b):=by
 intro x aj env ai G n s m A ab Q ok F I hA q
 refine Hh ok λ l o r p ok=>jI (a7 ok) ?_
 refine I8 (two bO az (a7 (aD ok)) (aD (aD ok)) F I hA q λ v u cx ed dz ao b' q r ef c1 S=>fC q λ y e=>?_)
 revert r ef
 exact ac9 (ak:=λ cx ed y=>bA c dz b'.heap cx v→bA c dz b'.heap ed u→Q (.ref ao.length) (ao++[.li y])→_) e λ _ _ _ e ec ax r ef q=>je S (adi e ec ax r ef q c1)
theorem V6{a:ab}(bO:cv c nm aK z V a):cv c nm aK z V (.neg a):=by
 intro x aj env ai G n s m A ab Q ok F I hA q
 refine Hm ok λ o y p ok=>jI (a7 ok) ?_
 refine R9 (fL (bO _ _ _ _ _ _ _ _ _ _ _ (aD ok) F I hA q) λ v cx bQ aa aJ q r ce bU=>fC q λ y e=>?_)
 revert r
 exact abg (ak:=λ cx y=>bA c bQ aJ.heap cx v→Q y aa→_) e λ _ r q=>je bU (Ns r q ce)
theorem VT(Z:hK c nm aK z V){op:jf}{a b:ab}(bO:cv c nm aK z V a)(az:cv c nm aK z V b):cv c nm aK z V (.cmp op a b):=by
 intro x aj env ai G n s m A ab Q ok F I hA q
 refine P4 ok λ l os d3 p ok=>jp ok λ r ok=>jp ok λ o ok=>?_
 have bu:=aD ok
 revert bu
 refine jI (a7 ok) λ bu=>?_
 exact wpAny_Compare1 (two bO az (a7 (aD bu)) (aD (aD bu)) F I hA q λ v u cx ed dz ao b' q r ef c1 S=>fC q λ y e q=>je S (Kr Z.ok hA.u e r ef q c1)) (by simpa using a7 bu)
theorem V1{t:T}{a b:ab}(bD:nQ c nm aK z V t)(bO:cv c nm aK z V a)(az:cv c nm aK z V b):cv c nm aK z V (.ite t a b):=by
 intro x aj env ai G n s m A ab Q ok F I hA q
 refine agb ok λ u l r p ok=>?_
 refine wpAny_IfExp (qF (bD _ _ _ _ _ _ _ _ _ _ _ (a7 ok) F I hA q) λ v bQ aa aJ q ce bU=>?_)
 cases v
 ·exact je bU (az _ _ _ _ _ _ _ _ _ _ _ (aD (aD ok)) (F.step I bU) ce hA q)
 ·exact je bU (bO _ _ _ _ _ _ _ _ _ _ _ (a7 (aD ok)) (F.step I bU) ce hA q)
theorem ur{aj:B (Y aL)}{env:aX}{ai:eg}{A:eB}{ab:au→a2→Prop}{cg:hd}(hA:iE A z):∀{O:d6} {xs:B bn} {G:cA} {n:St} {s:a2} {m:aL→Y au} {Q:B D→St→Prop},kU c nm aK z V O→
  kI (jE c nm aK) O ai.scope aj xs=true→xs.all f2=true→c9 c aj G env ai s.heap m→Inv c nm G n s→m6 c.P V O env Q n→bg (bc c.prog c.w) A (sd (kX cg (j1 xs ai))) (Ht c nm G s Q) ab s
 | .nil,_,G,n,_,_,_,_,ok,_,_,I,q=>g0 ok (Sg ⟨[],G,n,q,cs.nil,I,.refl _ _⟩)
 | .cons _ r,xs,_,_,_,_,_,hs,ok,cy,F,I,q=>by
  revert cy
  refine jq ok λ y bf ok cy=>?_
  exact Jd (fL (hs.1 _ _ _ _ _ _ _ _ _ _ _ (a7 ok) F I hA q) λ v cx bQ aa aJ q r ce bU=>vH (ur hA hs.2 (aD ok) (aD cy) (F.step I bU) ce q) λ ar as dz ao b' q d3 c1 dt=>
   ⟨_,dz,ao,q,cs.cons (dt.f6 ce r) d3,c1,bU.trans dt⟩) (vF (a7 cy))
theorem Wj(hs:kU c nm aK z V O):cv c nm aK z V (.tup O):=by
 intro x aj env ai G n s m A ab Q ok F I hA q
 refine Hl ok λ l k p ok=>wpAny_Tuple (vH (ur hA hs (a7 ok) (aD ok) F I q) λ ar as dz ao b' q d3 c1 dt=>?_)
 refine⟨by rw[d3.length,lz];omega,?_⟩
 exact Back.after dt (Nt (k:=0) (t:=b'.toks) c1 (.refl _ _) d3 q.2)
theorem V4(hs:kU c nm aK z V O):cv c nm aK z V (.lst O):=by
 intro x aj env ai G n s m A ab Q ok F I hA q
 refine agc ok λ l p ok=>wpAny_List (vH (ur hA hs (a7 ok) (aD ok) F I q) λ ar as dz ao b' q d3 c1 dt=>?_)
 refine⟨by rw[d3.length,lz];omega,?_⟩
 exact Back.after dt (AJ (k:=0) (t:=b'.toks) c1 (.refl _ _) d3 (by rw[x1];omega) q.2 (n1 λ _ _ e=>e))
theorem Ju{aj:B (Y aL)}{env:aX}{ai:eg}{A:eB}{ab:au→a2→Prop}{cg:hd}(hA:iE A z):∀{O:d6} {xs:B bn} {G:cA} {n:St} {s:a2} {m:aL→Y au} {Q:dC},kU c nm aK z V O→
  kI (jE c nm aK) O ai.scope aj xs=true→c9 c aj G env ai s.heap m→Inv c nm G n s→wz c.P V O env Q n→bg (bc c.prog c.w) A (yW cg .And (I3 xs ai)) (Back c nm G s Q) ab s
 | .nil,_,_,_,_,_,_,_,_,_,_,q=>q.elim
 | .cons e .nil,xs,G,n,s,m,Q,hs,ok,F,I,q=>
  jq ok λ _ _ ok=>g0 (aD ok) (J3 (hs.1 _ _ _ _ _ _ _ _ _ _ _ (a7 ok) F I hA q))
 | .cons e (.cons bC lQ),xs,G,n,s,m,Q,hs,ok,F,I,q=>by
  refine jq ok λ y bf ok=>?_
  have aZ:=λ{xs G n s m Q} (ok:kI (jE c nm aK) (.cons bC lQ) ai.scope aj xs=true) (F:c9 c aj G env ai s.heap m) I q=>Ju (cg:=cg) (A:=A) (ab:=ab) hA (O:=.cons bC lQ) (xs:=xs) (G:=G) (n:=n) (s:=s) (m:=m) (Q:=Q) hs.2 ok F I q
  revert aZ
  refine jq (aD ok) λ L bR s7 aZ=>?_
  refine J2 (fL (hs.1 _ _ _ _ _ _ _ _ _ _ _ (a7 ok) F I hA q) λ v cx bQ aa aJ q r ce bU=>fC q λ b e q=>?_)
  refine qF (GK (Q:=λ hw J=>hw=b∧if b=true then wz c.P V (.cons bC lQ) env Q J else Q cx J) e r ⟨rfl,q⟩ ce) λ hw dz ao b' q c1 dt=>?_
  obtain⟨rfl,q⟩:=q
  cases hw
  ·exact⟨cx,dz,ao,q,dt.f6 ce r,c1,bU.trans dt⟩
  ·exact je (bU.trans dt) (aZ (xs:=L::bR) s7 ((F.step I bU).step ce dt) c1 q)
theorem NW{aj:B (Y aL)}{env:aX}{ai:eg}{A:eB}{ab:au→a2→Prop}{cg:hd}(hA:iE A z):∀{O:d6} {xs:B bn} {G:cA} {n:St} {s:a2} {m:aL→Y au} {Q:dC},kU c nm aK z V O→
  kI (jE c nm aK) O ai.scope aj xs=true→c9 c aj G env ai s.heap m→Inv c nm G n s→xM c.P V O env Q n→bg (bc c.prog c.w) A (yW cg .Or (I3 xs ai)) (Back c nm G s Q) ab s
 | .nil,_,_,_,_,_,_,_,_,_,_,q=>q.elim
 | .cons e .nil,xs,G,n,s,m,Q,hs,ok,F,I,q=>
  jq ok λ _ _ ok=>g0 (aD ok) (J3 (hs.1 _ _ _ _ _ _ _ _ _ _ _ (a7 ok) F I hA q))
 | .cons e (.cons bC lQ),xs,G,n,s,m,Q,hs,ok,F,I,q=>by
  refine jq ok λ y bf ok=>?_
  have aZ:=λ{xs G n s m Q} (ok:kI (jE c nm aK) (.cons bC lQ) ai.scope aj xs=true) (F:c9 c aj G env ai s.heap m) I q=>NW (cg:=cg) (A:=A) (ab:=ab) hA (O:=.cons bC lQ) (xs:=xs) (G:=G) (n:=n) (s:=s) (m:=m) (Q:=Q) hs.2 ok F I q
  revert aZ
  refine jq (aD ok) λ L bR s7 aZ=>?_
  refine J2 (fL (hs.1 _ _ _ _ _ _ _ _ _ _ _ (a7 ok) F I hA q) λ v cx bQ aa aJ q r ce bU=>fC q λ b e q=>?_)
  refine qF (GK (Q:=λ hw J=>hw=b∧if b=true then Q cx J else xM c.P V (.cons bC lQ) env Q J) e r ⟨rfl,q⟩ ce) λ hw dz ao b' q c1 dt=>?_
  obtain⟨rfl,q⟩:=q
  cases hw
  ·exact je (bU.trans dt) (aZ (xs:=L::bR) s7 ((F.step I bU).step ce dt) c1 q)
  ·exact⟨cx,dz,ao,q,dt.f6 ce r,c1,bU.trans dt⟩
theorem VN(hs:kU c nm aK z V O):cv c nm aK z V (.and O):=by
 intro x aj env ai G n s m A ab Q ok F I hA q
 refine BK ok λ o y p ok=>jI (a7 ok) ?_
 rw[R3];exact Ju hA hs (aD ok) F I q
theorem V9(hs:kU c nm aK z V O):cv c nm aK z V (.or O):=by
 intro x aj env ai G n s m A ab Q ok F I hA q
 refine BK ok λ o y p ok=>jI (a7 ok) ?_
 rw[R3];exact NW hA hs (aD ok) F I q
end
end Mine
end
section
open PySem PySem.W PyProof.Rows
namespace Mine
variable{K:Type}{k:C}{l:B am}{O:d6}{G:cA}{n:St}{s:a2}{Q:dC}{b':a2}{v:au}{xs:B D}
section
variable{c:cV}{nm:B (B C)}{aK:C→a8}{z:C}{V:C→B D→dC→St→Prop}
noncomputable def wa(c:cV)(ai:eg)(A:eB)(ab:au→a2→Prop)[jw K](knd:KeyKind c.prog c.w K)(ks:B K)(mn:B (Y bn)):Prop:=
 ∃fd:B bn,mn=fd.map some∧ks.length=fd.length∧∀(i:C) k na,ks[i]? =some k→fd[i]? =some na→yy c ai A ab knd k na
section
variable{ai:eg}{A:eB}{ab:au→a2→Prop}
theorem MO[jw K]{knd:KeyKind c.prog c.w K}:wa c ai A ab knd [] []:=⟨[],rfl,rfl,λ _ _ _ e=>(nomatch e)⟩
theorem MN[jw K]{knd:KeyKind c.prog c.w K}{k:K}{x:bn}{ks:B K}{r:B (Y bn)}(h:yy c ai A ab knd k x)(t:wa c ai A ab knd ks r):wa c ai A ab knd (k::ks) (some x::r):=
 t.elim λ fd t=>⟨x::fd,an _ t.1,an l2 t.2.1,λ i=>Rl i (λ _ _ aw aB=>ej aw▸ej aB▸h) t.2.2⟩
theorem aeW(ks:B (B C)):∀{mn:B (Y bn)},Gy ks mn=true→wa c ai A ab (strKind c.prog c.w) (ks.map st) mn:=by
 induction ks with
 |nil=>exact λ h=>g0 h MO
 |cons k ks aZ=>exact λ h=>jq h λ e r h=>qt (a7 h) λ x g=>tB g λ y z p g=>Kb g λ b g=>MN (λ s Q du=>gi g▸R8 (du _ _ (gi g▸I7 _ _ _ _))) (aZ (aD h))
theorem YY(ks:B am):∀{mn:B (Y bn)},EE ks mn=true→wa c ai A ab (gs c.prog c.w) (ks.map id) mn:=by
 induction ks with
 |nil=>exact λ h=>g0 h MO
 |cons k ks aZ=>exact λ h=>jq h λ e r h=>qt (a7 h) λ x g=>tB g λ y z p g=>Dj g λ b g=>MN (λ s Q du=>eq_of_beq g▸I9 (du _ _ (eq_of_beq g▸p4 _ _ _ _))) (aZ (aD h))
end
noncomputable def yu(c:cV)(nm:B (B C))(aK:C→a8)(z:C)(V:C→B D→dC→St→Prop)(aS:gc)(aj:B (Y aL))(env:aX)(xs:B bn)(Q:B D→St→Prop)(n:St):Prop:=
 ∃O,kU c nm aK z V O∧kI (jE c nm aK) O aS aj xs=true∧m6 c.P V O env Q n
theorem KY{aS:gc}{aj:B (Y aL)}{env:aX}{Q:B D→St→Prop}{n:St}:yu c nm aK z V aS aj env [] Q n→Q [] n
 | ⟨.nil,_,_,cI⟩=>cI
 | ⟨.cons _ _,_,aH,_⟩=>jv aH
theorem KX{aj:B (Y aL)}{env:aX}{ai:eg}{A:eB}{ab:au→a2→Prop}(hA:iE A z){e:bn}{r:B bn}:CV c nm aj env ai A ab (yu c nm aK z V ai.scope aj env) e r:=
 λ G n s m Q F I h=>h.elim λ O h=>by
  cases O with
  |nil=>exact jv h.2.1
  |cons x xs=>exact fa (h.1.1 _ _ _ _ _ _ _ _ _ _ _ (a7 h.2.1) F I hA h.2.2) (λ _ _ b=>b.imp λ a b=>b.imp λ bv b=>b.imp λ J b=>⟨⟨xs,h.1.2,aD h.2.1,b.1⟩,b.2⟩) λ _ _ y=>y
theorem Np{α:Type}{l:B α}(h:(!l.isEmpty)=true):l≠ []:=λ e=>by rw[e]at h;exact jv h
theorem VY{ks:B (B C)}(hs:kU c nm aK z V O):cv c nm aK z V (.m4 ks O):=by
 intro x aj env ai G n s m A ab Q ok F I hA q
 refine Hj ok λ mn f4 cg ok=>?_
 obtain⟨fd,rfl,D7,cI⟩:=aeW (c:=c) (ai:=ai) (A:=A) (ab:=ab) ks (a7 ok)
 have aH:ks.length=fd.length:=(cG st).symm.trans D7
 have o:=aD (aD ok)
 have cT:fd.length=f4.length:=aH.symm.trans (gi (a7 o))
 have bu:fd≠ []:=λ e=>Np (a7 (aD o)) (HN (aH.trans (an f' e)))
 have cX:fd.length≤15:=aH▸gi (a7 (aD (aD o)))
 have cm:ks.Nodup:=gi (aD (aD (aD o)))
 exact KI (knd:=strKind c.prog c.w) (f:=st) (AE:=.ds) (ea:=yu c nm aK z V ai.scope aj env) (λ _ _ _ _ cZ a b=>⟨rfl,cZ,a,b⟩) F I aH cT bu cX
  (tR.mpr (agn (λ h e=>h (yc e)) cm)) cI (λ _ _ _=>KX hA) (λ _ _ h=>KY h) ⟨O,hs,a7 (aD ok),q⟩
theorem VX{ks:B am}(hs:kU c nm aK z V O):cv c nm aK z V (.pa ks O):=by
 intro x aj env ai G n s m A ab Q ok F I hA q
 refine Hj ok λ mn f4 cg ok=>?_
 obtain⟨fd,rfl,D7,cI⟩:=YY (c:=c) (ai:=ai) (A:=A) (ab:=ab) ks (a7 ok)
 have aH:ks.length=fd.length:=(cG id).symm.trans D7
 have o:=aD (aD ok)
 have cT:fd.length=f4.length:=aH.symm.trans (gi (a7 o))
 have bu:fd≠ []:=λ e=>Np (a7 (aD o)) (HN (aH.trans (an f' e)))
 have cX:fd.length≤15:=aH▸gi (a7 (aD (aD o)))
 have cm:ks.Nodup:=gi (aD (aD (aD o)))
 exact KI (knd:=gs c.prog c.w) (f:=id) (AE:=.cq) (ea:=yu c nm aK z V ai.scope aj env) (λ _ _ _ _ cZ a b=>⟨rfl,cZ,a,b⟩) F I aH cT bu cX
  (by rw[Q6];exact cm) cI (λ _ _ _=>KX hA) (λ _ _ h=>KY h) ⟨O,hs,a7 (aD ok),q⟩
theorem Fn{o:a0}(I:Inv c nm G n s)(bz:Q (.ref n.length) (n++[o]))(be:∀G h ag,h.get? ag=some lx→gC c nm G h (ag,ag) o):
  Back c nm G s Q (.ref s.heap.objs.size) {s with heap:=s.heap.push {cls:=.type "dict",data:=.dict #[]}}:=by
 have ht:cu (λ _=>False) s.heap (s.heap.push lx):=cu.push _ _
 have cl:s.heap.get? s.heap.objs.size=none:=n1 λ _ _ e=>e
 refine⟨.ref n.length,G++[(s.heap.objs.size,s.heap.objs.size)],n++[o],bz,?_,I.alloc (t:=s.toks) ht (I.qm λ _ _ e=>e) (I.qm λ _ _ e=>e) cl cl (be _ _ _ (nK _ rfl)),.alloc (t:=s.toks) ht cl cl⟩
 exact⟨(s.heap.objs.size,s.heap.objs.size),by rw[←I.len];simp,rfl⟩
theorem Vm{h:dD}{ag:a8}(e:h.get? ag=some lx):h.DictOfH (Ar c.prog c.w) ag []:=
 ⟨_,#[],0,e,⟨rfl,rfl,rfl⟩,rfl,rfl,λ _ h=>(nomatch h),Cd⟩
theorem VV{k:HC}:cv c nm aK z V (.eP k):=by
 intro x aj env ai G n s m A ab Q ok F I hA q
 refine Hj ok λ a b cg ok=>g0 (a7 ok) (g0 (aD ok) (wpAny_Dict_empty ?_))
 cases k with
 |i=>exact Fn I q λ _ _ _ e=>⟨rfl,[],DB e,rfl⟩
 |s=>exact Fn I q λ _ _ _ e=>⟨rfl,[],DB e,rfl⟩
 |t=>exact Fn I q λ _ _ _ e=>⟨rfl,[],Vm e,rfl⟩
theorem VP(Z:hK c nm aK z V){a:ab}{f:C}(bO:cv c nm aK z V a):cv c nm aK z V (.at a f):=by
 intro x aj env ai G n s m A ab Q ok F I hA q
 refine tA ok λ y gW cg ok=>?_
 have e:gW=gK nm f:=gi (a7 ok)
 cases e
 exact S7 (zm (a7 (aD ok))) (fL (bO _ _ _ _ _ _ _ _ _ _ _ (aD (aD ok)) F I hA q) λ v cx bQ aa aJ q r ce bU=>fC q λ y e q=>je bU (JK Z.ok e r q ce))
theorem subB{bQ:cA}{aJ:a2}{A:eB}{ab:au→a2→Prop}{u:au}(S:Step G s bQ aJ)(h:wj (bc c.prog c.w) A v u (Back c nm bQ aJ Q) ab b'):wj (bc c.prog c.w) A v u (Back c nm G s Q) ab b':=
 let⟨T,id,ax,aH,cI⟩:=h;⟨T,id,ax,aH,je S cI⟩
theorem V2{a i:ab}(bO:cv c nm aK z V a)(ay:cv c nm aK z V i):cv c nm aK z V (.aq a i):=by
 intro x aj env ai G n s m A ab Q ok F I hA q
 refine tC ok λ y L p ok=>?_
 exact Bo (two bO ay (a7 ok) (aD ok) F I hA q λ v u cx ed dz ao b' q r ef c1 S=>fC q λ y e q=>subB S (ae0 e r ef q c1))
theorem afB(I:Inv c nm G n s)(h:n[k]? =some (.li xs))(x:bA c G s.heap (.ref k) v):s.TypeIs v "list":=by
 obtain⟨p,bM,rfl⟩:=x
 obtain⟨a3,_,items,d9,aw,hl,a4,hs⟩:=rq I bM h
 exact hl.typeIs
theorem PM{H:dD}{T:ws}(h:s.TypeIs v T)(k:∀b o,s.heap.get? b=some o→H.get? b=some o):({s with heap:=H}:a2).TypeIs v T:=by
 cases v with
 |ref a=>obtain⟨o,e,hc⟩:=h;exact⟨o,k _ _ e,hc⟩
 |_=>exact h
theorem Mf{G:cA}{h:dD}:∀{l:B am} {ar:B au},tL l ar→cs c G h (l.map .ii) ar
 | [],_,x=>by simp only[tL]at x;subst x;exact cs.nil
 |i::r,_,x=>by
  simp only[tL]at x
  obtain⟨t,G8,rfl,x⟩:=x
  exact cs.cons ⟨t,rfl⟩ (Mf x)
theorem Uv{a:a8}(az:BW c l a)(I:Inv c nm G n s):s.TypeIs (.ref a) "list":=by
 obtain⟨items,k,e,r⟩:=az
 exact⟨_,I.base _ _ e,rfl⟩
theorem Uu{A:eB}{ab:au→a2→Prop}{a:a8}{ay:am}{afd:iY}(az:BW c l a)(ec:0≤ay)(a3:l.length≤1000)(bz:Q (.ref n.length) (n++[.li ((l.take ay.toNat).map .ii)]))(I:Inv c nm G n s){aI:dD}{dQ:a8}
  (hs:aI.IsSliceOf dQ .none (.int ay afd) .none)(k:∀b o,s.heap.get? b=some o→aI.get? b=some o){t:C}:bg (bc c.prog c.w) A (t6 (.ref a) (.ref dQ)) (Back c nm G s Q) ab {s with heap:=aI,toks:=t}:=by
 obtain⟨items,d9,e,r⟩:=az
 have bw:cs c G s.heap (l.map .ii) items.toList:=Mf r
 have i2:items.size=l.length:=by
  have:=bw.length
  simpa using this
 refine Se (s:={s with heap:=aI,toks:=t}) (hl:=⟨_,k _ _ (I.base _ _ e),rfl,d9,rfl⟩) hs .none (.int _ _) .none (by simp) ?_ (by rw[lz];omega)
 have aB:sc items none (some ay) none=(sc items none (some ay) none).toList.toArray:=by simp
 rw[aB]
 refine AJ (H:=aI) I (cu.of_keep k) (by have:=N3 ec bw;rwa [←Q8]at this) (by rw[x1];simp[H1];omega) bz (n1 k)
theorem Dz{dz:cA}{A:eB}{ab:au→a2→Prop}{bf:B D}{rT vP ar:au}{lo ay ea:Y am}(S:Step G s dz b')(e:n[k]? =some (.li xs))(r:bA c dz b'.heap (.ref k) v)(lO:wh rT lo)(FZ:wh vP ay)(cp:wh ar ea)(ec:ea≠some 0)
  (bI:∀items:gS au,cs c dz b'.heap xs items.toList→cs c dz b'.heap bf (sc items lo ay ea).toList)(a3:bf.length≤xs.length)(bz:Q (.ref n.length) (n++[.li bf]))(I:Inv c nm dz n b'):
  wj (bc c.prog c.w) A v (.ref b'.heap.objs.size) (Back c nm G s Q) ab {b' with heap:=b'.heap.push {cls:=.type "slice",data:=.fields #[rT,vP,ar]}}:=
 have k:∀b o,b'.heap.get? b=some o→(b'.heap.push {cls:=.type "slice",data:=.fields #[rT,vP,ar]}).get? b=some o:=λ _ _ e=>lu _ e
 subB S ⟨"list",_,IA.lookup,PM (afB I e r) k,aed (t:=b'.toks) e r lO FZ cp ec bI a3 bz I (ID ..) k⟩
theorem We{a lo:ab}(bO:cv c nm aK z V a)(ay:cv c nm aK z V lo):cv c nm aK z V (.lj a lo):=by
 intro x aj env ai G n s m A ab Q ok F I hA q
 refine tC ok λ y L p ok=>Bo (fL (bO _ _ _ _ _ _ _ _ _ _ _ (a7 ok) F I hA q) λ v cx bQ aa aJ q r ce bU=>?_)
 refine Hk (aD ok) λ l h ui p ok=>rA (a7 ok) (rA (a7 (aD ok)) (qt (aD (aD ok)) λ ag' ok=>?_))
 refine I' (fL (show bg (bc c.prog c.w) A (evalPart (some _) ai) _ ab aJ from ay _ _ _ _ _ _ _ _ _ _ _ ok (F.step I bU) ce hA q) λ u ed dz ao b' q ef c1 dt=>eG (eG (fC q λ y e=>?_)))
 have r:=dt.f6 ce r
 revert r ef
 exact WL (ak:=λ cx ed y=>bA c dz b'.heap ed u→bA c dz b'.heap cx v→Q (.ref ao.length) (ao++[.li y])→_) e λ _ _ _ e ec ⟨_,ef⟩ r q=>ef▸Dz (bU.trans dt) e r (.int _ _) .none .none (by simp) (λ _ a4=>pick_from ec a4) (by simp) q c1
theorem Wf{a ay:ab}(bO:cv c nm aK z V a)(gM:cv c nm aK z V ay):cv c nm aK z V (.mF a ay):=by
 intro x aj env ai G n s m A ab Q ok F I hA q
 refine tC ok λ y L p ok=>Bo (fL (bO _ _ _ _ _ _ _ _ _ _ _ (a7 ok) F I hA q) λ v cx bQ aa aJ q r ce bU=>?_)
 refine Hk (aD ok) λ l h ui p ok=>rA (a7 ok) (rA (a7 (aD ok)) (qt (aD (aD ok)) λ h' ok=>?_))
 refine I' (eG (fL (show bg (bc c.prog c.w) A (evalPart (some _) ai) _ ab aJ from gM _ _ _ _ _ _ _ _ _ _ _ ok (F.step I bU) ce hA q) λ u ed dz ao b' q ef c1 dt=>eG (fC q λ y e=>?_)))
 have k:∀nn t b o,b'.heap.get? b=some o→(b'.heap.push {cls:=.type "slice",data:=.fields #[.none,.int nn t,.none]}).get? b=some o:=λ _ _ _ _ e=>lu _ e
 have r:=dt.f6 ce r
 revert r ef
 refine afL (ak:=λ cx ed y=>bA c dz b'.heap ed u→bA c dz b'.heap cx v→Q (s0 ao y).1 (s0 ao y).2→_) e ?_ ?_ ?_
 ·exact λ _ _ _ e ec ⟨_,ef⟩ r q=>ef▸Dz (bU.trans dt) e r .none (.int _ _) .none (by simp) (λ _ a4=>N3 ec a4) (by simp[H1];omega) q c1
 ·exact λ _ _ ec ax ⟨_,ef⟩ ⟨_,r⟩ q=>ef▸r▸subB (bU.trans dt) ⟨"str",_,RP.lookup,typeIs_str _ _ _,aeY (cB:=b'.toks) ec ax q c1 (ID ..) (k _ _)⟩
 ·exact λ _ _ ec ax ⟨_,ef⟩ ⟨_,r,az⟩ q=>ef▸r▸subB (bU.trans dt) ⟨"list",_,IA.lookup,PM (Uv az c1) (k _ _),Uu (t:=b'.toks) az ec ax q c1 (ID ..) (k _ _)⟩
theorem Wb{a:ab}(bO:cv c nm aK z V a):cv c nm aK z V (.rev a):=by
 intro x aj env ai G n s m A ab Q ok F I hA q
 refine tC ok λ y L p ok=>Bo (fL (bO _ _ _ _ _ _ _ _ _ _ _ (a7 ok) F I hA q) λ v cx bQ aa aJ q r ce bU=>?_)
 refine Hk (aD ok) λ l h ui p ok=>rA (a7 ok) (rA (a7 (aD ok)) (qt (aD (aD ok)) λ u ok=>Hm ok λ o w f3 ok=>?_))
 have s7:=aD ok
 revert s7
 refine jI (a7 ok) λ s7=>tB s7 λ w z p ok=>Dj ok λ i ok=>jI ok ?_
 refine I' (eG (eG ?_))
 show bg (bc c.prog c.w) A (eval _ ai) _ ab aJ
 refine R9 (I9 ?_)
 refine fL (Ns (i:=1) (Q:=λ b J=>b= .ii (-1)∧J=aa) (s:={aJ with toks:=aJ.toks+1}) (n:=aa) (G:=bQ) ⟨_,rfl⟩ ⟨rfl,rfl⟩ (ce.tok _)) λ u ed dz ao b' cO ef c1 dt=>?_
 obtain⟨rfl,rfl⟩:=cO
 obtain⟨t,rfl⟩:=ef
 have Jj:Step bQ aJ dz b':=⟨dt.ext,dt.ch⟩
 have r:=Jj.f6 ce r
 refine fC q λ y e=>?_
 revert r
 exact ZZ (ak:=λ cx y=>bA c dz b'.heap cx v→Q (.ref ao.length) (ao++[.li y.reverse])→_) e λ _ _ e r q=>Dz (bU.trans Jj) e r .none .none (.int _ _) (by simp) (λ _ a4=>acG a4) (by simp) q c1
end
end Mine
end
section
open PySem PySem.W PyProof.Rows
namespace Mine
variable{bE:fb}{A:eB}{env:eg}{cg:hd}{b6:B bn}{Q:au→a2→Prop}{s:a2}{first:B au}{O:d6}{k:C}{ai:eg}{L u:bn}
section
variable{c:cV}{nm:B (B C)}{aK:C→a8}{z:C}{V:C→B D→dC→St→Prop}
theorem afl{a:ab}(bO:cv c nm aK z V a):nQ c nm aK z V (.e a):=by
 intro x aj env ai G n s m A ab Q ok F I hA q
 exact afc (a7 ok) (fL (bO _ _ _ _ _ _ _ _ _ _ _ (aD ok) F I hA q) λ v cx bQ aa aJ q r ce bU=>fC q λ b e q=>BG bU (GK e r q ce))
theorem afm{t:T}(bD:nQ c nm aK z V t):nQ c nm aK z V (.g4 t):=by
 intro x aj env ai G n s m A ab Q ok F I hA q
 refine Hm ok λ o y p ok=>jI (a7 ok) ?_
 exact wpAny_isTrue_Not (qF (bD _ _ _ _ _ _ _ _ _ _ _ (aD ok) F I hA q) λ v bQ aa aJ q ce bU=>⟨bQ,aa,q,ce,bU⟩)
theorem afk(Z:hK c nm aK z V){op:jf}{a b:ab}(bO:cv c nm aK z V a)(az:cv c nm aK z V b):nQ c nm aK z V (.cmp op a b):=by
 intro x aj env ai G n s m A ab Q ok F I hA q
 refine P4 ok λ l os d3 p ok=>jp ok λ r ok=>jp ok λ o ok=>?_
 have bu:=aD ok
 revert bu
 refine jI (a7 ok) λ bu=>?_
 refine afa (by simpa using a7 bu) (two bO az (a7 (aD bu)) (aD (aD bu)) F I hA q λ v u cx ed dz ao b' q r ef c1 S=>fC q λ y e q=>?_)
 refine fL (Kr (Q:=λ hw J=>hw= .cj y∧Q y J) Z.ok hA.u e r ef ⟨rfl,q⟩ c1) λ w ek oH bW jt q ox h1 ip=>?_
 obtain⟨rfl,q⟩:=q
 cases ox
 exact Sk ⟨oH,bW,q,h1,S.trans ip⟩
theorem Pm{aj:B (Y aL)}{env:aX}{ai:eg}{A:eB}{ab:au→a2→Prop}(hA:iE A z):∀{bE:fb} {xs:B bn} {G:cA} {n:St} {s:a2} {m:aL→Y au} {Q:av→St→Prop},p5 c nm aK z V bE→
  s9 (jE c nm aK) bE ai.scope aj xs=true→c9 c aj G env ai s.heap m→Inv c nm G n s→rN c.P V bE env Q n→bg (bc c.prog c.w) A (allTrue .And xs ai) (kT c nm G s Q) ab s
 | .nil,_,G,n,_,_,_,_,ok,_,I,q=>g0 ok (wpAny_allTrue_And_nil ⟨G,n,q,I,.refl _ _⟩)
 | .cons _ _,_,_,_,_,_,_,hs,ok,F,I,q=>jq ok λ _ _ ok=>
   wpAny_allTrue_And_cons (qF (hs.1 _ _ _ _ _ _ _ _ _ _ _ (a7 ok) F I hA q) λ v bQ aa aJ q ce bU=>match v,q with
   |false,q=>⟨bQ,aa,q,ce,bU⟩
   |true,q=>BG bU (Pm hA hs.2 (aD ok) (F.step I bU) ce q))
theorem Pz{aj:B (Y aL)}{env:aX}{ai:eg}{A:eB}{ab:au→a2→Prop}(hA:iE A z):∀{bE:fb} {xs:B bn} {G:cA} {n:St} {s:a2} {m:aL→Y au} {Q:av→St→Prop},p5 c nm aK z V bE→
  s9 (jE c nm aK) bE ai.scope aj xs=true→c9 c aj G env ai s.heap m→Inv c nm G n s→Bv c.P V bE env Q n→bg (bc c.prog c.w) A (allTrue .Or xs ai) (kT c nm G s Q) ab s
 | .nil,_,G,n,_,_,_,_,ok,_,I,q=>g0 ok (wpAny_allTrue_Or_nil ⟨G,n,q,I,.refl _ _⟩)
 | .cons _ _,_,_,_,_,_,_,hs,ok,F,I,q=>jq ok λ _ _ ok=>
   wpAny_allTrue_Or_cons (qF (hs.1 _ _ _ _ _ _ _ _ _ _ _ (a7 ok) F I hA q) λ v bQ aa aJ q ce bU=>match v,q with
   |true,q=>⟨bQ,aa,q,ce,bU⟩
   |false,q=>BG bU (Pz hA hs.2 (aD ok) (F.step I bU) ce q))
theorem afj(hs:p5 c nm aK z V bE):nQ c nm aK z V (.and bE):=by
 intro x aj env ai G n s m A ab Q ok F I hA q
 refine BK ok λ o y p ok=>jI (a7 ok) ?_
 exact Sf (Pm hA hs (aD ok) F I q)
theorem afn(hs:p5 c nm aK z V bE):nQ c nm aK z V (.or bE):=by
 intro x aj env ai G n s m A ab Q ok F I hA q
 refine BK ok λ o y p ok=>jI (a7 ok) ?_
 exact Sf (Pz hA hs (aD ok) F I q)
theorem GF{aj:B (Y aL)}{env:aX}{ai:eg}{A:eB}{ab:au→a2→Prop}(hA:iE A z):∀{bE:fb} {xs:B bn} {G:cA} {n:St} {s:a2} {m:aL→Y au} {Q:av→St→Prop},p5 c nm aK z V bE→
  s9 (jE c nm aK) bE ai.scope aj xs=true→c9 c aj G env ai s.heap m→Inv c nm G n s→rN c.P V bE env Q n→
  bg (bc c.prog c.w) A (forIn xs true λ c r=>if r=true then do let ok←isTrue c ai (eval c ai);pure (kV ok)else pure (kV r)) (kT c nm G s Q) ab s
 | .nil,_,G,n,_,_,_,_,ok,_,I,q=>g0 ok (wpAny_tests_nil ⟨G,n,q,I,.refl _ _⟩)
 | .cons t lQ,xs,G,n,s,m,Q,hs,ok,F,I,q=>by
  refine jq ok λ y bf ok=>?_
  rw[HT]
  refine cK (cK (qF (hs.1 _ _ _ _ _ _ _ _ _ _ _ (a7 ok) F I hA q) λ v bQ aa aJ q ce bU=>eG ?_))
  cases v
  ·have skip:∀bR:B bn,(forIn bR false λ c r=>if r=true then do let ok←isTrue c ai (eval c ai);pure (kV ok)else pure (kV r):ik av)=pure false:=by
    intro bR
    induction bR with
    |nil=>rfl
    |cons L bR aZ=>rw[HT];exact aZ
   show bg _ _ (forIn bf false _) _ _ _
   rw[skip]
   exact eG ⟨bQ,aa,q,ce,bU⟩
  ·exact BG bU (GF hA hs.2 (aD ok) (F.step I bU) ce q)
theorem VU{b7 bb:ab}{xs:B C}{many:av}{eo:fb}(XG:cv c nm aK z V b7)(m9:cv c nm aK z V bb)(qh:p5 c nm aK z V eo):cv c nm aK z V (.comp b7 xs many bb eo):=by
 intro x aj env ai G n s m A ab Q ok F I hA q
 refine P7 ok λ e en bG cg ok=>jp ok λ g ok=>?_
 obtain⟨Br,hy,YO,uS⟩:=g
 have md:uS=0:=jk.mp (a7 ok)
 cases md
 have cT:=aD ok
 have bu:=aD (aD (aD cT))
 have cX:=aD (aD (aD bu))
 exact Vb (oz:=λ aF K n=>rN c.P V eo aF K n) (kx:=λ aF K n=>di c.P V b7 aF K n) hA.1 F I (Kt (a7 cT)) (a7 (aD cT)) (a7 (aD (aD cT))) (a7 bu) (Go (a7 (aD bu))) (m9 _ _ _ _ _ _ _ _ _ _ _ (a7 (aD (aD bu))) F I hA q) (λ fM aa h=>q5 h)
  (λ g6 aF G n s m K g8 F I h=>GF (ai:=compEnvC bG (gg ai.cells bG.names []) g6 ai) hA qh (a7 cX) F I h) (λ g6 aF G n s m K g8 F I h=>XG _ _ _ _ _ _ _ _ _ _ _ (aD cX) F I hA h) (λ x K n h=>q5 h)
theorem Dm{ab:au→a2→Prop}{f:au}(X:c.K.In c.h₀)(hk:yU c.K f=true)(hs:b6.all f2=true)
  (h:bg (bc c.prog c.w) A (sd (kX cg (j1 b6 env))) (λ ar aJ=>c.K.In aJ.heap∧bg (bc c.prog c.w) A (call f (first++ar)) Q ab aJ) ab s):bg (bc c.prog c.w) A (yX cg f first (kX cg (j1 b6 env)) []) Q ab s:=
 callWith_of (by rw[Bn hs];rfl) (keeps_K hk) (DH hs h)
theorem VS(Z:hK c nm aK z V){f:C}(hs:kU c nm aK z V O):cv c nm aK z V (.call f O):=by
 intro x aj env ai G n s m A ab Q ok F I hA q
 refine nw ok λ g xs f0 cg ok=>g0 (a7 ok) ?_
 have o:=aD (aD ok)
 refine mL (a7 (aD ok)) λ y p cT=>?_
 refine se (D3 Z.ok Z.gl F I (Le (a7 (aD cT))) (jK (a7 cT)).1 (jK (a7 cT)).2 ?_)
 exact Dm Z.ok.K (aD (aD cT)) (aD o) (vH (ur hA hs (a7 o) (aD o) F I q) λ ar as bQ aa aJ q r ce bU=>⟨ce.K Z.ok.K,Ja (Z.call A f as ar bQ aa aJ Q _ hA.a ce r q λ v a9 b=>b.after bU)⟩)
theorem V7(Z:hK c nm aK z V)(hs:kU c nm aK z V O):cv c nm aK z V (.new k O):=by
 intro x aj env ai G n s m A ab Q ok F I hA q
 refine nw ok λ g xs f0 cg ok=>g0 (a7 ok) ?_
 have o:=aD (aD ok)
 refine mL (a7 (aD ok)) λ y p cT=>fC q λ f cl q=>?_
 have i:=Z.more.i5 k f cl
 have ay:(c.P.i5 k).isSome=true:=by rw[cl];rfl
 refine se (D3 Z.ok Z.gl F I (Le (a7 (aD cT))) (jK (a7 cT)).1 (jK (a7 cT)).2 ?_)
 refine Dm Z.ok.K (aD (aD cT)) (aD o) (vH (ur hA hs (a7 o) (aD o) F I q) λ ar as bQ aa aJ q r ce bU=>⟨ce.K Z.ok.K,?_⟩)
 refine aaB (aK:=aK f) Z.ok ce ay i.1 i.2 λ nz g8 hf iq k2=>?_
 obtain⟨c1,dt⟩:=abQ (V:=k) ce ay
 have Xb:BS nz z:=⟨hf.trans hA.1,by have:=hA.2.1;omega,by have:=hA.2.2;omega⟩
 have Be:bA c (bQ++[(aJ.heap.objs.size+1,aJ.heap.objs.size)]) ((aJ.heap.push lx).push (nL (c.ca k) aJ.heap.objs.size)) (.ref aa.length) (.ref (aJ.heap.objs.size+1)):=
  ⟨(aJ.heap.objs.size+1,aJ.heap.objs.size),by rw[←ce.len];simp,rfl⟩
 exact Z.call nz f (.ref aa.length::as) (.ref (aJ.heap.objs.size+1)::ar) _ _ _ _ _ Xb c1 (cs.cons Be (dt.vO ce r)) q λ v a9 ⟨_,bv,J,⟨e,q⟩,hG,ey,fB⟩=>
  ⟨by subst e;exact hG,⟨_,bv,J,q,Be.keep fB.ext.1 (c1.nc fB.ch),ey,(bU.trans dt).trans fB⟩⟩
theorem V5(Z:hK c nm aK z V){o:ab}(be:cv c nm aK z V o)(hs:kU c nm aK z V O):cv c nm aK z V (.hj o k O):=by
 intro x aj env ai G n s m A ab Q ok F I hA q
 refine nw ok λ g xs f0 cg ok=>g0 (a7 ok) ?_
 have bu:=aD (aD (aD ok))
 refine tA (a7 bu) λ y gW ez cT=>?_
 have e:gW=gK nm k:=gi (a7 cT)
 cases e
 refine method_call (zm (a7 (aD cT))) (aD (aD bu)) (gi (a7 (aD (aD ok)))) (a7 (aD (aD cT))) (fL (be _ _ _ _ _ _ _ _ _ _ _ (aD (aD (aD cT))) F I hA q) λ v cx bQ aa aJ q r ce bU lO=>fC q λ f cl=>?_)
 revert r
 refine aaO (ak:=λ cx=>bA c bQ aJ.heap cx v→m6 c.P V O env (λ ar ao=>V f (cx::ar) Q ao) aa→_) cl λ nn ui aG e Ek cl r q=>?_
 have i:=Z.more.pv ui k f cl
 exact W1 Z.ok ce e Ek (gi (a7 (aD ok))) r i.1 i.2.1 (Dm Z.ok.K i.2.2 (aD (aD bu)) (vH (ur hA hs (a7 (aD bu)) (aD (aD bu)) (F.step I bU) ce q) λ ar as dz ao b' q d3 c1 dt=>⟨c1.K Z.ok.K,
  Ja (Z.call A f _ (v::ar) dz ao b' Q _ hA.a c1 (cs.cons (dt.f6 ce r) d3) q λ v a9 b=>b.after (bU.trans dt))⟩))
theorem s'{ab:au→a2→Prop}{Q:B au→a2→Prop}(a3:f2 L=true)(h:bg (bc c.prog c.w) A (eval L ai) (λ v aJ=>Q [v] aJ) ab s):
  bg (bc c.prog c.w) A (sd (kX cg (j1 [L] ai))) Q ab s:=
 Jd (fa h (λ _ _ q=>Sg q) λ _ _ y=>y) (vF a3)
theorem PG{ab:au→a2→Prop}{Q:B au→a2→Prop}(a3:f2 L=true)(dS:f2 u=true)
  (h:bg (bc c.prog c.w) A (eval L ai) (λ v aJ=>bg (bc c.prog c.w) A (eval u ai) (λ w b'=>Q [v,w] b') ab aJ) ab s):bg (bc c.prog c.w) A (sd (kX cg (j1 [L,u] ai))) Q ab s:=
 Jd (fa h (λ _ _ q=>s' dS q) λ _ _ y=>y) (vF a3)
theorem zr{ab:au→a2→Prop}{id:ws}(hs:b6.all f2=true)
  (h:bg (bc c.prog c.w) A (sd (kX cg (j1 b6 env))) (λ ar aJ=>bg (bc c.prog c.w) A (call (.builtin id) (first++ar)) Q ab aJ) ab s):bg (bc c.prog c.w) A (yX cg (.builtin id) first (kX cg (j1 b6 env)) []) Q ab s:=
 Calls.callWith_builtin (Bn hs) (DH hs h)
theorem zs{ab:au→a2→Prop}{T:ws}(hs:b6.all f2=true)
  (h:bg (bc c.prog c.w) A (sd (kX cg (j1 b6 env))) (λ ar aJ=>bg (bc c.prog c.w) A (call (.type T) (first++ar)) Q ab aJ) ab s):bg (bc c.prog c.w) A (yX cg (.type T) first (kX cg (j1 b6 env)) []) Q ab s:=
 PySem.callWith_type (Bn hs) (DH hs h)
theorem all1(h:f2 L=true): [L].all f2=true:=by simp[h]
theorem all2(h:f2 L=true)(H:f2 u=true): [L,u].all f2=true:=by simp[h,H]
theorem V3(Z:hK c nm aK z V){a:ab}(bO:cv c nm aK z V a):cv c nm aK z V (.len a):=by
 intro x aj env ai G n s m A ab Q ok F I hA q
 refine nw ok λ g xs f0 cg ok=>g0 (a7 (aD ok)) (jp (aD (aD ok)) λ L o=>ud (a7 ok) λ p g1 g2=>?_)
 refine se (uf Z.ok Z.gl F I (uz g2) Uw (by decide) (jK g1).1 (jK g1).2 ?_)
 refine zr (all1 (aD o)) (s' (aD o) (fL (bO _ _ _ _ _ _ _ _ _ _ _ (a7 o) F I hA q) λ v cx bQ aa aJ q r ce bU=>fC q λ y e=>?_))
 exact λ q=>je bU (ZT e r q ce)
theorem Wk(Z:hK c nm aK z V){a:ab}(bO:cv c nm aK z V a):cv c nm aK z V (.jb a):=by
 intro x aj env ai G n s m A ab Q ok F I hA q
 refine nw ok λ g xs f0 cg ok=>g0 (a7 (aD ok)) (jp (aD (aD ok)) λ L o=>ud (a7 ok) λ p g1 g2=>?_)
 refine se (uf Z.ok Z.gl F I (uz g2) Uz (by decide) (jK g1).1 (jK g1).2 ?_)
 refine zs (all1 (aD o)) (s' (aD o) (fL (bO _ _ _ _ _ _ _ _ _ _ _ (a7 o) F I hA q) λ v cx bQ aa aJ q r ce bU=>fC q λ y e=>?_))
 revert r
 exact afp (ak:=λ cx y=>bA c bQ aJ.heap cx v→Q y aa→_) e (λ _ _ e r q=>je bU (afq e r q ce)) λ _ r q=>je bU (afr r q ce)
theorem Wg(Z:hK c nm aK z V){a:ab}(bO:cv c nm aK z V a):cv c nm aK z V (.sorted a):=by
 intro x aj env ai G n s m A ab Q ok F I hA q
 refine nw ok λ g xs f0 cg ok=>g0 (a7 (aD ok)) (jp (aD (aD ok)) λ L o=>ud (a7 ok) λ p g1 g2=>?_)
 refine se (uf Z.ok Z.gl F I (uz g2) Ux (by decide) (jK g1).1 (jK g1).2 ?_)
 refine zr (all1 (aD o)) (s' (aD o) (fL (bO _ _ _ _ _ _ _ _ _ _ _ (a7 o) F I hA q) λ v cx bQ aa aJ q r ce bU=>fC q λ y e=>?_))
 revert r
 exact aee (ak:=λ cx y=>bA c bQ aJ.heap cx v→Q (.ref aa.length) (aa++[.li y])→_) e λ _ _ _ e d' cO bC j8 r q=>je bU (ael e d' cO bC (by rw[x1];omega) r q ce)
theorem Wi(Z:hK c nm aK z V){a:ab}(bO:cv c nm aK z V a):cv c nm aK z V (.strOf a):=by
 intro x aj env ai G n s m A ab Q ok F I hA q
 refine nw ok λ g xs f0 cg ok=>g0 (a7 (aD ok)) (jp (aD (aD ok)) λ L o=>ud (a7 ok) λ p g1 g2=>?_)
 refine se (uf Z.ok Z.gl F I (uz g2) Uy (by decide) (jK g1).1 (jK g1).2 ?_)
 refine zs (all1 (aD o)) (s' (aD o) (fL (bO _ _ _ _ _ _ _ _ _ _ _ (a7 o) F I hA q) λ v cx bQ aa aJ q r ce bU=>fC q λ y e=>?_))
 revert r
 exact aeV (ak:=λ cx y=>bA c bQ aJ.heap cx v→Q y aa→_) e λ _ _ e r q=>je bU (aeX e r q ce)
theorem Wc(Z:hK c nm aK z V){a:ab}(bO:cv c nm aK z V a):cv c nm aK z V (.gQ a):=by
 intro x aj env ai G n s m A ab Q ok F I hA q
 refine nw ok λ g xs f0 cg ok=>g0 (a7 (aD ok)) (jp (aD (aD ok)) λ L o=>ud (a7 ok) λ p g1 g2=>?_)
 refine se (uf Z.ok Z.gl F I (uz g2) J0 (by decide) (jK g1).1 (jK g1).2 ?_)
 refine zs (all1 (aD o)) (s' (aD o) (fL (bO _ _ _ _ _ _ _ _ _ _ _ (a7 o) F I hA q) λ v cx bQ aa aJ q r ce bU=>fC q λ y e=>?_))
 revert r
 exact adn (ak:=λ cx y=>bA c bQ aJ.heap cx v→Q y aa→_) e λ _ r q=>je bU (adp r q ce)
theorem Wd(Z:hK c nm aK z V){a b:ab}(bO:cv c nm aK z V a)(az:cv c nm aK z V b):cv c nm aK z V (.pF a b):=by
 intro x aj env ai G n s m A ab Q ok F I hA q
 refine nw ok λ g xs f0 cg ok=>g0 (a7 (aD ok)) (jq (aD (aD ok)) λ L r o=>jp o λ u o=>ud (a7 ok) λ p g1 g2=>?_)
 refine se (uf Z.ok Z.gl F I (uz g2) J0 (by decide) (jK g1).1 (jK g1).2 ?_)
 refine zs (all2 (aD (a7 o)) (aD (aD o))) (PG (aD (a7 o)) (aD (aD o)) (two bO az (a7 (a7 o)) (a7 (aD o)) F I hA q λ v u cx ed dz ao b' q r ef c1 S=>fC q λ y e=>?_))
 revert r ef
 exact adq (ak:=λ cx ed y=>bA c dz b'.heap cx v→bA c dz b'.heap ed u→Q y ao→_) e λ _ _ r ef q=>je S (adr r ef q c1)
theorem VO{o a:ab}(be:cv c nm aK z V o)(bO:cv c nm aK z V a):cv c nm aK z V (.append o a):=by
 intro x aj env ai G n s m A ab Q ok F I hA q
 refine nw ok λ g xs f0 cg ok=>g0 (a7 ok) (jp (aD (aD ok)) λ L lf=>tA (a7 (aD ok)) λ y gW ez cT=>?_)
 have e:gW="append":=gi (a7 cT)
 cases e
 refine method_call (zm (a7 (aD cT))) (all1 (aD lf)) (show 1<30 by decide) (a7 (aD (aD cT))) (fL (be _ _ _ _ _ _ _ _ _ _ _ (aD (aD (aD cT))) F I hA q) λ v cx bQ aa aJ q r ce bU lO=>?_)
 have cO:=q.2
 revert r cO
 refine Y5 (ak:=λ cx=>bA c bQ aJ.heap cx v→di c.P V a env (λ yn ao=>et (l8 ao cx yn) λ bW=>Q .nn bW) aa→_) q.1 λ k xs e r q=>?_
 refine WX ce e r (zr (all1 (aD lf)) (s' (aD lf) (fL (bO _ _ _ _ _ _ _ _ _ _ _ (a7 lf) (F.step I bU) ce hA q) λ u ed dz ao b' q ef c1 dt=>fC q λ y e=>?_)))
 exact S1 (ak:=λ y=>Q .nn y→_) e λ _ e h q=>je (bU.trans dt) (S2 e h (dt.f6 ce r) ef q c1)
theorem VW(Z:hK c nm aK z V){o a d:ab}(be:cv c nm aK z V o)(bO:cv c nm aK z V a)(a1:cv c nm aK z V d):cv c nm aK z V (.m3 o a d):=by
 intro x aj env ai G n s m A ab Q ok F I hA q
 refine nw ok λ g xs f0 cg ok=>g0 (a7 ok) (jq (aD (aD ok)) λ L r lf=>jp lf λ u lf=>tA (a7 (aD ok)) λ y gW ez cT=>?_)
 have e:gW="get":=gi (a7 cT)
 cases e
 refine method_call (zm (a7 (aD cT))) (all2 (aD (a7 lf)) (aD (aD lf))) (show 2<30 by decide) (a7 (aD (aD cT))) (fL (be _ _ _ _ _ _ _ _ _ _ _ (aD (aD (aD cT))) F I hA q) λ v cx bQ aa aJ q r ce bU lO=>?_)
 exact WZ ce q.1 r (zr (all2 (aD (a7 lf)) (aD (aD lf))) (PG (aD (a7 lf)) (aD (aD lf)) (two bO a1 (a7 (a7 lf)) (a7 (aD lf)) (F.step I bU) ce hA q.2 λ u w ed ek dz ao b' q ef ox c1 S=>fC q λ y e q=>
  je (bU.trans S) (WW Z.ok hA.u e (S.f6 ce r) ef ox q c1))))
mutual
theorem dY(Z:hK c nm aK z V):∀e:ab,cv c nm aK z V e
 | .nn=>V8
 | .cj _=>VR
 | .ii _=>V0
 | .ss _=>Wh
 | .v _=>Wl
 | .gl _ _=>VZ Z
 | .bin _ a b=>VQ (dY Z a) (dY Z b)
 | .qA a b=>Wa (dY Z a) (dY Z b)
 | .pE a b=>V' (dY Z a) (dY Z b)
 | .neg a=>V6 (dY Z a)
 | .and O=>VN (oY Z O)
 | .or O=>V9 (oY Z O)
 | .cmp _ a b=>VT Z (dY Z a) (dY Z b)
 | .ite t a b=>V1 (ww Z t) (dY Z a) (dY Z b)
 | .tup O=>Wj (oY Z O)
 | .lst O=>V4 (oY Z O)
 | .m4 _ O=>VY (oY Z O)
 | .pa _ O=>VX (oY Z O)
 | .eP _=>VV
 | .at a _=>VP Z (dY Z a)
 | .aq a i=>V2 (dY Z a) (dY Z i)
 | .lj a i=>We (dY Z a) (dY Z i)
 | .mF a i=>Wf (dY Z a) (dY Z i)
 | .rev a=>Wb (dY Z a)
 | .comp a _ _ i bE=>VU (dY Z a) (dY Z i) (wx Z bE)
 | .call _ O=>VS Z (oY Z O)
 | .new _ O=>V7 Z (oY Z O)
 | .hj o _ O=>V5 Z (dY Z o) (oY Z O)
 | .len a=>V3 Z (dY Z a)
 | .jb a=>Wk Z (dY Z a)
 | .sorted a=>Wg Z (dY Z a)
 | .strOf a=>Wi Z (dY Z a)
 | .gQ a=>Wc Z (dY Z a)
 | .pF a b=>Wd Z (dY Z a) (dY Z b)
 | .append o a=>VO (dY Z o) (dY Z a)
 | .m3 o a d=>VW Z (dY Z o) (dY Z a) (dY Z d)
 | .bad=>λ _ _ _ _ _ _ _ _ _ _ _ _ _ _ _ q=>q.elim
theorem oY(Z:hK c nm aK z V):∀O:d6,kU c nm aK z V O
 | .nil=>trivial
 | .cons e r=>⟨dY Z e,oY Z r⟩
theorem ww(Z:hK c nm aK z V):∀t:T,nQ c nm aK z V t
 | .e a=>afl (dY Z a)
 | .g4 t=>afm (ww Z t)
 | .and bE=>afj (wx Z bE)
 | .or bE=>afn (wx Z bE)
 | .cmp _ a b=>afk Z (dY Z a) (dY Z b)
theorem wx(Z:hK c nm aK z V):∀bE:fb,p5 c nm aK z V bE
 | .nil=>trivial
 | .cons t r=>⟨ww Z t,wx Z r⟩
end
end
end Mine
end
section
open PySem PySem.W PyProof.Rows
namespace Mine
variable{aj:B (Y aL)}{env:aX}{ai:eg}{G bQ:cA}{s aJ:a2}{m:aL→Y au}{A:eB}{cb:iV}{cF:dC}{n:St}{i:C}{a:D}{v:au}{f:C}{op:iS}
section
variable{c:cV}{nm:B (B C)}{aK:C→a8}{z:C}{V:C→B D→dC→St→Prop}
noncomputable def k1(c:cV)(nm:B (B C))(aK:C→a8)(z:C)(V:C→B D→dC→St→Prop)(t:S):Prop:=
 ∀(x:ft) (aj:B (Y aL)) (env:aX) (ai:eg) (G:cA) (n:St) (s:a2) (m:aL→Y au) (A:eB) (ab:au→a2→Prop) (cb:iV) (cF:dC),
  NT (jE c nm aK) t ai.scope aj x=true→c9 c aj G env ai s.heap m→Inv c nm G n s→iE A z→GB c.P V t env cb cF n→bg (bc c.prog c.w) A (exec x ai) (mY c nm aj ai G s cb cF) ab s
noncomputable def qZ(c:cV)(nm:B (B C))(aK:C→a8)(z:C)(V:C→B D→dC→St→Prop)(t:bk):Prop:=
 ∀(x:B ft) (aj:B (Y aL)) (env:aX) (ai:eg) (G:cA) (n:St) (s:a2) (m:aL→Y au) (A:eB) (ab:au→a2→Prop) (cb:iV) (cF:dC),
  px (jE c nm aK) t ai.scope aj x=true→c9 c aj G env ai s.heap m→Inv c nm G n s→iE A z→nu c.P V t env cb cF n→bg (bc c.prog c.w) A (execs x ai) (mY c nm aj ai G s cb cF) ab s
theorem c9.xs(F:c9 c aj G env ai s.heap m)(S:Step G s bQ aJ):fi (e2 ai) G s bQ aJ:=
 .FI S λ b o=>⟨F.foot b o,let⟨x,e,_⟩:=e2.old F o;⟨x,e⟩⟩
theorem wpS{b':a2}{ab:au→a2→Prop}{t:ik Flow}(S:fi (e2 ai) G s bQ aJ)(h:bg (bc c.prog c.w) A t (mY c nm aj ai bQ aJ cb cF) ab b'):
  bg (bc c.prog c.w) A t (mY c nm aj ai G s cb cF) ab b':=fa h (λ _ _ b=>b.after S) λ _ _ y=>y
theorem Bt{ab:au→a2→Prop}{W:St→Prop}{t:ik p6}{X:p6→a2→Prop}(h:bg (bc c.prog c.w) A t (vX c nm G s W) ab s)
  (k:∀bQ aa aJ,W aa→Inv c nm bQ aa aJ→Step G s bQ aJ→X () aJ):bg (bc c.prog c.w) A t X ab s:=
 fa h (λ _ aJ ⟨bQ,aa,q,I,S⟩=>k bQ aa aJ q I S) λ _ _ y=>y
theorem Pd{fV:cA}{fm:a2}{ab:au→a2→Prop}{x:aL}(S:fi (e2 ai) fV fm G s)(F:c9 c aj G env ai s.heap m)(I:Inv c nm G n s)
  (aA:(aj:B (Y aL))[i]? =some (some x))(n9:tl ai.scope x=true)(r:bA c G s.heap a v)(q:cb (iP env i a) n):bg (bc c.prog c.w) A (storeName ai x v) (λ _=>mY c nm aj ai fV fm cb cF .next) ab s:=
 Gx F I aA (Gw n9 F.has) r λ _ _ c0 c2 _ g9 ey=>⟨_,_,_,c0,q,g9,ey,S.trans (.ni c2 F.foot)⟩
theorem N4{e:ab}(b3:cv c nm aK z V e){y:aL}{vo cg:hd}{v:bn}{ab:au→a2→Prop}(cT:u' aj i y=true)(bu:tl ai.scope y=true)
  (cX:dU (jE c nm aK) e ai.scope aj v=true)(F:c9 c aj G env ai s.heap m)(I:Inv c nm G n s)(hA:iE A z)(q:di c.P V e env (λ v aa=>cb (iP env i v) aa) n)(hs:y1 v (some (.Name y vo)) cg.line ai=pure false):bg (bc c.prog c.w) A (exec (.Assign [.Name y vo] v cg) ai) (mY c nm aj ai G s cb cF) ab s:=
 wpAny_Assign_Name (fL (b3 _ _ _ _ _ _ _ _ _ _ _ cX F I hA q) λ _ _ _ _ _ q r ce bU=>Pd (F.xs bU) (F.step I bU) ce (va cT) bu r q) hs
theorem aeA{e:ab}(b3:cv c nm aK z V e)(hc:∀b7 xs many bb eo,e= .comp b7 xs many bb eo→cv c nm aK z V b7∧cv c nm aK z V bb∧p5 c nm aK z V eo):k1 c nm aK z V (.asg i e):=by
 intro x aj env ai G n s m A ab cb cF ok F I hA q
 refine A7 ok λ bE v cg ok=>jp (a7 ok) λ t o=>mL o λ y vo o=>?_
 refine AO (a7 (aD ok)) (λ YH=>?_) λ aa8=>N4 b3 (a7 o) (aD o) (aD (aD ok)) F I hA q (GA aa8)
 have cX:=aD (aD ok)
 revert cX q b3 hc
 refine Y4 YH λ VC xs many bb eo b3 hc q cX=>?_
 obtain⟨cz,cD,dn⟩:=hc _ _ _ _ _ rfl
 have hU:=cX
 revert hU
 refine P7 cX λ e en bG p ok hU=>?_
 have sN:y1 (.ListComp e en bG p) (some (.Name y vo)) cg.line ai=pure (ai.blockKind== .function&&ai.kindOf y==some .local&&vo.line==(RI e en bG p).pos.line&& !(bG.names.any λ(z,k)=>z==y&&(k== .local||k== .cell))):=rfl
 cases az:(ai.blockKind== .function&&ai.kindOf y==some .local&&vo.line==(RI e en bG p).pos.line&& !(bG.names.any λ(z,k)=>z==y&&(k== .local||k== .cell)))with
 |false=>exact N4 b3 (a7 o) (aD o) hU F I hA q (az▸sN)
 |true=>
  rw[az]at sN
  clear az hU
  revert sN
  refine jp ok λ g ok sN=>?_
  obtain⟨Br,hy,YO,uS⟩:=g
  have md:uS=0:=jk.mp (a7 ok)
  cases md
  have cT:=aD ok
  have bu:=aD (aD (aD cT))
  have cX:=aD (aD (aD bu))
  exact U8 (oz:=λ aF K n=>rN c.P V eo aF K n) (kx:=λ aF K n=>di c.P V VC aF K n) sN (va (a7 o)) (aD o) hA.1 F I (Kt (a7 cT)) (a7 (aD cT)) (a7 (aD (aD cT))) (a7 bu) (Go (a7 (aD bu))) (cD _ _ _ _ _ _ _ _ _ _ _ (a7 (aD (aD bu))) F I hA q) (λ fM aa h=>q5 h)
   (λ g6 aF G n s m K g8 F I h=>GF (ai:=compEnvC bG (gg ai.cells bG.names []) g6 ai) hA dn (a7 cX) F I h) (λ g6 aF G n s m K g8 F I h=>cz _ _ _ _ _ _ _ _ _ _ _ (aD cX) F I hA h) (λ x K n h=>q5 h)
theorem aeD{xs:B C}{e:ab}(b3:cv c nm aK z V e):k1 c nm aK z V (.o1 xs e):=by
 intro x aj env ai G n s m A ab cb cF ok F I hA q
 refine A7 ok λ bE v cg ok=>jp (a7 ok) λ t o=>?_
 have cT:=aD o
 revert cT
 refine Hl (a7 o) λ O k p _ cT=>?_
 refine Assign_Tuple (fL (b3 _ _ _ _ _ _ _ _ _ _ _ (aD (aD (aD ok))) F I hA q) λ u cx bQ aa aJ q r ce bU=>fC q λ aF az q=>?_) (show y1 v (some (.Tuple O k p)) cg.line ai=pure false from GA (a7 (aD ok))) (by have:=a7 (aD (aD ok));revert this;cases v<;>first|exact λ _=>rfl|exact λ h=>jv h)
 have pN:=F.step I bU
 exact C7 hA.1 pN ce cT az r λ _ _ c0 c2 _ g9 ey=>⟨_,_,_,c0,q,g9,ey,(F.xs bU).trans (.ni c2 pN.foot)⟩
theorem aeB(Z:hK c nm aK z V){o e:ab}(be:cv c nm aK z V o)(b3:cv c nm aK z V e):k1 c nm aK z V (.cc o f e):=by
 intro x aj env ai G n s m A ab cb cF ok F I hA q
 refine A7 ok λ bE v cg ok=>jp (a7 ok) λ t o=>tA o λ y gW p o=>?_
 have nY:gW=gK nm f:=gi (a7 o)
 cases nY
 refine plainObj_wpAny_Assign_Attribute (two b3 be (aD ok) (aD o) F I hA q λ u w cx ed dz ao b' q r ef c1 S=>fC q λ J bC q=>?_) (by cases v<;>rfl)
 exact Bt (OV (Q:=λ tH=>tH=J) Z.ok bC ef r rfl c1) λ oH bW jt j8 h1 ip=>⟨_,_,_,m,j8▸q,F.step I (S.trans ip),h1,F.xs (S.trans ip)⟩
theorem aeC{o i e:ab}(be:cv c nm aK z V o)(ay:cv c nm aK z V i)(b3:cv c nm aK z V e):k1 c nm aK z V (.gJ o i e):=by
 intro x aj env ai G n s m A ab cb cF ok F I hA q
 refine A7 ok λ bE v cg ok=>jp (a7 ok) λ t o=>tC o λ y L p o=>?_
 refine wpAny_Assign_Subscript (fL (b3 _ _ _ _ _ _ _ _ _ _ _ (aD ok) F I hA q) λ u cx bQ aa aJ q r ce bU=>?_) (by cases v<;>rfl)
 refine two be ay (a7 o) (aD o) (F.step I bU) ce hA q λ w vQ ed ek oH bW jt q ef ox h1 S=>fC q λ J bC q=>?_
 revert ef
 refine ad1 (ak:=λ ed=>bA c oH jt.heap ed w→_) bC λ nn bC ef=>?_
 exact Bt (OU (Q:=λ tH=>tH=J) hA.u bC ef ox (S.f6 ce r) rfl h1) λ Hr eO tm xW pR lA=>have S:=(bU.trans S).trans lA;⟨_,_,_,m,xW▸q,F.step I S,pR,F.xs S⟩
theorem EF{b r:D}{u:au}{Q:dC}{ab:au→a2→Prop}(h:kD op a b=some r)(x:bA c G s.heap a v)(y:bA c G s.heap b u)(bz:Q r n)(I:Inv c nm G n s):
  bg (bc c.prog c.w) A (inplaceOp (ta op) v u) (Back c nm G s Q) ab s:=
 Y3 h x y bz I
theorem vI{ab:au→a2→Prop}{t:ik au}{X:au→a2→Prop}(h:bg (bc c.prog c.w) A t (Back c nm G s λ aY J=>aY=a∧J=n) ab s)
  (k:∀v bQ aJ,bA c bQ aJ.heap a v→Inv c nm bQ n aJ→Step G s bQ aJ→X v aJ):bg (bc c.prog c.w) A t X ab s:=
 fL h λ v _ bQ _ aJ q r I S=>by obtain⟨rfl,rfl⟩:=q;exact k v bQ aJ r I S
theorem aeE{e:ab}(b3:cv c nm aK z V e):k1 c nm aK z V (.aug i op e):=by
 intro x aj env ai G n s m A ab cb cF ok F I hA q
 refine Ge ok λ t o v cg ok=>jI (a7 ok) (mL (a7 (aD ok)) λ y p o=>fC q λ a bO q=>?_)
 refine wpAny_AugAssign_Name (vI (M4 F I (va (a7 o)) (aD (aD o)) bO ⟨rfl,rfl⟩) λ u bQ aJ r ce bU=>?_)
 refine fL (b3 _ _ _ _ _ _ _ _ _ _ _ (aD (aD ok)) (F.step I bU) ce hA q) λ w ed dz ao b' q ef c1 dt=>fC q λ b bC q=>?_
 exact vI (EF bC (dt.f6 ce r) ef ⟨rfl,rfl⟩ c1) λ vQ oH jt ox h1 ip=>have S:=(bU.trans dt).trans ip;Pd (F.xs S) (F.step I S) h1 (va (a7 o)) (a7 (aD o)) ox q
theorem aeF(Z:hK c nm aK z V){o e:ab}(be:cv c nm aK z V o)(b3:cv c nm aK z V e):k1 c nm aK z V (.o3 o f op e):=by
 intro x aj env ai G n s m A ab cb cF ok F I hA q
 refine Ge ok λ t o v cg ok=>jI (a7 ok) (tA (a7 (aD ok)) λ y gW p o=>?_)
 have nY:gW=gK nm f:=gi (a7 o)
 cases nY
 refine wpAny_AugAssign_AttributeAny (fL (be _ _ _ _ _ _ _ _ _ _ _ (aD o) F I hA q) λ u cx bQ aa aJ q r ce bU=>fC q λ a bO q=>?_)
 refine vI (JK Z.ok bO r ⟨rfl,rfl⟩ ce) λ w dz b' ef c1 dt=>?_
 refine fL (b3 _ _ _ _ _ _ _ _ _ _ _ (aD (aD ok)) ((F.step I bU).step ce dt) c1 hA q) λ vQ ek oH bW jt q ox h1 ip=>fC q λ b bC q=>?_
 refine vI (EF bC (ip.f6 c1 ef) ox ⟨rfl,rfl⟩ h1) λ ahr Hr tm Gc pR lA=>fC q λ J fH q=>?_
 exact Bt (OV (Q:=λ tH=>tH=J) Z.ok fH (lA.f6 h1 (ip.f6 c1 (dt.f6 ce r))) Gc rfl pR) λ agl jW yf jS B3 q0=>have S:=(((bU.trans dt).trans ip).trans lA).trans q0;⟨_,_,_,m,jS▸q,F.step I S,B3,F.xs S⟩
theorem aeG{o i e:ab}(be:cv c nm aK z V o)(ay:cv c nm aK z V i)(b3:cv c nm aK z V e):k1 c nm aK z V (.o4 o i op e):=by
 intro x aj env ai G n s m A ab cb cF ok F I hA q
 refine Ge ok λ t o v cg ok=>jI (a7 ok) (tC (a7 (aD ok)) λ y L p o=>?_)
 refine wpAny_AugAssign_SubscriptAny (two be ay (a7 (aD o)) (aD (aD o)) F I hA q λ u w cx ed dz ao b' q r ef c1 dt=>fC q λ a bO=>?_) (by intro _ _ _;have:=a7 o;revert this;cases L<;>first|exact λ _=>rfl|exact λ h=>jv h)
 revert r
 refine ade (ak:=λ cx=>bA c dz b'.heap cx u→di c.P V e env (λ v bW=>et (kD op a v) λ r=>et (j' bW cx ed r) λ eO=>cb env eO) ao→_) bO λ nn bO r q=>?_
 refine vI (L5 bO r ef ⟨rfl,rfl⟩ c1) λ ig oH jt ox h1 ip=>?_
 refine fL (b3 _ _ _ _ _ _ _ _ _ _ _ (aD (aD ok)) ((F.step I dt).step c1 ip) h1 hA q) λ tv kq Hr eO tm q Gc pR lA=>fC q λ b bC q=>?_
 refine vI (EF bC (lA.f6 h1 ox) Gc ⟨rfl,rfl⟩ pR) λ tw agl yf adG B3 q0=>fC q λ J j4 q=>?_
 exact Bt (OU (Q:=λ tH=>tH=J) hA.u j4 (q0.f6 pR (lA.f6 h1 (ip.f6 c1 r))) (q0.f6 pR (lA.f6 h1 (ip.f6 c1 ef))) adG rfl B3) λ aht qK ahl td QP Ss=>have S:=((dt.trans ip).trans lA).trans (q0.trans Ss);⟨_,_,_,m,td▸q,F.step I S,QP,F.xs S⟩
theorem aeH{e:ab}(b3:cv c nm aK z V e):k1 c nm aK z V (.ex e):=by
 intro x aj env ai G n s m A ab cb cF ok F I hA q
 refine adJ ok λ v p ok=>?_
 refine wpAny_Expr_any (fL (b3 _ _ _ _ _ _ _ _ _ _ _ (aD ok) F I hA q) λ u cx bQ aa aJ q r ce bU=>⟨_,_,_,m,q,F.step I bU,ce,F.xs bU⟩) ?_ (GA (a7 ok))
 unfold interactive
 rw[F.kind];rfl
theorem aeJ{e:ab}(b3:cv c nm aK z V e):k1 c nm aK z V (.ret e):=by
 intro x aj env ai G n s m A ab cb cF ok F I hA q
 exact OI ok λ v p ok=>qt ok λ v ok=>wpAny_Return_some (fL (b3 _ _ _ _ _ _ _ _ _ _ _ ok F I hA q) λ u cx bQ aa aJ q r ce bU=>⟨_,_,_,q,r,ce,F.xs bU⟩)
theorem aeK:k1 c nm aK z V .mD:=by
 intro x aj env ai G n s m A ab cb cF ok F I hA q
 exact OI ok λ v p ok=>rA ok (wpAny_Return_none ⟨.nn,_,_,q,rfl,I,.refl _ F.foot⟩)
theorem aeL{t:T}{a b:bk}(bD:nQ c nm aK z V t)(bO:qZ c nm aK z V a)(az:qZ c nm aK z V b):k1 c nm aK z V (.b4 t a b):=by
 intro x aj env ai G n s m A ab cb cF ok F I hA q
 refine adL ok λ u p r cg ok=>wpAny_If (qF (bD _ _ _ _ _ _ _ _ _ _ _ (a7 ok) F I hA q) λ v bQ aa aJ q ce bU=>?_)
 cases v
 ·exact wpS (F.xs bU) (az _ _ _ _ _ _ _ _ _ _ _ _ (aD (aD ok)) (F.step I bU) ce hA q)
 ·exact wpS (F.xs bU) (bO _ _ _ _ _ _ _ _ _ _ _ _ (a7 (aD ok)) (F.step I bU) ce hA q)
theorem aet:qZ c nm aK z V .nil:=by
 intro x aj env ai G n s m A ab cb cF ok F I hA q
 exact g0 ok (Jb ⟨_,_,_,m,q,F,I,.refl _ F.foot⟩)
theorem aeq{t:S}{r:bk}(bD:k1 c nm aK z V t)(a4:qZ c nm aK z V r):qZ c nm aK z V (.cons t r):=by
 intro x aj env ai G n s m A ab cb cF ok F I hA q
 refine jq ok λ y bf ok=>wpAny_execs_cons (fa (bD _ _ _ _ _ _ _ _ _ _ _ _ (a7 ok) F I hA q) (λ f a9 az=>?_) λ _ _ y=>y)
 cases f with
 |next=>
  obtain⟨aF,bv,J,c0,q,g9,ey,fB⟩:=az
  exact wpS fB (a4 _ _ _ _ _ _ _ _ _ _ _ _ (aD ok) g9 ey hA q)
 |ret v=>exact az
 |_=>exact az.elim
end
end Mine
end
section
open PySem PySem.W PyProof.Rows
namespace Mine
variable{b:bk}
section
variable{c:cV}{nm:B (B C)}{aK:C→a8}{z:C}{V:C→B D→dC→St→Prop}
noncomputable def v4(ai:eg)(bb:a8)(b:a8):Prop:=e2 ai b∨b=bb
theorem aeI{xs:B C}{many:av}{e:ab}(b3:cv c nm aK z V e)(az:qZ c nm aK z V b):k1 c nm aK z V (.dc xs many e b):=by
 intro x aj env ai G n s m A ab cb cF ok F I hA q
 refine adK ok λ Br hy body VD cg ok=>?_
 have o:=aD ok
 have bu:=aD (aD o)
 refine g0 (a7 ok) ?_
 refine wpAny_For (fL (b3 _ _ _ _ _ _ _ _ _ _ _ (a7 bu) F I hA q) λ fM a bQ aa aJ q hG ce bU=>?_) (Go (a7 (aD o)))
 refine(q5 q).elim λ l q=>?_
 have pN:=F.step I bU
 refine Ml ce q.1 hG λ bb bJ nW m9 cL=>?_
 have Eg:c.h₀.get? bb=none:=we.mpr λ o e=>nomatch m9.symm.trans (ce.base _ _ e)
 have Ep:¬e2 ai bb:=λ o=>let⟨_,e,_⟩:=e2.old pN o;nomatch m9.symm.trans e
 have XI:¬eF bQ bb:=λ f=>let⟨_,e⟩:=ce.wV f;nomatch m9.symm.trans e
 have c1:Inv c nm bQ aa {aJ with heap:=bJ}:=ce.more (t:=aJ.toks) nW
 have cU:lq c nm (v4 ai bb) bQ aJ bb a l 0 bQ aa {aJ with heap:=bJ}:=⟨c1,cL,⟨.refl _ _,nW.all,λ b az=>az.elim (pN.foot b) λ e=>e▸XI⟩,Eg,.inr rfl⟩
 have JQ:∀{bv:cA} {a9:a2},fi (v4 ai bb) bQ aJ bv a9→fi (e2 ai) G s bv a9:=λ X=>(F.xs bU).trans (X.drop (λ b (az:e2 ai b∨b=bb)=>az.elim .inl λ(e:b=bb)=>.inr (e▸m9)) λ b az=>X.off b (.inl az))
 refine codeAny_forLoop_any (λ ct a9=>∃k aF bv J,ct=l.length-k∧(lq c nm (v4 ai bb) bQ aJ bb a l k bv J a9∧∃m,c9 c aj bv aF ai a9.heap m)∧
  zR (live a l) (λ x aF km J=>et (dh many xs x aF) λ dG=>nu c.P V b dG km cF J) (l.drop k) aF cb J) ?_ l.length ⟨0,env,bQ,aa,rfl,⟨cU,m,pN.step ce (.more (t:=aJ.toks) nW)⟩,q.2.2⟩
 clear cU c1 cL nW
 intro ct b' dj
 refine dj.elim λ k dj=>dj.elim λ env dj=>dj.elim λ dz dj=>dj.elim λ ao dj=>dj.2.1.2.elim λ pu qP=>?_
 have dp:=dj.1
 have cU:=dj.2.1.1
 have q:=dj.2.2
 clear dj
 have own:∀b,e2 ai b→¬b=bb:=λ b o e=>Ep (e▸o)
 cases a1:l.drop k with
 |nil=>
  rw[a1]at q
  refine Mk hA.1 cU.inv q.1 cU.at_ (yC.mpr (QV.mp a1)) λ H sP=>?_
  have ch:cu (λ b=>b=bb) b'.heap H:=λ b o e z=>sP b o z e
  have L:=cU.chg b'.toks ch
  exact Jb ⟨env,dz,ao,pu,q.2,qP.zt ch own L.2.1,L.1,JQ L.2.2⟩
 |cons y r=>
  rw[a1]at q
  have aA:=Lj a1
  have lt:=(jZ.mp aA.1).1
  refine(q5 q.2).elim λ uo uH=>?_
  refine Mm cU.inv q.1 cU.at_ aA.1 λ aI jV v Es bX qC=>?_
  have q6:cu (λ b=>b=bb) b'.heap aI:=cu.same Es rfl
  have L:=cU.chg jV q6
  have HH:=cU.br jV q6 bX
  have HF:c9 c aj dz env ai aI pu:=qP.zt q6 own L.2.1
  refine Mn (s:={b' with heap:=aI,toks:=jV}) bX ?_
  refine C7 (s:={b' with heap:=aI,toks:=jV}) hA.1 HF L.1 (a7 o) uH.1 qC λ cQ qJ oj c2 _ tJ h1=>?_
  have Zs:fW aI cQ:=(HF.wJ (s:={b' with heap:=aI,toks:=jV}) (t:=qJ) L.1 c2).2
  have v7:lq c nm (v4 ai bb) bQ aJ bb a l (k+1) dz ao {b' with heap:=cQ,toks:=qJ}:=HH.ea h1 (.ni (s:={b' with heap:=aI,toks:=jV}) (c2.mono λ b q=>.inl q) HH.step.off) Zs λ o e=>c2 _ o e Ep
  have M0:∀{bv:cA} {a9:a2},fi (e2 ai) dz {b' with heap:=cQ,toks:=qJ} bv a9→fi (v4 ai bb) dz {b' with heap:=cQ,toks:=qJ} bv a9:=λ X=>X.mono (λ b q=>.inl q) λ b q=>q.elim (X.off b) λ e f=>(X.ext.2 b f).elim (λ g=>v7.off (e▸g)) λ g=>v7.at_.live.elim λ o w=>nomatch(e▸g:({b' with heap:=cQ,toks:=qJ}:a2).heap.get? bb=none).symm.trans w.1
  refine fa (az _ _ _ _ _ _ {b' with heap:=cQ,toks:=qJ} _ _ _ _ _ (aD bu) tJ h1 hA uH.2) (λ f tm az=>?_) λ _ _ y=>y
  cases f with
  |next=>
   exact az.elim λ aF az=>az.elim λ bv az=>az.elim λ J az=>az.elim λ c0 az=>
    have fB:=az.2.2.2;
    ⟨l.length- (k+1),dp▸Rv _ _ lt,k+1,aF,bv,J,rfl,⟨v7.ea az.2.2.1 (M0 fB) (fB.nc h1 λ b o q e=>Fq (e2.old tJ q) o e) λ o e=>fB.ch _ o e λ q=>q.elim v7.off Ep,c0,az.2.1⟩,aA.2.symm▸az.1⟩
  |ret v=>
   exact az.elim λ w az=>az.elim λ bv az=>az.elim λ J az=>⟨w,bv,J,az.1,az.2.1,az.2.2.1,JQ (v7.step.trans (M0 az.2.2.2))⟩
  |_=>exact az.elim
theorem aeM{t:T}(bD:nQ c nm aK z V t)(az:qZ c nm aK z V b):k1 c nm aK z V (.pL t b):=by
 intro x aj env ai G n s m A ab cb cF ok F I hA q
 refine adN ok λ u body VD cg o=>?_
 have ok:=aD o
 refine g0 (a7 o) ?_
 refine wpAny_While (codeAny_whileLoop (λ k a9=>∃aF bv J c0,c9 c aj bv aF ai a9.heap c0∧Inv c nm bv J a9∧fi (e2 ai) G s bv a9∧BE (qI c.P V t) (λ aF km J=>nu c.P V b aF km cF J) k aF cb J) ?_ 60
  ⟨env,G,n,m,F,I,.refl _ F.foot,q⟩)
 intro k aJ dj
 refine dj.elim λ uo dj=>dj.elim λ bQ dj=>dj.elim λ aa dj=>dj.elim λ AG dj=>?_
 cases k with
 |zero=>exact dj.2.2.2.elim
 |succ k=>
  refine qF (bD _ _ _ _ _ _ _ _ _ _ _ (a7 ok) dj.1 dj.2.1 hA dj.2.2.2) λ v dz ao b' q c1 dt=>?_
  have qP:=dj.1.step dj.2.1 dt
  have sl:=dj.2.2.1.trans (dj.1.xs dt)
  cases v with
  |false=>exact Jb ⟨_,_,_,_,q,qP,c1,sl⟩
  |true=>
   refine fa (az _ _ _ _ _ _ _ _ _ _ _ _ (aD ok) qP c1 hA q) (λ f jt az=>?_) λ _ _ y=>y
   cases f with
   |next=>exact az.elim λ aF az=>az.elim λ bv az=>az.elim λ J az=>az.elim λ c0 az=>⟨k,qU k,aF,bv,J,c0,az.2.1,az.2.2.1,sl.trans az.2.2.2,az.1⟩
   |ret v=>exact az.elim λ w az=>az.elim λ bv az=>az.elim λ J az=>⟨w,bv,J,az.1,az.2.1,az.2.2.1,sl.trans az.2.2.2⟩
   |_=>exact az.elim
mutual
theorem SU(Z:hK c nm aK z V):∀t:S,k1 c nm aK z V t
 | .asg _ e=>aeA (dY Z e) λ _ _ _ _ _ _=>⟨dY Z _,dY Z _,wx Z _⟩
 | .o1 _ e=>aeD (dY Z e)
 | .cc o _ e=>aeB Z (dY Z o) (dY Z e)
 | .gJ o i e=>aeC (dY Z o) (dY Z i) (dY Z e)
 | .aug _ _ e=>aeE (dY Z e)
 | .o3 o _ _ e=>aeF Z (dY Z o) (dY Z e)
 | .o4 o i _ e=>aeG (dY Z o) (dY Z i) (dY Z e)
 | .ex e=>aeH (dY Z e)
 | .ret e=>aeJ (dY Z e)
 | .mD=>aeK
 | .b4 t a b=>aeL (ww Z t) (sn Z a) (sn Z b)
 | .pL t b=>aeM (ww Z t) (sn Z b)
 | .dc _ _ e b=>aeI (dY Z e) (sn Z b)
 | .bad=>λ _ _ _ _ _ _ _ _ _ _ _ _ _ _ _ _ q=>q.elim
theorem sn(Z:hK c nm aK z V):∀t:bk,qZ c nm aK z V t
 | .nil=>aet
 | .cons t r=>aeq (SU Z t) (sn Z r)
end
end
noncomputable def mz(d:oL):B (Y aL):=d.names.map (λ x=>some (st x))++dw (d.nl-d.names.length) none
structure B0(c:cV)(nm:B (B C))(aK:C→a8)(f:C)(d:oL):Prop where
 at_:∃cr ja,FnAt c (mz d) d.np (aK f) cr ja∧px (jE c nm aK) d.body cr.scope (mz d) ja=true
 len:(mz d).length=d.nl
 np:d.np≤d.nl
theorem O3{c:cV}{nm:B (B C)}{aK:C→a8}(bL:jB c nm)(M:v5 c)(ak:Ci c nm aK)(cl:∀f d,c.P.fns f=some d→B0 c nm aK f d):∀z,Hy c nm aK z (sw c.P z)
 |0=>λ _ _ _ _ _ _ _ _ _ _ _ _ q _=>q.elim
 |z+1=>by
  intro A f b6 gR G n s Q R hA I r q fQ
  obtain⟨d,a1,hl,q⟩:=q5 q
  obtain⟨⟨cr,ja,QD,ok⟩,i2,Eo⟩:=cl f d a1
  have Z:hK c nm aK z (sw c.P z):=⟨bL,M,ak,O3 bL M ak cl z⟩
  refine UN bL QD I r hl (by omega) (by have:=hA.2.1;omega) fQ λ ai aJ m g8 Yl F ey=>?_
  have fE:iE (A.deeper ai) z:=⟨hA.1,by show A.depth+1+4*z+3<_;have:=hA.2.1;omega,by show A.units+3+12*z+309<_;have:=hA.2.2;omega⟩
  rw[i2]at F
  exact sn Z d.body ja (mz d) _ ai G n aJ m (A.deeper ai) g8 _ _ (Yl▸ok) F ey fE q
end Mine
end
section
open PySem PySem.W PyProof.Rows
namespace Mine
noncomputable def Dt(K:kl):qL:=⟨K,n0,sv,jD⟩
noncomputable def vm:B aL→B (Y aL)→av
 | [],_=>true
 |x::xs,some y::bf=>decide (x=y)&&vm xs bf
 |_,_=>false
noncomputable def zQ(K:kl)(f:C):Bool:=match ac.fns f with
 |none=>true
 |some d=>(match K.lookup (n0 f)with
  |some ⟨_,_,.func cr,_⟩=>(match cr.body with
   | .stmts ja=>xR cr&&codeIn K cr.code cr.qualname&&decide ((cr.params.args.map (·.arg)).length=d.np)&&decide (cr.params.args.map (·.arg)).Nodup&&
     ((cr.params.args.map (·.arg)).all λ x=>cr.scope.names.lookup x==some .local||cr.scope.names.lookup x==some .cell)&&vm (cr.params.args.map (·.arg)) (mz d)&&ts (mz d)&&
     decide ((mz d).length=d.nl)&&decide (d.np≤d.nl)&&px (Dt K) d.body cr.scope (mz d) ja
   |_=>false)
  |_=>false)
theorem N5:∀{xs:B aL} {aj:B (Y aL)},vm xs aj=true→∀(i:C) x,xs[i]? =some x→(aj:B (Y aL))[i]? =some (some x)
 | [],_,_,i,x,e=>by simp at e
 |y::xs,[],h,_,_,_=>by simp[vm]at h
 |y::xs,none::aj,h,_,_,_=>by simp[vm]at h
 |y::xs,some L::aj,h,i,x,e=>by
  simp only[vm,jX,zC]at h
  obtain⟨rfl,h⟩:=h
  cases i with
  |zero=>simpa using e
  |succ i=>simpa using N5 h i x (by simpa using e)
theorem WF{c:cV}{f:C}{d:oL}(a1:ac.fns f=some d)(XA:c.ca=sv)(h:zQ c.K f=true):B0 c jD n0 f d:=by
 unfold zQ at h
 rw[a1]at h
 dsimp only at h
 split at h
 ·rename_i xK FH cr dQ e
  split at h
  ·rename_i ja VA
   simp only[jX,zC]at h
   obtain⟨⟨⟨⟨⟨⟨⟨⟨⟨ax,aH⟩,cI⟩,gh⟩,kz⟩,zZ⟩,pd⟩,z0⟩,z1⟩,zY⟩:=h
   refine⟨⟨cr,ja,⟨⟨_,_,_,e⟩,ax,VA,aH,cI,gh,kz,N5 zZ,GW pd⟩,?_⟩,z0,z1⟩
   unfold jE
   rw[XA]
   exact zY
  ·cases h
 ·cases h
end Mine
end
section
open PySem PySem.W PySem.Calls PyProof.Rows
namespace Hd
noncomputable abbrev iO:Program:=qW.row.toRowW.1
noncomputable def Fu:Stmt:=.Pass ⟨0,0,0,0⟩
noncomputable def pI(i:C):Stmt:=agu.main.body.getD i Fu
noncomputable def aS(i j:C):Stmt:=match pI i with
 | .ClassDef _ _ _ b _ _ _ _ _ _ _=>b.getD j Fu
 |_=>Fu
noncomputable def K2(s:ft)(q:Y aL)(g:a8)(e4:B (aL×a8))(wO eS fR FV:au)(wy:Y a8)(cd Dy:au)(fv:a8):FuncData:=match s with
 | .FunctionDef z a b _ _ _ bG _ _ _=>⟨z,q.getD z,a,.stmts b,bG,g,e4,wO,eS,fR,FV,wy,cd,Dy,fv⟩
 |_=>default
noncomputable def T(l:B au):Obj:=⟨.type "tuple",none,.seq ⟨l⟩ 0,⟨[]⟩⟩
noncomputable def c5(l:B au):Obj:=⟨.none,none,.fields ⟨l⟩,⟨[]⟩⟩
noncomputable def nB(l:B mT)(z:C):Obj:=⟨.type "dict",none,.dict ⟨l⟩ z,⟨[]⟩⟩
noncomputable def R(a:a8):Value:=.ref a
noncomputable def I(i:am):Value:=.int i 0
noncomputable def S(s:aL)(t:iY):Value:=.str s t
noncomputable def eQ(p:gr)(s:aL)(t:iY)(v:au):DictEntry:=⟨wi p s,.str s t,v⟩
noncomputable def r1(z q:aL)(t:C)(l a f:am)(r:a8)(b:av)(x:B au)(u:C):Obj:=
 ⟨.type "code",none,.fields ⟨[.str z t,.str q (t+1),.str "/claim/cut.py" (t+2),.int l 0,.int a 0,.int 0 0,.int 0 0,.int f 0,.ref r,.bool b,.int 181 0,.ref (r+1)]++x++[.int u 0,.int l 0,.str "/claim/cut.py" (u+1)]⟩,⟨[]⟩⟩
noncomputable def U(s:ft)(q:Y aL)(m:aL)(t:iY)(r:a8):Obj:=⟨.type "function",none,.func (K2 s q 3 [] .none .none .none (.str m t) none (.ref r) .none 0),⟨[]⟩⟩
noncomputable def kp(s:ft)(q:Y aL):Obj:=⟨.none,none,.func (K2 s q 0 [] .none .none .none .none none .none .none 0),⟨[]⟩⟩
noncomputable def dp(p:gr)(s:aL)(t:iY)(i:am):DictEntry:=eQ p s t (.int i (t-1))
noncomputable def cH(p:gr)(s:aL)(t:iY)(a:a8):DictEntry:=eQ p s t (R a)
noncomputable def WO(p:gr):B DictEntry:=[eQ p "__doc__" 166 .none,eQ p "__package__" 167 .none,eQ p "__loader__" 168 (.builtin "__main__.__loader__#opaque"),eQ p "__spec__" 169 .none,cH p "__annotations__" 170 6,cH p "__builtins__" 171 4,eQ p "__file__" 173 (S "/claim/cut.py" 172),eQ p "__cached__" 174 .none,cH p "_wall" 193 21,dp p "A_PRIVATE" 195 1,dp p "A_FAMANDASM" 197 2,dp p "A_ASSEMBLY" 199 3,dp p "A_FAMILY" 201 4,dp p "A_FAMORASM" 203 5,cH p "RuneError" 236 38,cH p "BadKind" 252 51,cH p "LeftOut" 268 63,dp p "VOID" 272 0,dp p "BOOL" 274 1,dp p "CHAR" 276 2,dp p "I1" 278 3,dp p "U1" 280 4,dp p "I2" 282 5,dp p "U2" 284 6,dp p "I4" 286 7,dp p "U4" 288 8,dp p "I8" 290 9,dp p "U8" 292 10,dp p "NINT" 294 11,dp p "OBJECT" 296 12,dp p "STRING" 298 13,dp p "NULLK" 300 14,dp p "BAD" 302 15,dp p "PRIM_END" 304 16,dp p "R_PRIM" 306 1,dp p "R_CLASS" 308 2,dp p "R_VALUE" 310 3,dp p "R_ARRAY" 312 4,dp p "R_BYREF" 314 5,dp p "R_VAR" 316 6,dp p "R_MVAR" 318 7,dp p "R_BOXED" 320 8,dp p "R_ROREF" 322 9,dp p "R_FTN" 324 10,dp p "R_RAW" 326 11,dp p "DEEPEST_KIND" 328 24,dp p "HEAVIEST_KIND" 330 4096,cH p "PRIM_TID" 359 66,cH p "TID_PRIM" 388 67,dp p "ARRAY_TID" 390 5,dp p "NULLABLE_TID" 392 8,cH p "KindTable" 449 98,cH p "inner_kinds" 457 109,cH p "row_level" 464 116,cH p "row_length" 471 123,cH p "check_kind_row" 481 130,cH p "check_named" 489 137,cH p "check_args" 498 144,cH p "may_stand" 507 151,cH p "class_kind" 516 158,cH p "value_kind" 525 165,cH p "prim_kind" 533 172,cH p "var_kind" 541 179,cH p "kind_sort" 549 186,cH p "tid_of" 558 193,cH p "args_of" 567 200,cH p "is_value" 575 207,cH p "is_var" 584 214,cH p "close" 594 221,cH p "close_in" 608 228,cH p "with_inner" 618 235,cH p "box_of" 626 242,cH p "pick_arg" 635 249,cH p "close_all" 647 256,dp p "S_STRUCT" 651 2,dp p "S_IFACE" 653 3,dp p "S_ENUM" 655 5,dp p "VA_NONE" 657 0,dp p "PF_OUT" 659 1,dp p "MF_STATIC" 661 1,dp p "MF_VIRTUAL" 663 2,dp p "MF_NEWSLOT" 665 4,dp p "MF_ABSTRACT" 667 8,dp p "MF_FINAL" 669 16,dp p "MF_CTOR" 671 32,dp p "MF_CCTOR" 673 64,dp p "MF_SPECIAL" 675 128,dp p "T_OBJECT" 677 1,cH p "TypeDef" 731 273,cH p "MethodDef" 779 294,cH p "Store" 813 315,cH p "plain_names" 822 326,cH p "kept_flags" 829 333,cH p "add_method" 844 340,cH p "note_method" 854 347,cH p "put_once" 862 354,cH p "add_impl" 873 361,cH p "self_kind" 884 368,cH p "kind_with" 894 375,cH p "type_of" 903 382,cH p "find_methods" 914 389,cH p "method_sig" 924 396,cH p "is_virtual" 931 403,cH p "is_iface" 941 410,cH p "base_chain" 951 417,cH p "decl_overrides" 967 424,cH p "decl_override" 983 431,cH p "decl_stand" 999 438,cH p "decl_override_number" 1010 445,cH p "decl_base_match" 1016 450,cH p "decl_strange" 1025 457,cH p "decl_in_sight" 1034 464,cH p "decl_same_outs" 1040 469,cH p "decl_same_params" 1053 476,dp p "N_METHOD" 1057 91,cH p "Node" 1095 493,cH p "Diags" 1148 535,cH p "Unit" 1188 556,cH p "Yard" 1268 605,cH p "yard_kept" 1277 616,cH p "Decls" 1321 633,cH p "BareHost" 1408 696,cH p "_law_take" 1420 707,cH p "_law_seen" 1426 712,cH p "_law_kind" 1432 717,cH p "_law_term" 1442 724,cH p "_law_own" 1448 729,cH p "_law_line" 1454 734,cH p "_law_world" 1460 739,cH p "_law_put" 1476 746,cH p "_law_methods" 1482 751,cH p "_law_stand" 1488 756,cH p "law" 1494 761]
noncomputable def C':C→B aL→B au
 |_,[]=>[]
 |t,s::l=>S s t::C' (t+1) l
noncomputable def k6(s:ft)(q:Y aL)(z m:aL)(mt a t:C)(l c:am)(xs:B aL):B (av×fP):=
 match xs with
 | []=>[(true,T []),(false,c5 []),(false,kp s q),(true,r1 z (q.getD z) t l c 3 a true [.none,.none,.none,R (a+2)] (t+3)),(true,U s q m mt (a+3))]
 |x::xs=>[(true,T []),(false,c5 []),(true,T (C' (t+3) (x::xs))),(true,T []),(false,kp s q),(true,r1 z (q.getD z) t l c 3 a true [.none,R (a+2),R (a+3),R (a+4)] (t+4+xs.length)),(true,U s q m mt (a+5))]
noncomputable def GI(k:am):B (am×a8)→B au
 | []=>[]
 | (l,a)::x=>I l::I k::R a::GI k x
noncomputable def ns(l:B (Y au)):Obj:=⟨.type "frame",none,.plain,⟨l⟩⟩
noncomputable def wG(s:ws)(v:au):Obj:=⟨.type "builtin_function_or_method",none,.fields ⟨[.builtin s,v]⟩,⟨[]⟩⟩
noncomputable def en(l:B au):Obj:=⟨.type "getset_descriptor",none,.fields ⟨l⟩,⟨[]⟩⟩
noncomputable def aeZ(a:a8):B (av×fP):=[(false,⟨.type "super",none,.fields ⟨[R a,R a,R a]⟩,⟨[]⟩⟩),(false,wG "object.__init_subclass__" (R a))]
noncomputable def ty(c:aL)(b:ws)(bs fl:B au)(a:a8)(ks:B au)(v:Y au)(t u:iY):Obj:=⟨.type "type",none,.cls ⟨c,bs,R (a+1)::fl,a,c,true,[],ks,false,none,false⟩,⟨[v,none,some (S c t),some (S c u),some (.builtin b),some (.bool true)]⟩⟩
noncomputable def AS:Obj:=wG "type.__prepare__" (.type "type")
noncomputable def bl(p:gr)(m:aL)(mt u:iY)(l:am)(x:B mT):B DictEntry:=eQ p "__module__" (u+2) (S m mt)::x++[eQ p "__firstlineno__" (u+6) (.int l (u+5))]
noncomputable def cd(p:gr)(c m:aL)(mt u:iY)(l:am)(x:B mT)(z:C):Obj:=nB (bl p m mt u l [eQ p "__qualname__" (u+4) (S c (u+3))]++x) z
noncomputable def UO(c m:aL)(mt a t:C)(l:am)(eC:B au):B (av×fP):=[(false,T []),(false,c5 eC),(false,r1 c c t l 0 0 a false [.none,.none,.none,.none] (t+3)),(false,ns [some (R (a+2)),some (R 3),some (R (a-1)),none,some (S m mt),none,some (R 0)])]
noncomputable def Dn:B (B (av×fP))→B (av×fP)
 | []=>[]
 |x::l=>x++Dn l
noncomputable def e4(p:gr)(c m:aL)(mt a t:C)(l:am)(fl:B (aL×C×a8×am))(aG:B (B (av×fP)))(e x:C)(at_:B aL):B (av×fP):=
 [(false,T []),(false,AS),(false,cd p c m mt (t+3) l (fl.map (λ y=>cH p y.1 y.2.1 y.2.2.1)++[cH p "__static_attributes__" x e]) (4+fl.length))]++UO c m mt (a+3) t l (GI 4 (fl.map λ y=>(y.2.2.2,y.2.2.1-1)))++Dn aG++
 [(true,T (C' (x-at_.length) at_)),(true,nB (bl p m mt (t+3) l []++(fl.map (λ y=>cH p y.1 y.2.1 y.2.2.1)++[cH p "__static_attributes__" x e,cH p "__dict__" (x+2) (e+3),cH p "__weakref__" (x+4) (e+4),eQ p "__doc__" (x+5) .none])) 4),
  (true,ty c "object.__new__" [.type "object"] [.type "object"] (e+1) [] none (t-2) (t+6)),(true,en [S "__dict__" (x+1),R (e+2),.builtin "function.__dict__",.builtin "function.__dict__#set"]),(true,en [S "__weakref__" (x+3),R (e+2),.builtin "ExceptionGroup.__weakref__",.none])]++aeZ (e+2)
noncomputable def aK(i:C)(z:aL):=k6 (pI i) none z "__main__" 164
noncomputable def WV(s:ft)(q z:aL):=k6 s (some q) z "framerune.faults" 204
noncomputable def it(i:C)(z:aL):=k6 (pI i) none z "framerune.kinds" 269
noncomputable def uC(s:ft)(q z:aL):=k6 s (some q) z "framerune.kinds" 269
noncomputable def cr(i:C)(z:aL):=k6 (pI i) none z "framerune.store" 648
noncomputable def D1(s:ft)(q z:aL):=k6 s (some q) z "framerune.store" 648
noncomputable def K3(i:C)(z:aL):=k6 (pI i) none z "framerune.kindline" 932
noncomputable def qe(i:C)(z:aL):=k6 (pI i) none z "framerune.csdeclx" 952
noncomputable def qf(s:ft)(q z:aL):=k6 s (some q) z "framerune.csnodes" 1054
noncomputable def W2(s:ft)(q z:aL):=k6 s (some q) z "framerune.csbound" 1149
noncomputable def K4(i:C)(z:aL):=k6 (pI i) none z "framerune.cscore" 1189
noncomputable def uE(s:ft)(q z:aL):=k6 s (some q) z "framerune.cscore" 1189
noncomputable def W4(s:ft)(q z:aL):=k6 s (some q) z "framerune.csdeclb" 1278
noncomputable def sE(s:ft)(q z:aL):=k6 s (some q) z "framerune.kindrel" 1322
noncomputable def eC(i:C)(z:aL):=k6 (pI i) none z "law_hb0001_01" 1409
noncomputable def hl(p:gr)(x y L:fP):B (av×fP):=Dn [[(false,boot_o_0 p),(false,boot_o_1 p),(true,x),(true,y),(false,boot_o_4 p),(false,boot_o_5 p),(false,boot_o_6 p),(false,boot_o_7 p),(false,boot_o_8 p),(false,boot_o_9 p),(false,boot_o_10 p),(false,T []),(false,L),(false,r1 "<module>" "<module>" 182 1 0 0 11 false [.none,.none,.none,.none] 185),(false,ns [some (R 13),some (R 3),some (R 3),none,some (S "__main__" 164),none,some (R 0)])],
aK 0 "_wall" 15 187 1 1 ["k"],
[(true,T [.type "Exception"]),(false,AS),(false,nB [eQ p "__module__" 213 (S "framerune.faults" 204),eQ p "__qualname__" 215 (S "RuneError" 214),eQ p "__firstlineno__" 217 (.int 10 216),eQ p "__init__" 226 (R 35),eQ p "__static_attributes__" 229 (R 36)] 5),(false,T []),(false,c5 [I 12,I 4,R 34]),(false,r1 "RuneError" "RuneError" 208 10 0 0 25 false [.none,.none,.none,.none] 211),(false,ns [some (R 27),some (R 3),some (R 24),none,some (S "framerune.faults" 204),none,some (R 0)])],
WV (aS 7 0) "RuneError.__init__" "__init__" 29 218 12 3 ["self","code","at"],
[(true,T [S "at" 227,S "code" 228]),(true,nB [eQ p "__module__" 213 (S "framerune.faults" 204),eQ p "__firstlineno__" 217 (.int 10 216),eQ p "__init__" 226 (R 35),eQ p "__static_attributes__" 229 (R 36),eQ p "__weakref__" 231 (R 39),eQ p "__doc__" 232 .none] 3),(true,ty "RuneError" "Exception.__new__" [.type "Exception"] [.type "Exception",.type "BaseException",.type "object"] 37 [R 51,R 63] (some (R 22)) 206 214),(true,en [S "__weakref__" 230,R 38,.builtin "ExceptionGroup.__weakref__",.none]),(false,⟨.type "super",none,.fields ⟨[R 38,R 38,R 38]⟩,⟨[]⟩⟩),(false,wG "object.__init_subclass__" (R 38)),(true,T [R 38]),(false,AS),(false,nB [eQ p "__module__" 244 (S "framerune.faults" 204),eQ p "__qualname__" 246 (S "BadKind" 245),eQ p "__firstlineno__" 248 (.int 15 247),eQ p "__static_attributes__" 249 (R 49)] 4),(false,T []),(false,c5 []),(false,r1 "BadKind" "BadKind" 239 15 0 0 45 false [.none,.none,.none,.none] 242),(false,ns [some (R 47),some (R 3),some (R 44),none,some (S "framerune.faults" 204),none,some (R 0)]),(true,T []),(true,nB [eQ p "__module__" 244 (S "framerune.faults" 204),eQ p "__firstlineno__" 248 (.int 15 247),eQ p "__static_attributes__" 249 (R 49),eQ p "__doc__" 250 .none] 2),(true,ty "BadKind" "Exception.__new__" [R 38] [R 38,.type "Exception",.type "BaseException",.type "object"] 50 [] (some (R 42)) 237 245),(false,⟨.type "super",none,.fields ⟨[R 51,R 51,R 51]⟩,⟨[]⟩⟩),(false,wG "object.__init_subclass__" (R 51)),(true,T [R 38]),(false,AS),(false,nB [eQ p "__module__" 260 (S "framerune.faults" 204),eQ p "__qualname__" 262 (S "LeftOut" 261),eQ p "__firstlineno__" 264 (.int 17 263),eQ p "__static_attributes__" 265 (R 61)] 4),(false,T []),(false,c5 []),(false,r1 "LeftOut" "LeftOut" 255 17 0 0 57 false [.none,.none,.none,.none] 258),(false,ns [some (R 59),some (R 3),some (R 56),none,some (S "framerune.faults" 204),none,some (R 0)]),(true,T []),(true,nB [eQ p "__module__" 260 (S "framerune.faults" 204),eQ p "__firstlineno__" 264 (.int 17 263),eQ p "__static_attributes__" 265 (R 61),eQ p "__doc__" 266 .none] 2),(true,ty "LeftOut" "Exception.__new__" [R 38] [R 38,.type "Exception",.type "BaseException",.type "object"] 62 [] (some (R 54)) 253 261),(false,⟨.type "super",none,.fields ⟨[R 63,R 63,R 63]⟩,⟨[]⟩⟩),(false,wG "object.__init_subclass__" (R 63)),(true,nB [⟨0,.int 0 271,.int 20 331⟩,⟨1,.int 1 273,.int 9 332⟩,⟨2,.int 2 275,.int 10 333⟩,⟨3,.int 3 277,.int 11 334⟩,⟨4,.int 4 279,.int 12 335⟩,⟨5,.int 5 281,.int 13 336⟩,⟨6,.int 6 283,.int 14 337⟩,⟨7,.int 7 285,.int 15 338⟩,⟨8,.int 8 287,.int 16 339⟩,⟨9,.int 9 289,.int 17 340⟩,⟨10,.int 10 291,.int 18 341⟩,⟨11,.int 11 293,.int 19 342⟩,⟨12,.int 12 295,.int 1 343⟩,⟨13,.int 13 297,.int 4 344⟩] 14),(true,nB [⟨20,.int 20 360,.int 0 271⟩,⟨9,.int 9 361,.int 1 273⟩,⟨10,.int 10 362,.int 2 275⟩,⟨11,.int 11 363,.int 3 277⟩,⟨12,.int 12 364,.int 4 279⟩,⟨13,.int 13 365,.int 5 281⟩,⟨14,.int 14 366,.int 6 283⟩,⟨15,.int 15 367,.int 7 285⟩,⟨16,.int 16 368,.int 8 287⟩,⟨17,.int 17 369,.int 9 289⟩,⟨18,.int 18 370,.int 10 291⟩,⟨19,.int 19 371,.int 11 293⟩,⟨1,.int 1 372,.int 12 295⟩,⟨4,.int 4 373,.int 13 297⟩] 14)],
e4 p "KindTable" "framerune.kinds" 269 68 395 54 [("__init__",413,81,56),("row",421,88,70),("put",436,95,75)] [uC (aS 45 0) "KindTable.__init__" "__init__" 75 405 56 1 ["self","number","row"],uC (aS 45 1) "KindTable.row" "row" 82 414 70 2 ["self","k"],uC (aS 45 2) "KindTable.put" "put" 89 422 75 2 ["self","row","found","depth","weight","opened","level","inner","k"]] 96 442 ["depths","index","opens","rows","weights"],
it 46 "inner_kinds" 103 450 103 1 ["row","sort"],
it 47 "row_level" 110 458 112 1 ["sort"],
it 48 "row_length" 117 465 116 1 ["sort"],
it 49 "check_kind_row" 124 472 122 2 ["kt","row","sort","inner"],
it 50 "check_named" 131 482 144 2 ["kt","row"],
it 51 "check_args" 138 490 148 2 ["kt","args","arg"],
it 52 "may_stand" 145 499 152 2 ["kt","k","sort"],
it 53 "class_kind" 152 508 157 3 ["kt","tid","args"],
it 54 "value_kind" 159 517 161 3 ["kt","tid","args"],
it 55 "prim_kind" 166 526 165 2 ["tid","args"],
it 56 "var_kind" 173 534 169 2 ["kt","i"],
it 57 "kind_sort" 180 542 171 2 ["kt","k"],
it 58 "tid_of" 187 550 173 2 ["kt","k","row"],
it 59 "args_of" 194 559 182 2 ["kt","k","row"],
it 60 "is_value" 201 568 187 2 ["kt","k"],
it 61 "is_var" 208 576 191 2 ["kt","k","sort"],
it 62 "close" 215 585 194 4 ["kt","k","targs","margs"],
it 63 "close_in" 222 595 199 5 ["kt","k","targs","margs","seen","row","inner","part"],
it 64 "with_inner" 229 609 214 3 ["kt","row","inner","sort"],
it 65 "box_of" 236 619 223 2 ["kt","k"],
it 66 "pick_arg" 243 627 231 3 ["args","place","k"],
it 67 "close_all" 250 636 235 4 ["kt","ks","targs","margs","out","k"],
e4 p "TypeDef" "framerune.store" 648 257 680 255 [("__init__",704,270,257)] [D1 (aS 83 0) "TypeDef.__init__" "__init__" 264 690 257 8 ["self","tid","name","sort","flags","base","params","asm","word"]] 271 724 ["asm","base","bounds","cctor","events","fields","finaliser","flags","home","ifaces","impls","methods","name","params","props","sort","tid","under","variances"],
e4 p "MethodDef" "framerune.store" 648 278 734 281 [("__init__",757,291,283)] [D1 (aS 84 0) "MethodDef.__init__" "__init__" 285 744 283 8 ["self","mid","owner","name","access","flags","ret","params"]] 292 772 ["access","body","flags","gbounds","gnames","mid","name","native","ngen","owner","params","pflags","pnames","ret"],
e4 p "Store" "framerune.store" 648 299 782 298 [("__init__",798,312,300)] [D1 (aS 85 0) "Store.__init__" "__init__" 306 792 300 1 ["self"]] 313 806 ["asms","entry","fields_","kt","methods","names","types"],
cr 86 "plain_names" 320 814 308 1 ["count","out","place"],
cr 87 "kept_flags" 327 823 313 1 ["flags"],
cr 88 "add_method" 334 830 317 7 ["store","tid","name","access","flags","ret","params","t","mid"],
cr 89 "note_method" 341 845 324 2 ["store","mid","m","t"],
cr 90 "put_once" 348 855 332 2 ["rows","row"],
cr 91 "add_impl" 355 863 335 5 ["store","tid","body_mid","decl_owner","decl_mid"],
cr 92 "self_kind" 362 874 337 2 ["store","tid","t","args","place"],
cr 93 "kind_with" 369 885 345 3 ["store","tid","args","sort"],
cr 94 "type_of" 376 895 350 2 ["store","k","tid"],
cr 95 "find_methods" 383 904 355 3 ["store","tid","name","out","mid"],
cr 96 "method_sig" 390 915 361 2 ["store","mref","m","targs"],
cr 97 "is_virtual" 397 925 369 1 ["m"],
K3 99 "is_iface" 404 934 372 2 ["host","k"],
K3 100 "base_chain" 411 942 374 2 ["host","k","out","seen"],
qe 102 "decl_overrides" 418 954 383 1 ["d","rows","i","own","depth","tid","mid","node"],
qe 103 "decl_override" 425 968 391 4 ["d","tid","mid","node","found","m","old","number","flags","kinds"],
qe 104 "decl_stand" 432 984 406 5 ["d","tid","mid","found","node","rows","body","owner","decl","m"],
qe 105 "decl_override_number" 439 1000 420 4 ["d","m","old","found","access"],
qe 106 "decl_base_match" 446 1011 435 3 [],
qe 107 "decl_strange" 451 1017 445 3 ["d","m","old"],
qe 108 "decl_in_sight" 458 1026 447 3 ["d","m","old"],
qe 109 "decl_same_outs" 465 1035 451 2 [],
qe 110 "decl_same_params" 470 1041 453 5 ["d","at","name","ngen","params","out","mid"],
e4 p "Node" "framerune.csnodes" 1054 477 1060 462 [("__init__",1081,490,464)] [qf (aS 113 0) "Node.__init__" "__init__" 484 1070 464 6 ["self","kind","a","kids","mods","at"]] 491 1088 ["a","at","kids","kind","mods","nid"],
e4 p "Diags" "framerune.csnodes" 1054 498 1098 471 [("__init__",1114,511,473),("put",1124,518,476),("cut",1132,525,479),("numbers",1139,532,483)] [qf (aS 114 0) "Diags.__init__" "__init__" 505 1108 473 1 ["self"],qf (aS 114 1) "Diags.put" "put" 512 1115 476 4 ["self","number","at","words"],qf (aS 114 2) "Diags.cut" "cut" 519 1125 479 2 ["self","count"],qf (aS 114 3) "Diags.numbers" "numbers" 526 1133 483 1 ["self"]] 533 1141 ["rows"],
e4 p "Unit" "framerune.csbound" 1149 540 1153 486 [("__init__",1171,553,488)] [W2 (aS 116 0) "Unit.__init__" "__init__" 547 1163 488 3 ["self","store","asm"]] 554 1181 ["asm","consts","diags","fns","inits","of_mid","sinits","store","vars"],
e4 p "Yard" "framerune.cscore" 1189 561 1193 499 [("__init__",1212,574,501),("kind",1220,581,516),("fault",1230,588,519),("show",1238,595,522),("kept",1247,602,525)] [uE (aS 118 0) "Yard.__init__" "__init__" 568 1203 501 4 ["self","unit","host","asm"],uE (aS 118 1) "Yard.kind" "kind" 575 1213 516 2 ["self","node"],uE (aS 118 2) "Yard.fault" "fault" 582 1221 519 4 ["self","number","node","words"],uE (aS 118 3) "Yard.show" "show" 589 1231 522 2 ["self","k"],uE (aS 118 4) "Yard.kept" "kept" 596 1239 525 3 ["self","k","node"]] 603 1261 ["asm","early","host","kinds","kt","mid","owner","static","store","told","tparams","unit","unmet"],
K4 119 "yard_kept" 610 1269 527 3 ["yard","k","node"],
e4 p "Decls" "framerune.csdeclb" 1278 617 1282 533 [("__init__",1300,630,535)] [W4 (aS 121 0) "Decls.__init__" "__init__" 624 1292 535 3 ["self","unit","cx"]] 631 1314 ["consts","cx","explicits","keys","kt","late","opers","overrides","sinits","store","types","unit","work"],
e4 p "BareHost" "framerune.kindrel" 1322 638 1326 550 [("__init__",1343,651,552),("base",1351,658,563),("ifaces_at",1359,665,566),("sort",1367,672,569),("variance",1375,679,572),("under",1383,686,575),("has_new",1391,693,578)] [sE (aS 123 0) "BareHost.__init__" "__init__" 645 1336 552 2 ["self","kt"],sE (aS 123 1) "BareHost.base" "base" 652 1344 563 2 ["self","k"],sE (aS 123 2) "BareHost.ifaces_at" "ifaces_at" 659 1352 566 2 ["self","k"],sE (aS 123 3) "BareHost.sort" "sort" 666 1360 569 2 ["self","k"],sE (aS 123 4) "BareHost.variance" "variance" 673 1368 572 2 ["self","tid"],sE (aS 123 5) "BareHost.under" "under" 680 1376 575 2 ["self","k"],sE (aS 123 6) "BareHost.has_new" "has_new" 687 1384 578 2 ["self","k"]] 694 1401 ["bases","bounds","gflags","ifaces","kt","news","sorts","unders","variances"],
eC 125 "_law_take" 701 1411 581 2 ["w","n","at","fill"],
eC 126 "_law_seen" 708 1421 588 2 [],
eC 127 "_law_kind" 713 1427 596 2 [],
eC 128 "_law_term" 718 1433 605 2 ["w","many","n","part"],
eC 129 "_law_own" 725 1443 613 2 [],
eC 130 "_law_line" 730 1449 615 2 [],
eC 131 "_law_world" 735 1455 623 1 [],
eC 132 "_law_put" 740 1461 639 5 ["w","level","name","sort","over","line","term","flags","mid","row"],
eC 133 "_law_methods" 747 1477 646 1 [],
eC 134 "_law_stand" 752 1483 657 2 [],
eC 135 "law" 757 1489 670 1 []]
noncomputable def aae:B (am×a8):=[(1,20),(10,27),(15,47),(17,59),(54,73),(103,108),(112,115),(116,122),(122,129),(144,136),(148,143),(152,150),(157,157),(161,164),(165,171),(169,178),(171,185),(173,192),(182,199),(187,206),(191,213),(194,220),(199,227),(214,234),(223,241),(231,248),(235,255),(255,262),(281,283),(298,304),(308,325),(313,332),(317,339),(324,346),(332,353),(335,360),(337,367),(345,374),(350,381),(355,388),(361,395),(369,402),(372,409),(374,416),(383,423),(391,430),(406,437),(420,444),(435,449),(445,456),(447,463),(451,468),(453,475),(462,482),(471,503),(486,545),(499,566),(527,615),(533,622),(550,643),(581,706),(588,711),(596,716),(605,723),(613,728),(615,733),(623,738),(639,745),(646,750),(657,755),(670,760)]
noncomputable def hk(p:gr)(m:aL)(t:iY)(k j:C):B (av×fP):=hl p (⟨.none,none,.dict ⟨[eQ p "type.__subclasses__.Exception.0" 233 (I 38),eQ p "type.__subclasses__.Exception.n" 234 (I 1)]⟩ 2,⟨[]⟩⟩) (nB (eQ p "__name__" 165 (S m t)::(WO p).take k) (k+1)) (c5 ((GI 0 aae).take j))
noncomputable def bG(l:B (av×fP)):B (av×fP)×B (av×fP):=l.foldr (λ x r=>(x::r.2,r.1)) ([],[])
noncomputable def nU:C→B (av×fP)→BT
 |0,_=>.nil
 |_,[]=>.nil
 |z+1,x::l=>.node x.2 (nU z (bG l).1) (nU z (bG l).2)
noncomputable def ic(p:gr):BT:=nU 11 ((hl p (boot_o_2 p) (boot_o_3 p) (c5 [])).take 15)
noncomputable def er(p:gr):BT:=nU 11 ((hk p "framerune.kinds" 269 36 12).take 66)
noncomputable def eN(p:gr):BT:=nU 11 ((hk p "framerune.kinds" 269 51 12).take 68)
noncomputable def hr(p:gr):BT:=nU 11 ((hk p "framerune.kinds" 269 68 63).take 215)
noncomputable def kM(p:gr):BT:=nU 11 ((hk p "framerune.store" 648 90 87).take 299)
noncomputable def lS(p:gr):BT:=nU 11 ((hk p "framerune.csdeclx" 952 107 138).take 432)
noncomputable def Pj(p:gr):BT:=nU 11 ((hk p "framerune.csbound" 1149 117 165).take 540)
noncomputable def Pk(p:gr):BT:=nU 11 ((hk p "framerune.kindrel" 1322 121 177).take 638)
noncomputable def Pl(p:gr):BT:=nU 11 ((hk p "law_hb0001_01" 1409 133 213).take 762)
noncomputable def cl(p:gr):B (av×fP):=hk p "law_hb0001_01" 1409 133 213
noncomputable def EN:C→B (av×fP)→kl
 |_,[]=>[]
 |i,(b,o)::l=>bif b then(i,o)::EN (i+1) l else EN (i+1) l
noncomputable def k7(p:gr):Frag:=EN 0 (cl p)
noncomputable def a3(l:B fP):Heap:=⟨⟨l⟩,⟨[],[],[],0,[],[],false,⟨[]⟩,[],0,false,false,false,0,[2000,10,10],false,0,true,[],[],0,false⟩⟩
noncomputable def Lt(p:gr):Heap:=a3 (((hl p (boot_o_2 p) (boot_o_3 p) (c5 [])).take 15).map (·.2))
noncomputable def uF(p:gr):Heap:=a3 ((cl p).map (·.2))
end Hd
end
section
open PySem PySem.W PySem.Calls PyProof.Rows
namespace Hd
noncomputable def q3:B Stmt:=behindTheImports iO
noncomputable def dQ(i z:C):B Stmt:=(q3.drop i).take z
noncomputable def b3:Env:={scope:=iO.main.scope,locals:=mainNs,globals:=mainNs,cells:=[],code:=.ref 13,frame:=some 14}
noncomputable def hc:Code:=.body q3 b3
noncomputable def fx:Pos:=⟨0,0,0,0⟩
noncomputable def w1:Y Value:=some (.ref 6)
noncomputable def y5(t:gr→BT)(z k:C)(w:eY)(os:jC):SharedT:=⟨t w.params,z,{},⟨[]⟩,{},k,os⟩
theorem p'{w:eY}{m b z:C}{Jv:Y au}{s:SharedT}{t:Thread}{r:Y (Flow×SharedT×Code×hd)}(h:agR agS iO w m Jv b z s t=r):segRunT t7 iO w m Jv b z s t=r:=by
 rw[agx,CF];exact h
noncomputable def p1(a z f:C)(t cB:gr→BT)(k ct m c0:C)(p f3:hd)(w:eY):Prop:=∀os,segRunT t7 iO w 11 w1 1 f (y5 t k m w os) (piecesOf (dQ a z) b3 hc p [t2 fx])=some (.next,y5 cB ct c0 w os,hc,f3)
theorem acw(w:eY):p1 0 30 920 ic er 15 66 187 309 fx ⟨38,0,38,7⟩ w:=λ os=>p' (by kernel_rfl)
theorem acx(w:eY):p1 30 15 530 er eN 66 68 309 393 ⟨38,0,38,7⟩ ⟨53,0,53,12⟩ w:=byRow2 "special-get-raises" (P:=p1 30 15 530 er eN 66 68 309 393 ⟨38,0,38,7⟩ ⟨53,0,53,12⟩) (λ w os=>p' (by kernel_rfl)) (λ w os=>p' (by kernel_rfl)) w
theorem acy(w:eY):p1 45 17 786 eN hr 68 215 393 585 ⟨53,0,53,12⟩ ⟨191,0,193,42⟩ w:=λ os=>p' (by kernel_rfl)
theorem acz(w:eY):p1 62 23 819 hr kM 215 299 585 780 ⟨191,0,193,42⟩ ⟨281,0,297,23⟩ w:=λ os=>p' (by kernel_rfl)
theorem acA(w:eY):p1 85 19 764 kM lS 299 432 780 984 ⟨281,0,297,23⟩ ⟨391,0,405,86⟩ w:=λ os=>p' (by kernel_rfl)
theorem acB(w:eY):p1 104 12 797 lS Pj 432 540 984 1151 ⟨391,0,405,86⟩ ⟨485,0,485,8⟩ w:=λ os=>p' (by kernel_rfl)
theorem acC(w:eY):p1 116 7 892 Pj Pk 540 638 1151 1324 ⟨485,0,485,8⟩ ⟨549,0,549,8⟩ w:=λ os=>p' (by kernel_rfl)
theorem acD(w:eY):p1 123 13 742 Pk Pl 638 762 1324 1495 ⟨549,0,549,8⟩ ⟨670,0,701,86⟩ w:=λ os=>p' (by kernel_rfl)
theorem XM(w:eY)(os:jC):topGo t7 iO w 11 w1 12 ⟨t1 w.params,⟨[]⟩,boot_drawn,boot_toks,os⟩ (topStub iO)=some (⟨Lt w.params,⟨[]⟩,{},187,os⟩,⟨denote t7 hc,hc,fx,[t2 fx]⟩):=by
 rw[agG,agB,CF]
 kernel_rfl
theorem Xy(w:eY)(os:jC):segRun t7 iO w 11 w1 1 1 ⟨Lt w.params,⟨[]⟩,{},187,os⟩ (blockOf q3 b3 hc fx [t2 fx])=some (.next,(y5 ic 15 187 w os).abs,hc,fx):=by
 rw[agE,CF]
 kernel_rfl
theorem Ej(w:eY)(os:jC):topRun t7 iO w 11 w1 2 (y5 Pl 762 1495 w os).abs ⟨doneF .next,hc,⟨670,0,701,86⟩,[t2 fx]⟩=some ⟨uF w.params,⟨[]⟩,{},1495,os⟩:=by
 rw[agD,CF]
 kernel_rfl
theorem Uk:q3=dQ 0 30++(dQ 30 15++(dQ 45 17++(dQ 62 23++(dQ 85 19++(dQ 104 12++(dQ 116 7++(dQ 123 13++[]))))))):=by kernel_rfl
theorem sL(w:eY)(os:jC):topRun t7 iO w 11 w1 (12+(1+(920+(530+(786+(819+(764+(797+(892+(742+2)))))))))) ⟨t1 w.params,⟨[]⟩,boot_drawn,boot_toks,os⟩ (topStub iO)=some ⟨uF w.params,⟨[]⟩,{},1495,os⟩:=by
 refine go_top (XM w os) (piece_block (b:=q3) (env:=b3) (q:=fx) (Xy w os) ?_)
 rw[show restOf q3 b3 hc fx [t2 fx]=restOf (dQ 0 30++(dQ 30 15++(dQ 45 17++(dQ 62 23++(dQ 85 19++(dQ 104 12++(dQ 116 7++(dQ 123 13++[])))))))) b3 hc fx [t2 fx]from an (λ b=>restOf b b3 hc fx [t2 fx]) Uk]
 exact sa (sb (acw w os)) (sa (sb (acx w os)) (sa (sb (acy w os)) (sa (sb (acz w os)) (sa (sb (acA w os)) (sa (sb (acB w os)) (sa (sb (acC w os)) (sa (sb (acD w os)) (Ej w os))))))))
end Hd
end
section
open PySem PySem.W PySem.Calls PyProof.Rows
namespace Hd
noncomputable def f7:Program:={iO with main:={iO.main with body:=((ck 136).filter λ i=>!([6,10,68,98,101,111,115,117,120,122,124].contains i)).map pI}}
noncomputable def i3:B Str:=["PRIM_TID","TID_PRIM"]
noncomputable def dx(w:eY)(os:jC):Shared:=⟨uF w.params,⟨[]⟩,{},1495,os⟩
noncomputable def has:B Addr:=(k7 {strHash:=λ _=>0,shareClass:=id,mergeTok:=id,idOf:=λ _=>0,idOfShared:=λ _ _=>0,followText:=λ _=>true,idOfImm:=λ _=>0}).map (·.1)
theorem Ye:opening iO=plainProg iO.main.scope.names:=by kernel_rfl
theorem Yg(s:a2):fenceModules? iO s=some s:=by kernel_rfl
theorem Yo(w:eY):((t1 w.params).isNs ly&&(⟨[]⟩:gS GenState).size==0,(t1 w.params).objs.size,(t1 w.params).nsMap ly "__annotations__")=(true,11,some (.ref 6)):=by kernel_rfl
theorem rr(w:eY)(os:jC):(staticsOk (I4 iO.main.body) (t1 w.params) (uF w.params)&&namesBound iO (uF w.params)&&gensDone (dx w os)&&laidKept (t1 w.params) (uF w.params))=true:=by
 rw[R1];kernel_rfl
theorem u2(w:eY)(os:jC):seen ((recsOf f7).map (·.name)) (ownsOf f7) [] {dx w os with gens:=#[]}=expectedOf f7:=by
 rw[agL,R0,agM];kernel_rfl
theorem Z4(w:eY)(os:jC):(dx w os).heap.bltView=bltViewBooted:=by kernel_rfl
theorem Z6(w:eY)(os:jC):tabsOk f7 (dx w os)=true:=by rw[agK];kernel_rfl
end Hd
end
section
open PySem PySem.W PySem.Calls PyProof.Rows
namespace Hd
noncomputable def z4(s:a2):Bool:=xlAt f7 [] s&&recOk qW.row.records s
theorem Z5(w:eY)(os:jC):((dx w os).heap.keysOk (CH f7 i3) ((recsOf f7).map (·.name)) ((litsOf f7).map (·.1)) ((clssOf f7 (CH f7 i3)).map (·.name))&&(dx w os).heap.accountedOkI (I4 iO.main.body)&&(dx w os).heap.isNs ly&&(dx w os).heap.isNs CI&&tablesOk f7 (dx w os).heap&&z4 (dx w os)&&(dx w os).gens.size==0)=true:=by
 rw[agy,R2,R0,agP,agC,agF,R1,agz]
 kernel_rfl
theorem Z7(w:eY)(os:jC):pinSeenD f7 (drecsOf f7) (dx w os)=pinGoodD (drecsOf f7):=by
 rw[agH,agJ];kernel_rfl
theorem Z8(w:eY)(os:jC):plainSeenE f7 (CH f7 i3) (dx w os)=plainGoodE f7 (CH f7 i3):=by
 rw[agI,R2];kernel_rfl
theorem Z9(w:eY)(os:jC):plainSeenD f7 i3 (dx w os)=plainGoodD f7 i3:=by
 rw[agA];kernel_rfl
theorem Z'(w:eY)(os:jC):wideSeen f7 (dx w os)=wideGood f7:=by
 rw[agN];kernel_rfl
theorem aaa(w:eY)(os:jC):clsSeenW f7 i3 (dx w os)=clsGoodW f7 i3:=by
 rw[agO];kernel_rfl
theorem Xu(P:gr):has=(k7 P).map (·.1):=by kernel_rfl
noncomputable def pf:Hook:=kHook k7 has Xu
theorem aab(w:eY)(os:jC):pf.obs (dx w os)=pf.val w:=by kernel_rfl
theorem XB:(chainsOk f7&&opensWell qW.row.prog&&(frees qW.row.toRowW&&qW.row.within.isEmpty))=true:=by kernel_rfl
end Hd
end
section
open PySem PySem.W PySem.Calls PyProof.Rows
namespace Hd
theorem fu{a b:av}(h:a=true)(g:b=true):(a&&b)=true:=by rw[h,g];rfl
theorem Yk:OpenLaw.wellSaid qW=true:=by
 rw[agQ]
 refine fu (fu (fu (fu (fu (fu (fu (fu (fu (fu (fu (fu (fu (fu (fu (fu (fu (fu (fu (fu (fu (fu (fu (fu (fu (fu (fu (fu (fu (fu (fu (fu (fu (fu (fu (fu (fu ?_ ?_) ?_) ?_) ?_) ?_) ?_) ?_) ?_) ?_) ?_) ?_) ?_) ?_) ?_) ?_) ?_) ?_) ?_) ?_) ?_) ?_) ?_) ?_) ?_) ?_) ?_) ?_) ?_) ?_) ?_) ?_) ?_) ?_) ?_) ?_) ?_) ?_
 all_goals decide+kernel
theorem Ym(w:eY)(os:jC):openSeen f7 i3 (I4 iO.main.body) z4 true (dx w os)=openGood f7 i3:=
 p3 (u2 w os) (p3 (Z4 w os) (p3 (Z5 w os) (p3 (Z6 w os) (p3 (Z7 w os) (p3 (Z8 w os) (p3 (Z9 w os) (p3 (Z' w os) (aaa w os))))))))
theorem XZ:LeftO iO f7 i3 z4 pf.obs pf.val 12610:=
 LeftO.of_pieces (boot_open Ye rfl Yg) Yo sL rfl λ w=>funext λ os=>p3 (rr w os) (p3 (Ym w os) (aab w os))
end Hd
end
section
open PySem PySem.W PySem.Calls PyProof.Rows
namespace Hd
noncomputable def XF:DefRec:=match pI 135 with
 | .FunctionDef z a b _ _ _ s _ _ p=>⟨z,a,b,s,p⟩
 |_=>⟨"",⟨[],[],none,[],[],none,[]⟩,[],⟨.function,[],false,false,[]⟩,fx⟩
theorem a1(afW:WalkO f7 i3 (XL f7 []) pf.says qW.row.toRowW XF [] λ f ar=>PySem.call f ar):qW.Holds:=
 holds_law Yk λ adO=>holds_open (q:=f7) (loose:=i3) (Xt:=z4) (XP:=XL f7 []) (Yf:=pf.obs) (Ya:=pf.val) (YP:=pf.says) (N:=12610) XZ pf.of pf.keeps (λ _ e=>xl_of _ (dI.mp e).1) XL.keeps
  (by kernel_rfl) (by kernel_rfl) (by kernel_rfl) (λ _ e=>recFacts_of (dI.mp e).2) rfl adO XB ⟨rfl,rfl,rfl,rfl,rfl,by decide+kernel⟩ ⟨[WData.list []],by decide+kernel,by decide+kernel⟩ afW
end Hd
end
section
open PySem PySem.W PyProof.Rows
namespace Mine
variable{V f:C}
theorem Md(h:xg V=some f):V<10:=by
 unfold xg at h
 split at h<;>first|omega|cases h
theorem aaR{m:C}(h:Fa V m=some f):(V,m,f)∈ [(0,75,1),(0,76,2),(9,9,12),(9,7,13)]:=by
 unfold Fa at h
 split at h<;>first| (cases h;decide)|cases h
theorem WC(h:wT V f=true):V<10∧f<jD.length:=by
 unfold wT at h
 have bV:V<zO.length:=by
  rcases Cm V zO.length with q|q
  ·exact q
  ·rw[jy,B9 q]at h;cases h
 refine⟨bV,?_⟩
 rw[jy,h2 bV]at h
 have all:(zO.all λ l=>l.all λ f=>decide (f<jD.length))=true:=by decide+kernel
 have:=g'.mp (g'.mp all _ (yF bV)) f (by simpa using h)
 exact gi this
noncomputable def U6(K:kl):Bool:=(ck 10).all λ V=>Du K (sv V)
noncomputable def YW(K:kl):Bool:=(ck 10).all λ V=>match xg V with
 |some f=>oU K (.ref (sv V)) "__init__"==some (some (.ref (n0 f)))&&wk K (.ref (n0 f))==some (.type "function")
 |none=>true
noncomputable def WA(K:kl):Bool:=(ck 10).all λ V=>(ck jD.length).all λ f=>!wT V f||oU K (.ref (sv V)) (gK jD f)==some none
theorem U7(P:gr):U6 (Hd.k7 P)=true:=by kernel_rfl
theorem YX(P:gr):YW (Hd.k7 P)=true:=by kernel_rfl
theorem WB(P:gr):WA (Hd.k7 P)=true:=by kernel_rfl
theorem aa7:jD.Nodup:=by decide+kernel
end Mine
end
section
open PySem PySem.W PyProof.Rows
namespace Mine
variable{aI:dD}{oy:C}{l:a8}{ar:B au}{ns:B am}{A:eB}{yP:Flow→a2→Prop}{name:aL}{scope:gc}{aK:a8}{cd:au}{ja:B ft}{m:aL→Y au}
noncomputable def aaP(K:kl):Bool:=[(0,75,1),(0,76,2),(9,9,12),(9,7,13)].all λ(V,m,f)=>oU K (.ref (sv V)) (gK jD m)==some (some (.ref (n0 f)))&&wk K (.ref (n0 f))==some (.type "function")&&yU K (.ref (n0 f))
theorem aaQ(P:gr):aaP (Hd.k7 P)=true:=by kernel_rfl
theorem ae6{f:C}{d:oL}(h:ac.fns f=some d):f<63:=Nat.lt_of_not_le λ q=>
 let⟨k,e⟩:=Nat.exists_eq_add_of_le' q
 nomatch(show none=some d from(an DN e).symm.trans h)
theorem WI(P:gr):((ck 63).all λ f=>zQ (Hd.k7 P) f)=true:=by kernel_rfl
theorem WG(P:gr):∀f d,ac.fns f=some d→zQ (Hd.k7 P) f=true:=λ f _ h=>g'.mp (WI P) f (ga.mpr (ae6 h))
theorem S6:∀f g,f<jD.length→g<jD.length→gK jD f=gK jD g→f=g:=by
 intro f g cl i1 h
 unfold gK at h
 have:=yc h
 rw[jy,jy,h2 cl,h2 i1]at this
 have nd:=List.pairwise_iff_getElem.mp aa7
 rcases Nat.lt_trichotomy f g with q|q|q
 ·exact absurd this (nd f g cl i1 q)
 ·exact q
 ·exact absurd this.symm (nd g f i1 cl q)
theorem Dq{uj:aL→Y au}:∀{e4:B (aL×a8)} {cells:B (a8×fP)} {x:aL} {q:a8},CellsAre uj e4 cells→(x,q)∈e4→∃o,(q,o)∈cells∧o.data= .cell (uj x)
 |_,_,x,q,.nil,h=>(nomatch h)
 |_,_,x,q,.cons ax aH,h=>by
  rcases kh.mp h with e|h
  ·cases e;exact⟨_,.head _,ax⟩
  ·obtain⟨o,be,a1⟩:=Dq aH h
   exact⟨o,.tail _ be,a1⟩
theorem JA:∀{e4:B (aL×a8)} {x y:aL} {q:a8},(e4.map (·.2)).Nodup→(x,q)∈e4→(y,q)∈e4→x=y
 |p::r,x,y,q,cy,ax,aH=>by
  rw[oN,nH]at cy
  rcases kh.mp ax with aw|ax<;>rcases kh.mp aH with aB|aH
  ·rw[←aB]at aw;exact(Prod.mk.inj aw).1
  ·exact absurd (hu.mpr ⟨_,aH,by rw[←aw]⟩) cy.1
  ·exact absurd (hu.mpr ⟨_,ax,by rw[←aB]⟩) cy.1
  ·exact JA cy.2 ax aH
section
variable{w:eY}{aJ:a2}{qp pr:aL→Y au}{p:lv}{loose:B aL}{u8:ExcName→Y au}{prog:lv}
noncomputable def qa(prog:lv)(w:eY)(aJ:a2):cV:=⟨prog,w,aJ.heap,aJ.os,Hd.k7 w.params,sv,ac⟩
theorem abY(v9:(Hd.k7 w.params).In aJ.heap)(T:Top p loose u8 qp pr aJ.heap):jB (qa prog w aJ) jD where
 K:=v9
 lim:=T.nolimit
 cls:=λ V bV=>by
  obtain⟨f,cl⟩:=oT.mp bV
  have:=g'.mp (U7 w.params) V (ga.mpr (Md cl))
  exact this
 fld:=λ V f cl=>by
  obtain⟨ax,aH⟩:=WC cl
  have:=g'.mp (g'.mp (WB w.params) V (ga.mpr ax)) f (ga.mpr aH)
  rw[show wT V f=true from cl]at this
  simp only[Bool.not_true,Qq,jk]at this
  exact⟨aH,this⟩
 names:=S6
theorem Lm(T:Top p loose u8 qp pr aJ.heap):v5 (qa prog w aJ):=⟨qp,pr,T.g,T.b,T.builtins⟩
theorem Nm:Ci (qa prog w aJ) jD n0 where
 i5:=λ V f cl=>by
  have:=g'.mp (YX w.params) V (ga.mpr (Md cl))
  rw[show xg V=some f from cl]at this
  simp only[jX,jk]at this
  exact this
 pv:=λ V m f cl=>by
  have:=g'.mp (aaQ w.params) _ (aaR cl)
  simp only[jX,jk]at this
  exact⟨this.1.1,this.1.2,this.2⟩
theorem WH:∀f d,(qa prog w aJ).P.fns f=some d→B0 (qa prog w aJ) jD n0 f d:=λ f d h=>WF h rfl (WG w.params f d h)
theorem Me:∀{ar:B au} {ns:B am},Cw ar ns→tL ns ar
 |_,_,.nil=>rfl
 |_,_,.cons z t h=>⟨t,_,rfl,Me h⟩
noncomputable def qj:oL:=(DN 62).getD ⟨0,0,[],.nil⟩
noncomputable def B4:Prop:=∀ns:B am,ns.length≤63→nu ac (sw ac 100) qj.body (some (.fv ns)::dw 16 none) (λ _ _=>False) (λ v _=>v= .cj true) []
theorem Zh{ab:au→a2→Prop}{cells:B (a8×fP)}
  (v9:(Hd.k7 w.params).In aJ.heap)(T:Top p loose u8 qp pr aJ.heap)(i1:aJ.gens= #[])(hl:aJ.heap.get? l=some {cls:=.type "list",data:=.seq ar.toArray})(dj:Cw ar ns)(i2:ns.length≤63)
  (F:Fr aJ.heap aJ.heap.objs.size aI m)(N:News aJ.heap aJ.heap.objs.size aI cells)(uj:aL→Y au)(X:CellsAre uj (yY (aJ.heap.objs.size+1) scope.names []) cells)(hm:m (st [115,99,114,105,112,116])=some (.ref l))
  (hk:scope.kind= .function)(hs:scope.names.lookup (st [115,99,114,105,112,116])=some .local)(Xr:((yY (aJ.heap.objs.size+1) scope.names []).map (·.2)).Nodup)
  (ok:px (Dt (Hd.k7 w.params)) qj.body scope (mz qj) ja=true)(hA:iE A 100)(M:B4)
  (hpost:∀a9,(∀b o,aJ.heap.get? b=some o→a9.heap.get? b=some o)→a9.gens= #[]→a9.os=aJ.os→yP (.ret (.bool true)) a9):
  bg (bc prog w) A (execs ja (Cx name scope aJ.heap.objs.size aK cd)) yP ab {aJ with heap:=aI,toks:=oy}:=by
 have bL:jB (qa prog w aJ) jD:=abY v9 T
 have Z:hK (qa prog w aJ) jD n0 100 (sw ac 100):=⟨bL,Lm T,Nm,O3 bL (Lm T) Nm WH 100⟩
 have I:Inv (qa prog w aJ) jD [] [] {aJ with heap:=aI,toks:=oy}:=by
  refine⟨F.keep,λ b f=>?_,rfl,λ i j p q e=>by simp at e,λ i p o e=>by simp at e,i1,rfl,λ b f=>?_,?_⟩
  ·obtain⟨p,bM,_⟩:=f;cases bM
  ·obtain⟨p,bM,_⟩:=f;cases bM
  ·obtain⟨aaG,⟨o,O,hL,e,_⟩,_⟩:=T.nolimit
   exact⟨cStatics,o,by decide,e⟩
 have cell:∀x q,(yY (aJ.heap.objs.size+1) scope.names []).lookup x=some q→∃v,aI.IsCell q v:=by
  intro x q e
  have X6:=mem_of_lookup e
  obtain⟨o,be,a1⟩:=Dq X X6
  exact⟨_,o,(N _ be).1,a1⟩
 have new:∀x q,(yY (aJ.heap.objs.size+1) scope.names []).lookup x=some q→aJ.heap.get? q=none:=by
  intro x q e
  obtain⟨o,be,a1⟩:=Dq X (mem_of_lookup e)
  exact(N _ be).2.2
 have cC:aJ.heap.get? aJ.heap.objs.size=none:=n1 λ _ _ e=>e
 have QC:c9 (qa prog w aJ) (mz qj) [] (some (.fv ns)::dw 16 none) (Cx name scope aJ.heap.objs.size aK cd) aI m:=by
  refine⟨hk,rfl,rfl,rfl,F.ns,λ x q e=>cell x q e,λ x y q aw aB=>?_,λ b o f=>?_,λ b o=>?_,GW (by decide+kernel),λ x e=>IX _ _ _ (.inl e),λ i x a aA bO=>?_⟩
  ·exact JA Xr (mem_of_lookup aw) (mem_of_lookup aB)
  ·obtain⟨p,bM,_⟩:=f;cases bM
  ·rcases o with rfl| ⟨x,e⟩
   ·exact cC
   ·exact new x b e
  ·cases i with
   |zero=>
    have aw:x=st [115,99,114,105,112,116]:=by
     have:(mz qj:B (Y aL))[0]? =some (some (st [115,99,114,105,112,116])):=by rfl
     rw[this]at aA;cases aA;rfl
    subst aw
    simp only[yB,yO]at bO
    subst bO
    exact⟨_,⟨l,rfl,_,0,hl,by simpa using Me dj⟩,.inl ⟨hs,hm⟩⟩
   |succ i=>
    rw[Q0,HV]at bO
    split at bO<;>cases bO
 refine fa (sn Z qj.body ja (mz qj) _ (Cx name scope aJ.heap.objs.size aK cd) [] [] {aJ with heap:=aI,toks:=oy} m A ab (λ _ _=>False) (λ v _=>v= .cj true) ok QC I hA (M ns i2)) (λ f a9 az=>?_) λ _ _ y=>y
 cases f with
 |next=>obtain⟨_,_,_,_,q,_⟩:=az;exact q.elim
 |ret v=>
  obtain⟨a,bv,J,rfl,hG,ey,fB⟩:=az
  simp only[bA]at hG
  subst hG
  exact hpost a9 ey.base ey.gens ey.os
 |_=>exact az.elim
theorem Zi{ab:au→a2→Prop}{o:fP}{v:Y au}{x:aL}
  (F:Fr aJ.heap aJ.heap.objs.size aI m)(N:News aJ.heap aJ.heap.objs.size aI [(aJ.heap.objs.size+1,o)])(XD:o.data= .cell v)
  (v9:(Hd.k7 w.params).In aJ.heap)(T:Top p loose u8 qp pr aJ.heap)(i1:aJ.gens= #[])(kP:Well w.params aJ.heap (.ref l) (ofPy (.list (ns.map .int))))(cC:aJ.heap.IsList l ar.toArray)(dj:Cw ar ns)(i2:¬((63:C):am)< (ns.length:am))
  (hm:m (st [115,99,114,105,112,116])=some (.ref l))
  (hc:yY (aJ.heap.objs.size+1) scope.names []=[(x,aJ.heap.objs.size+1)])
  (hk:scope.kind= .function)(hs:scope.names.lookup (st [115,99,114,105,112,116])=some .local)
  (ok:px (Dt (Hd.k7 w.params)) qj.body scope (mz qj) ja=true)(hA:iE A 100)(M:B4)
  (hpost:∀a9,(∀b o,aJ.heap.get? b=some o→a9.heap.get? b=some o)→a9.gens= #[]→a9.os=aJ.os→yP (.ret (.bool true)) a9):
  bg (bc prog w) A (execs ja (Cx name scope aJ.heap.objs.size aK cd)) yP ab {aJ with heap:=aI,toks:=oy}:=by
 have hl:aJ.heap.get? l=some {cls:=.type "list",data:=.seq ar.toArray}:=by
  obtain⟨o,be,_,z,Yd⟩:=cC
  generalize aA:ofPy (.list (ns.map .int))=d at kP
  cases kP with
  |list ax aH=>
   rw[be]at ax
   cases ax
   cases Yd
   exact be
  |_=>unfold ofPy at aA;cases aA
 exact Zh v9 T i1 hl dj (by omega) F N (λ _=>v) (by rw[hc];exact .cons XD .nil) hm hk hs (by rw[hc];simp) ok hA M hpost
end
theorem o7(env:eg):iE (callerA.deeper env) 100:=⟨rfl,by show 1+claimMargin+1+4*100+3<CN;decide,by show 4+3+12*100+309<kY;decide⟩
theorem W8{c:ClaimW}{e4:aL→Y a8}{u8:ExcName→Y au}{b6:B WData}{aJ a9:a2}(k:∀b o,aJ.heap.get? b=some o→a9.heap.get? b=some o)(i1:a9.gens= #[])(mh:a9.os=aJ.os)
  (cy:∀cls,c.raises b6 cls=false)(bM:c.post b6 (.bool true) b6=true):GoodW c e4 u8 b6 aJ (.ok (.ret (.bool true))) a9:=
 ⟨.inl ⟨.bool true,.bool true,[],rfl,cy,.bool true,bM,unshared_nil⟩,k,mh,i1⟩
end Mine
end
section
open PySem PySem.W PyProof.Rows
namespace Mine
local macro_rules | `(tactic|k_qdec)=>`(tactic|decide+kernel)
theorem hM(M:B4):qW.Holds:=Hd.a1 (by
 k_go0
 refine Zi (x:=IS "store") ‹_› ‹_› ‹_› ‹_› ‹Top _ _ _ _ _ _› ‹_› ‹Well _ _ _ _› ‹_› ‹Cw _ _› ‹_› ?hm ?hc ?hk ?hs ?ok ?hA M ?hpost
 case hm=>rfl
 case hc=>rfl
 case hk=>rfl
 case hs=>rfl
 case ok=>kernel_rfl
 case hA=>exact o7 _
 case hpost=>
  intro a9 hk i1 be
  exact W8 hk i1 be (λ _=>by first|rfl|kernel_rfl) (by first|kernel_rfl|decide))
end Mine
end
section
namespace Mine
noncomputable abbrev jg:=C→B D→St→Y (D×St)
inductive eZ where
 |br (env:aX)
 |f5 (v:D)
noncomputable def e0(a:D)(l:B D):qM (live a l):=λ n=>match a with
 | .ref _=>Classical.propDecidable _
 | .nn=>.isTrue trivial
 | .cj _=>.isTrue trivial
 | .ii _=>.isTrue trivial
 | .ss _=>.isTrue trivial
 | .tup _=>.isTrue trivial
 | .ew _ _=>.isTrue trivial
 | .cd _=>.isTrue trivial
 | .fv _=>.isTrue trivial
noncomputable def lF(dq:St→Prop)[qM dq](step:D→St→Y (B D×St)):B D→B D→St→Y (B D×St)
 | [],acc,n=>if dq n then some (acc,n)else none
 |x::r,acc,n=>if dq n then(step x n).bind λ p=>lF dq step r (acc++p.1) p.2 else none
noncomputable def fD(dq:St→Prop)[qM dq](step:D→aX→St→Y (eZ×St)):B D→aX→St→Y (eZ×St)
 | [],env,n=>if dq n then some (.br env,n)else none
 |x::r,env,n=>if dq n then(step x env n).bind λ p=>match p.1 with
  | .br aF=>fD dq step r aF p.2
  | .f5 v=>some (.f5 v,p.2)else none
noncomputable def oC(lT:aX→St→Y (av×St))(body:aX→St→Y (eZ×St)):C→aX→St→Y (eZ×St)
 |0,_,_=>none
 |z+1,env,n=>(lT env n).bind λ p=>if p.1=true then(body env p.2).bind λ q=>match q.1 with
   | .br aF=>oC lT body z aF q.2
   | .f5 v=>some (.f5 v,q.2)
  else some (.br env,p.2)
section
variable(P:iW)(V:jg)
mutual
noncomputable def ci:ab→aX→St→Y (D×St)
 | .nn,_,n=>some (.nn,n)
 | .cj b,_,n=>some (.cj b,n)
 | .ii i,_,n=>some (.ii i,n)
 | .ss s,_,n=>some (.ss s,n)
 | .v x,env,n=>(env[x]?.join).bind λ a=>some (a,n)
 | .gl _ val,_,n=>some (val,n)
 | .bin op a b,env,n=>(ci a env n).bind λ p=>(ci b env p.2).bind λ q=>(fG op p.1 q.1).bind λ r=>some (r,q.2)
 | .qA a b,env,n=>(ci a env n).bind λ p=>(ci b env p.2).bind λ q=>(xZ p.1 q.1).bind λ r=>some (r,q.2)
 | .pE a b,env,n=>(ci a env n).bind λ p=>(ci b env p.2).bind λ q=>(vs q.2 p.1 q.1).bind λ r=>some (.ref q.2.length,q.2++[.li r])
 | .neg a,env,n=>(ci a env n).bind λ p=>(xE p.1).bind λ r=>some (r,p.2)
 | .and O,env,n=>A2 O env n
 | .or O,env,n=>xY O env n
 | .cmp op a b,env,n=>(ci a env n).bind λ p=>(ci b env p.2).bind λ q=>(cY op p.1 q.1 q.2).bind λ r=>some (.cj r,q.2)
 | .ite t a b,env,n=>(fr t env n).bind λ p=>if p.1=true then ci a env p.2 else ci b env p.2
 | .tup O,env,n=>(ou O env n).bind λ p=>if p.1.length≤1000 then some (.tup p.1,p.2)else none
 | .lst O,env,n=>(ou O env n).bind λ p=>if p.1.length≤1000 then some (.ref p.2.length,p.2++[.li p.1])else none
 | .m4 ks ar,env,n=>(ou ar env n).bind λ p=>if ks.length=p.1.length then some (.ref p.2.length,p.2++[.ds (ks.zip p.1)])else none
 | .pa ks ar,env,n=>(ou ar env n).bind λ p=>if ks.length=p.1.length then some (.ref p.2.length,p.2++[.cq (ks.zip p.1)])else none
 | .eP .i,_,n=>some (.ref n.length,n++[.cq []])
 | .eP .s,_,n=>some (.ref n.length,n++[.ds []])
 | .eP .t,_,n=>some (.ref n.length,n++[.h9 []])
 | .at a f,env,n=>(ci a env n).bind λ p=>(d7 p.2 p.1 f).bind λ r=>some (r,p.2)
 | .aq a i,env,n=>(ci a env n).bind λ p=>(ci i env p.2).bind λ q=>(dd q.2 p.1 q.1).bind λ r=>some (r,q.2)
 | .lj a i,env,n=>(ci a env n).bind λ p=>(ci i env p.2).bind λ q=>(uw q.2 p.1 q.1).bind λ r=>some (.ref q.2.length,q.2++[.li r])
 | .mF a i,env,n=>(ci a env n).bind λ p=>(ci i env p.2).bind λ q=>(rR q.2 p.1 q.1).bind λ r=>some (s0 q.2 r)
 | .rev a,env,n=>(ci a env n).bind λ p=>(uZ p.2 p.1).bind λ l=>some (.ref p.2.length,p.2++[.li l.reverse])
 | .comp b7 xs many bb eo,env,n=>(ci bb env n).bind λ p=>(hR p.2 p.1).bind λ l=>if l.length≤100000 then
   (@lF (live p.1 l) (e0 p.1 l) (λ x ao=>(dh many xs x env).bind λ aF=>(hp eo aF ao).bind λ q=>if q.1=true then(ci b7 aF q.2).bind λ r=>some ([r.1],r.2)else some ([],q.2)) l [] p.2).bind λ q=>
    some (.ref q.2.length,q.2++[.li q.1])
   else none
 | .call f b6,env,n=>(ou b6 env n).bind λ p=>V f p.1 p.2
 | .new c b6,env,n=>(P.i5 c).bind λ f=>(ou b6 env n).bind λ p=>(V f (.ref p.2.length::p.1) (p.2++[.bF c []])).bind λ q=>match q.1 with
   | .nn=>some (.ref p.2.length,q.2)
   |_=>none
 | .hj o m b6,env,n=>(ci o env n).bind λ p=>(mu P p.2 m p.1).bind λ f=>(ou b6 env p.2).bind λ q=>V f (p.1::q.1) q.2
 | .len a,env,n=>(ci a env n).bind λ p=>(la p.2 p.1).bind λ z=>some (.ii z,p.2)
 | .jb a,env,n=>(ci a env n).bind λ p=>(rO p.2 p.1).bind λ r=>some (r,p.2)
 | .sorted a,env,n=>(ci a env n).bind λ p=>(vD p.2 p.1).bind λ r=>some (.ref p.2.length,p.2++[.li r])
 | .strOf a,env,n=>(ci a env n).bind λ p=>(ye p.1).bind λ r=>some (r,p.2)
 | .gQ a,env,n=>(ci a env n).bind λ p=>(ov p.1).bind λ r=>some (r,p.2)
 | .pF a b,env,n=>(ci a env n).bind λ p=>(ci b env p.2).bind λ q=>(vx p.1 q.1).bind λ r=>some (r,q.2)
 | .append o x,env,n=>(ci o env n).bind λ p=>if ml p.2 p.1=true then(ci x env p.2).bind λ q=>(l8 q.2 p.1 q.1).bind λ J=>some (.nn,J)else none
 | .m3 o k d,env,n=>(ci o env n).bind λ p=>if rh p.2 p.1=true then(ci k env p.2).bind λ q=>(ci d env q.2).bind λ r=>(uD r.2 p.1 q.1 r.1).bind λ v=>some (v,r.2)else none
 | .bad,_,_=>none
noncomputable def ou:d6→aX→St→Y (B D×St)
 | .nil,_,n=>some ([],n)
 | .cons e r,env,n=>(ci e env n).bind λ p=>(ou r env p.2).bind λ q=>some (p.1::q.1,q.2)
noncomputable def A2:d6→aX→St→Y (D×St)
 | .nil,_,_=>none
 | .cons e .nil,env,n=>ci e env n
 | .cons e (.cons bC r),env,n=>(ci e env n).bind λ p=>(ie p.2 p.1).bind λ b=>if b=true then A2 (.cons bC r) env p.2 else some (p.1,p.2)
noncomputable def xY:d6→aX→St→Y (D×St)
 | .nil,_,_=>none
 | .cons e .nil,env,n=>ci e env n
 | .cons e (.cons bC r),env,n=>(ci e env n).bind λ p=>(ie p.2 p.1).bind λ b=>if b=true then some (p.1,p.2)else xY (.cons bC r) env p.2
noncomputable def fr:T→aX→St→Y (av×St)
 | .e a,env,n=>(ci a env n).bind λ p=>(ie p.2 p.1).bind λ b=>some (b,p.2)
 | .g4 t,env,n=>(fr t env n).bind λ p=>some (!p.1,p.2)
 | .and bE,env,n=>hp bE env n
 | .or bE,env,n=>A3 bE env n
 | .cmp op a b,env,n=>(ci a env n).bind λ p=>(ci b env p.2).bind λ q=>(cY op p.1 q.1 q.2).bind λ r=>some (r,q.2)
noncomputable def hp:fb→aX→St→Y (av×St)
 | .nil,_,n=>some (true,n)
 | .cons t r,env,n=>(fr t env n).bind λ p=>if p.1=true then hp r env p.2 else some (false,p.2)
noncomputable def A3:fb→aX→St→Y (av×St)
 | .nil,_,n=>some (false,n)
 | .cons t r,env,n=>(fr t env n).bind λ p=>if p.1=true then some (true,p.2)else A3 r env p.2
end
mutual
noncomputable def jT:S→aX→St→Y (eZ×St)
 | .asg x e,env,n=>(ci P V e env n).bind λ p=>some (.br (iP env x p.1),p.2)
 | .o1 xs e,env,n=>(ci P V e env n).bind λ p=>(dh true xs p.1 env).bind λ aF=>some (.br aF,p.2)
 | .cc o f e,env,n=>(ci P V e env n).bind λ p=>(ci P V o env p.2).bind λ q=>(lh P q.2 q.1 f p.1).bind λ J=>some (.br env,J)
 | .gJ o i e,env,n=>(ci P V e env n).bind λ p=>(ci P V o env p.2).bind λ q=>(ci P V i env q.2).bind λ r=>(j' r.2 q.1 r.1 p.1).bind λ J=>some (.br env,J)
 | .aug x op e,env,n=>(env[x]?.join).bind λ a=>(ci P V e env n).bind λ p=>(kD op a p.1).bind λ r=>some (.br (iP env x r),p.2)
 | .o3 o f op e,env,n=>(ci P V o env n).bind λ p=>(d7 p.2 p.1 f).bind λ a=>(ci P V e env p.2).bind λ q=>(kD op a q.1).bind λ r=>(lh P q.2 p.1 f r).bind λ J=>some (.br env,J)
 | .o4 o i op e,env,n=>(ci P V o env n).bind λ p=>(ci P V i env p.2).bind λ q=>(vv q.2 p.1 q.1).bind λ a=>(ci P V e env q.2).bind λ r=>(kD op a r.1).bind λ b=>(j' r.2 p.1 q.1 b).bind λ J=>some (.br env,J)
 | .ex e,env,n=>(ci P V e env n).bind λ p=>some (.br env,p.2)
 | .ret e,env,n=>(ci P V e env n).bind λ p=>some (.f5 p.1,p.2)
 | .mD,_,n=>some (.f5 .nn,n)
 | .b4 t a b,env,n=>(fr P V t env n).bind λ p=>if p.1=true then bS a env p.2 else bS b env p.2
 | .pL t b,env,n=>oC (fr P V t) (bS b) 60 env n
 | .dc xs many bb b,env,n=>(ci P V bb env n).bind λ p=>(hR p.2 p.1).bind λ l=>if l.length≤100000 then
   @fD (live p.1 l) (e0 p.1 l) (λ x aF J=>(dh many xs x aF).bind λ dG=>bS b dG J) l env p.2 else none
 | .bad,_,_=>none
noncomputable def bS:bk→aX→St→Y (eZ×St)
 | .nil,env,n=>some (.br env,n)
 | .cons s r,env,n=>(jT s env n).bind λ p=>match p.1 with
  | .br aF=>bS r aF p.2
  | .f5 v=>some (.f5 v,p.2)
end
end
noncomputable def runN(P:iW):C→jg
 |0,_,_,_=>none
 |z+1,f,b6,n=>(P.fns f).bind λ d=>if b6.length=d.np then(bS P (runN P z) d.body (b6.map some++dw (d.nl-d.np) none) n).bind λ p=>match p.1 with
   | .br _=>some (.nn,p.2)
   | .f5 v=>some (v,p.2)else none
end Mine
end
section
namespace Mine
section
variable(P:iW)(V:jg)
noncomputable def aah(K:D→Prop):Y D→Prop
 |some a=>K a
 |none=>True
noncomputable def Ay(K:D→Prop):C→aX→Prop
 |0,o::_=>aah K o
 |z+1,_::r=>Ay K z r
 |0,[]=>True
 |_+1,[]=>True
noncomputable def yp:av→Prop→Prop
 |true,p=>p
 |false,_=>True
mutual
noncomputable def dO:ab→aX→St→(D→St→Prop)→Prop
 | .nn,_,n,K=>K .nn n
 | .cj b,_,n,K=>K (.cj b) n
 | .ii i,_,n,K=>K (.ii i) n
 | .ss s,_,n,K=>K (.ss s) n
 | .v x,env,n,K=>Ay (λ a=>K a n) x env
 | .gl _ val,_,n,K=>K val n
 | .bin op a b,env,n,K=>dO a env n λ db aa=>dO b env aa λ gH ao=>∀r,fG op db gH=some r→K r ao
 | .qA a b,env,n,K=>dO a env n λ db aa=>dO b env aa λ gH ao=>∀r,xZ db gH=some r→K r ao
 | .pE a b,env,n,K=>dO a env n λ db aa=>dO b env aa λ gH ao=>∀r,vs ao db gH=some r→K (.ref ao.length) (ao++[.li r])
 | .neg a,env,n,K=>dO a env n λ db aa=>∀r,xE db=some r→K r aa
 | .and O,env,n,K=>FA O env n K
 | .or O,env,n,K=>FC O env n K
 | .cmp op a b,env,n,K=>dO a env n λ db aa=>dO b env aa λ gH ao=>∀r,cY op db gH ao=some r→K (.cj r) ao
 | .ite t a b,env,n,K=>s4 t env n λ c aa=>match c with|true=>dO a env aa K|false=>dO b env aa K
 | .tup O,env,n,K=>qu O env n λ ar aa=>yp (kk ar.length 1000) (K (.tup ar) aa)
 | .lst O,env,n,K=>qu O env n λ ar aa=>yp (kk ar.length 1000) (K (.ref aa.length) (aa++[.li ar]))
 | .m4 ks ar,env,n,K=>qu ar env n λ ar aa=>yp (kj ks.length ar.length) (K (.ref aa.length) (aa++[.ds (ks.zip ar)]))
 | .pa ks ar,env,n,K=>qu ar env n λ ar aa=>yp (kj ks.length ar.length) (K (.ref aa.length) (aa++[.cq (ks.zip ar)]))
 | .eP .i,_,n,K=>K (.ref n.length) (n++[.cq []])
 | .eP .s,_,n,K=>K (.ref n.length) (n++[.ds []])
 | .eP .t,_,n,K=>K (.ref n.length) (n++[.h9 []])
 | .at a f,env,n,K=>dO a env n λ db aa=>∀r,d7 aa db f=some r→K r aa
 | .aq a i,env,n,K=>dO a env n λ db aa=>dO i env aa λ gH ao=>∀r,dd ao db gH=some r→K r ao
 | .lj a i,env,n,K=>dO a env n λ db aa=>dO i env aa λ gH ao=>∀r,uw ao db gH=some r→K (.ref ao.length) (ao++[.li r])
 | .mF a i,env,n,K=>dO a env n λ db aa=>dO i env aa λ gH ao=>∀r,rR ao db gH=some r→K (s0 ao r).1 (s0 ao r).2
 | .rev a,env,n,K=>dO a env n λ db aa=>∀l,uZ aa db=some l→K (.ref aa.length) (aa++[.li l.reverse])
 | .comp b7 xs many bb eo,env,n,K=>dO bb env n λ v aa=>∀l,hR aa v=some l→l.length≤100000→∀out ao,
   @lF (live v l) (e0 v l) (λ x ao=>(dh many xs x env).bind λ aF=>(hp P V eo aF ao).bind λ q=>if q.1=true then(ci P V b7 aF q.2).bind λ r=>some ([r.1],r.2)else some ([],q.2)) l [] aa=some (out,ao)→K (.ref ao.length) (ao++[.li out])
 | .call f b6,env,n,K=>qu b6 env n λ ar aa=>∀r ao,V f ar aa=some (r,ao)→K r ao
 | .new c b6,env,n,K=>∀f,P.i5 c=some f→qu b6 env n λ ar aa=>∀ao,V f (.ref aa.length::ar) (aa++[.bF c []])=some (.nn,ao)→K (.ref aa.length) ao
 | .hj o m b6,env,n,K=>dO o env n λ fy aa=>∀f,mu P aa m fy=some f→qu b6 env aa λ ar ao=>∀r bW,V f (fy::ar) ao=some (r,bW)→K r bW
 | .len a,env,n,K=>dO a env n λ db aa=>∀z,la aa db=some z→K (.ii z) aa
 | .jb a,env,n,K=>dO a env n λ db aa=>∀r,rO aa db=some r→K r aa
 | .sorted a,env,n,K=>dO a env n λ db aa=>∀r,vD aa db=some r→K (.ref aa.length) (aa++[.li r])
 | .strOf a,env,n,K=>dO a env n λ db aa=>∀r,ye db=some r→K r aa
 | .gQ a,env,n,K=>dO a env n λ db aa=>∀r,ov db=some r→K r aa
 | .pF a b,env,n,K=>dO a env n λ db aa=>dO b env aa λ gH ao=>∀r,vx db gH=some r→K r ao
 | .append o x,env,n,K=>dO o env n λ fy aa=>ml aa fy=true→dO x env aa λ yn ao=>∀bW,l8 ao fy yn=some bW→K .nn bW
 | .m3 o k d,env,n,K=>dO o env n λ fy aa=>rh aa fy=true→dO k env aa λ G7 ao=>dO d env ao λ G6 bW=>∀r,uD bW fy G7 G6=some r→K r bW
 | .bad,_,_,_=>True
noncomputable def qu:d6→aX→St→(B D→St→Prop)→Prop
 | .nil,_,n,K=>K [] n
 | .cons e r,env,n,K=>dO e env n λ v aa=>qu r env aa λ ar ao=>K (v::ar) ao
noncomputable def FA:d6→aX→St→(D→St→Prop)→Prop
 | .nil,_,_,_=>True
 | .cons e .nil,env,n,K=>dO e env n K
 | .cons e (.cons bC r),env,n,K=>dO e env n λ v aa=>∀b,ie aa v=some b→match b with|true=>FA (.cons bC r) env aa K|false=>K v aa
noncomputable def FC:d6→aX→St→(D→St→Prop)→Prop
 | .nil,_,_,_=>True
 | .cons e .nil,env,n,K=>dO e env n K
 | .cons e (.cons bC r),env,n,K=>dO e env n λ v aa=>∀b,ie aa v=some b→match b with|true=>K v aa|false=>FC (.cons bC r) env aa K
noncomputable def s4:T→aX→St→(av→St→Prop)→Prop
 | .e a,env,n,K=>dO a env n λ v aa=>∀b,ie aa v=some b→K b aa
 | .g4 t,env,n,K=>s4 t env n λ b aa=>K (!b) aa
 | .and bE,env,n,K=>FE bE env n K
 | .or bE,env,n,K=>FD bE env n K
 | .cmp op a b,env,n,K=>dO a env n λ db aa=>dO b env aa λ gH ao=>∀r,cY op db gH ao=some r→K r ao
noncomputable def FE:fb→aX→St→(av→St→Prop)→Prop
 | .nil,_,n,K=>K true n
 | .cons t r,env,n,K=>s4 t env n λ b aa=>match b with|true=>FE r env aa K|false=>K false aa
noncomputable def FD:fb→aX→St→(av→St→Prop)→Prop
 | .nil,_,n,K=>K false n
 | .cons t r,env,n,K=>s4 t env n λ b aa=>match b with|true=>K true aa|false=>FD r env aa K
end
end
theorem aR{α c4:Type}{o:Y α}{a:α}{f:α→Y c4}{x:Y c4}(e:o=some a)(h:f a=x):o.bind f=x:=by rw[e];exact h
theorem bb{α:Type}{p:Prop}{d:v1 p}{a b x:α}(h:p)(e:a=x):(if p then a else b)=x:=by rw[if_pos h];exact e
theorem EZ{K:D→Prop}:∀(x:C) (env:aX),(∀a,env[x]?.join=some a→K a)→Ay K x env
 |0,some _::_,h=>h _ rfl
 |0,none::_,_=>trivial
 |z+1,_::r,h=>EZ z r h
 |0,[],_=>trivial
 |_+1,[],_=>trivial
theorem BD:∀{b:av} {p:Prop},(b=true→p)→yp b p
 |true,_,h=>h rfl
 |false,_,_=>trivial
theorem fv{a b:C}(h:kk a b=true):a≤b:=aE h
theorem JS{a b:C}(h:kj a b=true):a=b:=Nat.eq_of_beq_eq_true h
section
variable{P:iW}{V:jg}
mutual
theorem dT:∀(e:ab) (env:aX) (n:St) {K:D→St→Prop},(∀v J,ci P V e env n=some (v,J)→K v J)→dO P V e env n K
 | .nn,_,_,_,h=>h _ _ rfl
 | .cj _,_,_,_,h=>h _ _ rfl
 | .ii _,_,_,_,h=>h _ _ rfl
 | .ss _,_,_,_,h=>h _ _ rfl
 | .v x,env,_,_,h=>EZ x env λ _ e=>h _ _ (aR e rfl)
 | .gl _ _,_,_,_,h=>h _ _ rfl
 | .bin _ a b,_,_,_,h=>dT a _ _ λ _ _ aw=>dT b _ _ λ _ _ aB _ bZ=>h _ _ (aR aw (aR aB (aR bZ rfl)))
 | .qA a b,_,_,_,h=>dT a _ _ λ _ _ aw=>dT b _ _ λ _ _ aB _ bZ=>h _ _ (aR aw (aR aB (aR bZ rfl)))
 | .pE a b,_,_,_,h=>dT a _ _ λ _ _ aw=>dT b _ _ λ _ _ aB _ bZ=>h _ _ (aR aw (aR aB (aR bZ rfl)))
 | .neg a,_,_,_,h=>dT a _ _ λ _ _ aw _ bZ=>h _ _ (aR aw (aR bZ rfl))
 | .and O,_,_,_,h=>Mu O _ _ h
 | .or O,_,_,_,h=>Mz O _ _ h
 | .cmp _ a b,_,_,_,h=>dT a _ _ λ _ _ aw=>dT b _ _ λ _ _ aB _ bZ=>h _ _ (aR aw (aR aB (aR bZ rfl)))
 | .ite t a b,_,_,_,h=>uV t _ _ λ c _ aw=>match c,aw with
  |true,aw=>dT a _ _ λ _ _ aB=>h _ _ (aR aw aB)
  |false,aw=>dT b _ _ λ _ _ aB=>h _ _ (aR aw aB)
 | .tup O,_,_,_,h=>rk O _ _ λ _ _ aw=>BD λ aB=>h _ _ (aR aw (bb (fv aB) rfl))
 | .lst O,_,_,_,h=>rk O _ _ λ _ _ aw=>BD λ aB=>h _ _ (aR aw (bb (fv aB) rfl))
 | .m4 _ O,_,_,_,h=>rk O _ _ λ _ _ aw=>BD λ aB=>h _ _ (aR aw (bb (JS aB) rfl))
 | .pa _ O,_,_,_,h=>rk O _ _ λ _ _ aw=>BD λ aB=>h _ _ (aR aw (bb (JS aB) rfl))
 | .eP .i,_,_,_,h=>h _ _ rfl
 | .eP .s,_,_,_,h=>h _ _ rfl
 | .eP .t,_,_,_,h=>h _ _ rfl
 | .at a _,_,_,_,h=>dT a _ _ λ _ _ aw _ bZ=>h _ _ (aR aw (aR bZ rfl))
 | .aq a b,_,_,_,h=>dT a _ _ λ _ _ aw=>dT b _ _ λ _ _ aB _ bZ=>h _ _ (aR aw (aR aB (aR bZ rfl)))
 | .lj a b,_,_,_,h=>dT a _ _ λ _ _ aw=>dT b _ _ λ _ _ aB _ bZ=>h _ _ (aR aw (aR aB (aR bZ rfl)))
 | .mF a b,_,_,_,h=>dT a _ _ λ _ _ aw=>dT b _ _ λ _ _ aB _ bZ=>h _ _ (aR aw (aR aB (aR bZ rfl)))
 | .rev a,_,_,_,h=>dT a _ _ λ _ _ aw _ bZ=>h _ _ (aR aw (aR bZ rfl))
 | .comp _ _ _ i _,_,_,_,h=>dT i _ _ λ _ _ aw _ aB bZ _ _ dL=>h _ _ (aR aw (aR aB (bb bZ (aR dL rfl))))
 | .call _ O,_,_,_,h=>rk O _ _ λ _ _ aw _ _ aB=>h _ _ (aR aw aB)
 | .new _ O,_,_,_,h=>λ _ md=>rk O _ _ λ _ _ aw _ aB=>h _ _ (aR md (aR aw (aR aB rfl)))
 | .hj o _ O,_,_,_,h=>dT o _ _ λ _ _ md _ aw=>rk O _ _ λ _ _ aB _ _ bZ=>h _ _ (aR md (aR aw (aR aB bZ)))
 | .len a,_,_,_,h=>dT a _ _ λ _ _ aw _ bZ=>h _ _ (aR aw (aR bZ rfl))
 | .jb a,_,_,_,h=>dT a _ _ λ _ _ aw _ bZ=>h _ _ (aR aw (aR bZ rfl))
 | .sorted a,_,_,_,h=>dT a _ _ λ _ _ aw _ bZ=>h _ _ (aR aw (aR bZ rfl))
 | .strOf a,_,_,_,h=>dT a _ _ λ _ _ aw _ bZ=>h _ _ (aR aw (aR bZ rfl))
 | .gQ a,_,_,_,h=>dT a _ _ λ _ _ aw _ bZ=>h _ _ (aR aw (aR bZ rfl))
 | .pF a b,_,_,_,h=>dT a _ _ λ _ _ aw=>dT b _ _ λ _ _ aB _ bZ=>h _ _ (aR aw (aR aB (aR bZ rfl)))
 | .append o x,_,_,_,h=>dT o _ _ λ _ _ aw aB=>dT x _ _ λ _ _ bZ _ dL=>h _ _ (aR aw (bb aB (aR bZ (aR dL rfl))))
 | .m3 o k d,_,_,_,h=>dT o _ _ λ _ _ aw aB=>dT k _ _ λ _ _ bZ=>dT d _ _ λ _ _ dL _ fH=>h _ _ (aR aw (bb aB (aR bZ (aR dL (aR fH rfl)))))
 | .bad,_,_,_,_=>trivial
theorem rk:∀(e:d6) (env:aX) (n:St) {K:B D→St→Prop},(∀v J,ou P V e env n=some (v,J)→K v J)→qu P V e env n K
 | .nil,_,_,_,h=>h _ _ rfl
 | .cons e r,_,_,_,h=>dT e _ _ λ _ _ aw=>rk r _ _ λ _ _ aB=>h _ _ (aR aw (aR aB rfl))
theorem Mu:∀(e:d6) (env:aX) (n:St) {K:D→St→Prop},(∀v J,A2 P V e env n=some (v,J)→K v J)→FA P V e env n K
 | .nil,_,_,_,_=>trivial
 | .cons e .nil,_,_,_,h=>dT e _ _ h
 | .cons e (.cons bC r),_,_,_,h=>dT e _ _ λ _ _ aw b aB=>match b,aB with
  |true,aB=>Mu (.cons bC r) _ _ λ _ _ bZ=>h _ _ (aR aw (aR aB bZ))
  |false,aB=>h _ _ (aR aw (aR aB rfl))
theorem Mz:∀(e:d6) (env:aX) (n:St) {K:D→St→Prop},(∀v J,xY P V e env n=some (v,J)→K v J)→FC P V e env n K
 | .nil,_,_,_,_=>trivial
 | .cons e .nil,_,_,_,h=>dT e _ _ h
 | .cons e (.cons bC r),_,_,_,h=>dT e _ _ λ _ _ aw b aB=>match b,aB with
  |false,aB=>Mz (.cons bC r) _ _ λ _ _ bZ=>h _ _ (aR aw (aR aB bZ))
  |true,aB=>h _ _ (aR aw (aR aB rfl))
theorem uV:∀(e:T) (env:aX) (n:St) {K:av→St→Prop},(∀v J,fr P V e env n=some (v,J)→K v J)→s4 P V e env n K
 | .e a,_,_,_,h=>dT a _ _ λ _ _ aw _ aB=>h _ _ (aR aw (aR aB rfl))
 | .g4 t,_,_,_,h=>uV t _ _ λ _ _ aw=>h _ _ (aR aw rfl)
 | .and bE,_,_,_,h=>ME bE _ _ h
 | .or bE,_,_,_,h=>MD bE _ _ h
 | .cmp _ a b,_,_,_,h=>dT a _ _ λ _ _ aw=>dT b _ _ λ _ _ aB _ bZ=>h _ _ (aR aw (aR aB (aR bZ rfl)))
theorem ME:∀(e:fb) (env:aX) (n:St) {K:av→St→Prop},(∀v J,hp P V e env n=some (v,J)→K v J)→FE P V e env n K
 | .nil,_,_,_,h=>h _ _ rfl
 | .cons t r,_,_,_,h=>uV t _ _ λ b _ aw=>match b,aw with
  |true,aw=>ME r _ _ λ _ _ aB=>h _ _ (aR aw aB)
  |false,aw=>h _ _ (aR aw rfl)
theorem MD:∀(e:fb) (env:aX) (n:St) {K:av→St→Prop},(∀v J,A3 P V e env n=some (v,J)→K v J)→FD P V e env n K
 | .nil,_,_,_,h=>h _ _ rfl
 | .cons t r,_,_,_,h=>uV t _ _ λ b _ aw=>match b,aw with
  |false,aw=>MD r _ _ λ _ _ aB=>h _ _ (aR aw aB)
  |true,aw=>h _ _ (aR aw rfl)
end
end
section
variable(P:iW)(V:jg)
mutual
noncomputable def NN:S→aX→St→(eZ→St→Prop)→Prop
 | .asg x e,env,n,K=>dO P V e env n λ v aa=>K (.br (iP env x v)) aa
 | .o1 xs e,env,n,K=>dO P V e env n λ v aa=>∀aF,dh true xs v env=some aF→K (.br aF) aa
 | .cc o f e,env,n,K=>dO P V e env n λ v aa=>dO P V o env aa λ fy ao=>∀J,lh P ao fy f v=some J→K (.br env) J
 | .gJ o i e,env,n,K=>dO P V e env n λ v aa=>dO P V o env aa λ fy ao=>dO P V i env ao λ fM bW=>∀J,j' bW fy fM v=some J→K (.br env) J
 | .aug x op e,env,n,K=>Ay (λ a=>dO P V e env n λ v aa=>∀r,kD op a v=some r→K (.br (iP env x r)) aa) x env
 | .o3 o f op e,env,n,K=>dO P V o env n λ fy aa=>∀a,d7 aa fy f=some a→dO P V e env aa λ v ao=>∀r,kD op a v=some r→∀J,lh P ao fy f r=some J→K (.br env) J
 | .o4 o i op e,env,n,K=>dO P V o env n λ fy aa=>dO P V i env aa λ fM ao=>∀a,vv ao fy fM=some a→dO P V e env ao λ v bW=>∀r,kD op a v=some r→∀J,j' bW fy fM r=some J→K (.br env) J
 | .ex e,env,n,K=>dO P V e env n λ _ aa=>K (.br env) aa
 | .ret e,env,n,K=>dO P V e env n λ v aa=>K (.f5 v) aa
 | .mD,_,n,K=>K (.f5 .nn) n
 | .b4 t a b,env,n,K=>s4 P V t env n λ c aa=>match c with|true=>s3 a env aa K|false=>s3 b env aa K
 | .pL t b,env,n,K=>∀r J,oC (fr P V t) (bS P V b) 60 env n=some (r,J)→K r J
 | .dc xs many bb b,env,n,K=>dO P V bb env n λ v aa=>∀l,hR aa v=some l→l.length≤100000→∀r J,
   @fD (live v l) (e0 v l) (λ x aF J=>(dh many xs x aF).bind λ dG=>bS P V b dG J) l env aa=some (r,J)→K r J
 | .bad,_,_,_=>True
noncomputable def s3:bk→aX→St→(eZ→St→Prop)→Prop
 | .nil,env,n,K=>K (.br env) n
 | .cons s r,env,n,K=>NN s env n λ x aa=>match x with
  | .br aF=>s3 r aF aa K
  | .f5 v=>K (.f5 v) aa
end
end
section
variable{P:iW}{V:jg}
mutual
theorem Zm:∀(e:S) (env:aX) (n:St) {K:eZ→St→Prop},(∀v J,jT P V e env n=some (v,J)→K v J)→NN P V e env n K
 | .asg _ e,_,_,_,h=>dT e _ _ λ _ _ aw=>h _ _ (aR aw rfl)
 | .o1 _ e,_,_,_,h=>dT e _ _ λ _ _ aw _ aB=>h _ _ (aR aw (aR aB rfl))
 | .cc o _ e,_,_,_,h=>dT e _ _ λ _ _ aw=>dT o _ _ λ _ _ aB _ bZ=>h _ _ (aR aw (aR aB (aR bZ rfl)))
 | .gJ o i e,_,_,_,h=>dT e _ _ λ _ _ aw=>dT o _ _ λ _ _ aB=>dT i _ _ λ _ _ bZ _ dL=>h _ _ (aR aw (aR aB (aR bZ (aR dL rfl))))
 | .aug x _ e,_,_,_,h=>EZ x _ λ _ md=>dT e _ _ λ _ _ aw _ aB=>h _ _ (aR md (aR aw (aR aB rfl)))
 | .o3 o _ _ e,_,_,_,h=>dT o _ _ λ _ _ aw _ aB=>dT e _ _ λ _ _ bZ _ dL _ fH=>h _ _ (aR aw (aR aB (aR bZ (aR dL (aR fH rfl)))))
 | .o4 o i _ e,_,_,_,h=>dT o _ _ λ _ _ aw=>dT i _ _ λ _ _ aB _ bZ=>dT e _ _ λ _ _ dL _ fH _ j4=>h _ _ (aR aw (aR aB (aR bZ (aR dL (aR fH (aR j4 rfl))))))
 | .ex e,_,_,_,h=>dT e _ _ λ _ _ aw=>h _ _ (aR aw rfl)
 | .ret e,_,_,_,h=>dT e _ _ λ _ _ aw=>h _ _ (aR aw rfl)
 | .mD,_,_,_,h=>h _ _ rfl
 | .b4 t a b,_,_,_,h=>uV t _ _ λ c _ aw=>match c,aw with
  |true,aw=>xk a _ _ λ _ _ aB=>h _ _ (aR aw aB)
  |false,aw=>xk b _ _ λ _ _ aB=>h _ _ (aR aw aB)
 | .pL _ _,_,_,_,h=>λ _ _ e=>h _ _ e
 | .dc _ _ i _,_,_,_,h=>dT i _ _ λ _ _ aw _ aB bZ _ _ dL=>h _ _ (aR aw (aR aB (bb bZ dL)))
 | .bad,_,_,_,_=>trivial
theorem xk:∀(e:bk) (env:aX) (n:St) {K:eZ→St→Prop},(∀v J,bS P V e env n=some (v,J)→K v J)→s3 P V e env n K
 | .nil,_,_,_,h=>h _ _ rfl
 | .cons s r,_,_,_,h=>Zm s _ _ λ x _ aw=>match x,aw with
  | .br _,aw=>xk r _ _ λ _ _ aB=>h _ _ (aR aw aB)
  | .f5 _,aw=>h _ _ (aR aw rfl)
end
noncomputable def eZ.val:eZ→D
 | .br _=>.nn
 | .f5 v=>v
theorem Zl{z f:C}{d:oL}{b6:B D}{n:St}(a1:P.fns f=some d)(hl:b6.length=d.np):s3 P (runN P z) d.body (b6.map some++dw (d.nl-d.np) none) n λ r J=>runN P (z+1) f b6 n=some (r.val,J):=
 xk d.body _ _ λ v _ e=>aR a1 (bb hl (aR e (by cases v<;>rfl)))
theorem jG{o:Y av}{p:Prop}{d:v1 p}(g:o=some (@decide p d))(h:p):o=some true:=g.trans (an some (iL h))
theorem iK{o:Y av}{p:Prop}{d:v1 p}(g:o=some (@decide p d))(h:¬p):o=some false:=g.trans (an some (j3 h))
theorem fc{dq:St→Prop}{jl:qM dq}{step:D→aX→St→Y (eZ×St)}{x:D}{r:B D}{env aF:aX}{n J:St}{R:Y (eZ×St)}(hl:dq n)(h:step x env n=some (.br aF,J))(e: @fD dq jl step r aF J=R): @fD dq jl step (x::r) env n=R:=(if_pos hl).trans (aR h e)
theorem DQ{dq:St→Prop}{jl:qM dq}{step:D→aX→St→Y (eZ×St)}{ae:Y D→aX}{n:St}(hl:dq n):∀{xs:B D} (o:Y D),(∀x,x∈xs→∀o,step x (ae o) n=some (.br (ae (some x)),n))→∃c3,@fD dq jl step xs (ae o) n=some (.br (ae c3),n)
 | [],o,_=>⟨o,if_pos hl⟩
 |x::_,o,h=>let⟨c3,e⟩:=DQ hl (some x) λ y bI=>h y (.tail _ bI);⟨c3,(if_pos hl).trans (aR (h x (.head _) o) e)⟩
end
end Mine
end
section
namespace Mine
variable{α:Type}{o:Y α}{a:α}{c4:Type}{M:Prop}{r:α}
section
variable{P:iW}{V:jg}{g6:C→B D→dC→St→Prop}
noncomputable def oI(V:jg)(g6:C→B D→dC→St→Prop):Prop:=∀f b6 n v J (Q:dC),V f b6 n=some (v,J)→Q v J→g6 f b6 Q n
theorem e3{k:α→Prop}(h:o=some a)(q:k a):et o k:=by rw[h];exact q
theorem b1{f:α→Y c4}{x:c4}(h:o.bind f=some x)(k:∀a,o=some a→f a=some x→M):M:=let⟨a,e,q⟩:=yN.mp h;k a e q
theorem dP{c:α}{b d:c4}{Q:α→c4→Prop}(h:some (a,b)=some (c,d))(q:Q c d):Q a b:=by cases h;exact q
theorem mi{p:Prop}{d:v1 p}{a:Y α}(h:(if p then a else none)=some r)(k:p→a=some r→M):M:=by
 split at h
 ·exact k ‹_› h
 ·exact nomatch h
theorem ri{b:av}{x y:α}{Q R:Prop}(h:(if b=true then x else y)=r)(c2:x=r→Q)(dW:y=r→R):if b=true then Q else R:=by
 cases b
 ·exact dW h
 ·exact c2 h
theorem Ks{dq:St→Prop}{jl:qM dq}{step:D→St→Y (B D×St)}{ea:D→(B D→St→Prop)→St→Prop}(hs:∀x n out J K,step x n=some (out,J)→K out J→ea x K n):
  ∀{l acc:B D} {n J:St} {out:B D} {Q:B D→St→Prop},@lF dq jl step l acc n=some (out,J)→Q out J→o' dq ea l acc Q n
 | [],_,_,_,_,_,h,q=>mi h λ p h=>⟨p,dP h q⟩
 |_::_,_,_,_,_,_,h,q=>mi h λ p h=>⟨p,b1 h λ _ ax aH=>hs _ _ _ _ _ ax (Ks hs aH q)⟩
theorem abv{α:Type}{v:D}{a r:α}{Q:Prop}(h:(match v with| .nn=>some a|_=>none)=some r)(k:a=r→Q):v= .nn∧Q:=by
 cases v<;>first|exact⟨rfl,k (ej h)⟩|exact nomatch h
mutual
theorem dV(bV:oI V g6):∀(e:ab) {env:aX} {n J:St} {v:D} {Q:dC},ci P V e env n=some (v,J)→Q v J→di P g6 e env Q n
 | .nn,_,_,_,_,Q,h,q=>dP (Q:=Q) h q
 | .cj _,_,_,_,_,Q,h,q=>dP (Q:=Q) h q
 | .ii _,_,_,_,_,Q,h,q=>dP (Q:=Q) h q
 | .ss _,_,_,_,_,Q,h,q=>dP (Q:=Q) h q
 | .v _,_,_,_,_,Q,h,q=>b1 h λ _ ax h=>e3 ax (dP (Q:=Q) h q)
 | .gl _ _,_,_,_,_,Q,h,q=>dP (Q:=Q) h q
 | .bin _ a b,_,_,_,_,Q,h,q=>b1 h λ _ ax h=>b1 h λ _ aH h=>b1 h λ _ cI h=>dV bV a ax (dV bV b aH (e3 cI (dP (Q:=Q) h q)))
 | .qA a b,_,_,_,_,Q,h,q=>b1 h λ _ ax h=>b1 h λ _ aH h=>b1 h λ _ cI h=>dV bV a ax (dV bV b aH (e3 cI (dP (Q:=Q) h q)))
 | .pE a b,_,_,_,_,Q,h,q=>b1 h λ _ ax h=>b1 h λ _ aH h=>b1 h λ _ cI h=>dV bV a ax (dV bV b aH (e3 cI (dP (Q:=Q) h q)))
 | .neg a,_,_,_,_,Q,h,q=>b1 h λ _ ax h=>b1 h λ _ aH h=>dV bV a ax (e3 aH (dP (Q:=Q) h q))
 | .and O,_,_,_,_,_,h,q=>Oz bV O h q
 | .or O,_,_,_,_,_,h,q=>OH bV O h q
 | .cmp _ a b,_,_,_,_,Q,h,q=>b1 h λ _ ax h=>b1 h λ _ aH h=>b1 h λ _ cI h=>dV bV a ax (dV bV b aH (e3 cI (dP (Q:=Q) h q)))
 | .ite t a b,_,_,_,_,_,h,q=>b1 h λ _ ax h=>vA bV t ax (ri h (λ h=>dV bV a h q) λ h=>dV bV b h q)
 | .tup O,_,_,_,_,Q,h,q=>b1 h λ _ ax h=>mi h λ p h=>rJ bV O ax ⟨p,dP (Q:=Q) h q⟩
 | .lst O,_,_,_,_,Q,h,q=>b1 h λ _ ax h=>mi h λ p h=>rJ bV O ax ⟨p,dP (Q:=Q) h q⟩
 | .m4 _ O,_,_,_,_,Q,h,q=>b1 h λ _ ax h=>mi h λ p h=>rJ bV O ax ⟨p,dP (Q:=Q) h q⟩
 | .pa _ O,_,_,_,_,Q,h,q=>b1 h λ _ ax h=>mi h λ p h=>rJ bV O ax ⟨p,dP (Q:=Q) h q⟩
 | .eP .i,_,_,_,_,Q,h,q=>dP (Q:=Q) h q
 | .eP .s,_,_,_,_,Q,h,q=>dP (Q:=Q) h q
 | .eP .t,_,_,_,_,Q,h,q=>dP (Q:=Q) h q
 | .at a _,_,_,_,_,Q,h,q=>b1 h λ _ ax h=>b1 h λ _ aH h=>dV bV a ax (e3 aH (dP (Q:=Q) h q))
 | .aq a b,_,_,_,_,Q,h,q=>b1 h λ _ ax h=>b1 h λ _ aH h=>b1 h λ _ cI h=>dV bV a ax (dV bV b aH (e3 cI (dP (Q:=Q) h q)))
 | .lj a b,_,_,_,_,Q,h,q=>b1 h λ _ ax h=>b1 h λ _ aH h=>b1 h λ _ cI h=>dV bV a ax (dV bV b aH (e3 cI (dP (Q:=Q) h q)))
 | .mF a b,_,_,_,_,Q,h,q=>b1 h λ _ ax h=>b1 h λ _ aH h=>b1 h λ _ cI h=>dV bV a ax (dV bV b aH (e3 cI (dP (Q:=λ r n=>Q r n) h q)))
 | .rev a,_,_,_,_,Q,h,q=>b1 h λ _ ax h=>b1 h λ _ aH h=>dV bV a ax (e3 aH (dP (Q:=Q) h q))
 | .comp b7 _ _ i bE,_,_,_,_,Q,h,q=>b1 h λ _ ax h=>b1 h λ _ aH h=>mi h λ p h=>b1 h λ _ cI h=>dV bV i ax (e3 aH ⟨p,Ks (by exact λ _ _ _ _ K h k=>b1 h λ _ ax h=>b1 h λ _ aH h=>e3 ax (Gi bV bE aH (ri h (λ h=>b1 h λ _ cI h=>dV bV b7 cI (dP (Q:=K) h k)) λ h=>dP (Q:=K) h k))) cI (dP (Q:=Q) h q)⟩)
 | .call _ O,_,_,_,_,_,h,q=>b1 h λ _ ax h=>rJ bV O ax (bV _ _ _ _ _ _ h q)
 | .new _ O,_,_,_,_,_,h,q=>b1 h λ _ ec h=>b1 h λ _ ax h=>b1 h λ _ aH h=>e3 ec (rJ bV O ax (bV _ _ _ _ _ _ aH (abv h λ e=>by cases e;exact q)))
 | .hj o _ O,_,_,_,_,_,h,q=>b1 h λ _ ec h=>b1 h λ _ ax h=>b1 h λ _ aH h=>dV bV o ec (e3 ax (rJ bV O aH (bV _ _ _ _ _ _ h q)))
 | .len a,_,_,_,_,Q,h,q=>b1 h λ _ ax h=>b1 h λ _ aH h=>dV bV a ax (e3 aH (dP (Q:=Q) h q))
 | .jb a,_,_,_,_,Q,h,q=>b1 h λ _ ax h=>b1 h λ _ aH h=>dV bV a ax (e3 aH (dP (Q:=Q) h q))
 | .sorted a,_,_,_,_,Q,h,q=>b1 h λ _ ax h=>b1 h λ _ aH h=>dV bV a ax (e3 aH (dP (Q:=Q) h q))
 | .strOf a,_,_,_,_,Q,h,q=>b1 h λ _ ax h=>b1 h λ _ aH h=>dV bV a ax (e3 aH (dP (Q:=Q) h q))
 | .gQ a,_,_,_,_,Q,h,q=>b1 h λ _ ax h=>b1 h λ _ aH h=>dV bV a ax (e3 aH (dP (Q:=Q) h q))
 | .pF a b,_,_,_,_,Q,h,q=>b1 h λ _ ax h=>b1 h λ _ aH h=>b1 h λ _ cI h=>dV bV a ax (dV bV b aH (e3 cI (dP (Q:=Q) h q)))
 | .append o x,_,_,_,_,Q,h,q=>b1 h λ _ ax h=>mi h λ p h=>b1 h λ _ aH h=>b1 h λ _ cI h=>dV bV o ax ⟨p,dV bV x aH (e3 cI (dP (Q:=Q) h q))⟩
 | .m3 o k d,_,_,_,_,Q,h,q=>b1 h λ _ ax h=>mi h λ p h=>b1 h λ _ aH h=>b1 h λ _ cI h=>b1 h λ _ gh h=>dV bV o ax ⟨p,dV bV k aH (dV bV d cI (e3 gh (dP (Q:=Q) h q)))⟩
theorem rJ(bV:oI V g6):∀(O:d6) {env:aX} {n J:St} {v:B D} {Q:B D→St→Prop},ou P V O env n=some (v,J)→Q v J→m6 P g6 O env Q n
 | .nil,_,_,_,_,Q,h,q=>dP (Q:=Q) h q
 | .cons e r,_,_,_,_,Q,h,q=>b1 h λ _ ax h=>b1 h λ _ aH h=>dV bV e ax (rJ bV r aH (dP (Q:=Q) h q))
theorem Oz(bV:oI V g6):∀(O:d6) {env:aX} {n J:St} {v:D} {Q:dC},A2 P V O env n=some (v,J)→Q v J→wz P g6 O env Q n
 | .nil,_,_,_,_,_,h,_=>nomatch h
 | .cons e .nil,_,_,_,_,_,h,q=>dV bV e h q
 | .cons e (.cons bC r),_,_,_,_,Q,h,q=>b1 h λ _ ax h=>b1 h λ _ aH h=>dV bV e ax (e3 aH (ri h (λ h=>Oz bV (.cons bC r) h q) λ h=>dP (Q:=Q) h q))
theorem OH(bV:oI V g6):∀(O:d6) {env:aX} {n J:St} {v:D} {Q:dC},xY P V O env n=some (v,J)→Q v J→xM P g6 O env Q n
 | .nil,_,_,_,_,_,h,_=>nomatch h
 | .cons e .nil,_,_,_,_,_,h,q=>dV bV e h q
 | .cons e (.cons bC r),_,_,_,_,Q,h,q=>b1 h λ _ ax h=>b1 h λ _ aH h=>dV bV e ax (e3 aH (ri h (λ h=>dP (Q:=Q) h q) λ h=>OH bV (.cons bC r) h q))
theorem vA(bV:oI V g6):∀(t:T) {env:aX} {n J:St} {v:av} {Q:av→St→Prop},fr P V t env n=some (v,J)→Q v J→qI P g6 t env Q n
 | .e a,_,_,_,_,Q,h,q=>b1 h λ _ ax h=>b1 h λ _ aH h=>dV bV a ax (e3 aH (dP (Q:=Q) h q))
 | .g4 t,_,_,_,_,Q,h,q=>b1 h λ _ ax h=>vA bV t ax (dP (Q:=Q) h q)
 | .and bE,_,_,_,_,_,h,q=>Gi bV bE h q
 | .or bE,_,_,_,_,_,h,q=>OJ bV bE h q
 | .cmp _ a b,_,_,_,_,Q,h,q=>b1 h λ _ ax h=>b1 h λ _ aH h=>b1 h λ _ cI h=>dV bV a ax (dV bV b aH (e3 cI (dP (Q:=Q) h q)))
theorem Gi(bV:oI V g6):∀(t:fb) {env:aX} {n J:St} {v:av} {Q:av→St→Prop},hp P V t env n=some (v,J)→Q v J→rN P g6 t env Q n
 | .nil,_,_,_,_,Q,h,q=>dP (Q:=Q) h q
 | .cons t r,_,_,_,_,Q,h,q=>b1 h λ _ ax h=>vA bV t ax (ri h (λ h=>Gi bV r h q) λ h=>dP (Q:=Q) h q)
theorem OJ(bV:oI V g6):∀(t:fb) {env:aX} {n J:St} {v:av} {Q:av→St→Prop},A3 P V t env n=some (v,J)→Q v J→Bv P g6 t env Q n
 | .nil,_,_,_,_,Q,h,q=>dP (Q:=Q) h q
 | .cons t r,_,_,_,_,Q,h,q=>b1 h λ _ ax h=>vA bV t ax (ri h (λ h=>dP (Q:=Q) h q) λ h=>OJ bV r h q)
end
noncomputable def iI(cb:iV)(cF:dC):eZ→St→Prop
 | .br env,n=>cb env n
 | .f5 v,n=>cF v n
theorem F5{r x:eZ}{n J:St}{f:aX→Y (eZ×St)}{cb Jg:iV}{cF:dC}(h:(match r with| .br env=>f env| .f5 v=>some (.f5 v,n))=some (x,J))(q:iI cb cF x J)(k:∀env,f env=some (x,J)→Jg env n):iI Jg cF r n:=by
 cases r with
 |br env=>exact k env h
 |f5 v=>cases h;exact q
theorem La{dq:St→Prop}{jl:qM dq}{step:D→aX→St→Y (eZ×St)}{ea:D→aX→iV→St→Prop}{cF:dC}(hs:∀x env n r J K,step x env n=some (r,J)→iI K cF r J→ea x env K n):
  ∀{l:B D} {env:aX} {n J:St} {r:eZ} {cb:iV},@fD dq jl step l env n=some (r,J)→iI cb cF r J→zR dq ea l env cb n
 | [],_,_,_,_,_,h,q=>mi h λ p h=>⟨p,dP (Q:=λ r n=>iI _ cF r n) h q⟩
 |_::_,_,_,_,_,_,h,q=>mi h λ p h=>⟨p,b1 h λ _ ax aH=>hs _ _ _ _ _ _ ax (F5 aH q λ _ h=>La hs h q)⟩
theorem P1{lT:aX→St→Y (av×St)}{body:aX→St→Y (eZ×St)}{PC:aX→(av→St→Prop)→St→Prop}{JR:aX→iV→St→Prop}{cF:dC}(bD:∀env n b J K,lT env n=some (b,J)→K b J→PC env K n)
  (az:∀env n r J K,body env n=some (r,J)→iI K cF r J→JR env K n):∀{z:C} {env:aX} {n J:St} {r:eZ} {cb:iV},oC lT body z env n=some (r,J)→iI cb cF r J→BE PC JR z env cb n
 |0,_,_,_,_,_,h,_=>nomatch h
 |_+1,_,_,_,_,_,h,q=>b1 h λ _ ax h=>bD _ _ _ _ _ ax (ri h (λ h=>b1 h λ _ aH h=>az _ _ _ _ _ aH (F5 h q λ _ h=>P1 bD az h q)) λ h=>dP (Q:=λ r n=>iI _ cF r n) h q)
mutual
theorem adM(bV:oI V g6):∀(t:S) {env:aX} {n J:St} {r:eZ} {cb:iV} {cF:dC},jT P V t env n=some (r,J)→iI cb cF r J→GB P g6 t env cb cF n
 | .asg _ e,_,_,_,_,cb,cF,h,q=>b1 h λ _ ax h=>dV bV e ax (dP (Q:=iI cb cF) h q)
 | .o1 _ e,_,_,_,_,cb,cF,h,q=>b1 h λ _ ax h=>b1 h λ _ aH h=>dV bV e ax (e3 aH (dP (Q:=iI cb cF) h q))
 | .cc o _ e,_,_,_,_,cb,cF,h,q=>b1 h λ _ ax h=>b1 h λ _ aH h=>b1 h λ _ cI h=>dV bV e ax (dV bV o aH (e3 cI (dP (Q:=iI cb cF) h q)))
 | .gJ o i e,_,_,_,_,cb,cF,h,q=>b1 h λ _ ax h=>b1 h λ _ aH h=>b1 h λ _ cI h=>b1 h λ _ gh h=>dV bV e ax (dV bV o aH (dV bV i cI (e3 gh (dP (Q:=iI cb cF) h q))))
 | .aug _ _ e,_,_,_,_,cb,cF,h,q=>b1 h λ _ ec h=>b1 h λ _ ax h=>b1 h λ _ aH h=>e3 ec (dV bV e ax (e3 aH (dP (Q:=iI cb cF) h q)))
 | .o3 o _ _ e,_,_,_,_,cb,cF,h,q=>b1 h λ _ ec h=>b1 h λ _ ax h=>b1 h λ _ aH h=>b1 h λ _ cI h=>b1 h λ _ gh h=>dV bV o ec (e3 ax (dV bV e aH (e3 cI (e3 gh (dP (Q:=iI cb cF) h q)))))
 | .o4 o i _ e,_,_,_,_,cb,cF,h,q=>b1 h λ _ ec h=>b1 h λ _ ax h=>b1 h λ _ aH h=>b1 h λ _ cI h=>b1 h λ _ gh h=>b1 h λ _ kz h=>dV bV o ec (dV bV i ax (e3 aH (dV bV e cI (e3 gh (e3 kz (dP (Q:=iI cb cF) h q))))))
 | .ex e,_,_,_,_,cb,cF,h,q=>b1 h λ _ ax h=>dV bV e ax (dP (Q:=iI cb cF) h q)
 | .ret e,_,_,_,_,cb,cF,h,q=>b1 h λ _ ax h=>dV bV e ax (dP (Q:=iI cb cF) h q)
 | .mD,_,_,_,_,cb,cF,h,q=>dP (Q:=iI cb cF) h q
 | .b4 t a b,_,_,_,_,_,_,h,q=>b1 h λ _ ax h=>vA bV t ax (ri h (λ h=>tg bV a h q) λ h=>tg bV b h q)
 | .pL t b,_,_,_,_,_,_,h,q=>P1 (by exact λ _ _ _ _ _ h k=>vA bV t h k) (by exact λ _ _ _ _ _ h k=>tg bV b h k) (show oC (fr P V t) (bS P V b) 60 _ _=_ from h) q
 | .dc _ _ i b,_,_,_,_,_,_,h,q=>b1 h λ _ ax h=>b1 h λ _ aH h=>mi h λ p h=>dV bV i ax (e3 aH ⟨p,La (by exact λ _ _ _ _ _ _ h k=>b1 h λ _ ax h=>e3 ax (tg bV b h k)) h q⟩)
theorem tg(bV:oI V g6):∀(t:bk) {env:aX} {n J:St} {r:eZ} {cb:iV} {cF:dC},bS P V t env n=some (r,J)→iI cb cF r J→nu P g6 t env cb cF n
 | .nil,_,_,_,_,cb,cF,h,q=>dP (Q:=iI cb cF) h q
 | .cons s r,_,_,_,_,_,_,h,q=>b1 h λ _ ax h=>adM bV s ax (F5 h q λ _ h=>tg bV r h q)
end
end
theorem Ou{P:iW}:∀z,oI (runN P z) (sw P z)
 |0=>λ _ _ _ _ _ _ h=>nomatch h
 |z+1=>λ _ _ _ _ _ _ h q=>b1 h λ _ ax h=>mi h λ p h=>b1 h λ x aH h=>e3 ax ⟨p,tg (Ou z) _ aH (by
   obtain⟨r,n⟩:=x
   cases r<;>(cases h;exact q))⟩
end Mine
end
section
namespace Mine
variable{α:Type}{n:St}
inductive aN where
 |kt|k'|jo|mo|mq|kF
 |store|types|meths
 |ty (l:C)|dv (l:C)|cM (l:C)|tyP (l:C)
 |bl (j:C)|aha (j:C)
 |host|fE|dx
 |w|dR|eb|fz|gA|hH
 |row (j:C)|st (j:C)
 |ih|ju|eH|h8
 |want|ei (l:C)
 |a6 (m:C)
variable{r:aN}
noncomputable abbrev bH:=aN→C
variable{a:bH}
noncomputable abbrev aT:=aN→Y a0
variable{h:aT}
open Classical in
noncomputable def up(h:aN→α)(r:aN)(x:α):aN→α:=λ bw=>if bw=r then x else h bw
theorem cR(h:aN→α)(r:aN)(x:α):up h r x r=x:=by simp[up]
theorem bP(h:aN→α){bw:aN}(x:α)(z:bw≠r):up h r x bw=h bw:=by simp[up,z]
structure Good(a:bH)(h:aT)(n:St):Prop where
 at_:∀r o,h r=some o→n[a r]? =some o
 inj:∀r bw,(h r).isSome=true→(h bw).isSome=true→a r=a bw→r=bw
 a6:∀m,a (.a6 m)=m
theorem Good.lt(g:Good a h n)(e:(h r).isSome=true):a r<n.length:=by
 obtain⟨o,e⟩:=oT.mp e
 exact(jZ.mp (g.at_ r o e)).1
theorem Good.set(g:Good a h n){o c3:a0}(e:h r=some o):Good a (up h r (some c3)) (n.set (a r) c3) where
 at_:=λ bw x bC=>by
  by_cases q:bw=r
  ·subst q
   rw[cR]at bC;cases bC
   rw[yE (g.lt (by rw[e];rfl))]
  ·rw[bP _ _ q]at bC
   rw[tP]
   ·exact g.at_ bw x bC
   ·intro L
    exact q (g.inj _ _ (by rw[bC];rfl) (by rw[e];rfl) L.symm)
 inj:=λ fU gP ax aH=>by
  have f:∀bw,(up h r (some c3) bw).isSome=true→(h bw).isSome=true:=λ bw q=>by
   by_cases L:bw=r
   ·subst L;rw[e];rfl
   ·rwa [bP _ _ L]at q
  exact g.inj _ _ (f _ ax) (f _ aH)
 a6:=g.a6
theorem Good.kE(g:Good a h n)(o:a0):Good a h (n++[o]) where
 at_:=λ r x e=>by
  have:=g.at_ r x e
  rw[qR (jZ.mp this).1];exact this
 inj:=g.inj
 a6:=g.a6
theorem Good.less{H:aT}(g:Good a H n)(q:∀r o,h r=some o→H r=some o):Good a h n where
 at_:=λ r o e=>g.at_ r o (q r o e)
 inj:=λ r bw e bC=>by
  obtain⟨o,e⟩:=oT.mp e
  obtain⟨c3,bC⟩:=oT.mp bC
  exact g.inj r bw (by rw[q _ _ e];rfl) (by rw[q _ _ bC];rfl)
 a6:=g.a6
theorem Good.mH(g:Good a h n)(o:a0):Good a (up h (.a6 n.length) (some o)) (n++[o]) where
 at_:=λ bw x e=>by
  by_cases q:bw= .a6 n.length
  ·subst q
   rw[cR]at e;cases e
   rw[g.a6];simp
  ·rw[bP _ _ q]at e
   exact(g.kE o).at_ bw x e
 inj:=λ fU gP ax aH q=>by
  by_cases d4:fU= .a6 n.length<;>by_cases d5:gP= .a6 n.length
  ·rw[d4,d5]
  ·subst d4
   rw[g.a6]at q
   rw[bP _ _ d5]at aH
   exact absurd (g.lt aH) (by omega)
  ·subst d5
   rw[g.a6]at q
   rw[bP _ _ d4]at ax
   exact absurd (g.lt ax) (by omega)
  ·rw[bP _ _ d4]at ax
   rw[bP _ _ d5]at aH
   exact g.inj _ _ ax aH q
 a6:=g.a6
theorem Good.fresh(g:Good a h n){m:C}(q:n.length≤m):h (.a6 m)=none:=by
 cases e:h (.a6 m)with
 |none=>rfl
 |some o=>have:=g.lt (r:=.a6 m) (by rw[e];rfl);rw[g.a6]at this;omega
theorem Good.new(g:Good a h n)(r:aN)(a4:∀m,r≠ .a6 m)(o:a0):Good (up a r n.length) (up h r (some o)) (n++[o]) where
 at_:=λ bw x e=>by
  by_cases q:bw=r
  ·subst q
   rw[cR]at e;cases e
   rw[cR];simp
  ·rw[bP _ _ q]at e⊢
   exact(g.kE o).at_ bw x e
 inj:=λ fU gP ax aH q=>by
  by_cases d4:fU=r<;>by_cases d5:gP=r
  ·rw[d4,d5]
  ·subst d4
   rw[cR,bP _ _ d5]at q
   rw[bP _ _ d5]at aH
   exact absurd (g.lt aH) (by omega)
  ·subst d5
   rw[cR,bP _ _ d4]at q
   rw[bP _ _ d4]at ax
   exact absurd (g.lt ax) (by omega)
  ·rw[bP _ _ d4,bP _ _ d5]at q
   rw[bP _ _ d4]at ax
   rw[bP _ _ d5]at aH
   exact g.inj _ _ ax aH q
 a6:=λ m=>by rw[bP _ _ (λ e=>a4 m e.symm)];exact g.a6 m
section
variable{P:iW}{V:jg}
theorem Gm{s:S}{r:bk}{env aF:aX}{aa:St}(h:jT P V s env n=some (.br aF,aa)):bS P V (.cons s r) env n=bS P V r aF aa:=by simp only[bS,h,Option.bind_some]
end
theorem cN(z f:C)(b6:B D)(n:St){d:oL}(a1:ac.fns f=some d)(hl:b6.length=d.np):s3 ac (runN ac z) d.body (b6.map some++dw (d.nl-d.np) none) n λ r J=>runN ac (z+1) f b6 n=some (r.val,J):=Zl a1 hl
theorem hI(z:C)(b:ab)(env:aX)(n:St):dO ac (runN ac z) b env n λ r J=>ci ac (runN ac z) b env n=some (r,J):=dT b env n λ _ _ e=>e
theorem jd(z:C)(b:T)(env:aX)(n:St):s4 ac (runN ac z) b env n λ r J=>fr ac (runN ac z) b env n=some (r,J):=uV b env n λ _ _ e=>e
theorem dk(z:C)(b:bk)(env:aX)(n:St):s3 ac (runN ac z) b env n λ r J=>bS ac (runN ac z) b env n=some (r,J):=xk b env n λ _ _ e=>e
end Mine
end
section
namespace Mine
variable{x y m:C}{xs:B D}{k:C}{ks:B C}{t:C}
inductive aP where
 |p (z:C)
 |v (i:C)
 |a (k:C)
 |g (t:C) (ks:B C)
noncomputable def E(k:C):D:=.ii (k:am)
noncomputable def fe:aP→D
 | .p z=>.tup [.ii 1,E z]
 | .v i=>.tup [.ii 6,E i]
 | .a k=>.tup [.ii 4,E k]
 | .g t ks=>.tup [.ii 2,E t,.tup (ks.map E)]
noncomputable def hY:aP→gT
 | .p z=>[.inl 1,.inl z]
 | .v i=>[.inl 6,.inl i]
 | .a k=>[.inl 4,.inl k]
 | .g t ks=>[.inl 2,.inl t,.inr (ks.map λ k:C=>(k:am))]
noncomputable def gG:aP→B C
 | .p _=>[]
 | .v _=>[]
 | .a k=>[k]
 | .g _ ks=>ks
theorem Px:∀ks:B C,vJ (ks.map E)=some (ks.map λ k:C=>(k:am))
 | []=>rfl
 |k::ks=>by
  show(vJ (ks.map E)).map _=_
  rw[Px ks];rfl
theorem Py(r:aP):Bu (fe r)=some (hY r):=by
 cases r with
 |g t ks=>
  show((vK [.ii t,.tup (ks.map E)]).map _)=_
  show((((vJ (ks.map E)).bind λ is=>(vK []).map (.inr is::·)).map _).map _)=_
  rw[Px];rfl
 |_=>rfl
theorem MF:∀{l cf:B C},l.map (λ k:C=>(k:am))=cf.map (λ k:C=>(k:am))→l=cf
 | [],[],_=>rfl
 | [],_::_,h=>by cases h
 |_::_,[],h=>by cases h
 |a::l,b::cf,h=>by
  simp only[oN,QU]at h
  rw[MF h.2,show a=b by have:=h.1;omega]
theorem Ke(h:(x:am)=y):x=y:=by omega
theorem Ox{r bw:aP}(h:hY r=hY bw):r=bw:=by
 cases r<;>cases bw<;>simp only[hY,QU,Sum.inl.injEq,Sum.inr.injEq,and_true]at h<;>first| (rw[Ke h.2];done)| (rw[Ke h.2.1,MF h.2.2];done)| (exact absurd h.1 (by decide))|skip
structure KT(a:bH)(h:aT)(T:B aP)(ag W bL:B C):Prop where
 kt:h .kt=some (.bF 0 [(0,.ref (a .k')),(1,.ref (a .jo)),(2,.ref (a .mo)),(3,.ref (a .mq)),(4,.ref (a .kF))])
 r:h .k'=some (.li (T.map fe))
 i:h .jo=some (.h9 (T.zipIdx.map λ p=>(hY p.1,E p.2)))
 d:h .mo=some (.li (ag.map E))
 w:h .mq=some (.li (W.map E))
 o:h .kF=some (.li (bL.map E))
 len:ag.length=T.length∧W.length=T.length∧bL.length=T.length
 small:T.length≤500000
section
variable{a:bH}{h:aT}{n:St}{T:B aP}{ag W bL:B C}{z:C}
theorem zV{α:Type}(l:B α)(k:C):n4 l (k:am)=l[k]? :=by
 unfold n4
 rw[if_pos (by omega)]
 rfl
theorem fj{c f:C}{aG:B (C×D)}(e:n[m]? =some (.bF c aG)):d7 n (.ref m) f=aG.lookup f:=an (sp f) e
theorem rp(e:n[m]? =some (.li xs)):la n (.ref m)=some (xs.length:am):=by simp[la,e]
theorem Ag{i:am}(e:n[m]? =some (.li xs)):dd n (.ref m) (.ii i)=n4 xs i:=an (rj (.ii i)) e
theorem uW(K:KT a h T ag W bL)(M:Good a h n):d7 n (.ref (a .kt)) 0=some (.ref (a .k'))∧d7 n (.ref (a .kt)) 1=some (.ref (a .jo))∧d7 n (.ref (a .kt)) 2=some (.ref (a .mo))∧d7 n (.ref (a .kt)) 3=some (.ref (a .mq))∧d7 n (.ref (a .kt)) 4=some (.ref (a .kF)):=by
 have e:=M.at_ _ _ K.kt
 refine⟨?_,?_,?_,?_,?_⟩<;>rw[fj e]<;>rfl
theorem UI{y:am}{b:av}(h:decide ((x:am)<y)=b):cY .lt (E x) (.ii y) n=some b:=an some h
theorem J':cY .lt (E x) (.ii 0) n=some false:=UI (j3 (Int.not_lt.mpr (yw x)))
theorem UG(h:x<y):cY .ge (E x) (.ii y) n=some false:=an some (j3 (Int.not_le.mpr (B2.mpr h)))
theorem J8{y:am}(h:¬((x:am)=y)):cY .eq (E x) (.ii y) n=some false:=an some (j3 h)
theorem A4(K:KT a h T ag W bL)(M:Good a h n){r:aP}(e:T[k]? =some r):runN ac (z+1) 1 [.ref (a .kt),E k] n=some (fe r,n):=
 have aB:=M.at_ _ _ K.r
 have eU:=(uW K M).1
 cN z 1 [.ref (a .kt),E k] n rfl rfl _ J' _ eU _ (rp aB) _ (UG (by rw[cG];exact(jZ.mp e).1)) _ eU _ ((Ag aB).trans (by rw[zV,qS,e];rfl))
theorem Al(r:aP):runN ac (z+1) 14 [fe r] n=some (.tup ((gG r).map E),n):=by cases r<;>rfl
noncomputable def i':aP→C
 | .p _=>1
 | .v _=>6
 | .a _=>4
 | .g _ _=>2
noncomputable def x2:aP→C
 | .p _=>0
 | .v _=>0
 | .a _=>1
 | .g _ _=>1
noncomputable def vy:aP→C
 | .p _=>2
 | .v _=>2
 | .a _=>2
 | .g _ _=>3
theorem MY(r:aP):runN ac (z+1) 15 [E (i' r)] n=some (E (x2 r),n):=by cases r<;>rfl
theorem ZV(r:aP):runN ac (z+1) 16 [E (i' r)] n=some (E (vy r),n):=by cases r<;>rfl
theorem nr(r:aP):dd n (fe r) (.ii 0)=some (E (i' r)):=by cases r<;>rfl
theorem MQ(K:KT a h T ag W bL)(M:Good a h n):mu ac n 75 (.ref (a .kt))=some 1:=by simp only[mu,M.at_ _ _ K.kt];rfl
theorem Ng(K:KT a h T ag W bL)(M:Good a h n){r:aP}(e:T[k]? =some r)(ec:k≠0)(Xa:k≠14):runN ac (z+2) 20 [.ref (a .kt),E k] n=some (.cj true,n):=by
 have w:=cN (z+1) 20 [.ref (a .kt),E k] n rfl rfl _ (J8 λ L=>ec (by omega)) _ (J8 λ L=>Xa (by omega)) _ (MQ K M) _ _ (A4 K M e) _ (nr r)
 cases r with
 |v _=>exact w _ rfl _ rfl _ rfl _ rfl
 |_=>exact w _ rfl _ rfl
noncomputable def Kc:bk:=(.cons (.b4 (.g4 (.e (.call 20 (.cons (.v 0) (.cons (.v 2) .nil))))) (.cons (.bad) .nil) (.nil)) .nil)
theorem US(K:KT a h T ag W bL)(M:Good a h n)(sI:∀k∈ks,k<T.length∧k≠0∧k≠14)(hl:ks.length≤1000):runN ac (z+3) 19 [.ref (a .kt),.tup (ks.map E)] n=some (.nn,n):=
 let⟨_,e⟩:=DQ (dq:=live (.tup (ks.map E)) (ks.map E)) (jl:=e0 _ _) (step:=λ x aF J=>(dh false [2] x aF).bind λ dG=>bS ac (runN ac (z+2)) Kc dG J)
  (ae:=λ o=>[some (.ref (a .kt)),some (.tup (ks.map E)),o]) (n:=n) (xs:=ks.map E) trivial none λ x aA o=>by
   obtain⟨k,hk,rfl⟩:=hu.mp aA
   obtain⟨ax,aH,cI⟩:=sI k hk
   exact aR (a:=[some (.ref (a .kt)),some (.tup (ks.map E)),some (E k)]) rfl (dk (z+2) Kc [some (.ref (a .kt)),some (.tup (ks.map E)),some (E k)] n _ _ (Ng K M (h2 ax) aH cI) _ rfl)
 cN (z+2) 19 [.ref (a .kt),.tup (ks.map E)] n rfl rfl _ rfl (by rw[cG];omega) _ _ e
noncomputable def nP(T:B aP)(r:aP):Prop:=match r with
 | .p _=>False
 | .v _=>True
 | .a k=>k<T.length∧k≠0∧k≠14
 | .g t ks=>0<t∧(o8.lookup (t:am)).isSome=false∧ks.length≤1000∧∀k∈ks,k<T.length∧k≠0∧k≠14
theorem Pr(h:(o8.lookup (t:am)).isSome=false):cY .pk (E t) (.cd o8) n=some false:=an some h
theorem aa6(K:KT a h T ag W bL)(M:Good a h n)(a4:nP T (.g t ks)):runN ac (z+4) 18 [.ref (a .kt),fe (.g t ks)] n=some (.nn,n):=
 cN (z+3) 18 [.ref (a .kt),fe (.g t ks)] n rfl rfl _ rfl _ (an some (j3 (by have:=a4.1;omega))) _ rfl _ (Pr a4.2.1) _ rfl _ _ (US K M a4.2.2.2 a4.2.2.1)
theorem aP.b7(T:B aP){r:aP}(a4:nP T r):(∀k∈gG r,k<T.length)∧(gG r).length≤1000∧1<i' r:=by
 cases r with
 |p _=>exact a4.elim
 |v _=>exact⟨λ _ h=>(nomatch h),fs _,aE rfl⟩
 |a k=>exact⟨λ ct h=>jz.mp h▸a4.1,aE rfl,aE rfl⟩
 |g t ks=>exact⟨λ k h=>(a4.2.2.2 k h).1,a4.2.2.1,aE rfl⟩
noncomputable def Ky:bk:=(.cons (.ex (.hj (.v 0) 75 (.cons (.v 3) .nil))) .nil)
theorem Kj(K:KT a h T ag W bL)(M:Good a h n){r:aP}(a4:nP T r):runN ac (z+5) 17 [.ref (a .kt),fe r] n=some (.nn,n):=by
 obtain⟨XO,i2,ag3⟩:=aP.b7 T a4
 obtain⟨o,e⟩:=DQ (dq:=live (.tup ((gG r).map E)) ((gG r).map E)) (jl:=e0 _ _) (step:=λ x aF J=>(dh false [3] x aF).bind λ dG=>bS ac (runN ac (z+4)) Ky dG J)
  (ae:=λ o=>[some (.ref (a .kt)),some (fe r),some (E (i' r)),o]) (n:=n) (xs:=(gG r).map E) trivial none λ x aA o=>by
   obtain⟨k,hk,rfl⟩:=hu.mp aA
   exact aR (a:=[some (.ref (a .kt)),some (fe r),some (E (i' r)),some (E k)]) rfl (dk (z+4) Ky [some (.ref (a .kt)),some (fe r),some (E (i' r)),some (E k)] n _ (MQ K M) _ _ (A4 K M (h2 (XO k hk))))
 have w:=cN (z+4) 17 [.ref (a .kt),fe r] n rfl rfl _ (show la n (fe r)=some ((vy r:C):am)by cases r<;>rfl) _ (show cY .eq (E (vy r)) (.ii 0) n=some false by cases r<;>rfl) _ (nr r) _ (an some (j3 (by omega))) _ (nr r) _ (show cY .gt (E (i' r)) (.ii 11) n=some false by cases r<;>rfl) _ (nr r) _
  (show la n (fe r)=some ((vy r:C):am)by cases r<;>rfl) _ _ (ZV r) _ (show cY .ne (E (vy r)) (E (vy r)) n=some false by cases r<;>rfl) _ _ (Al r) _ rfl (by rw[cG];omega) _ _ e
 cases r with
 |p _=>exact a4.elim
 |v i=>exact w _ rfl _ rfl _ rfl _ rfl _ J'
 |a k=>exact w _ rfl _ rfl _ rfl _ rfl _ rfl _ rfl _ rfl _ _ (Ng K M (h2 a4.1) a4.2.1 a4.2.2) _ rfl
 |g t ks=>exact w _ rfl _ _ (aa6 K M a4)
end
end Mine
end
section
namespace Mine
variable{r:aP}
section
variable{a:bH}{h:aT}{n:St}{T:B aP}{ag W bL:B C}{z:C}
theorem Mq{r:aP}:∀{T:B aP} {k:C},r∉T→((T.zipIdx k).map λ p=>(hY p.1,E p.2)).lookup (hY r)=none
 | [],_,_=>rfl
 |x::T,k,h=>by
  have:=Au
  rw[Re,oN,l1]
  have:(hY r==hY x)=false:=ma.mpr λ e=>h (by rw[Ox e];exact .head _)
  rw[this]
  exact Mq λ e=>h (.tail _ e)
theorem Mr{r:aP}:∀{T:B aP} {k:C},r∈T→∃j,T[j]? =some r∧((T.zipIdx k).map λ p=>(hY p.1,E p.2)).lookup (hY r)=some (E (k+j))
 |x::T,k,h=>by
  have:=Au
  rw[Re,oN,l1]
  by_cases e:r=x
  ·subst e
   exact⟨0,rfl,by simp⟩
  ·have:(hY r==hY x)=false:=ma.mpr λ q=>e (Ox q)
   rw[this]
   obtain⟨j,ax,aH⟩:=Mr (k:=k+1) ((kh.mp h).resolve_left e)
   exact⟨j+1,by simpa using ax,by rw[aH,show k+1+j=k+(j+1)by omega]⟩
noncomputable def kv(ag:B C)(r:aP):Nat:=(gG r).foldl (λ d k=>if d<ag.getD k 0+x2 r then ag.getD k 0+x2 r else d) 1
noncomputable def kR(W:B C)(r:aP):Nat:=(gG r).foldl (λ w k=>w+W.getD k 0) 1
noncomputable def nh(bL:B C)(r:aP):Nat:=(gG r).foldl (λ o k=>if bL.getD k 0=1 then 1 else o) (if i' r=6 then 1 else 0)
theorem xf(a4:nP T r):∀k∈gG r,k<T.length:=(aP.b7 T a4).1
theorem YV(a4:nP T r):(gG r).length≤1000:=(aP.b7 T a4).2.1
theorem Ez{m k:C}{l:B C}(e:n[m]? =some (.li (l.map E)))(hk:k<l.length):dd n (.ref m) (E k)=some (E (l.getD k 0)):=by
 unfold E
 rw[Ag e,zV,qS,h2 hk,jy,h2 hk]
 rfl
noncomputable def vn:bk:=.cons (.b4 (.cmp .gt (.bin .add (.aq (.at (.v 0) 2) (.v 7)) (.v 6)) (.v 3)) (.cons (.asg 3 (.bin .add (.aq (.at (.v 0) 2) (.v 7)) (.v 6))) .nil) (.nil)) (.cons (.aug 4 .add (.aq (.at (.v 0) 3) (.v 7))) (.cons (.b4 (.cmp .eq (.aq (.at (.v 0) 4) (.v 7)) (.ii 1)) (.cons (.asg 5 (.ii 1)) .nil) (.nil)) .nil))
theorem Ob(K:KT a h T ag W bL)(M:Good a h n){bi aV aQ:Y D}{aO:C}{l:B D}:∀{ks:B C} (d w o:C) (bm:Y D),(∀k∈ks,k<T.length)→∃mA,@fD (live (.tup l) l) (e0 _ _) (λ x aF J=>(dh false [7] x aF).bind λ dG=>bS ac (runN ac z) vn dG J) (ks.map E)
  [some (.ref (a .kt)),aV,aQ,some (E d),some (E w),some (E o),some (E aO),bm,bi] n=
  some (.br [some (.ref (a .kt)),aV,aQ,some (E (ks.foldl (λ d k=>if d<ag.getD k 0+aO then ag.getD k 0+aO else d) d)),some (E (ks.foldl (λ w k=>w+W.getD k 0) w)),some (E (ks.foldl (λ o k=>if bL.getD k 0=1 then 1 else o) o)),some (E aO),mA,bi],n)
 | [],_,_,_,bm,_=>⟨bm,if_pos trivial⟩
 |k::ks,d,w,o,bm,h=>by
  obtain⟨mA,e⟩:=Ob K M (bi:=bi) (aV:=aV) (aQ:=aQ) (aO:=aO) (l:=l) (if d<ag.getD k 0+aO then ag.getD k 0+aO else d) (w+W.getD k 0) (if bL.getD k 0=1 then 1 else o) (some (E k)) λ k hk=>h k (.tail _ hk)
  refine⟨mA,fc trivial ?_ e⟩
  refine aR (a:=[some (.ref (a .kt)),aV,aQ,some (E d),some (E w),some (E o),some (E aO),some (E k),bi]) rfl ?_
  obtain⟨eU,c2,dW,ob,xi⟩:=uW K M
  have n7:=h k (.head _)
  have uR:=Ez (M.at_ _ _ K.d) (k:=k) (by rw[K.len.1];exact n7)
  have Af:=Ez (M.at_ _ _ K.w) (k:=k) (by rw[K.len.2.1];exact n7)
  have Ae:=Ez (M.at_ _ _ K.o) (k:=k) (by rw[K.len.2.2];exact n7)
  have g1:cY .gt (E (ag.getD k 0+aO)) (E d) n=some (decide (d<ag.getD k 0+aO)):=an some (q9.mpr B2)
  have g2:cY .eq (E (bL.getD k 0)) (.ii 1) n=some (decide (bL.getD k 0=1)):=an some (q9.mpr (by omega))
  by_cases d':d<ag.getD k 0+aO<;>by_cases cO:bL.getD k 0=1
  ·rw[if_pos d',if_pos cO]
   exact dk z vn [some (.ref (a .kt)),aV,aQ,some (E d),some (E w),some (E o),some (E aO),some (E k),bi] n _ dW _ uR _ rfl _ (jG g1 d') _ dW _ uR _ rfl _ ob _ Af _ rfl _ xi _ Ae _ (jG g2 cO)
  ·rw[if_pos d',if_neg cO]
   exact dk z vn [some (.ref (a .kt)),aV,aQ,some (E d),some (E w),some (E o),some (E aO),some (E k),bi] n _ dW _ uR _ rfl _ (jG g1 d') _ dW _ uR _ rfl _ ob _ Af _ rfl _ xi _ Ae _ (iK g2 cO)
  ·rw[if_neg d',if_pos cO]
   exact dk z vn [some (.ref (a .kt)),aV,aQ,some (E d),some (E w),some (E o),some (E aO),some (E k),bi] n _ dW _ uR _ rfl _ (iK g1 d') _ ob _ Af _ rfl _ xi _ Ae _ (jG g2 cO)
  ·rw[if_neg d',if_neg cO]
   exact dk z vn [some (.ref (a .kt)),aV,aQ,some (E d),some (E w),some (E o),some (E aO),some (E k),bi] n _ dW _ uR _ rfl _ (iK g1 d') _ ob _ Af _ rfl _ xi _ Ae _ (iK g2 cO)
noncomputable def od(h:aT)(T:B aP)(ag W bL:B C):aT:=
 up (up (up (up (up h .k' (some (.li (T.map fe)))) .jo (some (.h9 (T.zipIdx.map λ p=>(hY p.1,E p.2))))) .mo (some (.li (ag.map E)))) .mq (some (.li (W.map E)))) .kF (some (.li (bL.map E)))
noncomputable def gZ:aN→av
 | .k'| .jo| .mo| .mq| .kF=>true
 |_=>false
theorem MP{r:aN}(a4:gZ r=false):od h T ag W bL r=h r:=by
 unfold od
 rw[bP,bP,bP,bP,bP]<;>(rintro rfl;cases a4)
theorem ZA(K:KT a h T ag W bL){aC:B aP}{oK y7 Cs:B C}(hl:oK.length=aC.length∧y7.length=aC.length∧Cs.length=aC.length)(hs:aC.length≤500000):KT a (od h aC oK y7 Cs) aC oK y7 Cs where
 kt:=by rw[MP rfl];exact K.kt
 r:=by unfold od;rw[bP _ _ (by simp),bP _ _ (by simp),bP _ _ (by simp),bP _ _ (by simp),cR]
 i:=by unfold od;rw[bP _ _ (by simp),bP _ _ (by simp),bP _ _ (by simp),cR]
 d:=by unfold od;rw[bP _ _ (by simp),bP _ _ (by simp),cR]
 w:=by unfold od;rw[bP _ _ (by simp),cR]
 o:=by unfold od;rw[cR]
 len:=hl
 small:=hs
theorem wB(M:Good a h n){hX:aN}{xs:B D}(e:h hX=some (.li xs))(v:D)(hl:xs.length<room):∃J,l8 n (.ref (a hX)) v=some J∧Good a (up h hX (some (.li (xs++[v])))) J∧ml n (.ref (a hX))=true:=
 ⟨_,by simp only[l8,M.at_ _ _ e,if_pos hl],M.set e,by simp only[ml,Am,M.at_ _ _ e]⟩
theorem As{H:aT}{J:St}(K:KT a h T ag W bL)(dF:Good a H J)(bC:H .kt=h .kt):d7 J (.ref (a .kt)) 1=some (.ref (a .jo))∧d7 J (.ref (a .kt)) 2=some (.ref (a .mo))∧d7 J (.ref (a .kt)) 3=some (.ref (a .mq))∧d7 J (.ref (a .kt)) 4=some (.ref (a .kF)):=
 have e:=dF.at_ .kt _ (bC.trans K.kt)
 ⟨(fj e).trans rfl,(fj e).trans rfl,(fj e).trans rfl,(fj e).trans rfl⟩
theorem EJ(K:KT a h T ag W bL)(M:Good a h n)(a4:nP T r){v:Y D}(br:(T.zipIdx.map λ p=>(hY p.1,E p.2)).lookup (hY r)=v)(d:D):uD n (.ref (a .jo)) (fe r) d=some (v.getD d):=
 (an (w0 (fe r) d) (M.at_ _ _ K.i)).trans (aR (Py r) (by rw[br]))
theorem pK{h:aT}{r fU gP:aN}{x y:Y a0}(iz:r≠fU)(kH:r≠gP):up (up h fU x) gP y r=h r:=(bP _ _ kH).trans (bP _ _ iz)
theorem acT(r:aP):∃b:av,cY .eq (E (i' r)) (.ii 6) n=some b∧cY .eq (E (i' r)) (.ii 7) n=some false∧(if i' r=6 then 1 else 0)=cond b 1 0:=by
 cases r with
 |v _=>exact⟨true,rfl,rfl,rfl⟩
 |_=>exact⟨false,rfl,rfl,rfl⟩
theorem acU(K:KT a h T ag W bL)(M:Good a h n)(a4:nP T r)(fY:r∉T)(a1:kv ag r≤24)(cS:kR W r≤4096)(a3:T.length<500000):
  ∃J,runN ac (z+6) 2 [.ref (a .kt),fe r] n=some (E T.length,J)∧Good a (od h (T++[r]) (ag++[kv ag r]) (W++[kR W r]) (bL++[nh bL r])) J:=by
 obtain⟨eU,c2,dW,ob,xi⟩:=uW K M
 obtain⟨ZC,ZE,ZD⟩:=K.len
 have sK:T.length<room:=e' a3 (aE rfl)
 have br:=Mq (T:=T) (k:=0) fY
 obtain⟨aa,Jw,iU,gf⟩:=wB M K.r (fe r) (by rw[cG];exact sK)
 have L:(T++[r]).zipIdx.map (λ p=>(hY p.1,E p.2))=T.zipIdx.map (λ p=>(hY p.1,E p.2))++[(hY r,E T.length)]:=by rw[List.zipIdx_append,nF,ji];rfl
 have Lx:up h .k' (some (.li (T.map fe++[fe r]))) .jo=some (.h9 (T.zipIdx.map λ p=>(hY p.1,E p.2))):=(bP _ _ (by simp)).trans K.i
 have O8:j' aa (.ref (a .jo)) (fe r) (E T.length)=some (aa.set (a .jo) (.h9 ((T++[r]).zipIdx.map λ p=>(hY p.1,E p.2)))):=
  (an (rL aa (a .jo) (fe r) (E T.length)) (iU.at_ .jo _ Lx)).trans (aR (Py r) (bb (by rw[cG,List.length_zipIdx];exact sK) (by unfold c7;rw[br,L];rfl)))
 have jh:=iU.set (c3:=.h9 ((T++[r]).zipIdx.map λ p=>(hY p.1,E p.2))) Lx
 obtain⟨bW,wA,pO,iJ⟩:=wB jh (hX:=.mo) ((pK (by simp) (by simp)).trans K.d) (E (kv ag r)) (by rw[cG,ZC];exact sK)
 obtain⟨eO,Jy,pP,zi⟩:=wB pO (hX:=.mq) ((bP _ _ (by simp)).trans ((pK (by simp) (by simp)).trans K.w)) (E (kR W r)) (by rw[cG,ZE];exact sK)
 obtain⟨jW,Jz,QF,JO⟩:=wB pP (hX:=.kF) ((pK (by simp) (by simp)).trans ((pK (by simp) (by simp)).trans K.o)) (E (nh bL r)) (by rw[cG,ZD];exact sK)
 have hf:=(As K iU (bP _ _ (by simp))).1
 have iq:=(As K jh (pK (by simp) (by simp))).2.1
 have k2:=(As K pO ((bP _ _ (by simp)).trans (pK (by simp) (by simp)))).2.2.1
 have nS:=(As K pP ((pK (by simp) (by simp)).trans (pK (by simp) (by simp)))).2.2.2
 have e:od h (T++[r]) (ag++[kv ag r]) (W++[kR W r]) (bL++[nh bL r])=up (up (up (up (up h .k' (some (.li (T.map fe++[fe r])))) .jo (some (.h9 ((T++[r]).zipIdx.map λ p=>(hY p.1,E p.2))))) .mo (some (.li (ag.map E++[E (kv ag r)])))) .mq (some (.li (W.map E++[E (kR W r)])))) .kF (some (.li (bL.map E++[E (nh bL r)]))):=by
  unfold od
  simp only[nF,oN,List.map_nil]
 refine⟨jW,?_,e▸QF⟩
 obtain⟨b,az,pd,be⟩:=acT (n:=n) r
 obtain⟨bm,gN⟩:∃mA,@fD (live (.tup ((gG r).map E)) ((gG r).map E)) (e0 _ _) (λ x aF J=>(dh false [7] x aF).bind λ dG=>bS ac (runN ac (z+5)) vn dG J) ((gG r).map E)
  [some (.ref (a .kt)),some (fe r),some (.ii (-1)),some (E 1),some (E 1),some (E (cond b 1 0)),some (E (x2 r)),none,none] n=some (.br [some (.ref (a .kt)),some (fe r),some (.ii (-1)),some (E (kv ag r)),some (E (kR W r)),some (E (nh bL r)),some (E (x2 r)),mA,none],n):=by
  rw[←be];exact Ob K M 1 1 _ none (xf a4)
 have J9:rh n (.ref (a .jo))=true:=by simp only[rh,M.at_ _ _ K.i]
 have J4:cY .gt (E (kv ag r)) (.ii 24) n=some false:=an some (j3 (by omega))
 have J5:cY .gt (E (kR W r)) (.ii 4096) n=some false:=an some (j3 (by omega))
 have rs:la n (.ref (a .k'))=some (T.length:am):=(rp (M.at_ _ _ K.r)).trans (by rw[cG])
 have hl:((gG r).map E).length≤100000:=by have:=YV a4;rw[cG];omega
 exact match b,az,gN with
 |true,az,gN=>cN (z+5) 2 [.ref (a .kt),fe r] n rfl rfl _ c2 J9 _ rfl _ (EJ K M a4 br (.ii (-1))) _ rfl _ _ (Kj (z:=z) K M a4) _ (nr r) _ az _ (nr r) _ _ (MY r) _ _ (Al r) _ rfl hl _ _ gN _ J4 _ J5 _ eU _ rs _ eU gf _ Jw _ hf _ O8 _ iq iJ _ wA _ k2 zi _ Jy _ nS JO _ Jz
 |false,az,gN=>cN (z+5) 2 [.ref (a .kt),fe r] n rfl rfl _ c2 J9 _ rfl _ (EJ K M a4 br (.ii (-1))) _ rfl _ _ (Kj (z:=z) K M a4) _ (nr r) _ az _ (nr r) _ pd _ (nr r) _ _ (MY r) _ _ (Al r) _ rfl hl _ _ gN _ J4 _ J5 _ eU _ rs _ eU gf _ Jw _ hf _ O8 _ iq iJ _ wA _ k2 zi _ Jy _ nS JO _ Jz
theorem acW(K:KT a h T ag W bL)(M:Good a h n)(a4:nP T r)(fY:r∈T):∃j,T[j]? =some r∧runN ac (z+1) 2 [.ref (a .kt),fe r] n=some (E j,n):=
 let⟨j,bt,br⟩:=Mr (T:=T) (k:=0) fY
 ⟨j,bt,cN z 2 [.ref (a .kt),fe r] n rfl rfl _ (uW K M).2.1 (by simp only[rh,M.at_ _ _ K.i]) _ rfl _ (EJ K M a4 (v:=some (E j)) (br.trans (by rw[ji])) (.ii (-1))) _ (an some (iL (yw j)))⟩
end
end Mine
end
section
namespace Mine
variable{α:Type}{b:C}{l:B α}{x:α}{j:C}{r bw:aP}{m:B C}{aC:B aP}{d:C}{H:aT}
section
variable{a:bH}{h:aT}{n:St}{T:B aP}{ag W bL:B C}{z:C}
inductive ap where
 |k (c:C)
 |v (i:C)
 |a (t:ap)
 |b2 (c:C)
 |g1 (c:C) (t:ap)
 |g2 (c:C) (t u:ap)
noncomputable def iA(c:C):Prop:=c=34∨(66≤c∧c≤70)
noncomputable def ba(T:B aP):C→ap→Prop
 |k,.k c=>k=c∧(c=7∨c=12∨c=13)∧T[k]? =some (.p c)
 |k,.v i=>T[k]? =some (.v i)
 |k,.a t=>∃j,T[k]? =some (.a j)∧ba T j t
 |k,.b2 c=>iA c∧T[k]? =some (.g c [])
 |k,.g1 c t=>iA c∧∃j,T[k]? =some (.g c [j])∧ba T j t
 |k,.g2 c t u=>iA c∧∃i j,T[k]? =some (.g c [i,j])∧ba T i t∧ba T j u
noncomputable def ap.size:ap→C
 | .k _=>1
 | .v _=>1
 | .a t=>t.size+1
 | .b2 _=>1
 | .g1 _ t=>t.size+1
 | .g2 _ t u=>t.size+u.size+1
noncomputable def ap.open:ap→C
 | .k _=>0
 | .v _=>1
 | .a t=>t.open
 | .b2 _=>0
 | .g1 _ t=>t.open
 | .g2 _ t u=>if t.open=1 then 1 else u.open
noncomputable def ap.sub(l:B ap):ap→ap
 | .k c=>.k c
 | .v i=>l.getD i (.v i)
 | .a t=>.a (t.sub l)
 | .b2 c=>.b2 c
 | .g1 c t=>.g1 c (t.sub l)
 | .g2 c t u=>.g2 c (t.sub l) (u.sub l)
theorem rE(t:ap):t.open=0∨t.open=1:=by
 induction t with
 |k _=>exact .inl rfl
 |v _=>exact .inr rfl
 |a _ i=>exact i
 |b2 _=>exact .inl rfl
 |g1 _ _ i=>exact i
 |g2 _ t u i j=>exact(Decidable.em (t.open=1)).elim (λ q=>.inr (if_pos q)) λ q=>(an (λ x=>x=0∨x=1) (if_neg q:(if t.open=1 then 1 else u.open)=_)).mpr j
theorem Bg(t:ap):1≤t.size:=by cases t<;>exact iF ..
theorem cD{c4 oG:Type}(f:α→c4→oG){a aY:α}{b hw:c4}(h:a=aY)(g:b=hw):f a b=f aY hw:=h▸g▸rfl
theorem Pf{l:B ap}{t:ap}:t.open=0→t.sub l=t:=by
 induction t with
 |k _=>exact λ _=>rfl
 |v _=>exact λ h=>nomatch h
 |a _ i=>exact λ h=>an ap.a (i h)
 |b2 _=>exact λ _=>rfl
 |g1 c _ i=>exact λ h=>an (ap.g1 c) (i h)
 |g2 c t u i j=>exact λ h=>(rE t).elim (λ q=>cD (ap.g2 c) (i q) (j ((if_neg (by rw[q];exact Cr):(if t.open=1 then 1 else u.open)=_).symm.trans h))) λ q=>nomatch(if_pos q:(if t.open=1 then 1 else u.open)=_).symm.trans h
theorem mr{k:C}(h:l[k]? =some x):k<l.length:=(jZ.mp h).1
theorem xH{T:B aP}(cy:T.Nodup){i:C}(ax:T[i]? =some r)(aH:T[j]? =some bw)(L:r=bw):i=j:=
 (B' (mr ax) cy).mp (ax.trans ((an some L).trans aH.symm))
theorem lk{o:Y α}{y:α}(h:o=some x)(H:o=some y):x=y:=ej (h.symm.trans H)
noncomputable def yx(T:B aP)(t:ap):aP→Prop
 | .p z=>t= .k z
 | .v i=>t= .v i
 | .a j=>∃cB,t= .a cB∧ba T j cB
 | .g c l=>match l with
  | []=>t= .b2 c
  | [j]=>∃cB,t= .g1 c cB∧ba T j cB
  | [i,j]=>∃cB GR,t= .g2 c cB GR∧ba T i cB∧ba T j GR
  |_=>False
section
variable{X:Prop}{t u:ap}{k c:C}
theorem ba.oW(h:ba T k (.a t))(f:∀j,T[k]? =some (.a j)→ba T j t→X):X:=let⟨j,e,q⟩:=h;f j e q
theorem ba.n2(h:ba T k (.g1 c t))(f:∀j,iA c→T[k]? =some (.g c [j])→ba T j t→X):X:=let⟨o,j,e,q⟩:=h;f j o e q
theorem ba.n3(h:ba T k (.g2 c t u))(f:∀i j,iA c→T[k]? =some (.g c [i,j])→ba T i t→ba T j u→X):X:=let⟨o,i,j,e,q,p⟩:=h;f i j o e q p
theorem yx.of(e:bw=r)(h:yx T t bw):yx T t r:=e▸h
theorem ba.row(e:T[k]? =some r)(h:ba T k t):yx T t r:=by
 cases t with
 |k c=>exact .of (lk h.2.2 e) (bw:=.p c) rfl
 |v i=>exact .of (lk h e) (bw:=.v i) rfl
 |a t=>exact h.oW λ j bC q=>.of (lk bC e) (bw:=.a j) ⟨t,rfl,q⟩
 |b2 c=>exact .of (lk h.2 e) (bw:=.g c []) rfl
 |g1 c t=>exact h.n2 λ j _ bC q=>.of (lk bC e) (bw:=.g c [j]) ⟨t,rfl,q⟩
 |g2 c t u=>exact h.n3 λ i j _ bC q ep=>.of (lk bC e) (bw:=.g c [i,j]) ⟨t,u,rfl,q,ep⟩
theorem ba.LB(h:ba T k t)(f:∀r,T[k]? =some r→X):X:=by
 cases t with
 |k c=>exact f _ h.2.2
 |v i=>exact f _ h
 |a t=>exact h.oW λ _ e _=>f _ e
 |b2 c=>exact f _ h.2
 |g1 c t=>exact h.n2 λ _ _ e _=>f _ e
 |g2 c t u=>exact h.n3 λ _ _ _ e _ _=>f _ e
end
theorem ba.inj{T:B aP}(cy:T.Nodup){t:ap}:∀{k ct:C},ba T k t→ba T ct t→k=ct:=by
 induction t with
 |k c=>exact λ h H=>h.1.trans H.1.symm
 |v i=>exact λ h H=>xH cy h H rfl
 |a t i=>exact λ h H=>h.oW λ _ e q=>H.oW λ _ bC ep=>xH cy e bC (an aP.a (i q ep))
 |b2 c=>exact λ h H=>xH cy h.2 H.2 rfl
 |g1 c t i=>exact λ h H=>h.n2 λ _ _ e q=>H.n2 λ _ _ bC ep=>xH cy e bC (an (λ j=>aP.g c [j]) (i q ep))
 |g2 c t u i j=>exact λ h H=>h.n3 λ _ _ _ e q p=>H.n3 λ _ _ _ bC ep f3=>xH cy e bC (cD (λ i j=>aP.g c [i,j]) (i q ep) (j p f3))
theorem ba.a6{T:B aP}{t:ap}:∀{cB:ap} {k:C},ba T k t→ba T k cB→t=cB:=by
 induction t with
 |k c=>exact λ h H=>(H.row h.2.2).symm
 |v i=>exact λ h H=>(H.row h).symm
 |a t i=>exact λ h H=>h.oW λ _ e q=>let⟨_,L,p⟩:=H.row e;(an ap.a (i q p)).trans L.symm
 |b2 c=>exact λ h H=>(H.row h.2).symm
 |g1 c t i=>exact λ h H=>h.n2 λ _ _ e q=>let⟨_,L,p⟩:=H.row e;(an (ap.g1 c) (i q p)).trans L.symm
 |g2 c t u i j=>exact λ h H=>h.n3 λ _ _ _ e q ep=>let⟨_,_,L,p,f3⟩:=H.row e;(cD (ap.g2 c) (i q p) (j ep f3)).trans L.symm
theorem ba.lt{T:B aP}{t:ap}{k:C}(h:ba T k t):k<T.length:=h.LB λ _=>mr
theorem o2{k:C}(h:l[k]? =some x){m:B α}:(l++m)[k]? =some x:=(qR (mr h)).trans h
theorem ba.more{T:B aP}{t:ap}:∀{k:C},ba T k t→ba (T++aC) k t:=by
 induction t with
 |k _=>exact λ h=>⟨h.1,h.2.1,o2 h.2.2⟩
 |v _=>exact λ h=>o2 h
 |a _ i=>exact λ h=>h.oW λ j e q=>⟨j,o2 e,i q⟩
 |b2 _=>exact λ h=>⟨h.1,o2 h.2⟩
 |g1 _ _ i=>exact λ h=>h.n2 λ j o e q=>⟨o,j,o2 e,i q⟩
 |g2 _ _ _ i jN=>exact λ h=>h.n3 λ j k o e q p=>⟨o,j,k,o2 e,i q,jN p⟩
structure TI(T:B aP)(ag W bL:B C):Prop where
 nodup:T.Nodup
 prim:∀i,i<16→T[i]? =some (.p i)
 d:∀(k:C) r,T[k]? =some r→ag[k]? =some (kv ag r)∧W[k]? =some (kR W r)∧bL[k]? =some (nh bL r)
 ins:∀(k:C) r,T[k]? =some r→∀j∈gG r,j<k
theorem DO{f g:α→C→α}{l:B C}:∀{x:α},(∀d k,k∈l→f d k=g d k)→l.foldl f x=l.foldl g x:=by
 induction l with
 |nil=>exact λ _=>rfl
 |cons k l i=>exact λ{x} h=>(an (l.foldl f) (h x k (.head _))).trans (i λ d j bt=>h d j (.tail _ bt))
theorem DY{l:B C}(h:j<l.length):(l++m).getD j 0=l.getD j 0:=by
 rw[jy,jy,qR h]
theorem Ve(h:∀j∈gG r,j<ag.length):kv (ag++m) r=kv ag r:=DO λ d j bt=>by rw[DY (h j bt)]
theorem afU(h:∀j∈gG r,j<W.length):kR (W++m) r=kR W r:=DO λ d j bt=>by rw[DY (h j bt)]
theorem abO(h:∀j∈gG r,j<bL.length):nh (bL++m) r=nh bL r:=DO λ d j bt=>by rw[DY (h j bt)]
theorem iZ{z:C}(h:l.length=z):(l++[x])[z]? =some x:=h▸HU ..
theorem Bi{r:α}{k:C}{X:Prop}(e:(l++[x])[k]? =some r)(f:l[k]? =some r→X)(g:k=l.length→x=r→X):X:=
 (Cm k l.length).elim (λ q=>f ((qR q).symm.trans e)) λ q=>
  have L:k=l.length:=Rn (lr (Rp (mr e) (fg ..))) q
  g L (lk (iZ L.symm) e)
theorem TI.add(I:TI T ag W bL)(qk:ag.length=T.length∧W.length=T.length∧bL.length=T.length)(a4:nP T r)(fY:r∉T)(agZ:16≤T.length):TI (T++[r]) (ag++[kv ag r]) (W++[kR W r]) (bL++[nh bL r]) where
 nodup:=Cc.mpr ⟨I.nodup,List.pairwise_singleton _ r,λ x aA y bI e=>fY (jz.mp bI▸e▸aA)⟩
 prim:=λ i ay=>o2 (I.prim i ay)
 d:=λ k bw e=>by
  obtain⟨dy,eD,pm⟩:=qk
  have f:(∀j∈gG bw,j<T.length)→kv (ag++[kv ag r]) bw=kv ag bw∧kR (W++[kR W r]) bw=kR W bw∧nh (bL++[nh bL r]) bw=nh bL bw:=λ f=>⟨Ve (by rw[dy];exact f),afU (by rw[eD];exact f),abO (by rw[pm];exact f)⟩
  refine Bi e (λ e=>?_) λ L e=>?_
  ·rw[(f λ j bt=>fh (I.ins k bw e j bt) (mr e)).1,(f λ j bt=>fh (I.ins k bw e j bt) (mr e)).2.1,(f λ j bt=>fh (I.ins k bw e j bt) (mr e)).2.2]
   exact⟨o2 (I.d k bw e).1,o2 (I.d k bw e).2.1,o2 (I.d k bw e).2.2⟩
  ·subst e;subst L
   rw[(f (xf a4)).1,(f (xf a4)).2.1,(f (xf a4)).2.2]
   exact⟨iZ dy,iZ eD,iZ pm⟩
 ins:=λ k bw e=>Bi e (λ e=>I.ins k bw e) λ L e=>by subst e;subst L;exact xf a4
theorem ba.Zw(I:TI T ag W bL){t:ap}{k:C}(h:ba T k t):k≠0∧k≠14:=by
 have p:∀i,i<16→k=i→t= .k i∧k=i:=λ i ay q=>⟨h.row (r:=.p i) (q▸I.prim i ay),q⟩
 have c:∀c,t= .k c→c=7∨c=12∨c=13:=λ c e=>by subst e;exact h.2.1
 exact⟨λ q=>(by have:=c 0 (p 0 (by decide) q).1;omega),λ q=>(by have:=c 14 (p 14 (by decide) q).1;omega)⟩
theorem ky{l:B C}{x:C}(e:l[j]? =some x):l.getD j 0=x:=by rw[jy,e];rfl
theorem ry{x s:C}(h:d≤s)(q:x≤s):(if d<x then x else d)≤s:=by split<;>assumption
theorem NU{x:C}(q:x=0∨x=1):(if x=1 then 1 else 0)=x:=by rcases q with rfl|rfl<;>rfl
theorem ba.Hg(I:TI T ag W bL){t:ap}:∀{k:C},ba T k t→W[k]? =some t.size:=by
 induction t with
 |k _=>exact λ h=>(I.d _ _ h.2.2).2.1
 |v _=>exact λ h=>(I.d _ _ h).2.1
 |b2 _=>exact λ h=>(I.d _ _ h.2).2.1
 |a t i=>exact λ h=>h.oW λ j e q=>(I.d _ _ e).2.1.trans (an some ((an (1+·) (ky (i q))).trans (qT ..)))
 |g1 c t i=>exact λ h=>h.n2 λ j _ e q=>(I.d _ _ e).2.1.trans (an some ((an (1+·) (ky (i q))).trans (qT ..)))
 |g2 c t u i jN=>exact λ h=>h.n3 λ j fS _ e q ep=>(I.d _ _ e).2.1.trans (an some (show 1+W.getD j 0+W.getD fS 0=t.size+u.size+1 by rw[ky (i q),ky (jN ep)];omega))
theorem ba.op(I:TI T ag W bL){t:ap}:∀{k:C},ba T k t→bL[k]? =some t.open:=by
 induction t with
 |k _=>exact λ h=>(I.d _ _ h.2.2).2.2
 |v _=>exact λ h=>(I.d _ _ h).2.2
 |b2 _=>exact λ h=>(I.d _ _ h.2).2.2
 |a t i=>exact λ h=>h.oW λ j e q=>(I.d _ _ e).2.2.trans (an some ((an (λ x=>if x=1 then 1 else 0) (ky (i q))).trans (NU (rE t))))
 |g1 c t i=>exact λ h=>h.n2 λ j _ e q=>(I.d _ _ e).2.2.trans (an some ((an (λ x=>if x=1 then 1 else 0) (ky (i q))).trans (NU (rE t))))
 |g2 c t u i jN=>exact λ h=>h.n3 λ j fS _ e q ep=>(I.d _ _ e).2.2.trans (an some (show(if bL.getD fS 0=1 then 1 else if bL.getD j 0=1 then 1 else 0)=if t.open=1 then 1 else u.open by rw[ky (i q),ky (jN ep)];rcases rE t with x|x<;>rcases rE u with y|y<;>rw[x,y]<;>rfl))
theorem ba.Vn(I:TI T ag W bL){t:ap}:∀{k:C},ba T k t→∃d,ag[k]? =some d∧d≤t.size:=by
 induction t with
 |k _=>exact λ h=>⟨_,(I.d _ _ h.2.2).1,cJ _⟩
 |v _=>exact λ h=>⟨_,(I.d _ _ h).1,cJ _⟩
 |b2 _=>exact λ h=>⟨_,(I.d _ _ h.2).1,cJ _⟩
 |a t i=>exact λ h=>h.oW λ j e q=>let⟨d,g,l⟩:=i q;⟨_,(I.d _ _ e).1,ry (iF ..) (gq (ky g▸l))⟩
 |g1 c t i=>exact λ h=>h.n2 λ j _ e q=>let⟨d,g,l⟩:=i q;⟨_,(I.d _ _ e).1,ry (iF ..) (gq (ky g▸l))⟩
 |g2 c t u i jN=>exact λ h=>h.n3 λ j fS _ e q ep=>let⟨d,g,l⟩:=i q;let⟨ku,hN,cf⟩:=jN ep;⟨_,(I.d _ _ e).1,ry (ry (iF ..) (gq (Nat.le_add_right_of_le (ky g▸l)))) (gq (H' (ky hN▸cf)))⟩
structure c6(a:bH)(h:aT)(T:B aP):Prop where
 ex:∃ag W bL,KT a h T ag W bL∧TI T ag W bL
 x8:16≤T.length
theorem c6.b7(al:c6 a h T){X:Prop}(f:∀ag W bL,KT a h T ag W bL→TI T ag W bL→X):X:=let⟨ag,W,bL,K,I⟩:=al.ex;f ag W bL K I
structure jY(h:aT)(T:B aP)(H:aT)(aC:B aP)(b:C):Prop where
 ext:∃X,aC=T++X
 le:aC.length≤T.length+b
 off:∀r o,gZ r=false→h r=some o→H r=some o
theorem jY.refl(h:aT)(T:B aP):jY h T h T 0:=⟨⟨[],(eX T).symm⟩,cJ _,λ _ _ _ e=>e⟩
theorem jY.trans{h aI bJ:aT}{T bX cL:B aP}(x:jY h T aI bX b)(y:jY aI bX bJ cL d):jY h T bJ cL (b+d):=
 ⟨let⟨X,e⟩:=x.ext;let⟨he,f⟩:=y.ext;⟨X++he,f.trans ((an (· ++he) e).trans (jx ..))⟩,a' y.le (a' (hb x.le d) (dg (mQ ..))),λ r o q e=>y.off r o q (x.off r o q e)⟩
theorem jY.mono{h:aT}{T:B aP}(x:jY h T H aC b)(q:b≤d):jY h T H aC d:=⟨x.ext,a' x.le (fA q _),x.off⟩
theorem jY.eS{h:aT}{T:B aP}(x:jY h T H aC b){k:C}{t:ap}(q:ba T k t):ba aC k t:=let⟨_,e⟩:=x.ext;e▸q.more
theorem acV(al:c6 a h T)(M:Good a h n)(a4:nP T r)(a1:∀ag W bL,TI T ag W bL→kv ag r≤24∧kR W r≤4096)(a3:T.length<500000){X:Prop}
  (f:∀k aC H J,runN ac (z+6) 2 [.ref (a .kt),fe r] n=some (E k,J)→aC[k]? =some r→c6 a H aC→Good a H J→jY h T H aC 1→X):X:=
 al.b7 λ ag W bL K I=>(f9 (r∈T)).elim
  (λ fY=>let⟨j,bt,e⟩:=acW (z:=z+5) K M a4 fY
   f j T h n e bt al M ((jY.refl h T).mono (fs 1)))
  λ fY=>let⟨J,e,dF⟩:=acU (z:=z) K M a4 fY (a1 ag W bL I).1 (a1 ag W bL I).2 a3
   have l:∀{l:B C} {x:C},l.length=T.length→(l++[x]).length=(T++[r]).length:=λ q=>by rw[fg,fg,q];rfl
   have EP:(T++[r]).length=T.length+1:=fg ..
   f T.length (T++[r]) _ J e (iZ rfl) ⟨⟨_,_,_,ZA K ⟨l K.len.1,l K.len.2.1,l K.len.2.2⟩ (EP▸a3),I.add K.len a4 fY al.x8⟩,EP▸ls al.x8⟩ dF ⟨⟨[r],rfl⟩,dg EP,λ hX o q e=>(MP q).trans e⟩
end
end Mine
end
section
namespace Mine
variable{m c:C}{α:Type}{x:α}{xs:B D}{k:C}{r:aP}{l:B D}{v:D}{t:ap}{ks:B C}{i:C}
section
variable{a:bH}{h:aT}{n:St}{T:B aP}{ag W bL:B C}{z:C}
noncomputable def sT{α:Type}(f:B D→Y α):Y a0→Y α
 |some (.li xs)=>f xs
 |_=>none
theorem Nh{x:C}{aG:B (C×D)}(e:n[m]? =some (.bF c aG)):mu ac n x (.ref m)=if(aG.lookup x).isNone then ac.pv c x else none:=an (λ o:Y a0=>match o with|some (.bF c aG)=>if(aG.lookup x).isNone then ac.pv c x else none|_=>none) e
theorem ix(e:n[m]? =some (.li xs)):hR n (.ref m)=some xs:=an (sT λ xs=>some xs) e
theorem GJ(e:n[m]? =some (.li xs)):ie n (.ref m)=some (!xs.isEmpty):=an (sT λ xs=>some (!xs.isEmpty)) e
theorem GL(e:n[m]? =some (.li xs)):rO n (.ref m)=some (.tup xs):=an (sT λ xs=>some (D.tup xs)) e
theorem Op{z:C}(h:z≤1000):z≤room:=a' h (aE rfl)
theorem c6.ru(al:c6 a h T)(M:Good a h n):mu ac n 75 (.ref (a .kt))=some 1:=al.b7 λ _ _ _ K _=>(Nh (M.at_ _ _ K.kt)).trans rfl
theorem c6.oi(al:c6 a h T)(M:Good a h n):mu ac n 76 (.ref (a .kt))=some 2:=al.b7 λ _ _ _ K _=>(Nh (M.at_ _ _ K.kt)).trans rfl
theorem c6.row(al:c6 a h T)(M:Good a h n)(e:T[k]? =some r):runN ac (z+1) 1 [.ref (a .kt),E k] n=some (fe r,n):=al.b7 λ _ _ _ K _=>A4 K M e
theorem j7(e:n[m]? =some (.li l))(q:l[k]? =some v):dd n (.ref m) (E k)=some v:=(Ag e).trans ((zV ..).trans q)
theorem i8{c4:Type}{f:α→c4}{l:B α}(q:l[k]? =some x):(l.map f)[k]? =some (f x):=(qS ..).trans (an (qV f) q)
theorem c6.JH(al:c6 a h T)(M:Good a h n):d7 n (.ref (a .kt)) 0=some (.ref (a .k')):=al.b7 λ _ _ _ K _=>(uW K M).1
theorem c6.rowAt(al:c6 a h T)(M:Good a h n)(e:T[k]? =some r):dd n (.ref (a .k')) (E k)=some (fe r):=al.b7 λ _ _ _ K _=>j7 (M.at_ _ _ K.r) (i8 e)
theorem c6.opens(al:c6 a h T)(M:Good a h n):d7 n (.ref (a .kt)) 4=some (.ref (a .kF))∧(∀{k:C} {t:ap},ba T k t→dd n (.ref (a .kF)) (E k)=some (E t.open))∧∀i,i<16→dd n (.ref (a .kF)) (E i)=some (E 0):=
 al.b7 λ _ _ _ K I=>⟨(uW K M).2.2.2.2,λ q=>j7 (M.at_ _ _ K.o) (i8 (q.op I)),λ i ay=>j7 (M.at_ _ _ K.o) (i8 ((I.d i _ (I.prim i ay)).2.2))⟩
noncomputable def k0(T:B aP)(r:aP):ap→Prop
 | .k _=>False
 | .v i=>r= .v i
 | .a t=>∃j,r= .a j∧ba T j t
 | .b2 c=>iA c∧r= .g c []
 | .g1 c t=>iA c∧∃j,r= .g c [j]∧ba T j t
 | .g2 c t u=>iA c∧∃i j,r= .g c [i,j]∧ba T i t∧ba T j u
@[elab_as_elim] theorem k0.b7{ak:aP→ap→Prop}(q:k0 T r t)(cP:∀i,ak (.v i) (.v i))(bO:∀j t,ba T j t→ak (.a j) (.a t))(ec:∀c,iA c→ak (.g c []) (.b2 c))(ax:∀c j t,iA c→ba T j t→ak (.g c [j]) (.g1 c t))(aH:∀c i j t u,iA c→ba T i t→ba T j u→ak (.g c [i,j]) (.g2 c t u)):ak r t:=by
 cases t with
 |k c=>exact q.elim
 |v i=>cases q;exact cP _
 |a t=>obtain⟨j,rfl,q⟩:=q;exact bO _ _ q
 |b2 c=>obtain⟨o,rfl⟩:=q;exact ec _ o
 |g1 c t=>obtain⟨o,j,rfl,q⟩:=q;exact ax _ _ _ o q
 |g2 c t u=>obtain⟨o,i,j,rfl,q,ep⟩:=q;exact aH _ _ _ _ _ o q ep
theorem k0.eS{aC:B aP}(q:k0 T r t)(m:∀{k:C} {t:ap},ba T k t→ba aC k t):aC[k]? =some r→ba aC k t:=
 q.b7 (λ _ e=>e) (λ j _ q e=>⟨j,e,m q⟩) (λ _ o e=>⟨o,e⟩) (λ _ j _ o q e=>⟨o,j,e,m q⟩) (λ _ i j _ _ o q ep e=>⟨o,i,j,e,m q,m ep⟩)
theorem rD(o:iA c):0<c∧(o8.lookup (c:am)).isSome=false:=by
 have ag:∀k:Fin 5,0<66+k.1∧(o8.lookup ((66+k.1:C):am)).isSome=false:=by decide
 exact o.elim (λ e=>by subst e;exact⟨Rz _,rfl⟩) λ q=>(Nat.add_sub_cancel' q.1:66+(c-66)=c)▸ag ⟨c-66,Nat.sub_lt_left_of_lt_add q.1 (pW q.2)⟩
theorem k0.ok(I:TI T ag W bL)(q:k0 T r t):nP T r:=
 have f:∀{k:C} {t:ap},ba T k t→k<T.length∧k≠0∧k≠14:=λ q=>⟨q.lt,q.Zw I⟩
 q.b7 (λ _=>trivial) (λ _ _ q=>f q) (λ _ o=>⟨(rD o).1,(rD o).2,fs _,λ _ h=>nomatch h⟩) (λ _ _ _ o q=>⟨(rD o).1,(rD o).2,aE rfl,λ _ h=>jz.mp h▸f q⟩)
  (λ _ _ _ _ _ o q ep=>⟨(rD o).1,(rD o).2,aE rfl,λ _ h=>(kh.mp h).elim (λ e=>e▸f q) λ h=>jz.mp h▸f ep⟩)
theorem k0.Vi(I:TI T ag W bL)(q:k0 T r t):t.size≤24→kv ag r≤24∧kR W r≤4096:=by
 have kP:∀{t:ap} {j:C},ba T j t→t.size+1≤24→1+W.getD j 0≤4096:=λ q hs=>by rw[ky (q.Hg I)];omega
 have q8:∀{t:ap} {j:C},ba T j t→t.size+1≤24→ag.getD j 0+1≤24:=λ q hs=>let⟨d,g,l⟩:=q.Vn I;a' (gq (ky g▸l)) hs
 have cT:1≤24:=aE rfl
 have bu:1≤4096:=aE rfl
 exact q.b7 (λ _ _=>⟨cT,bu⟩) (λ _ _ q hs=>⟨ry cT (q8 q hs),kP q hs⟩) (λ _ _ _=>⟨cT,bu⟩) (λ _ _ _ _ q hs=>⟨ry cT (q8 q hs),kP q hs⟩) (λ _ i j t u _ q ep (hs:t.size+u.size+1≤24)=>⟨ry (ry cT (q8 q (by omega))) (q8 ep (by omega)),show 1+W.getD i 0+W.getD j 0≤4096 by rw[ky (q.Hg I),ky (ep.Hg I)];omega⟩)
noncomputable def Gives(a:bH)(h:aT)(T:B aP)(b:C)(t:ap)(k:C)(J:St):Prop:=∃aC H,ba aC k t∧c6 a H aC∧Good a H J∧jY h T H aC b
theorem Gives.b7{b:C}{J:St}(g:Gives a h T b t k J){X:Prop}(f:∀aC H,ba aC k t→c6 a H aC→Good a H J→jY h T H aC b→X):X:=let⟨aC,H,q,al,M,r⟩:=g;f aC H q al M r
section
variable{X:Prop}
theorem rG(al:c6 a h T)(M:Good a h n)(q:k0 T r t)(hs:t.size≤24)(a3:T.length<500000)(f:∀k J,runN ac (z+6) 2 [.ref (a .kt),fe r] n=some (E k,J)→Gives a h T 1 t k J→X):X:=
 al.b7 λ _ _ _ _ I=>acV (z:=z) al M (q.ok I) (λ ag W bL I=>q.Vi I hs) a3 λ k aC H J e dp iD dF g=>f k J e ⟨aC,H,q.eS (λ q=>g.eS q) dp,iD,dF,g⟩
theorem afP(al:c6 a h T)(M:Good a h n)(i:C)(a3:T.length<500000)(f:∀k J,runN ac (z+7) 22 [.ref (a .kt),E i] n=some (E k,J)→Gives a h T 1 (.v i) k J→X):X:=
 rG (z:=z) al M (r:=.v i) (t:=.v i) rfl (aE rfl) a3 λ k J e g=>f k J (cN (z+6) 22 [D.ref (a aN.kt),E i] n rfl rfl _ (al.oi M) _ _ e) g
theorem U1(al:c6 a h T)(M:Good a h n)(q:k0 T (.g c ks) t)(o:iA c)(hs:t.size≤24)(a3:T.length<500000)(f:∀k J,runN ac (z+7) 21 [.ref (a .kt),E c,.tup (ks.map E)] n=some (E k,J)→Gives a h T 1 t k J→X):X:=
 rG (z:=z) al M q hs a3 λ k J e g=>f k J (cN (z+6) 21 [D.ref (a aN.kt),E c,D.tup (eA E ks)] n rfl rfl _ (Pr (rD o).2) _ (al.oi M) _ _ e) g
theorem aej(al:c6 a h T)(M:Good a h n)(e:T[k]? =some r):runN ac (z+2) 23 [.ref (a .kt),E k] n=some (E (i' r),n):=by
 exact(cN (z+1) 23 [D.ref (a aN.kt),E k] n rfl rfl _ (al.ru M) _ _ (al.row (z:=z) M e) _ (nr r))
theorem GG(al:c6 a h T)(M:Good a h n)(e:T[k]? =some (.g c ks)):runN ac (z+2) 24 [.ref (a .kt),E k] n=some (E c,n):=by
 exact(cN (z+1) 24 [D.ref (a aN.kt),E k] n rfl rfl _ (al.ru M) _ _ (al.row (z:=z) M e) _ rfl _ rfl _ rfl)
theorem JD(al:c6 a h T)(M:Good a h n)(e:T[k]? =some (.g c ks)):runN ac (z+2) 25 [.ref (a .kt),E k] n=some (.tup (ks.map E),n):=by
 exact(cN (z+1) 25 [D.ref (a aN.kt),E k] n rfl rfl _ (al.ru M) _ _ (al.row (z:=z) M e) _ rfl _ rfl _ rfl)
theorem ZU(q:l.length≤1000):la n (.tup l)=some (l.length:am):=if_pos (Op q)
theorem Ai(q:l.length≤1000)(e:l[k]? =some v):dd n (.tup l) (E k)=some v:=(if_pos (Op q)).trans ((zV ..).trans e)
theorem Li{l:B α}(q:l[i]? =none):l.getD i x=x:=by rw[jy,q];rfl
theorem getD_at{l:B α}(q:i<l.length):l[i]? =some (l.getD i x):=by rw[jy,h2 q];rfl
theorem m1{x y:C}:cY .lt (E x) (.ii y) n=some (decide (x<y)):=an some (q9.mpr B2)
theorem acF(hl:ks.length≤2):runN ac (z+1) 29 [.tup (ks.map E),E i,E k] n=some (E (ks.getD i k),n):=by
 have lM:(ks.map E).length≤1000:=cG (as:=ks) E▸a' hl (aE rfl)
 have l:la n (.tup (ks.map E))=some (ks.length:am):=(ZU lM).trans (by rw[cG])
 by_cases q:i<ks.length
 ·have c:=jG (m1 (n:=n)) q
  have x:=Ai (n:=n) lM (i8 (f:=E) (getD_at (x:=k) q))
  exact(cN z 29 [D.tup (eA E ks),E i,E k] n rfl rfl _ l _ c _ x)
 ·have c:=iK (m1 (n:=n)) q
  rw[Li (B9 (Ro q))]
  exact(cN z 29 [D.tup (eA E ks),E i,E k] n rfl rfl _ l _ c)
theorem afX(al:c6 a h T)(M:Good a h n){bw:aP}(a4:(∃j fS,r= .a j∧bw= .a fS∧ks=[fS])∨∃c l,r= .g c l∧bw= .g c ks)(q:k0 T bw t)(hs:t.size≤24)(a3:T.length<500000)(f:∀k J,runN ac (z+7) 28 [.ref (a .kt),fe r,.tup (ks.map E)] n=some (E k,J)→Gives a h T 1 t k J→X):X:=
 rG (z:=z) al M q hs a3 λ k J e g=>f k J (a4.elim
  (λ⟨j,fS,aw,aB,bZ⟩=>by
   subst aw;subst aB;subst bZ
   exact(cN (z+6) 28 [D.ref (a aN.kt),fe (aP.a j),D.tup (eA E [fS])] n rfl rfl _ rfl _ rfl _ rfl _ rfl _ rfl _ (al.oi M) _ rfl _ _ e))
  λ⟨c,l,aw,aB⟩=>by
   subst aw;subst aB
   exact(cN (z+6) 28 [D.ref (a aN.kt),fe (aP.g c l),D.tup (eA E ks)] n rfl rfl _ rfl _ rfl _ (al.oi M) _ rfl _ _ e)) g
end
end
end Mine
end
section
namespace Mine
variable{l cf:B D}{step:D→aX→St→Y (eZ×St)}{env:aX}{x:Y a0}{r:aN}{H:aT}{m:C}{o:a0}{aC:B aP}{ks:B C}{bE:B ap}{t:ap}
section
variable{dm:Type}[nA dm][oM dm]{O:B (dm×D)}{k ct:dm}{v:D}
theorem AW{dm:Type}[nA dm]{O:B (dm×D)}{k:dm}{v:D}:(c7 O k v).length≤O.length+1:=by
 unfold c7
 split
 ·exact ls (dg (cG ..))
 ·exact dg (fg ..)
theorem pq{a:dm}{b:D}{O:B (dm×D)}:((a,b)::O).lookup k=bif k==a then some b else O.lookup k:=by
 rw[l1]
 cases k==a<;>rfl
theorem acK(L:(ct==k)=false):(O.map λ e=>if e.1==k then(e.1,v)else e).lookup ct=O.lookup ct:=by
 induction O with
 |nil=>rfl
 |cons x O aZ=>
  have f:∀b:D,(bif ct==x.1 then some b else(O.map λ e=>if e.1==k then(e.1,v)else e).lookup ct)=bif ct==x.1 then some b else O.lookup ct:=λ b=>an (λ o=>bif ct==x.1 then some b else o) aZ
  by_cases w:(x.1==k)=true
  ·have y:(ct==x.1)=false:=eq_of_beq w▸L
   exact(an (λ p=>yG ct (p::_)) (if_pos w)).trans (pq.trans (((an (λ c=>bif c then _ else _) y).trans aZ).trans (pq.trans (an (λ c=>bif c then _ else _) y)).symm))
  ·exact(an (λ p=>yG ct (p::_)) (if_neg w)).trans (pq.trans ((f x.2).trans pq.symm))
theorem acJ(s:(O.lookup k).isSome=true):(O.map λ e=>if e.1==k then(e.1,v)else e).lookup k=some v:=by
 induction O with
 |nil=>exact nomatch s
 |cons x O aZ=>
  by_cases w:(x.1==k)=true
  ·exact(an (λ p=>yG k (p::_)) (if_pos w)).trans (pq.trans (an (λ c=>bif c then _ else _) (show(k==x.1)=true from eq_of_beq w▸lE k)))
  ·have y:(k==x.1)=false:=ma.mpr λ e=>w (e▸lE x.1)
   exact(an (λ p=>yG k (p::_)) (if_neg w)).trans (pq.trans ((an (λ c=>bif c then _ else _) y).trans (aZ ((an pY (pq.trans (an (λ c=>bif c then some x.2 else O.lookup k) y))).symm.trans s))))
theorem N9:(c7 O k v).lookup ct=bif ct==k then some v else O.lookup ct:=by
 unfold c7
 by_cases s:(O.lookup k).isSome=true
 ·rw[if_pos s]
  by_cases L:(ct==k)=true
  ·rw[L,eq_of_beq L];exact acJ s
  ·have L:=rX.mpr L
   rw[L];exact acK L
 ·rw[if_neg s,yH]
  by_cases L:(ct==k)=true
  ·rw[L,eq_of_beq L,we.mpr λ v e=>s (an pY e)]
   exact pq.trans (an (λ c=>bif c then _ else _) (lE k))
  ·have L:=rX.mpr L
   rw[L]
   exact(an ((O.lookup ct).or) (pq.trans (an (λ c=>bif c then _ else _) L))).trans (RC ..)
theorem qy:(c7 O k v).lookup k=some v:=N9.trans (an (λ c=>bif c then _ else _) (lE k))
theorem nk(h:ct≠k):(c7 O k v).lookup ct=O.lookup ct:=N9.trans (an (λ c=>bif c then _ else _) (ma.mpr h))
end
section
variable{a:bH}{h:aT}{n:St}{T:B aP}{ag W bL:B C}{z:C}
theorem DR: @fD (live (.tup l) cf) (e0 (.tup l) cf) step [] env n=some (.br env,n):=if_pos trivial
theorem wW{x:D}{r:B D}{aF:aX}{J:St}(e:step x env n=some (.br aF,J)): @fD (live (.tup l) cf) (e0 (.tup l) cf) step (x::r) env n= @fD (live (.tup l) cf) (e0 (.tup l) cf) step r aF J:=fc trivial e rfl
noncomputable def hS:aN→av
 | .kt=>true
 |r=>gZ r
theorem c6.off(al:c6 a h T)(q:∀r o,hS r=true→h r=some o→H r=some o):c6 a H T:=
 al.b7 λ ag W bL K I=>⟨⟨ag,W,bL,⟨q _ _ rfl K.kt,q _ _ rfl K.r,q _ _ rfl K.i,q _ _ rfl K.d,q _ _ rfl K.w,q _ _ rfl K.o,K.len,K.small⟩,I⟩,al.x8⟩
theorem mJ{h:aT}(e:h r=some o)(a4:r≠ .a6 m):up h (.a6 m) x r=some o:=(bP _ _ a4).trans e
theorem ZB(q:hS r=true):r≠ .a6 m:=λ e=>jv ((an hS e).symm.trans q)
theorem c6.mH(al:c6 a h T):c6 a (up h (.a6 m) x) T:=al.off λ r o q e=>mJ e (ZB q)
theorem tn{c0:C}(h:m≠c0):aN.a6 m≠ .a6 c0:=λ e=>h (aN.a6.inj e)
theorem afK{h:aT}{bw:aN}(e:up h r none bw=some o)(q:bw≠r→h bw=some o→H bw=some o):up H r x bw=some o:=
 (f9 (bw=r)).elim (λ L=>nomatch(L▸cR h r none:up h r none bw=none).symm.trans e) λ L=>(bP _ _ L).trans (q L ((bP _ _ L).symm.trans e))
noncomputable def d1(T:B aP):B C→B ap→Prop
 | [],[]=>True
 |k::ks,t::bE=>ba T k t∧d1 T ks bE
 |_,_=>False
@[elab_as_elim] theorem d1.b7{ak:B C→B ap→Prop}(z:ak [] [])(c:∀k ks t bE,ba T k t→d1 T ks bE→ak ks bE→ak (k::ks) (t::bE)):∀{bE:B ap} {ks:B C},d1 T ks bE→ak ks bE
 | [],[],_=>z
 |_::_,_::_,q=>c _ _ _ _ q.1 q.2 (d1.b7 z c q.2)
 | [],_::_,q=>q.elim
 |_::_,[],q=>q.elim
theorem d1.more(m:∀{k:C} {t:ap},ba T k t→ba aC k t)(q:d1 T ks bE):d1 aC ks bE:=q.b7 trivial λ _ _ _ _ q _ i=>⟨m q,i⟩
theorem d1.len(q:d1 T ks bE):ks.length=bE.length:=q.b7 rfl λ _ _ _ _ _ _ i=>an l2 i
theorem d1.pick{i k:C}(q:d1 T ks bE)(p:ba T k t):ba T (ks.getD i k) (bE.getD i t):=
 (q.b7 (ak:=λ ks bE=>∀i,ba T (ks.getD i k) (bE.getD i t)) (λ _=>p) λ _ _ _ _ q _ r i=>match i with
  |0=>q
  |i+1=>r i) i
noncomputable def kn(T:B aP)(l:B ap)(S:B (am×D)):Prop:=∀(k:C) (v:D),S.lookup (k:am)=some v→∃t e6,ba T k t∧v=E e6∧ba T e6 (t.sub l)
structure iT(a:bH)(h:aT)(T:B aP)(l:B ap)(S:B (am×D))(b m:C)(J:St)(aC:B aP)(H:aT)(fB:B (am×D)):Prop where
 bT:c6 a H aC
 good:Good a H J
 ext:∃X,aC=T++X
 le:aC.length≤T.length+b
 seen:H (.a6 m)=some (.cq fB)
 ok:kn aC l fB
 dQ:fB.length≤S.length+b
 off:∀r o,gZ r=false→r≠ .a6 m→h r=some o→H r=some o
theorem iT.eS{l:B ap}{S fB:B (am×D)}{b:C}(c:iT a h T l S b m n aC H fB){k:C}(q:ba T k t):ba aC k t:=let⟨_,e⟩:=c.ext;e▸q.more
noncomputable def vZ(a:bH)(nn:C)(h:aT)(n:St)(T:B aP)(k m:C)(ks:B C)(l:B ap)(S:B (am×D))(t:ap)(b:C):Prop:=∀{X:Prop},(∀fk J aC H fB,runN ac nn 27 [.ref (a .kt),E k,.tup (ks.map E),.tup [],.ref m] n=some (E fk,J)→ba aC fk (t.sub l)→iT a h T l S b m J aC H fB→X)→X
noncomputable def rZ(a:bH)(t:ap):Prop:=∀{z:C} {h:aT} {n:St} {T:B aP} {k m:C} {ks:B C} {l:B ap} {S:B (am×D)},c6 a h T→Good a h n→ba T k t→d1 T ks l→ks.length≤2→(t.sub l).size≤24→T.length+t.size<500000→
 h (.a6 m)=some (.cq S)→kn T l S→S.length+t.size<1000→vZ a (z+t.size+8) h n T k m ks l S t t.size
noncomputable def Dr:bk:=.cons (.ex (.append (.v 6) (.call 27 (.cons (.v 0) (.cons (.v 7) (.cons (.v 2) (.cons (.v 3) (.cons (.v 4) .nil)))))))) .nil
noncomputable def sy(a:bH)(k m gO:C)(ks:B C)(r:aP)(bm:Y D):aX:=[some (.ref (a .kt)),some (E k),some (.tup (ks.map E)),some (.tup []),some (.ref m),some (fe r),some (.ref gO),bm]
theorem de(M:Good a h n)(e:h (.a6 m)=some o):n[m]? =some o:=M.a6 m▸M.at_ _ _ e
theorem UY{u:ap}(cU:rZ a u){nn k j gO:C}{l:B ap}{S:B (am×D)}{r:aP}{acc:B D}{bm:Y D}(al:c6 a h T)(M:Good a h n)(q:ba T j u)(fK:d1 T ks l)(hl:ks.length≤2)(hs:(u.sub l).size≤24)(a3:T.length+u.size<500000)
  (hm:h (.a6 m)=some (.cq S))(ok:kn T l S)(dx:S.length+u.size<1000)(ay:h (.a6 gO)=some (.li acc))(ne:gO≠m)(re:acc.length<10)(cy:nn=z+u.size+8){X:Prop}
  (f:∀fk J aC H fB,(dh false [7] (E j) (sy a k m gO ks r bm)).bind (λ dG=>bS ac (runN ac nn) Dr dG n)=some (.br (sy a k m gO ks r (some (E j))),J)→ba aC fk (u.sub l)→H (.a6 gO)=some (.li (acc++[E fk]))→
   iT a (up h (.a6 gO) none) T l S u.size m J aC H fB→X):X:=by
 subst cy
 refine cU (z:=z) al M q fK hl hs a3 hm ok dx λ fk aa bX aI bU e gm V=>?_
 have Em:=V.off _ _ rfl (tn ne) ay
 obtain⟨ao,ez,dA,_⟩:=wB V.good Em (E fk) (e' re (aE rfl))
 rw[V.good.a6]at ez
 have ZY:ml n (.ref gO)=true:=by simp only[ml,Am,de M ay]
 refine f fk ao bX (up aI (.a6 gO) (some (.li (acc++[E fk])))) bU (aR (a:=sy a k m gO ks r (some (E j))) rfl ?_) gm (cR ..) ⟨V.bT.mH,dA,V.ext,V.le,mJ V.seen (tn ne.symm),V.ok,V.dQ,λ hX o c2 dW bC=>afK bC λ _ e=>V.off _ _ c2 dW e⟩
 exact dk (z+u.size+8) Dr (sy a k m gO ks r (some (E j))) n ZY _ _ e _ ez
end
end Mine
end
section
namespace Mine
variable{m k:C}{l:B ap}{t:ap}{b:C}{bU:B (am×D)}{bX:B aP}{aI:aT}{cL:B aP}{x y d s:C}{r:aP}{ks:B C}
section
variable{a:bH}{h:aT}{n:St}{T:B aP}{ag W bL:B C}{z:C}
theorem Ak{S:B (am×D)}(e:n[m]? =some (.cq S)):cY .pk (E k) (.ref m) n=some (S.lookup (k:am)).isSome:=by simp only[cY,Aj,E,e,jO]
theorem L3{S:B (am×D)}(e:n[m]? =some (.cq S)):dd n (.ref m) (E k)=S.lookup (k:am):=an (rj (E k)) e
theorem kn.b7{S:B (am×D)}(ok:kn T l S){v:D}(e:S.lookup (k:am)=some v){X:Prop}(f:∀t e6,ba T k t→v=E e6→ba T e6 (t.sub l)→X):X:=let⟨t,e6,q,L,ep⟩:=ok k v e;f t e6 q L ep
theorem kn.more{aC:B aP}{S:B (am×D)}(m:∀{k:C} {t:ap},ba T k t→ba aC k t)(ok:kn T l S):kn aC l S:=λ k v e=>ok.b7 e λ t e6 q L ep=>⟨t,e6,m q,L,m ep⟩
theorem kn.put{S:B (am×D)}(ok:kn T l S){fk:C}(q:ba T k t)(ep:ba T fk (t.sub l)):kn T l (c7 S (k:am) (E fk)):=λ ct v e=>
 (f9 ((ct:am)=k)).elim (λ L=>⟨t,fk,tK L▸q,(lk (L▸qy) e).symm,ep⟩) λ L=>ok ct v ((nk L).symm.trans e)
theorem iT.refl{S:B (am×D)}(al:c6 a h T)(M:Good a h n)(hm:h (.a6 m)=some (.cq S))(ok:kn T l S):iT a h T l S b m n T h S:=
 ⟨al,M,⟨[],(eX T).symm⟩,d2 ..,hm,ok,d2 ..,λ _ _ _ _ e=>e⟩
theorem iT.less{S:B (am×D)}{h₀:aT}(x:iT a h T l S b m n bX aI bU)(q:∀r o,gZ r=false→r≠ .a6 m→h₀ r=some o→h r=some o):iT a h₀ T l S b m n bX aI bU:=
 ⟨x.bT,x.good,x.ext,x.le,x.seen,x.ok,x.dQ,λ r o c2 dW e=>x.off r o c2 dW (q r o c2 dW e)⟩
theorem me{T:B aP}(x:∃X,bX=T++X)(y:∃X,cL=bX++X):∃X,cL=T++X:=let⟨X,e⟩:=x;let⟨he,f⟩:=y;⟨X++he,f.trans ((an (· ++he) e).trans (jx ..))⟩
theorem of{L:C}(p:y≤x+b)(q:L≤y+d):L≤x+(b+d):=a' q (a' (hb p d) (dg (mQ ..)))
theorem iT.trans{S dt:B (am×D)}{aa ao:St}{bJ:aT}(x:iT a h T l S b m aa bX aI bU)(y:iT a aI bX l bU d m ao cL bJ dt):iT a h T l S (b+d) m ao cL bJ dt:=
 ⟨y.bT,y.good,me x.ext y.ext,of x.le y.le,y.seen,y.ok,of x.dQ y.dQ,λ r o c2 dW e=>y.off r o c2 dW (x.off r o c2 dW e)⟩
noncomputable def Jh(r bw:aP)(fJ:B C):Prop:=(∃j fS,r= .a j∧bw= .a fS∧fJ=[fS])∨∃c l,r= .g c l∧bw= .g c fJ
noncomputable def Kk(a:bH)(nn:C)(n:St)(k m gO:C)(ks:B C)(r:aP)(ae lY:B D)(l:B D)(bm:Y D):Y (eZ×St):=@fD (live (.tup ae) lY) (e0 (.tup ae) lY) (λ x aF J=>(dh false [7] x aF).bind λ dG=>bS ac (runN ac nn) Dr dG J) l (sy a k m gO ks r bm) n
theorem E3(h:x+(s+y)<b):x+s<b:=cn (fA (d2 ..) _) h
theorem xv(p:y≤x+s)(h:x+s<b):y<b:=cn p h
theorem AA{ht:C}(p:ht≤x+s)(h:x+(s+y)<b):ht+y<b:=cn (hb p y) (cn (dg (mQ ..)) h)
theorem UX{nn:C}{S:B (am×D)}(al:c6 a h T)(M:Good a h n)(q:ba T k t)(e:T[k]? =some r)(be:t.open=1)(aj:i' r=4∨i' r=2)
  (hm:h (.a6 m)=some (.cq S))(nl:S.lookup (k:am)=none)(dx:S.length+b<1000)(hs:(t.sub l).size≤24)(a3:T.length+b<500000)(X1:(gG r).length≤2)
  (Az:∀{X:Prop},(∀fJ bw ao cL bJ dt bm,Kk a (nn+7) (n++[.li []]) k m n.length ks r ((gG r).map E) ((gG r).map E) ((gG r).map E) none=
    some (.br (sy a k m n.length ks r bm),ao)→iT a h T l S b m ao cL bJ dt→bJ (.a6 n.length)=some (.li (fJ.map E))→k0 cL bw (t.sub l)→Jh r bw fJ→X)→X):vZ a (nn+8) h n T k m ks l S t (b+1):=λ f=>by
 refine Az λ fJ bw ao cL bJ dt bm gN V li mE vw=>afX (z:=nn) V.bT V.good vw mE hs (xv V.le a3) λ fk bW bZ gL=>gL.b7 λ lB cQ j8 Hw d0 gL=>?_
 have LN:=gL.off _ _ rfl V.seen
 have S5:=de d0 LN
 have hZ:=d0.set (c3:=.cq (c7 dt (k:am) (E fk))) LN
 rw[d0.a6]at hZ
 have st:j' bW (.ref m) (E k) (E fk)=some (bW.set m (.cq (c7 dt (k:am) (E fk)))):=
  (an (rL bW m (E k) (E fk)) S5).trans (if_pos (e' (xv V.dQ dx) (aE rfl)))
 have Ws:=(L3 (k:=k) (de hZ (cR _ _ _))).trans qy
 have cm:=(al.opens M).1
 have oo:=be▸(al.opens M).2.1 q
 have nt:=nl▸Ak (k:=k) (de M hm)
 have Gd:cY .eq (E (i' r)) (.ii 6) n=some false:=by rcases aj with L|L<;>rw[L]<;>rfl
 have adH:cY .eq (E (i' r)) (.ii 7) n=some false:=by rcases aj with L|L<;>rw[L]<;>rfl
 have X2:((gG r).map E).length≤100000:=cG (as:=gG r) E▸a' X1 (aE rfl)
 refine f fk _ lB _ (c7 dt (k:am) (E fk)) (cN (nn+7) 27 [D.ref (a aN.kt),E k,D.tup (eA E ks),D.tup [],D.ref m] n rfl rfl _ cm _ oo _ rfl _ nt _ (al.JH M) _ (al.rowAt M e) _ (nr r) _ Gd _ (nr r) _ adH _ _ (Al (z:=nn+6) r) _ rfl X2 _ _ gN _ (GL (de V.good li)) _ _ bZ _ st _ Ws) j8 ⟨Hw.mH,hZ,me V.ext gL.ext,of V.le gL.le,cR _ _ _,(kn.more (λ q=>gL.eS q) V.ok).put (gL.eS (V.eS q)) j8,a' AW (gq V.dQ),λ hX o c2 dW bC=>(bP _ _ dW).trans (gL.off _ _ c2 (V.off _ _ c2 dW bC))⟩
theorem G2{h:aT}{r bw:aN}{o:a0}(e:up h r none bw=some o):bw≠r∧h bw=some o:=
 have L:bw≠r:=λ L=>nomatch(L▸cR h r none:up h r none bw=none).symm.trans e
 ⟨L,(bP _ _ L).symm.trans e⟩
noncomputable def qE:B ap→C
 | []=>0
 |t::bE=>t.size+qE bE
theorem UW{nn gO:C}{ae lY:B D}(hl:ks.length≤2)(ne:gO≠m){df:B ap}:∀{eR:B C} {h:aT} {n:St} {T:B aP} {S:B (am×D)} {acc:B D} {bm:Y D},(∀u∈df,rZ a u∧(u.sub l).size≤24∧8+u.size≤nn)→c6 a h T→Good a h n→d1 T eR df→d1 T ks l→
  T.length+qE df<500000→h (.a6 m)=some (.cq S)→kn T l S→S.length+qE df<1000→h (.a6 gO)=some (.li acc)→acc.length+df.length≤9→
  ∀{X:Prop},(∀fJ J aC H fB mA,Kk a nn n k m gO ks r ae lY (eR.map E) bm=some (.br (sy a k m gO ks r mA),J)→
   d1 aC fJ (df.map (ap.sub l))→H (.a6 gO)=some (.li (acc++fJ.map E))→iT a (up h (.a6 gO) none) T l S (qE df) m J aC H fB→X)→X:=by
 induction df with
 |nil=>
  intro eR h n T S acc bm _ al M q _ _ hm ok _ ay _ X f
  cases eR with
  |nil=>exact f [] n T h S bm DR trivial (ay.trans (an (λ l=>some (a0.li l)) (eX acc).symm)) ((iT.refl al M hm ok).less λ r o _ _ e=>(G2 e).2)
  |cons _ _=>exact q.elim
 |cons u df aZ=>
  intro eR h n T S acc bm cU al M q fK a3 hm ok dx ay re X f
  cases eR with
  |nil=>exact q.elim
  |cons j eR=>
  have ec:=cU u (.head _)
  refine UY (z:=nn-8-u.size) (nn:=nn) (k:=k) (r:=r) (bm:=bm) ec.1 al M q.1 fK hl ec.2.1 (E3 a3) hm ok (E3 dx) ay ne (by have:(u::df).length=df.length+1:=rfl;omega) (by have:=ec.2.2;omega) λ fk aa bX aI bU e gm Em V=>?_
  refine aZ (bm:=some (E j)) (λ u dS=>cU u (.tail _ dS)) V.bT V.good (q.2.more λ q=>V.eS q) (fK.more λ q=>V.eS q) (AA V.le a3) V.seen V.ok (AA V.dQ dx) Em (by have:(u::df).length=df.length+1:=rfl;rw[fg,Q4];omega) λ fJ ao cL bJ dt mA aB cO XS Hz=>?_
  refine f (fk::fJ) ao cL bJ dt mA ((wW e).trans aB) ⟨Hz.eS gm,cO⟩ (XS.trans (an (λ l=>some (a0.li l)) (jx ..))) (iT.trans ⟨V.bT.mH,V.good.less λ r o e=>(G2 e).2,V.ext,V.le,mJ V.seen (tn ne.symm),V.ok,V.dQ,λ r o c2 dW e=>(bP _ _ (G2 e).1).trans (V.off r o c2 dW e)⟩ Hz)
end
end Mine
end
section
namespace Mine
variable{t:ap}{k m:C}{ks:B C}{l:B ap}{b:C}{α:Type}{P:α→Prop}{x:α}{X:Prop}
section
variable{a:bH}{h:aT}{n:St}{T:B aP}{ag W bL:B C}{z:C}
theorem Kn{nn:C}{S:B (am×D)}(al:c6 a h T)(M:Good a h n)(q:ba T k t)(hm:h (.a6 m)=some (.cq S))(ok:kn T l S)(c:t.open=0∨∃v,S.lookup (k:am)=some v):vZ a (nn+1) h n T k m ks l S t b:=λ f=>by
 have cm:=(al.opens M).1
 by_cases L:t.open=0
 ·have oo:=L▸(al.opens M).2.1 q
  exact f k n T h S (cN nn 27 [D.ref (a aN.kt),E k,D.tup (eA E ks),D.tup [],D.ref m] n rfl rfl _ cm _ oo _ rfl) ((Pf L).symm▸q) (iT.refl al M hm ok)
 ·have oo:=(rE t).resolve_left L▸(al.opens M).2.1 q
  obtain⟨v,e⟩:=c.resolve_left L
  refine ok.b7 e λ cB e6 d' w cO=>?_
  have nt:=(Ak (k:=k) (de M hm)).trans (an (λ o=>some o.isSome) e)
  have ad6:=(L3 (k:=k) (de M hm)).trans (w▸e)
  exact f e6 n T h S (cN nn 27 [D.ref (a aN.kt),E k,D.tup (eA E ks),D.tup [],D.ref m] n rfl rfl _ cm _ oo _ rfl _ nt _ ad6) (q.a6 d'▸cO) (iT.refl al M hm ok)
theorem Kl{nn:C}{S:B (am×D)}(al:c6 a h T)(M:Good a h n)(q:ba T k t)(hm:h (.a6 m)=some (.cq S))(ok:kn T l S)(f:t.open=1→S.lookup (k:am)=none→vZ a (nn+1) h n T k m ks l S t b):vZ a (nn+1) h n T k m ks l S t b:=
 (f9 (t.open=0∨∃v,S.lookup (k:am)=some v)).elim (λ c=>Kn al M q hm ok c) λ c=>f ((rE t).resolve_left λ L=>c (.inl L)) (we.mpr λ v e=>c (.inr ⟨v,e⟩))
theorem Ds{df:B ap}(cU:∀u∈df,rZ a u)(dS:df.length≤2)(uN:t.size=qE df+1)(Yp:∀l,∀u∈df,(u.sub l).size≤(t.sub l).size)(w3:∀u∈df,u.size≤qE df)
  (a4:∀{T:B aP} {k:C},ba T k t→∀{X:Prop},(∀r,T[k]? =some r→d1 T (gG r) df→(i' r=4∨i' r=2)→(∀{aC:B aP} {fJ:B C} {l:B ap},d1 aC fJ (df.map (ap.sub l))→∃bw,k0 aC bw (t.sub l)∧Jh r bw fJ)→X)→X):rZ a t:=by
 intro z h n T k m ks l S al M q fK hl hs a3 hm ok dx
 refine Kl al M q hm ok λ L nl=>a4 q λ r e Oh aj mE=>?_
 rw[uN]at a3 dx⊢
 refine UX (nn:=z+(qE df+1)) (b:=qE df) (ks:=ks) (l:=l) al M q e L aj hm nl (mR dx) hs (mR a3) (Oh.len▸dS) λ f=>?_
 have ne:n.length≠m:=λ e=>absurd (M.lt (r:=.a6 m) (by rw[hm];rfl)) (by rw[M.a6];exact Rs (dg e))
 refine UW (a:=a) (nn:=z+(qE df+1)+7) (k:=k) (m:=m) (gO:=n.length) (r:=r) (ae:=(gG r).map E) (lY:=(gG r).map E) (acc:=[]) (bm:=none) hl ne (λ u dS=>⟨cU u dS,a' (Yp l u dS) hs,by have:=w3 u dS;omega⟩) (al.mH (m:=n.length) (x:=some (.li []))) (M.mH (.li [])) Oh fK (mR a3) (mJ hm (tn ne.symm)) ok (mR dx) (cR _ _ _) (a' (dg (ji _)) (a' dS (aE rfl))) λ fJ ao cL bJ dt bm gN gm li V=>?_
 obtain⟨bw,adl,vw⟩:=mE gm
 exact f fJ bw ao cL bJ dt bm gN (V.less λ r o c2 dW e=>
  have L:r≠ .a6 n.length:=λ L=>nomatch(L▸M.fresh (cJ _):h r=none).symm.trans e
  (bP _ _ L).trans ((bP _ _ L).trans e)) li adl vw
theorem U0(i:C){nn:C}{S:B (am×D)}(al:c6 a h T)(M:Good a h n)(q:ba T k (.v i))(hl:ks.length≤2)(hm:h (.a6 m)=some (.cq S))(nl:S.lookup (k:am)=none):
  runN ac (nn+2) 27 [.ref (a .kt),E k,.tup (ks.map E),.tup [],.ref m] n=some (E (ks.getD i k),n):=by
 have cm:=(al.opens M).1
 have oo:=(al.opens M).2.1 q
 have nt:=nl▸Ak (k:=k) (de M hm)
 exact(cN (nn+1) 27 [D.ref (a aN.kt),E k,D.tup (eA E ks),D.tup [],D.ref m] n rfl rfl _ cm _ oo _ rfl _ nt _ (al.JH M) _ (al.rowAt M q) _ rfl _ rfl _ rfl _ _ (acF (n:=n) (z:=nn) (i:=i) (k:=k) hl))
theorem UZ(i:C):rZ a (.v i):=λ{z h n T k m ks l S} al M q fK hl hs a3 hm ok dx=>Kl (nn:=z+1+7) al M q hm ok λ _ nl _ f=>f (ks.getD i k) n T h S (U0 i al M q hl hm nl) (fK.pick q) (iT.refl al M hm ok)
theorem Km(L:t.open=0):rZ a t:=λ al M q fK hl hs a3 hm ok dx=>Kn al M q hm ok (.inl L)
theorem jj(h:P x):∀y∈ [x],P y:=λ y bI=>jz.mp bI▸h
theorem oX{L:α}(h:P x)(g:P L):∀y∈ [x,L],P y:=λ y bI=>(kh.mp bI).elim (λ e=>e▸h) λ bI=>jj g y bI
theorem d1.one(q:d1 T ks [t])(f:∀j,ks=[j]→ba T j t→X):X:=match ks,q with
 | [j],q=>f j rfl q.1
theorem d1.two{u:ap}(q:d1 T ks [t,u])(f:∀i j,ks=[i,j]→ba T i t→ba T j u→X):X:=match ks,q with
 | [i,j],q=>f i j rfl q.1 q.2.1
theorem U3(t:ap):rZ a t:=by
 induction t with
 |k c=>exact Km rfl
 |v i=>exact UZ i
 |b2 c=>exact Km rfl
 |a u aZ=>exact Ds (df:=[u]) (jj aZ) (h5 1) rfl (λ l=>jj (h5 _)) (jj (cJ _)) λ q _ f=>q.oW λ j e q=>f _ e ⟨q,trivial⟩ (.inl rfl) λ gm=>gm.one λ fS L p=>⟨.a fS,⟨fS,rfl,p⟩,.inl ⟨j,fS,rfl,rfl,L⟩⟩
 |g1 c u aZ=>exact Ds (df:=[u]) (jj aZ) (h5 1) rfl (λ l=>jj (h5 _)) (jj (cJ _)) λ q _ f=>q.n2 λ j o e q=>f _ e ⟨q,trivial⟩ (.inr rfl) λ gm=>gm.one λ fS L p=>⟨.g c [fS],⟨o,fS,rfl,p⟩,.inr ⟨c,[j],rfl,L▸rfl⟩⟩
 |g2 c u v aZ ih2=>
  exact Ds (df:=[u,v]) (oX aZ ih2) (cJ 2) rfl (λ l=>oX (ls (d2 ..)) (ls (iF ..))) (oX (d2 ..) (iF ..)) λ q _ f=>q.n3 λ i j o e q ep=>f _ e ⟨q,ep,trivial⟩ (.inr rfl) λ gm=>gm.two λ jN fS L p f3=>⟨.g c [jN,fS],⟨o,jN,fS,rfl,p,f3⟩,.inr ⟨c,[i,j],rfl,L▸rfl⟩⟩
end
end Mine
end
section
namespace Mine
variable{aI:aT}{bX:B aP}{b d:C}{aa:St}{k:C}{t:ap}{r:aN}{o:a0}{m:C}{J:St}{xs:B D}{v:D}{dq:St→Prop}{jl:qM dq}{step:D→St→Y (B D×St)}{acc:B D}{l:B ap}{ks:B C}
section
variable{a:bH}{h:aT}{n:St}{T:B aP}{ag W bL:B C}{z:C}
structure b0(a:bH)(h:aT)(T:B aP)(b:C)(J:St)(aC:B aP)(H:aT):Prop where
 good:Good a H J
 bT:c6 a H aC
 jm:jY h T H aC b
theorem b0.refl(al:c6 a h T)(M:Good a h n):b0 a h T 0 n T h:=⟨M,al,jY.refl h T⟩
theorem b0.trans{bJ:aT}{cL:B aP}{ao:St}(x:b0 a h T b aa bX aI)(y:b0 a aI bX d ao cL bJ):b0 a h T (b+d) ao cL bJ:=⟨y.good,y.bT,x.jm.trans y.jm⟩
theorem b0.mono(x:b0 a h T b aa bX aI)(q:b≤d):b0 a h T d aa bX aI:=⟨x.good,x.bT,x.jm.mono q⟩
theorem b0.eS(x:b0 a h T b aa bX aI)(q:ba T k t):ba bX k t:=x.jm.eS q
theorem b0.xl(x:b0 a h T b aa bX aI){k:B C}{t:B ap}(q:d1 T k t):d1 bX k t:=q.more λ q=>x.jm.eS q
theorem b0.le(x:b0 a h T b aa bX aI):bX.length≤T.length+b:=x.jm.le
theorem b0.off(x:b0 a h T b aa bX aI)(q:gZ r=false)(e:h r=some o):aI r=some o:=x.jm.off r o q e
theorem b0.a6(x:b0 a h T b aa bX aI)(e:h (.a6 m)=some o):aI (.a6 m)=some o∧aa[m]? =some o:=⟨x.off rfl e,de x.good (x.off rfl e)⟩
theorem b0.s6(g:Gives a h T b t k J){X:Prop}(f:∀aC H,ba aC k t→b0 a h T b J aC H→X):X:=g.b7 λ aC H q al M g=>f aC H q ⟨M,al,g⟩
theorem GH{h:aT}(L:h (.a6 m)=none)(e:h r=some o):r≠ .a6 m:=λ q=>nomatch(q▸L:h r=none).symm.trans e
theorem DS(M:Good a h n)(hm:n.length≤m)(e:h r=some o):r≠ .a6 m:=GH (M.fresh hm) e
theorem b0.kE(x:b0 a h T b aa bX aI)(o:a0):b0 a h T b (aa++[o]) bX aI:=⟨x.good.kE o,x.bT,x.jm⟩
theorem b0.start(al:c6 a h T)(M:Good a h n)(o:a0):b0 a h T 0 (n++[o]) T (up h (.a6 n.length) (some o))∧(up h (.a6 n.length) (some o)) (.a6 n.length)=some o:=
 ⟨⟨M.mH o,al.mH,⟨[],(eX T).symm⟩,cJ _,λ r c3 _ e=>mJ e (DS M (cJ _) e)⟩,cR _ _ _⟩
theorem b0.put{c3:a0}(x:b0 a h T b aa bX aI)(e:aI (.a6 m)=some o)(hm:h (.a6 m)=none):b0 a h T b (aa.set m c3) bX (up aI (.a6 m) (some c3))∧(up aI (.a6 m) (some c3)) (.a6 m)=some c3:=
 ⟨⟨by have M:=x.good.set (c3:=c3) e;rw[x.good.a6]at M;exact M,x.bT.mH,x.jm.ext,x.jm.le,λ r o k bC=>mJ (x.jm.off r o k bC) (GH hm bC)⟩,cR _ _ _⟩
theorem m0(e:n[m]? =some (.li xs))(hl:xs.length<room):l8 n (.ref m) v=some (n.set m (.li (xs++[v]))):=(an (sT λ xs=>if xs.length<room then some (n.set m (.li (xs++[v])))else none) e).trans (if_pos hl)
theorem hQ(e:n[m]? =some (.li xs)):ml n (.ref m)=true:=an (λ o:Y a0=>match o with|some (.li _)=>true|_=>false) e
theorem PD(e:n[m]? =some (.li xs)):rO n (.ref m)=some (.tup xs):=GL e
theorem hg{step:D→aX→St→Y (eZ×St)}{env:aX}(h:dq n): @fD dq jl step [] env n=some (.br env,n):=if_pos h
theorem jF(h:dq n): @lF dq jl step [] acc n=some (acc,n):=if_pos h
theorem h7{out:B D}{x:D}{r:B D}{R:Y (B D×St)}(h:dq n)(e:step x n=some (out,J))(q: @lF dq jl step r (acc++out) J=R): @lF dq jl step (x::r) acc n=R:=(if_pos h).trans (aR e q)
theorem ad8(t:ap):t.size≤(t.sub l).size:=by
 induction t with
 |k _=>exact cJ _
 |v _=>exact Bg _
 |a t i=>exact gq i
 |b2 _=>exact cJ _
 |g1 _ t i=>exact gq i
 |g2 _ t u i j=>exact gq (hv i j)
section
variable{X:Prop}
theorem Ko(al:c6 a h T)(M:Good a h n)(q:ba T k t)(fK:d1 T ks l)(hl:ks.length≤2)(hs:(t.sub l).size≤24)(a3:T.length+24<500000)
  (f:∀fk J aC H,runN ac (z+33) 26 [.ref (a .kt),E k,.tup (ks.map E),.tup []] n=some (E fk,J)→ba aC fk (t.sub l)→b0 a h T 24 J aC H→X):X:=by
 have cm:=(al.opens M).1
 have ru:=al.ru M
 have qh:=a' (ad8 (l:=l) t) hs
 refine q.LB λ r cH=>(rE t).elim (λ L=>?_) λ L=>?_
 ·have oo:=L▸(al.opens M).2.1 q
  exact f k n T h (cN (z+32) 26 [D.ref (a aN.kt),E k,D.tup (eA E ks),D.tup []] n rfl rfl _ ru _ _ (al.row (z:=z+31) M cH) _ cm _ oo _ rfl) ((Pf L).symm▸q) ((b0.refl al M).mono (fs _))
 ·have oo:=L▸(al.opens M).2.1 q
  refine U3 (a:=a) t (z:=z+24-t.size) (k:=k) (m:=n.length) (ks:=ks) (l:=l) (S:=[]) (al.mH (m:=n.length) (x:=some (.cq []))) (M.mH (.cq [])) q fK hl hs (cn (fA qh _) a3) (cR _ _ _) (λ k v e=>nomatch e) (by rw[List.length_nil,ji];omega) λ fk J aC H fB e gm V=>?_
  have e:=(an (λ m=>runN ac (m+8) 27 [.ref (a .kt),E k,.tup (ks.map E),.tup [],D.ref n.length] (n++[a0.cq []])) (Cp (a' qh (iF ..):t.size≤z+24))).symm.trans e
  exact f fk J aC H (cN (z+32) 26 [D.ref (a aN.kt),E k,D.tup (eA E ks),D.tup []] n rfl rfl _ ru _ _ (al.row (z:=z+31) M cH) _ cm _ oo _ rfl _ _ e) gm ⟨V.good,V.bT,V.ext,a' V.le (fA qh _),λ r o c2 e=>V.off r o c2 (DS M (cJ _) e) (mJ e (DS M (cJ _) e))⟩
theorem U4(al:c6 a h T)(M:Good a h n):runN ac (z+2) 26 [.ref (a .kt),E 0,v,.tup []] n=some (E 0,n):=al.b7 λ ag W bL K I=>by
 exact(cN (z+1) 26 [D.ref (a aN.kt),E 0,v,D.tup []] n rfl rfl _ (al.ru M) _ _ (A4 (z:=z) K M (I.prim 0 (aE rfl))) _ ((al.opens M).1) _ ((al.opens M).2.2 0 (aE rfl)) _ rfl)
noncomputable def Dl:bk:=.cons (.ex (.append (.v 4) (.call 26 (.cons (.v 0) (.cons (.v 5) (.cons (.v 2) (.cons (.v 3) .nil))))))) .nil
noncomputable def wK(a:bH)(k:C)(ks:B C)(m:C)(o:Y D):aX:=[some (.ref (a .kt)),some (.tup [E k]),some (.tup (ks.map E)),some (.tup []),some (.ref m),o]
theorem U2(al:c6 a h T)(M:Good a h n)(q:ba T k t)(fK:d1 T ks l)(hl:ks.length≤2)(hs:(t.sub l).size≤24)(a3:T.length+24<500000)
  (f:∀fk J aC H,runN ac (z+34) 30 [.ref (a .kt),.tup [E k],.tup (ks.map E),.tup []] n=some (.tup [E fk],J)→ba aC fk (t.sub l)→b0 a h T 24 J aC H→X):X:=by
 have b2:=(b0.start al M (.li [])).1
 refine Ko (z:=z) b2.bT b2.good q fK hl hs a3 λ fk aa bX aI e gm go=>?_
 have g1:=go.a6 (cR h (.a6 n.length) (some (.li [])))
 have g2:=((b2.trans go).put (c3:=.li ([]++[E fk])) g1.1 (M.fresh (cJ _)))
 have hh:ml (n++[.li []]) (.ref n.length)=true:=hQ (iZ rfl)
 have ez:=m0 (v:=E fk) g1.2 (aE rfl)
 have st:bS ac (runN ac (z+33)) Dl (wK a k ks n.length (some (E k))) (n++[a0.li []])=some (.br (wK a k ks n.length (some (E k))),_):=dk (z+33) Dl (wK a k ks n.length (some (E k))) (n++[a0.li []]) hh _ _ e _ ez
 have gN:=fc (dq:=live (.tup [E k]) [E k]) (jl:=e0 _ _) (step:=λ x aF J=>(dh false [5] x aF).bind λ dG=>bS ac (runN ac (z+33)) Dl dG J) (env:=wK a k ks n.length none) trivial (aR (a:=wK a k ks n.length (some (E k))) rfl st) (hg trivial)
 exact f fk _ _ _ (cN (z+33) 30 [D.ref (a aN.kt),D.tup [E k],D.tup (eA E ks),D.tup []] n rfl rfl _ rfl (aE rfl) _ _ gN _ (PD (de g2.1.good g2.2))) gm (g2.1.mono (dg (ji _)))
end
end
end Mine
end
section
namespace Mine
variable{c:C}{α:Type}{i d ae:C}
noncomputable def bd:ap→D
 | .k c=>.tup [.ss [107],E c]
 | .v i=>.tup [.ss [118],E i]
 | .a t=>.tup [.ss [97],bd t]
 | .b2 c=>.tup [.ss [103],E c,.tup []]
 | .g1 c t=>.tup [.ss [103],E c,.tup [bd t]]
 | .g2 c t u=>.tup [.ss [103],E c,.tup [bd t,bd u]]
noncomputable def gY(c:C):B ap→ap
 | [t]=>.g1 c t
 | [t,u]=>.g2 c t u
 |_=>.b2 c
noncomputable def ap.ar(m:C):ap→Prop
 | .k _=>True
 | .v i=>i<m
 | .a t=>t.ar m
 | .b2 _=>True
 | .g1 _ t=>t.ar m
 | .g2 _ t u=>t.ar m∧u.ar m
noncomputable def ap.wf:ap→Prop
 | .k c=>c=7∨c=12∨c=13
 | .v _=>True
 | .a t=>t.wf
 | .b2 c=>iA c
 | .g1 c t=>iA c∧t.wf
 | .g2 c t u=>iA c∧t.wf∧u.wf
structure b5 where
 ah:C
 nm:C
 aM:C
 eL:av
structure cw where
 many:C→C
 up:C→B ap
noncomputable def cw.own(W:cw)(l:C):B ap:=(ck (W.many l)).map .v
noncomputable def cw.dK(W:cw)(ae:C):C→B ap
 |0=>W.own ae
 |d+1=>(W.up (ae-d)).map (ap.sub (W.dK ae d))
structure cw.ok(W:cw):Prop where
 many:∀l,W.many l≤2
 up:∀l,l<3→(W.up (l+1)).length=W.many l∧∀t∈W.up (l+1),t.ar (W.many (l+1))∧t.wf∧t.size≤2
section
variable{ak:B ap→Prop}
@[elab_as_elim] theorem uA(l:B ap)(ec:ak [])(ax:∀t,ak [t])(aH:∀t u,ak [t,u])(cI:∀t u v l,ak (t::u::v::l)):ak l:=match l with
 | []=>ec
 | [t]=>ax t
 | [t,u]=>aH t u
 |t::u::v::l=>cI t u v l
@[elab_as_elim] theorem zU(l:B ap)(h:l.length≤2)(ec:ak [])(ax:∀t,ak [t])(aH:∀t u,ak [t,u]):ak l:=
 uA (ak:=λ l=>l.length≤2→ak l) l (λ _=>ec) (λ t _=>ax t) (λ t u _=>aH t u) (λ _ _ _ l h=>absurd h (Co (iF 3 l.length))) h
end
theorem WS{l:B ap}(h:l.length≤2):bd (gY c l)= .tup [.ss [103],E c,.tup (l.map bd)]:=zU l h rfl (λ _=>rfl) λ _ _=>rfl
theorem WR{l m:B ap}:(gY c l).sub m=gY c (l.map (ap.sub m)):=uA l rfl (λ _=>rfl) (λ _ _=>rfl) λ _ _ _ _=>rfl
noncomputable def ap.uC:ap→C
 | .b2 c=>c
 | .g1 c _=>c
 | .g2 c _ _=>c
 |_=>0
noncomputable def ap.gl:ap→B ap
 | .g1 _ t=>[t]
 | .g2 _ t u=>[t,u]
 |_=>[]
variable{l m:B ap}{t:ap}
theorem Lf:(gY c l).uC=c:=uA l rfl (λ _=>rfl) (λ _ _=>rfl) λ _ _ _ _=>rfl
theorem Ll(h:l.length≤2):(gY c l).gl=l:=zU l h rfl (λ _=>rfl) λ _ _=>rfl
theorem D0{ug:C}{cf:B ap}(h:l.length≤2)(H:cf.length≤2)(e:gY c l=gY ug cf):c=ug∧l=cf:=
 ⟨Lf.symm.trans ((an ap.uC e).trans Lf),(Ll h).symm.trans ((an ap.gl e).trans (Ll H))⟩
theorem WU(o:iA c):(∀t∈l,t.wf)→(gY c l).wf:=uA l (λ _=>o) (λ t h=>⟨o,h t (.head _)⟩) (λ t u h=>⟨o,h t (.head _),h u (.tail _ (.head _))⟩) λ _ _ _ _ _=>o
theorem WQ{s:C}:(∀t∈l,t.size≤s)→(gY c l).size≤s+s+1:=
 uA l (λ _=>iF ..) (λ t h=>gq (H' (h t (.head _)))) (λ t u h=>gq (hv (h t (.head _)) (h u (.tail _ (.head _))))) λ _ _ _ _ _=>iF ..
theorem sD{l:B α}{x d:α}(e:l[i]? =some x):l.getD i d=x:=(jy ..).trans (an (Cu · d) e)
theorem WY(ay:i<l.length):(l.map (ap.sub m)).getD i (.v i)=(l.getD i (.v i)).sub m:=sD (i8 (getD_at ay))
theorem Pg:t.ar l.length→(t.sub l).sub m=t.sub (l.map (ap.sub m)):=by
 induction t with
 |k _=>exact λ _=>rfl
 |v i=>exact λ h=>(WY h).symm
 |a t i=>exact λ h=>an ap.a (i h)
 |b2 _=>exact λ _=>rfl
 |g1 c t i=>exact λ h=>an (ap.g1 c) (i h)
 |g2 c t u i j=>exact λ h=>cD (ap.g2 c) (i h.1) (j h.2)
theorem D2{P:α→Prop}{l:B α}{d:α}(hl:∀t∈l,P t)(a1:i<l.length∨P d):P (l.getD i d):=by
 cases e:l[i]? with
 |none=>rw[Li e];exact a1.elim (λ h=>nomatch(h2 h).symm.trans e) id
 |some t=>rw[sD e];exact hl _ (h3 e)
theorem PW{m:C}(hl:∀t∈l,t.ar m):t.ar l.length→(t.sub l).ar m:=by
 induction t with
 |k _=>exact λ _=>trivial
 |v i=>exact λ h=>D2 hl (.inl h)
 |a t i=>exact i
 |b2 _=>exact λ _=>trivial
 |g1 _ t i=>exact i
 |g2 _ t u i j=>exact λ h=>⟨i h.1,j h.2⟩
theorem PZ(hl:∀t∈l,t.wf):t.wf→(t.sub l).wf:=by
 induction t with
 |k _=>exact id
 |v i=>exact λ h=>D2 hl (.inr trivial)
 |a t i=>exact i
 |b2 _=>exact id
 |g1 _ t i=>exact λ h=>⟨h.1,i h.2⟩
 |g2 _ t u i j=>exact λ h=>⟨h.1,i h.2.1,j h.2.2⟩
theorem O0(hc:1≤c)(hl:∀t∈l,t.size≤c):t.size≤1→(t.sub l).size≤c:=by
 have f:∀{X:Prop} {t:ap},t.size+1≤1→X:=@λ _ t h=>absurd (Ia h:t.size≤0) (Co (Bg t))
 cases t with
 |k _=>exact λ _=>hc
 |v i=>exact λ _=>D2 (P:=λ t:ap=>t.size≤c) hl (.inr hc)
 |a t=>exact f
 |b2 _=>exact λ _=>hc
 |g1 _ t=>exact f
 |g2 _ t u=>exact λ h=>f (t:=t) (a' (gq (d2 ..)) h)
theorem O1(hc:1≤c)(hl:∀t∈l,t.size≤c):t.size≤2→(t.sub l).size≤c+1:=by
 have f:∀{t:ap},t.size≤1→(t.sub l).size≤c+1:=λ h=>ls (O0 hc hl h)
 have g:∀{t:ap},t.size+1≤2→(t.sub l).size+1≤c+1:=λ h=>gq (O0 hc hl (Ia h))
 cases t with
 |a t=>exact g
 |g1 _ t=>exact g
 |g2 _ t u=>exact λ h=>absurd (a' (hv (Bg t) (Bg u)) (Ia h)) (Nat.not_succ_le_self 1)
 |k c=>exact λ _=>f (t:=.k c) (cJ _)
 |v c=>exact λ _=>f (t:=.v c) (cJ _)
 |b2 c=>exact λ _=>f (t:=.b2 c) (cJ _)
theorem Jt{c4:Type}{P:c4→Prop}{f:α→c4}{l:B α}(h:∀x∈l,P (f x)):∀y∈l.map f,P y:=λ y bI=>let⟨x,aA,e⟩:=hu.mp bI;e▸h x aA
theorem Gz(h:d+1≤ae):ae- (d+1)+1=ae-d:=Nat.succ_pred_eq_of_pos (Nat.sub_pos_of_lt h)
theorem cw.N1{W:cw}{l:C}:(W.own l).length=W.many l:=(cG ..).trans gB
theorem cw.ok.arg{W:cw}(K:W.ok)(cC:ae≤3):d≤ae→(W.dK ae d).length=W.many (ae-d)∧∀t∈W.dK ae d,t.ar (W.many ae)∧t.wf∧t.size≤d+1:=by
 induction d with
 |zero=>exact λ _=>⟨W.N1,Jt λ i ay=>⟨ga.mp ay,trivial,cJ _⟩⟩
 |succ d aZ=>
  intro a1
  have h:=aZ (yL a1)
  have u:=K.up (ae- (d+1)) (e' (Cq (e' d.succ_pos a1) d.succ_pos) cC)
  rw[Gz a1]at u
  exact⟨(cG ..).trans u.1,Jt λ t bD=>⟨PW (λ t bD=>(h.2 t bD).1) (h.1▸(u.2 t bD).1),PZ (λ t bD=>(h.2 t bD).2.1) (u.2 t bD).2.1,O1 (iF ..) (λ t bD=>(h.2 t bD).2.2) (u.2 t bD).2.2⟩⟩
theorem cw.ok.lD{W:cw}(K:W.ok)(cC:ae≤3)(a1:d≤ae):(W.dK ae d).length≤2:=(K.arg cC a1).1▸K.many _
variable{W:cw}
theorem aaE{l:C}(h:m.length=W.many l):(W.own l).map (ap.sub m)=m:=by
 refine HO ((cG ..).trans (cw.N1.trans h.symm)) λ i ax aH=>?_
 simp only[cw.own,HX,HY]
 exact sD (h2 aH)
theorem JC(K:W.ok)(cC:ae≤3)(a1:d≤ae){e:C}:d+e≤ae→(W.dK (ae-d) e).map (ap.sub (W.dK ae d))=W.dK ae (d+e):=by
 induction e with
 |zero=>exact λ _=>aaE (K.arg cC a1).1
 |succ e aZ=>
  intro b3
  have LJ:d+e≤ae:=yL b3
  have u:=(K.up (ae- (d+e+1)) (e' (Cq (e' (d+e).succ_pos b3) (d+e).succ_pos) cC)).2
  have xo:=(K.arg (ae:=ae-d) (a' (nJ ..) cC) (d:=e) (Nat.le_sub_of_add_le' LJ)).1
  rw[Ib]at xo
  rw[Gz (d:=d+e) b3]at u
  show((W.up (ae-d-e)).map (ap.sub (W.dK (ae-d) e))).map (ap.sub (W.dK ae d))=(W.up (ae- (d+e))).map (ap.sub (W.dK ae (d+e)))
  rw[tQ,Ib,←aZ LJ]
  exact pS λ t bD=>Pg (xo▸(u t bD).1)
end Mine
end
section
namespace Mine
variable{b9:B a0}{aI:aT}{bX:B aP}{b:C}{aa:St}{v:D}{t u m:C}{H:aT}
section
variable{a:bH}{h:aT}{n:St}{T:B aP}{ag W bL:B C}{z:C}
theorem Good.mm:∀{n:St},Good a h n→Good a h (n++b9):=by
 induction b9 with
 |nil=>exact λ{n} M=>(eX n).symm▸M
 |cons o b9 aZ=>exact λ{n} M=>jx n [o] b9▸aZ (M.kE o)
theorem b0.mm(x:b0 a h T b aa bX aI)(b9:B a0):b0 a h T b (aa++b9) bX aI:=⟨x.good.mm,x.bT,x.jm⟩
theorem Of:cY .eq (.ss [118]) (.ss [118]) n=some true:=rfl
theorem Od:cY .eq (.ss [97]) (.ss [97]) n=some true:=rfl
theorem vq:cY .eq (.ss [103]) (.ss [103]) n=some true:=rfl
theorem vr:cY .eq (.ss [107]) (.ss [118]) n=some false:=rfl
theorem Oe:cY .eq (.ss [97]) (.ss [118]) n=some false:=rfl
theorem nq:cY .eq (.ss [103]) (.ss [118]) n=some false:=rfl
theorem j2{P:iW}{V:jg}{many:av}{xs:B C}{x:D}{env aF:aX}{b7:ab}{J:St}(e:dh many xs x env=some aF)(q:ci P V b7 aF n=some (v,J)):
  ((dh many xs x env).bind λ aF=>(hp P V .nil aF n).bind λ q=>if q.1=true then(ci P V b7 aF q.2).bind λ r=>some ([r.1],r.2)else some ([],q.2))=some ([v],J):=aR e (aR rfl ((if_pos rfl).trans (aR q rfl)))
theorem oZ(k:C){z:C}:z+u+k+t=z+k+(t+u):=by rw[pV z u k,mQ (z+k),qT u t]
theorem JB(k:C){z:C}:z+t+k+u=z+k+(t+u):=by rw[pV z t k,mQ (z+k)]
theorem qB{c0 f:C}{b6:B D}{r:Y (D×St)}(q:m=c0)(e:runN ac m f b6 n=r):runN ac c0 f b6 n=r:=q▸e
theorem nv{xs:B D}:rO (n++[.li xs]) (.ref n.length)=some (.tup xs):=GL (iZ rfl)
theorem Fd{K:B a0}:some (v,n++b9++K)=some (v,n++(b9++K)):=an (λ s=>some (v,s)) (jx ..)
noncomputable def u5:ab:=.call 53 (.cons (.v 2) (.cons (.v 1) .nil))
theorem ZM{l:B ap}(hl:l.length≤2){t:ap}:∀{z:C} {n:St},t.ar l.length→∃b9,runN ac (z+1+t.size) 53 [bd t,.tup (l.map bd)] n=some (bd (t.sub l),n++b9):=by
 induction t with
 |k c=>
  intro z n cP
  exact⟨[],v2 (b:=some (bd (.k c),n)) (cN (z+1) 53 [bd (ap.k c),D.tup (eA bd l)] n rfl rfl _ rfl _ vr _ rfl _ vr _ rfl _ vr) (an (λ s=>some (bd (.k c),s)) (eX n).symm)⟩
 |v i=>
  intro z n cP
  have x:dd n (.tup (l.map bd)) (E i)=some (bd (l.getD i (.v i))):=Ai (cG (as:=l) bd▸a' hl (aE rfl)) (i8 (getD_at cP))
  exact⟨[],v2 (b:=some (bd (l.getD i (.v i)),n)) (cN (z+1) 53 [bd (ap.v i),D.tup (eA bd l)] n rfl rfl _ rfl _ Of _ rfl _ x) (an (λ s=>some (bd (l.getD i (.v i)),s)) (eX n).symm)⟩
 |a t aZ=>
  intro z n cP
  obtain⟨b9,e⟩:=aZ (z:=z) (n:=n) cP
  exact⟨b9,show runN ac (z+1+t.size+1) 53 [bd (.a t),.tup (l.map bd)] n=some (bd (.a (t.sub l)),n++b9)from(cN (z+1+t.size) 53 [bd t.a,D.tup (eA bd l)] n rfl rfl _ rfl _ Oe _ rfl _ Od _ rfl _ _ e)⟩
 |b2 c=>
  intro z n cP
  exact⟨[.li []],show runN ac (z+1+0+1) 53 [bd (.b2 c),.tup (l.map bd)] n=some (bd (.b2 c),n++[.li []])from(cN (z+1) 53 [bd (ap.b2 c),D.tup (eA bd l)] n rfl rfl _ rfl _ nq _ rfl _ nq _ rfl _ vq _ rfl _ rfl _ rfl (aE rfl) _ _ (jF (acc:=[]) trivial) _ nv)⟩
 |g1 c t aZ=>
  intro z n cP
  obtain⟨b9,e⟩:=aZ (z:=z) (n:=n) cP
  have st:ci ac (runN ac (z+1+t.size)) u5 [some (bd (.g1 c t)),some (.tup (l.map bd)),some (bd t)] n=some (bd (t.sub l),n++b9):=(hI (z+1+t.size) u5 [some (bd (ap.g1 c t)),some (D.tup (eA bd l)),some (bd t)] n _ _ e)
  exact⟨b9++[.li [bd (t.sub l)]],v2 (show runN ac (z+1+t.size+1) 53 [bd (.g1 c t),.tup (l.map bd)] n=some (bd (.g1 c (t.sub l)),n++b9++[.li [bd (t.sub l)]])from(cN (z+1+t.size) 53 [bd (ap.g1 c t),D.tup (eA bd l)] n rfl rfl _ rfl _ nq _ rfl _ nq _ rfl _ vq _ rfl _ rfl _ rfl (aE rfl) _ _ (h7 trivial (j2 (aF:=[some (bd (.g1 c t)),some (.tup (l.map bd)),some (bd t)]) rfl st) (jF trivial)) _ nv)) Fd⟩
 |g2 c t u aZ ih2=>
  intro z n cP
  obtain⟨b9,e⟩:=aZ (z:=z+u.size) (n:=n) cP.1
  obtain⟨v8,aB⟩:=ih2 (z:=z+t.size) (n:=n++b9) cP.2
  have e:=qB (oZ 1) e
  have aB:=qB (JB 1) aB
  have eE:ci ac (runN ac (z+1+(t.size+u.size))) u5 [some (bd (.g2 c t u)),some (.tup (l.map bd)),some (bd t)] n=some (bd (t.sub l),n++b9):=(hI (z+1+(t.size+u.size)) u5 [some (bd (ap.g2 c t u)),some (D.tup (eA bd l)),some (bd t)] n _ _ e)
  have jU:ci ac (runN ac (z+1+(t.size+u.size))) u5 [some (bd (.g2 c t u)),some (.tup (l.map bd)),some (bd u)] (n++b9)=some (bd (u.sub l),n++b9++v8):=(hI (z+1+(t.size+u.size)) u5 [some (bd (ap.g2 c t u)),some (D.tup (eA bd l)),some (bd u)] (n++b9) _ _ aB)
  exact⟨b9++(v8++[.li [bd (t.sub l),bd (u.sub l)]]),v2 (show runN ac (z+1+(t.size+u.size)+1) 53 [bd (.g2 c t u),.tup (l.map bd)] n=some (bd (.g2 c (t.sub l) (u.sub l)),n++b9++v8++[.li [bd (t.sub l),bd (u.sub l)]])from(cN (z+1+(t.size+u.size)) 53 [bd (ap.g2 c t u),D.tup (eA bd l)] n rfl rfl _ rfl _ nq _ rfl _ nq _ rfl _ vq _ rfl _ rfl _ rfl (aE rfl) _ _ (h7 trivial (j2 (aF:=[some (bd (.g2 c t u)),some (.tup (l.map bd)),some (bd t)]) rfl eE) (h7 trivial (j2 (aF:=[some (bd (.g2 c t u)),some (.tup (l.map bd)),some (bd u)]) rfl jU) (jF trivial))) _ nv)) (Fd.trans Fd)⟩
noncomputable def qi:B Nat:=[115,116,111,114,101]
noncomputable def Ap:B Nat:=[109,97,110,121]
noncomputable def Aq:B Nat:=[117,112]
structure fO(a:bH)(h:aT)(W:cw):Prop where
 w:∃O,h .w=some (.ds O)∧O.lookup qi=some (.ref (a .store))∧O.lookup Ap=some (.ref (a .eb))∧O.lookup Aq=some (.ref (a .fz))
 store:∃aG,h .store=some (.bF 3 aG)∧aG.lookup 35=some (.ref (a .kt))
 many:h .eb=some (.li [E (W.many 0),E (W.many 1),E (W.many 2),E (W.many 3)])
 up:h .fz=some (.li [.tup [],.tup ((W.up 1).map bd),.tup ((W.up 2).map bd),.tup ((W.up 3).map bd)])
 ok:W.ok
variable{W:cw}
noncomputable def Nc:aN→av
 | .w| .store| .eb| .fz=>true
 |_=>false
theorem fO.keep(ae:fO a h W)(q:∀r o,Nc r=true→h r=some o→H r=some o):fO a H W:=
 ⟨let⟨O,e,k⟩:=ae.w;⟨O,q _ _ rfl e,k⟩,let⟨aG,e,k⟩:=ae.store;⟨aG,q _ _ rfl e,k⟩,q _ _ rfl ae.many,q _ _ rfl ae.up,ae.ok⟩
theorem fO.mH(ae:fO a h W){x:Y a0}:fO a (Mine.up h (.a6 m) x) W:=ae.keep λ r o k e=>mJ e λ L=>jv ((an Nc L).symm.trans k)
theorem fO.off(ae:fO a h W)(q:∀r o,gZ r=false→h r=some o→H r=some o):fO a H W:=
 ⟨let⟨O,e,k⟩:=ae.w;⟨O,q _ _ rfl e,k⟩,let⟨aG,e,k⟩:=ae.store;⟨aG,q _ _ rfl e,k⟩,q _ _ rfl ae.many,q _ _ rfl ae.up,ae.ok⟩
theorem fO.go(ae:fO a h W)(x:b0 a h T b aa bX aI):fO a aI W:=ae.off λ r o k e=>x.off k e
theorem uT{s:B C}{O:B (B C×D)}(e:n[m]? =some (.ds O)):dd n (.ref m) (.ss s)=O.lookup s:=an (rj (.ss s)) e
theorem fO.kt(ae:fO a h W)(M:Good a h n):dd n (.ref (a .w)) (.ss [115,116,111,114,101])=some (.ref (a .store))∧d7 n (.ref (a .store)) 35=some (.ref (a .kt)):=
 let⟨_,e,k,_⟩:=ae.w
 let⟨_,f,ct⟩:=ae.store
 ⟨(uT (M.at_ _ _ e)).trans k,(fj (M.at_ _ _ f)).trans ct⟩
end
end Mine
end
section
namespace Mine
section
variable{a:bH}{h:aT}{n:St}{T:B aP}{z:C}{W:cw}
theorem b0.oi{aI:aT}{bX:B aP}{b:C}{aa:St}(x:b0 a h T b aa bX aI):mu ac aa 76 (.ref (a .kt))=some 2:=x.bT.oi x.good
noncomputable def HM(a:bH)(m:C)(h:aT)(n:St)(T:B aP)(t:ap)(b:C):Prop:=∀{X:Prop},(∀k J aC H,runN ac m 54 [.ref (a .w),bd t] n=some (E k,J)→ba aC k t→b0 a h T b J aC H→X)→X
noncomputable def u3:ab:=.call 54 (.cons (.v 0) (.cons (.v 3) .nil))
noncomputable def ql(a:bH)(t:ap)(o:Y D):aX:=[some (.ref (a .w)),some (bd t),some (.ref (a .kt)),o]
theorem ZI{t:ap}:∀{z:C} {h:aT} {n:St} {T:B aP},fO a h W→c6 a h T→Good a h n→t.wf→t.size≤24→T.length+t.size<500000→HM a (z+7+t.size) h n T t t.size:=by
 induction t with
 |k c=>
  intro z h n T ae al M wf hs a3 X f
  have dy:=(ae.kt M).1
  have eD:=(ae.kt M).2
  refine f c n T h (cN (z+7) 54 [D.ref (a aN.w),bd (ap.k c)] n rfl rfl _ dy _ eD _ rfl _ vr _ rfl _ vr _ rfl _ vr _ rfl) ?_ ((b0.refl al M).mono (fs _))
  exact al.b7 λ ag y7 bL K I=>⟨rfl,wf,I.prim c (by have:c=7∨c=12∨c=13:=wf;omega)⟩
 |v i=>
  intro z h n T ae al M wf hs a3 X f
  have dy:=(ae.kt M).1
  have eD:=(ae.kt M).2
  exact rG (z:=z+1) al M (r:=.v i) (t:=.v i) rfl hs (mR a3) λ k J e g=>b0.s6 g λ aC H q go=>f k J aC H (cN (z+7) 54 [D.ref (a aN.w),bd (ap.v i)] n rfl rfl _ dy _ eD _ rfl _ Of _ (al.oi M) _ rfl _ _ e) q go
 |a t aZ=>
  intro z h n T ae al M wf hs a3 X f
  have dy:=(ae.kt M).1
  have eD:=(ae.kt M).2
  have a3:=mR a3
  refine aZ (z:=z) ae al M wf (yL hs) a3 λ k aa bX aI e q go=>?_
  refine rG (z:=z+1+t.size) go.bT go.good (r:=.a k) (t:=.a t) ⟨k,rfl,q⟩ hs (xv go.le a3) λ ct ao aB g=>b0.s6 g λ cL bJ cO b8=>?_
  have aB:=qB (pV (z+1) t.size 6) aB
  exact f ct ao cL bJ (show runN ac (z+7+t.size+1) 54 [.ref (a .w),bd (.a t)] n=some (E ct,ao)from(cN (z+7+t.size) 54 [D.ref (a aN.w),bd t.a] n rfl rfl _ dy _ eD _ rfl _ Oe _ rfl _ Od _ (al.oi M) _ rfl _ _ e _ _ aB)) cO (go.trans b8)
 |b2 c=>
  intro z h n T ae al M wf hs a3 X f
  have dy:=(ae.kt M).1
  have eD:=(ae.kt M).2
  have b2:=(b0.start al M (.li [])).1
  refine rG (z:=z+1) b2.bT b2.good (r:=.g c []) (t:=.b2 c) ⟨wf,rfl⟩ hs (mR a3) λ ct ao aB g=>b0.s6 g λ cL bJ cO b8=>?_
  exact f ct ao cL bJ (cN (z+7) 54 [D.ref (a aN.w),bd (ap.b2 c)] n rfl rfl _ dy _ eD _ rfl _ nq _ rfl _ nq _ rfl _ vq _ (al.oi M) _ rfl _ rfl _ rfl (aE rfl) _ _ (jF (acc:=[]) trivial) _ nv _ _ aB) cO (b2.trans b8)
 |g1 c t aZ=>
  intro z h n T ae al M wf hs a3 X f
  have dy:=(ae.kt M).1
  have eD:=(ae.kt M).2
  have a3:=mR a3
  refine aZ (z:=z) ae al M wf.2 (yL hs) a3 λ k aa bX aI e q go=>?_
  have en:=(b0.start go.bT go.good (.li [E k])).1
  refine rG (z:=z+1+t.size) en.bT en.good (r:=.g c [k]) (t:=.g1 c t) ⟨wf.1,k,rfl,q⟩ hs (xv go.le a3) λ ct ao aB g=>b0.s6 g λ cL bJ cO b8=>?_
  have aB:=qB (pV (z+1) t.size 6) aB
  have eE:ci ac (runN ac (z+7+t.size)) u3 (ql a (.g1 c t) (some (bd t))) n=some (E k,aa):=(hI (z+7+t.size) u3 (ql a (ap.g1 c t) (some (bd t))) n _ _ e)
  exact f ct ao cL bJ (show runN ac (z+7+t.size+1) 54 [.ref (a .w),bd (.g1 c t)] n=some (E ct,ao)from(cN (z+7+t.size) 54 [D.ref (a aN.w),bd (ap.g1 c t)] n rfl rfl _ dy _ eD _ rfl _ nq _ rfl _ nq _ rfl _ vq _ (al.oi M) _ rfl _ rfl _ rfl (aE rfl) _ _ (h7 trivial (j2 (aF:=ql a (.g1 c t) (some (bd t))) rfl eE) (jF trivial)) _ nv _ _ aB)) cO ((go.trans (en.trans b8)).mono (dg (an (t.size+·) (ji 1))))
 |g2 c t u aZ ih2=>
  intro z h n T ae al M wf hs a3 X f
  have dy:=(ae.kt M).1
  have eD:=(ae.kt M).2
  have a3:=mR a3
  have jM:t.size+u.size≤24:=yL hs
  refine aZ (z:=z+u.size) ae al M wf.2.1 (a' (d2 ..) jM) (E3 a3) λ k aa bX aI e q go=>?_
  refine ih2 (z:=z+t.size) (ae.go go) go.bT go.good wf.2.2 (a' (iF ..) jM) (AA go.le a3) λ d9 ao cL bJ aB cO b8=>?_
  have en:=(b0.start b8.bT b8.good (.li [E k,E d9])).1
  have qf:=go.trans b8
  refine rG (z:=z+1+(t.size+u.size)) en.bT en.good (r:=.g c [k,d9]) (t:=.g2 c t u) ⟨wf.1,k,d9,rfl,b8.eS q,cO⟩ hs (xv qf.le a3) λ ct bW bZ g=>b0.s6 g λ lB cQ j8 jL=>?_
  have bZ:=qB (pV (z+1) (t.size+u.size) 6) bZ
  have e:=qB (oZ 7) e
  have aB:=qB (JB 7) aB
  have eE:ci ac (runN ac (z+7+(t.size+u.size))) u3 (ql a (.g2 c t u) (some (bd t))) n=some (E k,aa):=(hI (z+7+(t.size+u.size)) u3 (ql a (ap.g2 c t u) (some (bd t))) n _ _ e)
  have jU:ci ac (runN ac (z+7+(t.size+u.size))) u3 (ql a (.g2 c t u) (some (bd u))) aa=some (E d9,ao):=(hI (z+7+(t.size+u.size)) u3 (ql a (ap.g2 c t u) (some (bd u))) aa _ _ aB)
  exact f ct bW lB cQ (show runN ac (z+7+(t.size+u.size)+1) 54 [.ref (a .w),bd (.g2 c t u)] n=some (E ct,bW)from(cN (z+7+(t.size+u.size)) 54 [D.ref (a aN.w),bd (ap.g2 c t u)] n rfl rfl _ dy _ eD _ rfl _ nq _ rfl _ nq _ rfl _ vq _ (al.oi M) _ rfl _ rfl _ rfl (aE rfl) _ _ (h7 trivial (j2 (aF:=ql a (.g2 c t u) (some (bd t))) rfl eE) (h7 trivial (j2 (aF:=ql a (.g2 c t u) (some (bd u))) rfl jU) (jF trivial))) _ nv _ _ bZ)) j8 ((qf.trans (en.trans jL)).mono (dg (an (t.size+u.size+·) (ji 1))))
end
end Mine
end
section
namespace Mine
variable{k l:C}{t:ap}{o:Y D}{P:C→Prop}{ae:C}{lT:aX→St→Y (av×St)}{body:aX→St→Y (eZ×St)}{f:C}{env:aX}{aa:St}
section
variable{a:bH}{h:aT}{n:St}{T:B aP}{z:C}{W:cw}
theorem Pe{s c:C}(h:s≤c):z+c-s+k+s=z+k+c:=by rw[pV,Cp (H' h),pV]
theorem ER{l:B ap}(hl:l.length≤2)(hs:t.size≤24)(cP:t.ar l.length):∃b9,runN ac (z+25) 53 [bd t,.tup (l.map bd)] n=some (bd (t.sub l),n++b9):=
 let⟨b9,e⟩:=ZM hl (t:=t) (z:=z+24-t.size) (n:=n) cP
 ⟨b9,qB (Pe hs) e⟩
theorem xp(ae:fO a h W)(al:c6 a h T)(M:Good a h n)(wf:t.wf)(hs:t.size≤24)(a3:T.length+24<500000):HM a (z+31) h n T t 24:=λ f=>
 ZI (z:=z+24-t.size) ae al M wf hs (cn (fA hs _) a3) λ k J aC H e q go=>f k J aC H (qB (Pe hs) e) q (go.mono hs)
noncomputable def qD(bi aV:D)(l:B ap)(aW:D)(o:Y D):aX:=[some bi,some aV,some (.tup (l.map bd)),some aW,o]
noncomputable def Gk:ab:=.call 53 (.cons (.v 4) (.cons (.v 2) .nil))
noncomputable def adU(z:C)(bi aV:D)(l:B ap)(aW:D)(aO cf df acc:B D)(o:Y D)(n:St):Y (B D×St):=@lF (live (.tup aO) cf) (e0 (.tup aO) cf) (λ x ao=>(dh false [4] x (qD bi aV l aW o)).bind λ aF=>(hp ac (runN ac (z+25)) .nil aF ao).bind λ q=>if q.1=true then(ci ac (runN ac (z+25)) Gk aF q.2).bind λ r=>some ([r.1],r.2)else some ([],q.2)) df acc n
theorem adV{l:B ap}(hl:l.length≤2){bi aV aW:D}{aO:B D}{cf:B D}{df:B ap}:∀{acc:B D} {n:St},(∀t∈df,t.ar l.length∧t.size≤24)→∃b9,adU z bi aV l aW aO cf (df.map bd) acc o n=some (acc++(df.map (ap.sub l)).map bd,n++b9):=by
 induction df with
 |nil=>exact λ{acc n} _=>⟨[],v2 (b:=some (acc,n)) (jF trivial) (by rw[eX];exact an (λ l=>some (l,n)) (eX acc).symm)⟩
 |cons u df aZ=>
  intro acc n dS
  obtain⟨b9,e⟩:=ER (z:=z) (n:=n) hl (dS u (.head _)).2 (dS u (.head _)).1
  obtain⟨v8,aB⟩:=aZ (acc:=acc++[bd (u.sub l)]) (n:=n++b9) (λ t bD=>dS t (.tail _ bD))
  have eE:ci ac (runN ac (z+25)) Gk (qD bi aV l aW (some (bd u))) n=some (bd (u.sub l),n++b9):=(hI (z+25) Gk (qD bi aV l aW (some (bd u))) n _ _ e)
  exact⟨b9++v8,(h7 trivial (j2 (aF:=qD bi aV l aW (some (bd u))) rfl eE) aB).trans (by rw[jx,jx];rfl)⟩
@[elab_as_elim] theorem nb(l:C)(hl:l≤3)(rF:P 0)(gk:P 1)(fT:P 2)(eM:P 3):P l:=match l,hl with
 |0,_=>rF
 |1,_=>gk
 |2,_=>fT
 |3,_=>eM
@[elab_as_elim] theorem sS(l:C)(hl:l≤2)(rF:P 0)(gk:P 1)(fT:P 2):P l:=match l,hl with
 |0,_=>rF
 |1,_=>gk
 |2,_=>fT
theorem fO.zf(ae:fO a h W)(M:Good a h n):dd n (.ref (a .w)) (.ss [109,97,110,121])=some (.ref (a .eb))∧∀l,l≤3→dd n (.ref (a .eb)) (E l)=some (E (W.many l)):=
 ⟨let⟨_,e,_,k,_⟩:=ae.w;(uT (M.at_ _ _ e)).trans k,λ l hl=>j7 (M.at_ _ _ ae.many) (nb l hl rfl rfl rfl rfl)⟩
theorem fO.JJ(ae:fO a h W)(M:Good a h n):dd n (.ref (a .w)) (.ss [117,112])=some (.ref (a .fz))∧∀l,l<3→dd n (.ref (a .fz)) (E (l+1))=some (.tup ((W.up (l+1)).map bd)):=
 ⟨let⟨_,e,_,_,k⟩:=ae.w;(uT (M.at_ _ _ e)).trans k,λ l hl=>j7 (M.at_ _ _ ae.up) (sS l (lr hl) rfl rfl rfl)⟩
noncomputable def aaf:ab:=.tup (.cons (.ss [118]) (.cons (.v 2) .nil))
theorem ZL(ae:fO a h W)(M:Good a h n)(hl:l≤3):∃b9,runN ac (z+1) 56 [.ref (a .w),E l] n=some (.tup ((W.own l).map bd),n++b9):=by
 have eI:=(ae.zf M).1
 have dN:=(ae.zf M).2 l hl
 have hm:=ae.ok.many l
 have st:∀i o,(dh false [2] (E i) [some (.ref (a .w)),some (E l),o]).bind _=some ([bd (.v i)],n):=λ i o=>j2 (aF:=[some (.ref (a .w)),some (E l),some (E i)]) (b7:=aaf) (V:=runN ac z) (P:=ac) rfl rfl
 unfold cw.own
 generalize W.many l=m at*
 refine sS (P:=λ m=>dd n (.ref (a .eb)) (E l)=some (E m)→∃b9,runN ac (z+1) 56 [.ref (a .w),E l] n=some (.tup (((ck m).map ap.v).map bd),n++b9)) m hm (λ dN=>?_) (λ dN=>?_) (λ dN=>?_) dN
 ·exact⟨[.li []],cN z 56 [D.ref (a aN.w),E l] n rfl rfl _ eI _ dN _ rfl _ rfl (aE rfl) _ _ (jF (acc:=[]) trivial) _ nv⟩
 ·exact⟨[.li [bd (.v 0)]],cN z 56 [D.ref (a aN.w),E l] n rfl rfl _ eI _ dN _ rfl _ rfl (aE rfl) _ _ (h7 trivial (st 0 _) (jF trivial)) _ nv⟩
 ·exact⟨[.li [bd (.v 0),bd (.v 1)]],cN z 56 [D.ref (a aN.w),E l] n rfl rfl _ eI _ dN _ rfl _ rfl (aE rfl) _ _ (h7 trivial (st 0 _) (h7 trivial (st 1 _) (jF trivial))) _ nv⟩
noncomputable def lL(W:cw)(ae k:C):B D:=(ck k).map λ d=>.tup [E (ae-d),.tup ((W.dK ae d).map bd)]
theorem M1:lL W ae (k+1)=lL W ae k++[.tup [E (ae-k),.tup ((W.dK ae k).map bd)]]:=by
 unfold lL;rw[Cf,nF];rfl
theorem Y2:kD .sub (E (l+1)) (.ii 1)=some (E l):=an (λ i=>some (D.ii i)) (QK l 1)
theorem W':cY .gt (E (l+1)) (.ii 0) n=some true:=an some (iL (QM.mpr l.succ_pos))
theorem G'{aF:aX}{ao:St}{R:Y (eZ×St)}(t:lT env n=some (true,aa))(b:body env aa=some (.br aF,ao))(r:oC lT body f aF ao=R):oC lT body (f+1) env n=R:=aR t ((if_pos rfl).trans (aR b r))
theorem P0(t:lT env n=some (false,aa)):oC lT body (f+1) env n=some (.br env,aa):=aR t (if_neg mM)
noncomputable def M3:bk:=.cons (.asg 2 (.jb (.comp (.call 53 (.cons (.v 4) (.cons (.v 2) .nil))) [4] false (.aq (.aq (.v 0) (.ss [117,112])) (.v 1)) (.nil)))) (.cons (.aug 1 .sub (.ii 1)) (.cons (.ex (.append (.v 3) (.tup (.cons (.v 1) (.cons (.v 2) .nil))))) .nil))
noncomputable def EY:Mine.T:=.cmp .gt (.v 1) (.ii 0)
theorem Z3{m:C}(cC:ae≤3)(hm:h (.a6 m)=none){X:Prop}:∀{d f:C} {n:St} {aI:aT},l+d=ae→fO a aI W→b0 a h T 0 n T aI→aI (.a6 m)=some (.li (lL W ae (d+1)))→
  (∀v J H,oC (fr ac (runN ac (z+25)) EY) (bS ac (runN ac (z+25)) M3) (f+l+1) (qD (.ref (a .w)) (E l) (W.dK ae d) (.ref m) o) n=some (.br (qD (.ref (a .w)) (E 0) v (.ref m) o),J)→b0 a h T 0 J T H→H (.a6 m)=some (.li (lL W ae (ae+1)))→X)→X:=by
 induction l with
 |zero=>
  intro d f n aI e lZ go aA k
  exact k _ n aI (P0 (jd (z+25) EY (qD (.ref (a .w)) (E 0) (W.dK ae d) (.ref m) o) n _ rfl)) go ((ji d).symm.trans e▸aA)
 |succ l aZ=>
  intro d f n aI e lZ go aA k
  have pb:ae-d=l+1:=Nat.sub_eq_of_eq_add e.symm
  have Vw:ae- (d+1)=l:=an Nat.pred pb
  have pm:l<3:=e' (e▸d2 (l+1) d) cC
  have afG:=(lZ.JJ go.good).1
  have jc:=(lZ.JJ go.good).2 l pm
  have hf:=(lZ.ok.arg cC (d:=d) (e▸iF ..)).1
  have p:=lZ.ok.up l pm
  have oZ:(W.up (l+1)).map (ap.sub (W.dK ae d))=W.dK ae (d+1):=pb▸rfl
  obtain⟨b9,q'⟩:=adV (z:=z) (bi:=.ref (a .w)) (aV:=E (l+1)) (aW:=.ref m) (o:=o) (aO:=(W.up (l+1)).map bd) (cf:=(W.up (l+1)).map bd) (acc:=[]) (n:=n) (l:=W.dK ae d) (df:=W.up (l+1)) (hf▸lZ.ok.many _) (λ t bD=>⟨hf▸pb▸(p.2 t bD).1,a' (p.2 t bD).2.2 (aE rfl)⟩)
  rw[oZ]at q'
  have a3:((W.up (l+1)).map bd).length≤100000:=(cG (as:=W.up (l+1)) bd).symm▸p.1.symm▸a' (lZ.ok.many l) (aE rfl)
  have cW:=(go.mm b9).kE (.li ((W.dK ae (d+1)).map bd))
  have LW:=de cW.good aA
  have ez:=m0 (v:=.tup [E l,.tup ((W.dK ae (d+1)).map bd)]) LW (by unfold lL;rw[cG,gB];exact cn (gq (a' (e▸iF d (l+1)) cC)) (aE rfl))
  have b8:=cW.put (c3:=.li (lL W ae (d+1)++[.tup [E l,.tup ((W.dK ae (d+1)).map bd)]])) aA hm
  refine aZ (d:=d+1) (f:=f) ((pV ..).trans e) lZ.mH b8.1 (b8.2.trans (by rw[M1 (k:=d+1),Vw])) λ v J H kx hN sP=>k v J H (G' (aa:=n) ?_ ?_ kx) hN sP
  ·exact(jd (z+25) EY (qD (D.ref (a aN.w)) (E (l+1)) (W.dK ae d) (D.ref m) o) n _ W')
  ·exact(dk (z+25) M3 (qD (D.ref (a aN.w)) (E (l+1)) (W.dK ae d) (D.ref m) o) n _ afG _ jc _ rfl a3 _ _ q' _ nv _ Y2 (hQ LW) _ ez)
end
end Mine
end
section
namespace Mine
variable{x m i:C}{xs:B C}
section
variable{a:bH}{h:aT}{n:St}{T:B aP}{z:C}{W:cw}{X:Prop}
theorem Lc(M:Good a h n){b9:B a0}:h (.a6 (n++b9).length)=none:=M.fresh (fg (as:=n)▸d2 ..)
theorem EQ(ae:fO a h W)(al:c6 a h T)(M:Good a h n){l:C}(hl:l≤3)(f:∀m J H,runN ac (z+26) 57 [.ref (a .w),E l] n=some (.ref m,J)→b0 a h T 0 J T H→H (.a6 m)=some (.li (lL W l (l+1)))→h (.a6 m)=none→X):X:=by
 obtain⟨b9,e⟩:=ZL (z:=z+24) ae M hl
 have b2:=(b0.start al (M.mm (b9:=b9)) (.li (lL W l 1)))
 refine Z3 (z:=z) (ae:=l) (m:=(n++b9).length) (h:=h) hl (Lc M) (l:=l) (d:=0) (f:=59-l) (o:=none) rfl (ae.go b2.1) b2.1 b2.2 λ v J H kx hN aA=>?_
 rw[Cp (a' hl (aE rfl))]at kx
 exact f (n++b9).length J H (cN (z+25) 57 [D.ref (a aN.w),E l] n rfl rfl _ _ e _ _ kx) hN aA (Lc M)
theorem zj:fG .add (E x) (.ii 1)=some (E (x+1)):=rfl
theorem sr(hm:0<m):fG .mod (E x) (E m)=some (E (x%m)):=
 (if_neg (Int.natCast_ne_zero_iff_pos.mpr hm)).trans (an (λ i=>some (D.ii i)) (Int.fmod_eq_emod_of_nonneg _ (yw m)))
noncomputable def pl:B Nat:=[105,110]
noncomputable def i6:B Nat:=[97,116]
noncomputable def K5:B Nat:=[0,1,1,0,0,1,3,0,0,2,0,1,0,0,1,1,0,0,0,0,2,0,0]
theorem Ps{l:B C}(hl:l.length≤1000)(ay:i<l.length):dd n (.tup (l.map E)) (E i)=some (E (l.getD i 0)):=Ai (cG (as:=l) E▸hl) (i8 (getD_at ay))
theorem YJ(e:n[m]? =some (.li (xs.map E)))(ay:i<xs.length):dd n (.ref m) (E i)=some (E (xs.getD i 0)):=j7 e (i8 (getD_at ay))
theorem a5{r bw:aN}(h:(r.ctorIdx==bw.ctorIdx)=false):r≠bw:=λ e=>jv (((lE r.ctorIdx).symm.trans (an (λ L:aN=>r.ctorIdx==L.ctorIdx) e)).trans h)
theorem YQ{α:Type}(f:am→am→Y α)(i j:am):kC f (.ii i) (.ii j)=f i j:=rfl
theorem Um(x y:D):fG .mul x y=kC AF x y:=rfl
theorem T4(h:x<100000):fG .mul (.ii 5) (E x)=some (E (5*x)):=by
 have:(small 5&&small (x:am))=true:=by unfold small;simp;omega
 unfold E
 rw[Um,YQ,AF,if_pos this]
 congr 2
theorem MU{O:B (B C×D)}{at_:C}(M:Good a h n)(cS:h .w=some (.ds O))(aA:h .dR=some (.li (xs.map E)))(dy:O.lookup i6=some (E at_))(eD:(c7 O i6 (E (at_+1))).lookup pl=some (.ref (a .dR)))(j6:at_<100000)(sH:O.length<1000)(hm:0<m)
  (f:∀x J,x<m→runN ac (z+1) 52 [.ref (a .w),E m] n=some (E x,J)→Good a (up h .w (some (.ds (c7 O i6 (E (at_+1)))))) J→X):X:=by
 have dF:=M.set (c3:=.ds (c7 O i6 (E (at_+1)))) cS
 have jn:=(uT (s:=i6) (M.at_ _ _ cS)).trans dy
 have eE:j' n (.ref (a .w)) (.ss i6) (E (at_+1))=some (n.set (a .w) (.ds (c7 O i6 (E (at_+1))))):=(an (rL n (a .w) (.ss i6) (E (at_+1))) (M.at_ _ _ cS)).trans (if_pos (e' sH (aE rfl)))
 have uQ:=(uT (s:=pl) (dF.at_ _ _ (cR _ _ _))).trans eD
 have kQ:=dF.at_ .dR _ ((bP _ _ (a5 rfl)).trans aA)
 have len:=(rp kQ).trans (an (λ z:C=>some (z:am)) (cG E))
 by_cases q:at_<xs.length
 ·exact f (xs.getD at_ 0%m) _ (tU _ hm) (cN z 52 [D.ref (a aN.w),E m] n rfl rfl _ jn _ zj _ eE _ uQ _ len _ (jG m1 q) _ uQ _ (YJ kQ q) _ (sr hm)) dF
 ·by_cases cO:at_<23
  ·exact f (K5.getD at_ 0%m) _ (tU _ hm) (cN z 52 [D.ref (a aN.w),E m] n rfl rfl _ jn _ zj _ eE _ uQ _ len _ (iK m1 q) _ rfl _ (jG (m1 (y:=23)) cO) _ (Ps (l:=K5) (aE rfl) cO) _ (sr hm)) dF
  ·exact f ((5*at_+3)%m) _ (tU _ hm) (cN z 52 [D.ref (a aN.w),E m] n rfl rfl _ jn _ zj _ eE _ uQ _ len _ (iK m1 q) _ rfl _ (iK (m1 (y:=23)) cO) _ (T4 j6) _ zj _ (sr hm)) dF
end
end Mine
end
section
namespace Mine
variable{x y:C}{X:Prop}{m:C}{q:aN→Prop}{r bw:aN}{o:Y a0}{aI:aT}{b:C}{cx:bH}
section
variable{a:bH}{h:aT}{n:St}{T:B aP}{z:C}{W:cw}
theorem pickK:dd n (.tup [.ii 7,.ii 13,.ii 12]) (E (x%3))=some (E ([7,13,12].getD (x%3) 0)):=Ps (l:=[7,13,12]) (aE rfl) (tU _ (aE rfl))
theorem acE:ap.wf (.k ([7,13,12].getD (x%3) 0)):=sS (P:=λ k=>ap.wf (.k ([7,13,12].getD k 0))) _ (lr (tU _ (aE rfl))) (.inl rfl) (.inr (.inr rfl)) (.inr (.inl rfl))
theorem mb:cY .eq (E x) (.ii y) n=some (decide (x=y)):=an some (q9.mpr Int.ofNat_inj)
theorem nV:cY .gt (E x) (.ii y) n=some (decide (y<x)):=an some (q9.mpr B2)
theorem ZO{O:B (B C×D)}{xs:B C}{at_:C}(M:Good a h n)(cS:h .w=some (.ds O))(aA:h .dR=some (.li (xs.map E)))(dy:O.lookup i6=some (E at_))(eD:(c7 O i6 (E (at_+1))).lookup pl=some (.ref (a .dR)))(j6:at_<100000)(sH:O.length<1000)
  (f:∀t J,runN ac (z+2) 55 [.ref (a .w),E m] n=some (bd t,J)→Good a (up h .w (some (.ds (c7 O i6 (E (at_+1)))))) J→t.ar m∧t.wf∧t.size≤2→X):X:=by
 refine MU (z:=z) (m:=6) M cS aA dy eD j6 sH (aE rfl) λ x J ag5 e dF=>?_
 have iJ:=sr (x:=x) (m:=3) (aE rfl)
 have q:∀p:ap,p.ar m∧p.wf∧p.size≤1→(p.ar m∧p.wf∧p.size+1≤2)∧(p.ar m∧(iA 70∧p.wf)∧p.size+1≤2)∧p.ar m∧p.wf∧p.size≤2:=λ p ⟨v,w,s⟩=>⟨⟨v,w,gq s⟩,⟨v,⟨.inr ⟨aE rfl,cJ _⟩,w⟩,gq s⟩,v,w,ls s⟩
 have gm:=q (.k ([7,13,12].getD (x%3) 0)) ⟨trivial,acE,cJ _⟩
 by_cases oF:x=3
 ·by_cases c:0<m
  ·have uh:x<4:=oF▸cJ 4
   have A1:=q (.v (x%m)) ⟨tU _ c,trivial,cJ _⟩
   exact f (.a (.v (x%m))) J (cN (z+1) 55 [D.ref (a aN.w),E m] n rfl rfl _ _ e _ iJ _ pickK _ (jG (nV (y:=0)) c) _ (jG (m1 (y:=4)) uh) _ (sr c) _ (jG (mb (y:=3)) oF)) dF A1.1
  ·exact f (.a (.k ([7,13,12].getD (x%3) 0))) J (cN (z+1) 55 [D.ref (a aN.w),E m] n rfl rfl _ _ e _ iJ _ pickK _ (iK (nV (y:=0)) c) _ (jG (mb (y:=3)) oF)) dF gm.1
 ·by_cases c:0<m∧x<4
  ·have A1:=q (.v (x%m)) ⟨tU _ c.1,trivial,cJ _⟩
   by_cases d5:x=2
   ·exact f (.g1 70 (.v (x%m))) J (cN (z+1) 55 [D.ref (a aN.w),E m] n rfl rfl _ _ e _ iJ _ pickK _ (jG (nV (y:=0)) c.1) _ (jG (m1 (y:=4)) c.2) _ (sr c.1) _ (iK (mb (y:=3)) oF) _ (jG (mb (y:=2)) d5)) dF A1.2.1
   ·exact f (.v (x%m)) J (cN (z+1) 55 [D.ref (a aN.w),E m] n rfl rfl _ _ e _ iJ _ pickK _ (jG (nV (y:=0)) c.1) _ (jG (m1 (y:=4)) c.2) _ (sr c.1) _ (iK (mb (y:=3)) oF) _ (iK (mb (y:=2)) d5)) dF A1.2.2
  ·by_cases p9:0<m
   ·have uh:¬x<4:=λ L=>c ⟨p9,L⟩
    have d5:¬x=2:=λ L=>uh (L▸aE rfl)
    exact f (.k ([7,13,12].getD (x%3) 0)) J (cN (z+1) 55 [D.ref (a aN.w),E m] n rfl rfl _ _ e _ iJ _ pickK _ (jG (nV (y:=0)) p9) _ (iK (m1 (y:=4)) uh) _ (iK (mb (y:=3)) oF) _ (iK (mb (y:=2)) d5)) dF gm.2.2
   ·by_cases d5:x=2
    ·exact f (.g1 70 (.k ([7,13,12].getD (x%3) 0))) J (cN (z+1) 55 [D.ref (a aN.w),E m] n rfl rfl _ _ e _ iJ _ pickK _ (iK (nV (y:=0)) p9) _ (iK (mb (y:=3)) oF) _ (jG (mb (y:=2)) d5)) dF gm.2.1
    ·exact f (.k ([7,13,12].getD (x%3) 0)) J (cN (z+1) 55 [D.ref (a aN.w),E m] n rfl rfl _ _ e _ iJ _ pickK _ (iK (nV (y:=0)) p9) _ (iK (mb (y:=3)) oF) _ (iK (mb (y:=2)) d5)) dF gm.2.2
noncomputable def bY(q:aN→Prop)(a:bH)(h:aT)(aY:bH)(H:aT):Prop:=∀r,q r→aY r=a r∧∀o,h r=some o→H r=some o
theorem bY.ne(z:¬q r)(k:q bw):bw≠r:=λ e=>z (e▸k)
theorem bY.new(z:¬q r):bY q a h (up a r m) (up h r o):=λ bw k=>⟨bP _ _ (bY.ne z k),λ o e=>(bP _ _ (bY.ne z k)).trans e⟩
theorem bY.set(z:¬q r):bY q a h a (up h r o):=λ bw k=>⟨rfl,λ o e=>(bP _ _ (bY.ne z k)).trans e⟩
theorem bY.go{bX:B aP}{aa:St}(x:b0 a h T b aa bX aI)(z:∀r,q r→gZ r=false):bY q a h a aI:=λ r k=>⟨rfl,λ o e=>x.off (z r k) e⟩
theorem bY.trans{ed:bH}{bJ:aT}(x:bY q a h cx aI)(y:bY q cx aI ed bJ):bY q a h ed bJ:=λ r k=>⟨(y r k).1.trans (x r k).1,λ o e=>(y r k).2 o ((x r k).2 o e)⟩
theorem bY.sub{p:aN→Prop}(x:bY q a h cx aI)(s:∀r,p r→q r):bY p a h cx aI:=λ r k=>x r (s r k)
theorem PQ{α:Type}{f:aN→α}{x y:α}(e:up f r x bw=y)(p:bw=r→x=y→X)(q:bw≠r→f bw=y→X):X:=
 (f9 (bw=r)).elim (λ L=>p L ((cR f r x).symm.trans (L▸e))) λ L=>q L ((bP _ _ L).symm.trans e)
theorem Good.adopt{o:a0}(M:Good a h n)(lt:∀r,(h r).isSome=true→a r<b)(hm:b≤m)(e:n[m]? =some o)(ho:∀m,r≠ .a6 m):
  Good (up a r m) (up h r (some o)) n∧∀bw,(up h r (some o) bw).isSome=true→up a r m bw<m+1:=by
 have ae:∀bw,bw≠r→(up h r (some o) bw).isSome=true→up a r m bw<m:=λ bw L H=>by
  rw[bP _ _ L]at H⊢;exact e' (lt _ H) hm
 refine⟨⟨λ bw x bC=>PQ bC (λ L w=>?_) λ L w=>?_,λ fU gP ax aH q=>?_,λ m=>(bP _ _ λ e=>ho m e.symm).trans (M.a6 m)⟩,λ bw H=>(f9 (bw=r)).elim (λ L=>?_) λ L=>pX (ae bw L H)⟩
 ·rw[L,cR];exact e.trans w
 ·rw[bP _ _ L];exact M.at_ bw x w
 ·by_cases d4:fU=r<;>by_cases d5:gP=r
  ·rw[d4,d5]
  ·have:=ae gP d5 aH
   rw[←q,d4,cR]at this
   exact absurd this (oR m)
  ·have:=ae fU d4 ax
   rw[q,d5,cR]at this
   exact absurd this (oR m)
  ·rw[bP _ _ d4]at ax q
   rw[bP _ _ d5]at aH q
   exact M.inj _ _ ax aH q
 ·rw[L,cR];exact qU m
theorem Good.E1(M:Good a h n):∀r,(h r).isSome=true→a r<n.length:=λ r e=>M.lt e
noncomputable def ac3(r:aN):Prop:=hS r=true
theorem c6.bx{aY:bH}{H:aT}(al:c6 a h T)(m:bY ac3 a h aY H):c6 aY H T:=al.b7 λ ag W bL K I=>
 have f:∀r,hS r=true→aY r=a r∧∀o,h r=some o→H r=some o:=m
 ⟨⟨ag,W,bL,⟨(f .kt rfl).2 _ (by rw[(f .k' rfl).1,(f .jo rfl).1,(f .mo rfl).1,(f .mq rfl).1,(f .kF rfl).1];exact K.kt),(f .k' rfl).2 _ K.r,(f .jo rfl).2 _ K.i,(f .mo rfl).2 _ K.d,(f .mq rfl).2 _ K.w,(f .kF rfl).2 _ K.o,K.len,K.small⟩,I⟩,al.x8⟩
end
end Mine
end
section
namespace Mine
variable{A:B D}{ns:B am}{al:B D}{k:C}
section
variable{z:C}
noncomputable def sR:B Nat:=[114,111,119,115]
noncomputable def xj:B Nat:=[104,111,115,116]
noncomputable def EL:B Nat:=[103,105,118,101,110]
noncomputable def rK(ns:B am):B Nat:=ns.map λ z=>(z.fmod 1000003).toNat
noncomputable def uk(ns:B am)(o:Y D):aX:=[some (.fv ns),none,none,none,none,none,none,none,none,none,none,none,o,none,none,none,none]
noncomputable def Bb:ab:=.bin .mod (.v 12) (.ii 1000003)
theorem aaH{z:am}:fG .mod (.ii z) (.ii 1000003)=some (E ((z.fmod 1000003).toNat)):=
 (show(if(1000003:am)=0 then none else some (D.ii (z.fmod 1000003)))=some (D.ii (((z.fmod 1000003).toNat:C):am))from(if_neg (by decide)).trans (an (λ i=>some (D.ii i)) (Int.toNat_of_nonneg (Int.fmod_nonneg_of_pos z (by decide))).symm))
theorem adQ{xI:B am}{o:Y D}{n:St}(n':n[0]? =some (.li A)):∀{acc:B D},@lF (live (.ref 0) A) (e0 (.ref 0) A) (λ x ao=>(dh false [12] x (uk xI o)).bind λ aF=>(hp ac (runN ac z) .nil aF ao).bind λ q=>if q.1=true then(ci ac (runN ac z) Bb aF q.2).bind λ r=>some ([r.1],r.2)else some ([],q.2)) (ns.map .ii) acc n=some (acc++(rK ns).map E,n):=by
 induction ns with
 |nil=>exact λ{acc}=>(jF n').trans (an (λ l=>some (l,n)) (eX acc).symm)
 |cons i ns aZ=>
  intro acc
  have eE:ci ac (runN ac z) Bb (uk xI (some (.ii i))) n=some (E ((i.fmod 1000003).toNat),n):=hI z Bb (uk xI (some (.ii i))) n _ aaH
  exact h7 n' (j2 (aF:=uk xI (some (.ii i))) rfl eE) (aZ.trans (an (λ l=>some (l,n)) (jx ..)))
noncomputable def wu:B aP:=(ck 16).map .p
noncomputable def sm:bH
 | .dR=>1| .gA=>2| .store=>3| .kt=>4| .k'=>5| .jo=>6| .mo=>7| .mq=>8| .kF=>9| .meths=>12| .w=>15| .host=>16| .fE=>17
 | .a6 m=>m
 |_=>0
noncomputable def EH:C→aN
 |1=>.dR|2=>.gA|3=>.store|4=>.kt|5=>.k'|6=>.jo|7=>.mo|8=>.mq|9=>.kF|12=>.meths|15=>.w|16=>.host|_=>.fE
noncomputable def O9:B (C×D):=[(35,.ref 4),(36,.ref 10),(37,.ref 11),(15,.ref 12),(38,.ref 13),(39,.ref 14),(40,.ii 0)]
noncomputable def LO:B (C×D):=[(35,.ref 4),(70,.ref 17),(10,.ref 18),(71,.ref 19),(12,.ref 20),(72,.ref 21),(13,.ref 22),(73,.ref 23),(74,.ref 24)]
noncomputable def afT:B (B C×D):=[(pl,.ref 1),(i6,.ii 0),(sR,.ref 2),(qi,.ref 3),(xj,.ref 16)]
noncomputable def Zz:B (C×D):=[(0,.ref 5),(1,.ref 6),(2,.ref 7),(3,.ref 8),(4,.ref 9)]
noncomputable def Zy:B a0:=[.bF 0 Zz,.li (wu.map fe),.h9 (wu.zipIdx.map λ p=>(hY p.1,E p.2)),.li ((dw 16 1).map E),.li ((dw 16 1).map E),.li ((dw 16 0).map E)]
noncomputable def vT(A al:B D):St:=[.li A,.li al,.li [],.bF 3 O9]++Zy++[.li [.nn],.li [.nn],.li [.nn],.cq [],.li []]
noncomputable def vU(A al:B D):St:=vT A al++[.ds afT,.bF 9 LO,.cq [],.cq [],.cq [],.cq [],.cq [],.cq [],.cq [],.cq []]
noncomputable def Na:aN→av
 | .dR| .gA| .store| .kt| .k'| .jo| .mo| .mq| .kF| .meths| .w| .host| .fE=>true
 |_=>false
noncomputable def ec(A al:B D)(r:aN):Y a0:=bif Na r then(vU A al)[sm r]? else none
theorem aas{r:aN}(h:Na r=true):EH (sm r)=r:=by cases r<;>first|rfl|exact nomatch h
theorem Kw{α:Type}{b:av}{x:Y α}{o:α}(h:(bif b then x else none)=some o):b=true∧x=some o:=by
 cases b
 ·exact nomatch h
 ·exact⟨rfl,h⟩
theorem W7:Good sm (ec A al) (vU A al) where
 at_:=λ r o e=>(Kw e).2
 inj:=λ r bw e bC q=>
  have f:∀r,(ec A al r).isSome=true→EH (sm r)=r:=λ r e=>let⟨_,w⟩:=oT.mp e;aas (Kw w).1
  (f r e).symm.trans ((an EH q).trans (f bw bC))
 a6:=λ _=>rfl
theorem Jk(h:k<16):wu[k]? =some (.p k):=i8 (yD h)
theorem Jl{r:aP}(e:wu[k]? =some r){X:Prop}(f:k<16→r= .p k→X):X:=
 have h:k<16:=mr e
 f h (lk e (Jk h))
theorem ae7:c6 sm (ec A al) wu where
 ex:=by
  have F7:∀{k x:C},k<16→(dw 16 x)[k]? =some x:=λ hk=>by rw[HV,if_pos hk]
  refine⟨dw 16 1,dw 16 1,dw 16 0,⟨rfl,rfl,rfl,rfl,rfl,rfl,⟨rfl,rfl,rfl⟩,aE rfl⟩,⟨?_,λ i ay=>Jk ay,λ k r e=>Jl e λ h L=>by subst L;exact⟨F7 h,F7 h,F7 h⟩,λ k r e=>Jl e λ h L=>by subst L;exact λ _ h=>nomatch h⟩⟩
  exact tR.mpr (wc.imp λ x e=>x (aP.p.inj e))
 x8:=aE rfl
noncomputable def ra(ns:B am):aX:=some (.fv ns)::dw 16 none
theorem abh{env:aX}:ou ac (runN ac (z+5)) (.cons (.ii 0) (.cons (.lst .nil) (.cons (.new 3 .nil) .nil))) env [.li A,.li al]=some ([.ii 0,.ref 2,.ref 3],vT A al):=by kernel_rfl
noncomputable def A6:S:=.asg 1 (.m4 [[105,110],[97,116],[114,111,119,115],[115,116,111,114,101]] (.cons (.comp (.bin .mod (.v 12) (.ii 1000003)) [12] false (.mF (.v 0) (.ii 63)) (.nil)) (.cons (.ii 0) (.cons (.lst .nil) (.cons (.new 3 .nil) .nil)))))
noncomputable def OA:S:=.asg 2 (.aq (.v 1) (.ss [115,116,111,114,101]))
noncomputable def OB:S:=.gJ (.v 1) (.ss [104,111,115,116]) (.new 9 (.cons (.at (.v 2) 35) .nil))
noncomputable def KS(ns:B am):aX:=some (.fv ns)::some (.ref 15)::dw 15 none
noncomputable def sB(ns:B am):aX:=some (.fv ns)::some (.ref 15)::some (.ref 3)::dw 14 none
noncomputable def OP:ab:=.comp Bb [12] false (.mF (.v 0) (.ii 63)) .nil
theorem aeS(hl:ns.length≤63):ci ac (runN ac z) OP (uk ns none) []=some (.ref 1,[.li (ns.map .ii),.li ((rK ns).map E)]):=by
 have u:rR [] (.fv ns) (.ii 63)=some (.inr (ns.map .ii)):=(if_pos ⟨by decide,by decide,a' hl (aE rfl)⟩).trans (an (λ l=>some (Sum.inr (l.map D.ii))) (Rd hl))
 have uI:(ns.map D.ii).length≤100000:=cG (as:=ns) D.ii▸a' hl (aE rfl)
 have c:=adQ (z:=z) (xI:=ns) (o:=none) (A:=ns.map .ii) (n:=[.li (ns.map .ii)]) rfl (ns:=ns) (acc:=[])
 exact(hI z OP (uk ns none) [] _ u _ rfl uI _ _ c)
theorem aeO(hl:ns.length≤63):jT ac (runN ac (z+5)) A6 (ra ns) []=some (.br (KS ns),vT (ns.map .ii) ((rK ns).map E)++[.ds [(pl,.ref 1),(i6,.ii 0),(sR,.ref 2),(qi,.ref 3)]]):=
 aR (aR (aR (aeS (z:=z+5) hl) (aR abh rfl)) rfl) rfl
theorem aeP{V:jg}:jT ac V OA (KS ns) (vT A al++[.ds [(pl,.ref 1),(i6,.ii 0),(sR,.ref 2),(qi,.ref 3)]])=some (.br (sB ns),vT A al++[.ds [(pl,.ref 1),(i6,.ii 0),(sR,.ref 2),(qi,.ref 3)]]):=by kernel_rfl
theorem aeQ:jT ac (runN ac (z+5)) OB (sB ns) (vT A al++[.ds [(pl,.ref 1),(i6,.ii 0),(sR,.ref 2),(qi,.ref 3)]])=some (.br (sB ns),vU A al):=by kernel_rfl
theorem aeR(hl:ns.length≤63){r:bk}:bS ac (runN ac (z+5)) (.cons A6 (.cons OA (.cons OB r))) (ra ns) []=bS ac (runN ac (z+5)) r (sB ns) (vU (ns.map .ii) ((rK ns).map E)):=
 (Gm (aeO hl)).trans ((Gm aeP).trans (Gm aeQ))
end
end Mine
end
section
namespace Mine
variable{i:C}{o:a0}{xs:B D}{e1 name:D}{cp:B C}
section
variable{z:C}{env:aX}{n:St}{c f:C}{aG:B (C×D)}{l b9:B a0}{v:D}
theorem MX:(n++(.bF c aG::l)).length=n.length+(l.length+1):=fg
theorem NO:(n++(.bF c aG::l))[n.length]? =some (.bF c aG):=(yA (cJ _)).trans (by rw[r8];rfl)
theorem NP:(n++(.bF c aG::l))[n.length+(i+1)]? =l[i]? :=(yA (d2 ..)).trans (by rw[wd];rfl)
theorem ad2:(n++(.bF c aG::l)).set n.length o=n++(o::l):=(H7 _ _ (cJ _)).trans (by rw[r8];rfl)
theorem ad4:(n++(.bF c aG::l)).set (n.length+(i+1)) o=n++(.bF c aG::l.set i o):=(H7 _ _ (d2 ..)).trans (by rw[wd];rfl)
noncomputable def FF{α:Type}(f:C→B (C×D)→Y α):Y a0→Y α
 |some (.bF c aG)=>f c aG
 |_=>none
theorem x4{m:C}(e:n[m]? =some (.bF c aG))(ax:ac.fld c f=true)(aH:aG.length<200):lh ac n (.ref m) f v=some (n.set m (.bF c (c7 aG f v))):=
 (an (FF λ c aG=>if ac.fld c f=true∧aG.length<200 then some (n.set m (.bF c (c7 aG f v)))else none) e).trans (if_pos ⟨ax,aH⟩)
theorem eT(ax:ac.fld c f=true)(aH:H9 aG.length 200=true)(cI:(aG.lookup f).isSome=false):lh ac (n++(.bF c aG::l)) (.ref n.length) f v=some (n++(.bF c (aG++[(f,v)])::l)):=
 (x4 NO ax (Nat.blt_eq.mp aH)).trans (by rw[ad2,c7,cI];rfl)
theorem ON(ax:ac.fld c f=true)(aH:H9 aG.length 200=true)(cI:(aG.lookup f).isSome=false):lh ac (n++(.bF c aG::l)++b9) (.ref n.length) f v=some (n++(.bF c (aG++[(f,v)])::(l++b9))):=by
 rw[jx];exact eT ax aH cI
theorem gn(ax:ac.fld c f=true)(aH:H9 aG.length 200=true)(cI:(aG.lookup f).isSome=false):lh ac (n++(.bF c aG::l)++b9) (.ref n.length) f (.ref (n++(.bF c aG::l)).length)=some (n++(.bF c (aG++[(f,.ref (n.length+(l.length+1)))])::(l++b9))):=by
 rw[MX];exact ON ax aH cI
theorem C9{v:D}(h:aG.lookup f=some v):d7 (n++(.bF c aG::l)) (.ref n.length) f=some v:=(fj NO).trans h
theorem EG(h:l[i]? =some (.li xs)):ml (n++(.bF c aG::l)) (.ref (n.length+(i+1)))=true:=hQ (NP.trans h)
theorem C4(h:l[i]? =some (.li xs))(aA:xs.length<room):l8 (n++(.bF c aG::l)) (.ref (n.length+(i+1))) v=some (n++(.bF c aG::l.set i (.li (xs++[v])))):=(m0 (NP.trans h) aA).trans (an some ad4)
noncomputable def tz:B C→B D:=eA λ c=>.ss [c]
noncomputable def GN(N:C)(e1 name par:D):B (C×D):=[(5,e1),(6,name),(7,.ii 1),(8,.ii 0),(9,.ii (-1)),(10,.ref (N+1)),(11,.ref (N+2)),(12,.ref (N+3)),(13,.ref (N+4)),(14,.ref (N+5)),(15,.ref (N+6)),(16,.ii 1),(17,.ii 0),(18,.ii (-1)),(19,.ref (N+7)),(20,.ref (N+8)),(21,.ref (N+9)),(22,.ii 0),(23,.ii 0)]
noncomputable def Bx(N:C)(e1 name:D)(cp:B C):B a0:=[.bF 1 (GN N e1 name (.ss cp)),.li [],.li (tz cp),.li (cp.map λ _=>.ii 0),.li (cp.map λ _=>.tup [.ii 0,.tup []]),.li [],.li [],.li [],.li [],.li []]
noncomputable def PJ:bk:=(.cons (.ex (.append (.at (.v 0) 11) (.v 8))) (.cons (.ex (.append (.at (.v 0) 12) (.gl [86,65,95,78,79,78,69] (.ii 0)))) (.cons (.ex (.append (.at (.v 0) 13) (.tup (.cons (.ii 0) (.cons (.tup .nil) .nil))))) .nil)))
noncomputable def vN(N:C)(e1 name:D)(cp:B C)(o:Y D):aX:=[some (.ref N),some e1,some name,some (.ii 1),some (.ii 0),some (.ii (-1)),some (.ss cp),some (.ii 1),o]
noncomputable def yi(N:C)(e1 name:D)(cp:B C)(kP kQ ig:B D):B a0:=.bF 1 ((GN N e1 name (.ss cp)).take 9)::[.li [],.li kP,.li kQ,.li ig]
noncomputable def PK(z:C)(x:D)(env:aX)(n:St):Y (eZ×St):=(dh false [8] x env).bind λ dG=>bS ac (runN ac z) PJ dG n
theorem GO{eJ:Y D}{x:D}{kP kQ ig:B D}(ax:kP.length<room)(aH:kQ.length<room)(cI:ig.length<room):
  PK z x (vN n.length e1 name cp eJ) (n++yi n.length e1 name cp kP kQ ig)=some (.br (vN n.length e1 name cp (some x)),n++yi n.length e1 name cp (kP++[x]) (kQ++[.ii 0]) (ig++[.tup [.ii 0,.tup []]])):=
 aR (a:=vN n.length e1 name cp (some x)) rfl (dk z PJ (vN n.length e1 name cp (some x)) (n++yi n.length e1 name cp kP kQ ig) _ (C9 rfl) (EG (i:=1) rfl) _ (C4 rfl ax) _ (C9 rfl) (EG (i:=2) rfl) _ (C4 rfl aH) _ (C9 rfl) (EG (i:=3) rfl) _ (C4 rfl cI))
theorem afz(hl:cp.length≤2):∃o,@fD (live (.ss cp) (tz cp)) (e0 _ _) (PK z) (tz cp) (vN n.length e1 name cp none) (n++yi n.length e1 name cp [] [] [])=some (.br (vN n.length e1 name cp o),n++yi n.length e1 name cp (tz cp) (cp.map λ _=>.ii 0) (cp.map λ _=>.tup [.ii 0,.tup []])):=match cp,hl with
 | [],_=>⟨_,hg trivial⟩
 | [_],_=>⟨_,fc trivial (GO (aE rfl) (aE rfl) (aE rfl)) (hg trivial)⟩
 | [_,_],_=>⟨_,fc trivial (GO (aE rfl) (aE rfl) (aE rfl)) (fc trivial (GO (aE rfl) (aE rfl) (aE rfl)) (hg trivial))⟩
theorem Zd{s:B C}(h:s.all (decide<|· <128)=true):hR n (.ss s)=some (tz s):=if_pos h
theorem PL(hl:cp.length≤2)(bM:cp.all (decide<|· <128)=true):runN ac (z+1) 3 [.ref n.length,e1,name,.ii 1,.ii 0,.ii (-1),.ss cp,.ii 1] (n++[.bF 1 []])=some (.nn,n++Bx n.length e1 name cp):=by
 obtain⟨o,gN⟩:=afz (z:=z) (n:=n) (e1:=e1) (name:=name) hl
 have uK:(tz cp).length≤100000:=cG (as:=cp) _▸a' hl (aE rfl)
 exact(cN z 3 [D.ref (f' n),e1,name,D.ii 1,D.ii 0,D.ii (-1),D.ss cp,D.ii 1] (n++[a0.bF 1 []]) rfl rfl _ (eT rfl rfl rfl) _ (eT rfl rfl rfl) _ (eT rfl rfl rfl) _ (eT rfl rfl rfl) _ (eT rfl rfl rfl) _ (gn rfl rfl rfl) _ (gn rfl rfl rfl) _ (gn rfl rfl rfl) _ (gn rfl rfl rfl) _ (Zd bM) uK _ _ gN _ (gn rfl rfl rfl) _ (gn rfl rfl rfl) _ (eT rfl rfl rfl) _ (eT rfl rfl rfl) _ rfl _ (eT rfl rfl rfl) _ (gn rfl rfl rfl) _ (gn rfl rfl rfl) _ (gn rfl rfl rfl) _ (eT rfl rfl rfl) _ (eT rfl rfl rfl))
end
end Mine
end
section
namespace Mine
variable{k:D}{s:C}{o0:D}{u:C}
section
variable{z:C}{n:St}{c:C}{aG:B (C×D)}{l:B a0}
theorem ad3{o c3:a0}:(n++[o]).set n.length c3=n++[c3]:=(H7 _ _ (cJ _)).trans (by rw[r8];rfl)
noncomputable def FT:bk:=.cons (.ex (.append (.v 1) (.bin .add (.ss [112]) (.strOf (.v 2))))) .nil
noncomputable def xQ(m:C)(o:Y D):aX:=[some (.ii 1),some (.ref m),o]
theorem acI:runN ac (z+1) 31 [.ii 1] n=some (.tup [.ss [112,48]],n++[.li [.ss [112,48]]]):=by
 have ez:l8 (n++[.li []]) (.ref n.length) (.ss [112,48])=some (n++[.li [.ss [112,48]]]):=(m0 (iZ rfl) (aE rfl)).trans (an some ad3)
 have st:bS ac (runN ac z) FT (xQ n.length (some (.ii 0))) (n++[a0.li []])=some (.br (xQ n.length (some (.ii 0))),n++[a0.li [.ss [112,48]]]):=(dk z FT (xQ (f' n) (some (D.ii 0))) (n++[a0.li []]) (hQ (iZ rfl)) _ rfl _ rfl _ ez)
 have gN:=fc (dq:=live (.ew 0 1) [.ii 0]) (jl:=e0 _ _) (step:=λ x aF J=>(dh false [2] x aF).bind λ dG=>bS ac (runN ac z) FT dG J) (env:=xQ n.length none) (x:=.ii 0) trivial (aR (a:=xQ n.length (some (.ii 0))) rfl st) (hg trivial)
 exact(cN z 31 [D.ii 1] n rfl rfl _ rfl _ rfl (aE rfl) _ _ gN _ nv)
theorem abx{aV aQ aW bp:D}:runN ac (z+1) 6 [.ref n.length,k,aV,aQ,aW,bp] (n++[.bF 4 []])=some (.nn,n++[.bF 4 [(41,k),(42,aV),(43,aQ),(44,aW),(45,bp),(46,.ii 0)]]):=by
 exact(cN z 6 [D.ref (f' n),k,aV,aQ,aW,bp] (n++[a0.bF 4 []]) rfl rfl _ (eT rfl rfl rfl) _ (eT rfl rfl rfl) _ (eT rfl rfl rfl) _ (eT rfl rfl rfl) _ (eT rfl rfl rfl) _ (eT rfl rfl rfl))
theorem Vk:runN ac (z+1) 7 [.ref n.length] (n++[.bF 5 []])=some (.nn,n++[.bF 5 [(0,.ref (n.length+1))],.li []]):=by
 exact(cN z 7 [D.ref (f' n)] (n++[a0.bF 5 []]) rfl rfl _ (gn rfl rfl rfl))
noncomputable def u7(N:C)(lc vk name ua ut ret k:D):B (C×D):=[(24,lc),(25,vk),(6,name),(26,ua),(8,ut),(27,.ii 0),(28,.ref (N+1)),(29,.ref (N+2)),(30,ret),(11,.tup [k]),(31,.tup [.ss [112,48]]),(32,.tup [.ii 0]),(33,.nn),(34,.ii 0)]
theorem aaJ{lc vk name ua ut ret:D}:runN ac (z+2) 4 [.ref n.length,lc,vk,name,ua,ut,ret,.tup [k]] (n++[.bF 2 []])=some (.nn,n++[.bF 2 (u7 n.length lc vk name ua ut ret k),.li [],.li [],.li [.ss [112,48]]]):=by
 exact(cN (z+1) 4 [D.ref (f' n),lc,vk,name,ua,ut,ret,D.tup [k]] (n++[a0.bF 2 []]) rfl rfl _ (eT rfl rfl rfl) _ (eT rfl rfl rfl) _ (eT rfl rfl rfl) _ (eT rfl rfl rfl) _ (eT rfl rfl rfl) _ (eT rfl rfl rfl) _ (gn rfl rfl rfl) _ (gn rfl rfl rfl) _ (eT rfl rfl rfl) _ rfl _ (eT rfl rfl rfl) _ rfl _ _ (acI (z:=z)) _ (ON rfl rfl rfl) _ rfl _ rfl _ (eT rfl rfl rfl) _ (eT rfl rfl rfl) _ (eT rfl rfl rfl))
noncomputable def PP(N:C)(s o0:D):B (C×D):=[(47,s),(16,o0),(48,.ref (N+1)),(49,.ref (N+2)),(50,.ref (N+3)),(51,.ref (N+4)),(52,.ref (N+6)),(53,.ref (N+7)),(54,.ref (N+8))]
theorem Vj{b9:B a0}(e:(n++(.bF c aG::l)).length+1=n.length+(l.length+1)+1:=an l2 MX):runN ac (z+1) 7 [.ref (n++(.bF c aG::l)).length] (n++(.bF c aG::l)++[.bF 5 []])=some (.nn,n++(.bF c aG::l)++[.bF 5 [(0,.ref (n.length+(l.length+1)+1))],.li []]):=e▸Vk
theorem afI{s:D}:runN ac (z+2) 8 [.ref n.length,s,o0] (n++[.bF 6 []])=some (.nn,n++[.bF 6 (PP n.length s o0),.li [.nn],.li [.nn],.cq [],.bF 5 [(0,.ref (n.length+5))],.li [],.cq [],.cq [],.cq []]):=by
 exact(cN (z+1) 8 [D.ref (f' n),s,o0] (n++[a0.bF 6 []]) rfl rfl _ (eT rfl rfl rfl) _ (eT rfl rfl rfl) _ (gn rfl rfl rfl) _ (gn rfl rfl rfl) _ (gn rfl rfl rfl) _ rfl _ (Vj (z:=z) (b9:=[])) _ (gn rfl rfl rfl) _ (gn rfl rfl rfl) _ (gn rfl rfl rfl) _ (gn rfl rfl rfl))
noncomputable def Hp(N:C)(u s k be o0:D):B (C×D):=[(55,u),(47,s),(35,k),(56,be),(16,o0),(57,.ref (N+1)),(58,.ref (N+2)),(59,.ref (N+3)),(60,.ref (N+4)),(25,.ii 0),(24,.ii 0),(61,.ii 0),(62,.ii 0)]
theorem p7{m f:C}{v:D}(e:d7 n (.ref m) f=some v):d7 (n++l) (.ref m) f=some v:=by
 have e:sp f n[m]? =some v:=e
 show sp f (n++l)[m]? =some v
 cases h:n[m]? with
 |none=>exact nomatch(h▸e:sp f none=some v)
 |some o=>rw[qR (mr h)];exact e
theorem agi{be:D}(aw:d7 n (.ref u) 47=some (.ref s))(aB:d7 n (.ref s) 35=some k):runN ac (z+2) 9 [.ref n.length,.ref u,be,o0] (n++[.bF 7 []])=some (.nn,n++[.bF 7 (Hp n.length (.ref u) (.ref s) k be o0),.cq [],.cq [],.li [],.cq []]):=by
 exact(cN (z+1) 9 [D.ref (f' n),D.ref u,be,o0] (n++[a0.bF 7 []]) rfl rfl _ (eT rfl rfl rfl) _ (p7 aw) _ (eT rfl rfl rfl) _ (p7 aw) _ (p7 aB) _ (eT rfl rfl rfl) _ (eT rfl rfl rfl) _ (eT rfl rfl rfl) _ (gn rfl rfl rfl) _ (gn rfl rfl rfl) _ (gn rfl rfl rfl) _ (gn rfl rfl rfl) _ (eT rfl rfl rfl) _ (eT rfl rfl rfl) _ (eT rfl rfl rfl) _ (eT rfl rfl rfl))
noncomputable def KE(N:C)(u nX s k:D):B (C×D):=[(55,u),(63,nX),(47,s),(35,k),(36,.ref (N+1)),(64,.ref (N+2)),(54,.ref (N+3)),(65,.ref (N+4)),(66,.ref (N+5)),(67,.ref (N+6)),(68,.ref (N+7)),(69,.ref (N+8)),(53,.ii 0)]
theorem Vg{nX:D}(aw:d7 n (.ref u) 47=some (.ref s))(aB:d7 n (.ref s) 35=some k):runN ac (z+2) 10 [.ref n.length,.ref u,nX] (n++[.bF 8 []])=some (.nn,n++[.bF 8 (KE n.length (.ref u) nX (.ref s) k),.li [],.li [],.cq [],.li [],.li [],.li [],.cq [],.cq []]):=by
 exact(cN (z+1) 10 [D.ref (f' n),D.ref u,nX] (n++[a0.bF 8 []]) rfl rfl _ (eT rfl rfl rfl) _ (eT rfl rfl rfl) _ (p7 aw) _ (eT rfl rfl rfl) _ (p7 aw) _ (p7 aB) _ (eT rfl rfl rfl) _ (gn rfl rfl rfl) _ (gn rfl rfl rfl) _ (gn rfl rfl rfl) _ (gn rfl rfl rfl) _ (gn rfl rfl rfl) _ (gn rfl rfl rfl) _ (gn rfl rfl rfl) _ (gn rfl rfl rfl) _ (eT rfl rfl rfl))
end
end Mine
end
section
namespace Mine
variable{l:B aN}{r:aN}{m:C}{o:Y a0}{α:Type}{x y:α}{t k:C}{xs:B C}{O:B (B C×D)}{s:B C}{v:D}{aV:Y D}
section
variable{a:bH}{h:aT}{n:St}{T:B aP}{z:C}{W:cw}{X:Prop}
noncomputable def dE(a:bH)(t k:C):B (B C×D):=[(pl,.ref (a .dR)),(i6,E t),(sR,.ref (a .gA)),(qi,.ref (a .store)),(xj,.ref (a .host)),(Ap,.ref (a .eb)),(Aq,.ref (a .fz)),(EL,.ref (a .hH))].take k
noncomputable def dB(l:B aN)(r:aN):Prop:=r∉l
theorem bo(h:(l.all λ q=>!(q.ctorIdx==r.ctorIdx))=true):dB l r:=λ m=>jv ((an not (lE r.ctorIdx)).symm.trans (g'.mp h r m))
theorem gI{cf:B aN}(h:∀r,r∈l→r∈cf):∀r,dB cf r→dB l r:=λ r z m=>z (h r m)
theorem bY.refl{q:aN→Prop}:bY q a h a h:=λ r _=>⟨rfl,λ o e=>e⟩
theorem bY.mx(z:r∈l):bY (dB l) a h (up a r m) (up h r o):=bY.new λ k=>k z
theorem bY.kK(z:r∈l):bY (dB l) a h a (up h r o):=bY.set λ k=>k z
theorem xx:y∈ [x,y]:=.tail _ (.head _)
theorem AC:∀r,r∈ [x]→r∈ [x,y]:=λ _ h=>jz.mp h▸.head _
theorem PX:c7 (dE a t (k+2)) i6 (E (t+1))=dE a (t+1) (k+2):=
 an (λ l=>(pl,D.ref (a .dR))::(i6,E (t+1))::l) (Q8 (f:=λ e:B C×D=>if e.1==i6 then(e.1,E (t+1))else e) (l:=[(sR,.ref (a .gA)),(qi,.ref (a .store)),(xj,.ref (a .host)),(Ap,.ref (a .eb)),(Aq,.ref (a .fz)),(EL,.ref (a .hH))]) (i:=k))
theorem yo:(dE a t k).length<1000:=cn (List.length_take_le' ..) (aE rfl)
theorem yg(M:Good a h n)(cS:h .w=some (.ds (dE a t (k+2))))(aA:h .dR=some (.li (xs.map E)))(bD:t<100000)(hm:0<m)
  (f:∀x J H,x<m→runN ac (z+1) 52 [.ref (a .w),E m] n=some (E x,J)→Good a H J→H .w=some (.ds (dE a (t+1) (k+2)))→bY (dB [.w]) a h a H→X):X:=
 MU (z:=z) (m:=m) (at_:=t) M cS aA rfl rfl bD yo hm λ x J sP e dF=>f x J _ sP e dF ((cR _ _ _).trans (an (λ l=>some (a0.ds l)) PX)) (bY.kK (.head _))
theorem gx(e:n[m]? =some (.ds O))(l:O.lookup s=some v):dd n (.ref m) (.ss s)=some v:=(uT e).trans l
theorem pG{z:C}(h:z<1000):z<room:=e' h (aE rfl)
theorem x7(e:n[m]? =some (.ds O))(l:O.length<1000):j' n (.ref m) (.ss s) v=some (n.set m (.ds (c7 O s v))):=(an (rL n m (.ss s) v) e).trans (if_pos (pG l))
theorem Good.l9{xs:B D}(M:Good a h n)(e:h r=some (.li xs))(hl:xs.length<1000)(f:∀J,l8 n (.ref (a r)) v=some J→Good a (Mine.up h r (some (.li (xs++[v])))) J→X):X:=f _ (m0 (M.at_ _ _ e) (pG hl)) (M.set e)
noncomputable def E7:bk:=(.cons (.ex (.append (.aq (.v 0) (.ss [109,97,110,121])) (.call 52 (.cons (.v 0) (.cons (.ii 3) .nil))))) .nil)
noncomputable def ev(w:C)(aV bu aW bp bq bh bj:Y D):aX:=[some (.ref w),aV,bu,aW,bp,bq,bh,bj]
theorem E9{fl:B D}{aW bp bq bh bj:Y D}{bu:Y D}(M:Good a h n)(cS:h .w=some (.ds (dE a t (k+6))))(aA:h .dR=some (.li (xs.map E)))(hm:h .eb=some (.li fl))(bD:t<100000)(hl:fl.length<1000)
  (f:∀x J H,x<3→(dh false [2] v (ev (a .w) aV bu aW bp bq bh bj)).bind (λ aF=>bS ac (runN ac (z+1)) E7 aF n)=some (.br (ev (a .w) aV (some v) aW bp bq bh bj),J)→Good a H J→H .w=some (.ds (dE a (t+1) (k+6)))→H .eb=some (.li (fl++[E x]))→bY (dB [.w,.eb]) a h a H→X):X:=
 yg (z:=z) (k:=k+4) (m:=3) M cS aA bD (aE rfl) λ x aa aI LY e dJ sO bx=>dJ.l9 (v:=E x) ((bx .eb (bo rfl)).2 _ hm) hl λ ao ez dA=>
  f x ao _ LY (aR (a:=ev (a .w) aV (some v) aW bp bq bh bj) rfl (dk (z+1) E7 (ev (a aN.w) aV (some v) aW bp bq bh bj) n _ (gx (M.at_ _ _ cS) rfl) (hQ (M.at_ _ _ hm)) _ _ e _ ez)) dA ((bP _ _ (a5 rfl)).trans sO) (cR _ _ _) ((bx.sub (gI AC)).trans (bY.kK xx))
noncomputable def Hb:bk:=.cons (.gJ (.v 0) (.ss [109,97,110,121]) (.lst (.cons (.bin .add (.ii 1) (.call 52 (.cons (.v 0) (.cons (.ii 2) .nil)))) .nil))) (.cons (.dc [2] false (.tup (.cons (.ii 1) (.cons (.ii 2) (.cons (.ii 3) .nil)))) E7) .nil)
theorem af6(M:Good a h n)(cS:h .w=some (.ds (dE a t 5)))(aA:h .dR=some (.li (xs.map E)))(bD:t<90000)
  (f:∀eI dN dH eh J H aY bu,eI≤2→dN≤2→dH≤2→eh≤2→bS ac (runN ac (z+1)) Hb (ev (a .w) aV none none none none none none) n=some (.br (ev (a .w) aV bu none none none none none),J)→Good aY H J→H .w=some (.ds (dE aY (t+4) 6))→H .eb=some (.li [E eI,E dN,E dH,E eh])→bY (dB [.w,.eb]) a h aY H→aY .w=a .w→X):X:=by
 have bD:∀{j},j≤4→t+j<100000:=λ bt=>e' (r6 bD bt) (aE rfl)
 refine yg (z:=z) (k:=3) (m:=2) M cS aA (bD (fs 4)) (aE rfl) λ x aa aI LX e dJ sO hB=>?_
 have gd:up a .eb aa.length .w=a .w:=bP _ _ (a5 rfl)
 have first:∀{X:Prop},(∀bW cQ ek,j' (aa++[.li [E (1+x)]]) (.ref (a .w)) (.ss [109,97,110,121]) (.ref aa.length)=some bW→Good ek cQ bW→cQ .w=some (.ds (dE ek (t+1) 6))→cQ .eb=some (.li [E (1+x)])→bY (dB [.w,.eb]) a h ek cQ→ek .w=a .w→X)→X:=λ f=>by
  have dA:=dJ.new .eb (λ _=>a5 rfl) (.li [E (1+x)])
  have pi:(up aI .eb (some (.li [E (1+x)]))) .w=some (.ds (dE a (t+1) 5)):=(bP _ _ (a5 rfl)).trans sO
  have at2:=dA.at_ _ _ pi
  have d0:=dA.set (c3:=.ds (c7 (dE a (t+1) 5) [109,97,110,121] (.ref aa.length))) pi
  rw[gd]at at2 d0
  have dr:c7 (dE a (t+1) 5) [109,97,110,121] (.ref aa.length)=dE (up a .eb aa.length) (t+1) 6:=by
   unfold dE
   rw[cR,bP _ _ (a5 rfl),bP _ _ (a5 rfl),bP _ _ (a5 rfl),bP _ _ (a5 rfl)];rfl
  rw[dr]at d0
  exact f _ _ _ ((x7 at2 yo).trans (by rw[dr])) d0 (cR _ _ _) ((bP _ _ (a5 rfl)).trans (cR _ _ _)) (((hB.sub (gI AC)).trans (bY.mx xx)).trans (bY.kK (.head _))) gd
 refine first λ bW cQ ek st d0 ig eh ng gd=>?_
 refine E9 (z:=z) (k:=0) (aV:=aV) (aW:=none) (bp:=none) (bq:=none) (bh:=none) (bj:=none) (bu:=none) (v:=.ii 1) d0 ig ((ng .dR (bo rfl)).2 _ aA) eh (bD (aE rfl)) (aE rfl) λ oD eO hP Yy dL hZ tv oh f1=>?_
 have f1:=ng.trans f1
 refine E9 (z:=z) (k:=0) (aV:=aV) (aW:=none) (bp:=none) (bq:=none) (bh:=none) (bj:=none) (bu:=some (.ii 1)) (v:=.ii 2) hZ tv ((f1 .dR (bo rfl)).2 _ aA) oh (bD (aE rfl)) (aE rfl) λ tE jW i4 Yz fH h0 tw aaz hn=>?_
 have hn:=f1.trans hn
 refine E9 (z:=z) (k:=0) (aV:=aV) (aW:=none) (bp:=none) (bq:=none) (bh:=none) (bj:=none) (bu:=some (.ii 2)) (v:=.ii 3) h0 tw ((hn .dR (bo rfl)).2 _ aA) aaz (bD (aE rfl)) (aE rfl) λ Hn qK xb YA j4 pQ G9 aaA xB=>?_
 rw[gd]at dL fH j4
 exact f (1+x) oD tE Hn qK xb ek (some (.ii 3)) (fA (lr LX) 1) (lr Yy) (lr Yz) (lr YA) (dk (z+1) Hb (ev (a aN.w) aV none none none none none none) n _ _ e _ rfl _ st _ rfl (aE rfl) _ _ (fc trivial dL (fc trivial fH (fc trivial j4 (hg trivial))))) pQ G9 aaA (hn.trans xB) gd
end
end Mine
end
section
namespace Mine
variable{xs:B C}{t k m eI dN dH eh l:C}{aV aW bp bh bj:Y D}{V:jg}{env:aX}{v:D}
section
variable{a:bH}{h:aT}{n:St}{T:B aP}{z:C}{W:cw}{X:Prop}
theorem Pp(M:Good a h n)(cS:h .w=some (.ds (dE a t (k+2))))(aA:h .dR=some (.li (xs.map E)))(bD:t<100000)
  (f:∀u J H,runN ac (z+2) 55 [.ref (a .w),E m] n=some (bd u,J)→(u.ar m∧u.wf∧u.size≤2)→Good a H J→H .w=some (.ds (dE a (t+1) (k+2)))→bY (dB [.w]) a h a H→X):X:=
 ZO (z:=z) (m:=m) (at_:=t) M cS aA rfl rfl bD yo λ u J e dF q=>f u J _ e q dF ((cR _ _ _).trans (an (λ l=>some (a0.ds l)) PX)) (bY.kK (.head _))
theorem adv(hm:m≤2)(f:∀ae,ae.length=m→(∀n,hR n (.ew 0 (m:am))=some ae)→ov (E m)=some (.ew 0 (m:am))→X):X:=
 sS (P:=λ m=>(∀ae,ae.length=m→(∀n,hR n (.ew 0 (m:am))=some ae)→ov (E m)=some (.ew 0 (m:am))→X)→X) m hm (λ f=>f _ rfl (λ _=>rfl) rfl) (λ f=>f _ rfl (λ _=>rfl) rfl) (λ f=>f _ rfl (λ _=>rfl) rfl) f
noncomputable def jQ(eI dN dH eh:C):C→C
 |0=>eI|1=>dN|2=>dH|3=>eh|_=>0
theorem E8(M:Good a h n)(hm:h .eb=some (.li [E eI,E dN,E dH,E eh]))(hl:l≤3):dd n (.ref (a .eb)) (E l)=some (E (jQ eI dN dH eh l)):=j7 (M.at_ _ _ hm) (nb l hl rfl rfl rfl rfl)
noncomputable def GD:ab:=.call 55 (.cons (.v 0) (.cons (.aq (.aq (.v 0) (.ss [109,97,110,121])) (.v 2)) .nil))
noncomputable def ae9(z:C)(w aO:C)(aV aW bp o5 bh bj:Y D)(lo ay:am)(cf oa acc:B D)(n:St):Y (B D×St):=@lF (live (.ew lo ay) cf) (e0 (.ew lo ay) cf) (λ x ao=>(dh false [5] x (ev w aV (some (E aO)) aW bp o5 bh bj)).bind λ aF=>(hp ac (runN ac (z+2)) .nil aF ao).bind λ q=>if q.1=true then(ci ac (runN ac (z+2)) GD aF q.2).bind λ r=>some ([r.1],r.2)else some ([],q.2)) oa acc n
theorem ae'{lo ay:am}{cf:B D}{aO:C}{o5:Y D}(hl:aO≤3){oa:B D}:∀{acc:B D} {n:St} {h:aT} {t:C},Good a h n→h .w=some (.ds (dE a t (k+6)))→h .dR=some (.li (xs.map E))→h .eb=some (.li [E eI,E dN,E dH,E eh])→t+oa.length<100000→
  (∀(df:B ap) (J:St) (H:aT),ae9 z (a .w) aO aV aW bp o5 bh bj lo ay cf oa acc n=some (acc++df.map bd,J)→df.length=oa.length→(∀u∈df,u.ar (jQ eI dN dH eh aO)∧u.wf∧u.size≤2)→Good a H J→H .w=some (.ds (dE a (t+oa.length) (k+6)))→bY (dB [.w]) a h a H→X)→X:=by
 induction oa with
 |nil=>exact λ{acc n h t} M cS aA hm bD f=>f [] n h ((jF trivial).trans (an (λ l=>some (l,n)) (eX acc).symm)) rfl (λ u dS=>nomatch dS) M cS bY.refl
 |cons bb oa aZ=>
  intro acc n h t M cS aA hm bD f
  refine Pp (z:=z) (k:=k+4) (m:=jQ eI dN dH eh aO) M cS aA (cn (d2 ..) bD) λ u aa aI e q dJ sO hB=>?_
  have b7:t+1+oa.length=t+(oa.length+1):=pV ..
  refine aZ (acc:=acc++[bd u]) dJ sO ((hB .dR (bo rfl)).2 _ aA) ((hB .eb (bo rfl)).2 _ hm) (b7▸bD) λ df ao bJ aB eD cO dA pi sZ=>?_
  have st:ci ac (runN ac (z+2)) GD (ev (a .w) aV (some (E aO)) aW bp (some bb) bh bj) n=some (bd u,aa):=(hI (z+2) GD (ev (a aN.w) aV (some (E aO)) aW bp (some bb) bh bj) n _ (gx (M.at_ _ _ cS) rfl) _ (E8 M hm hl) _ _ e)
  exact f (u::df) ao bJ (h7 trivial (j2 (aF:=ev (a .w) aV (some (E aO)) aW bp (some bb) bh bj) rfl st) (aB.trans (an (λ l=>some (l,ao)) (jx ..)))) (an l2 eD) (λ v cP=>(kh.mp cP).elim (λ L=>L▸q) λ cP=>cO v cP) dA (b7▸pi) (hB.trans sZ)
theorem qz{x:C}(e:env[x]? =some (some v)):ci ac V (.v x) env n=some (v,n):=aR (an Option.join e) rfl
theorem vt{bb:ab}{b:bk}{bf:B C}{many:av}{aa:St}{l:B D}{o:Y (eZ×St)}(ay:ci ac V bb env n=some (v,aa))(hl:hR aa v=some l)(a3:l.length≤1000)
  (hc: @fD (live v l) (e0 v l) (λ x aF J=>(dh many bf x aF).bind λ dG=>bS ac V b dG J) l env aa=o):jT ac V (.dc bf many bb b) env n=o:=aR ay (aR hl ((if_pos (a' a3 (aE rfl))).trans hc))
theorem JP:fG .sub (E (l+1)) (.ii 1)=some (E l):=an (λ i=>some (D.ii i)) (QK l 1)
noncomputable def GY:bk:=(.cons (.ex (.append (.aq (.v 0) (.ss [117,112])) (.jb (.comp (.call 55 (.cons (.v 0) (.cons (.aq (.aq (.v 0) (.ss [109,97,110,121])) (.v 2)) .nil))) [5] false (.gQ (.aq (.aq (.v 0) (.ss [109,97,110,121])) (.bin .sub (.v 2) (.ii 1)))) (.nil))))) .nil)
theorem G3{df:B D}{bq:Y D}{bu:Y D}(hl:l<3)(iw:∀l,jQ eI dN dH eh l≤2)(M:Good a h n)(cS:h .w=some (.ds (dE a t (k+7))))(aA:h .dR=some (.li (xs.map E)))(hm:h .eb=some (.li [E eI,E dN,E dH,E eh]))(dS:h .fz=some (.li df))(bD:t<90000)(Yv:df.length<1000)
  (f:∀(bE:B ap) (cB:C) (J:St) (H:aT),cB≤t+2→(dh false [2] (E (l+1)) (ev (a .w) aV bu aW bp bq bh bj)).bind (λ aF=>bS ac (runN ac (z+2)) GY aF n)=some (.br (ev (a .w) aV (some (E (l+1))) aW bp bq bh bj),J)→Good a H J→H .w=some (.ds (dE a cB (k+7)))→H .fz=some (.li (df++[.tup (bE.map bd)]))→bY (dB [.w,.fz]) a h a H→(bE.length=jQ eI dN dH eh l∧∀u∈bE,u.ar (jQ eI dN dH eh (l+1))∧u.wf∧u.size≤2)→X):X:=by
 refine adv (iw l) λ ae Ly cC a4=>?_
 have eD:ae.length≤2:=Ly▸iw l
 refine ae' (z:=z) (a:=a) (aV:=aV) (aW:=aW) (bp:=bp) (bh:=bh) (bj:=bj) (o5:=bq) (lo:=0) (ay:=(jQ eI dN dH eh l:am)) (cf:=ae) (k:=k+1) (aO:=l+1) hl (oa:=ae) (acc:=[]) M cS aA hm (e' (r6 bD eD) (aE rfl)) λ bE aa aI e dy q dJ sO hB=>?_
 refine(dJ.kE (.li (bE.map bd))).l9 (v:=.tup (bE.map bd)) ((hB .fz (bo rfl)).2 _ dS) Yv λ bW ez d0=>?_
 refine f bE (t+ae.length) bW _ (fA eD t) (aR (a:=ev (a .w) aV (some (E (l+1))) aW bp bq bh bj) rfl ?_) d0 ((bP _ _ (a5 rfl)).trans sO) (cR _ _ _) ((hB.sub (gI AC)).trans (bY.kK xx)) ⟨dy.trans Ly,q⟩
 have a3:ae.length≤100000:=a' eD (aE rfl)
 exact(dk (z+2) GY (ev (a aN.w) aV (some (E (l+1))) aW bp bq bh bj) n _ (gx (M.at_ _ _ cS) rfl) (hQ (M.at_ _ _ dS)) _ (gx (M.at_ _ _ cS) rfl) _ JP _ (E8 M hm (h4 hl)) _ a4 _ (cC _) a3 _ _ e _ nv _ ez)
end
end Mine
end
section
namespace Mine
section
variable{a:bH}{h:aT}{n:St}{T:B aP}{z:C}{W:cw}{X:Prop}
theorem th{P:iW}{V:jg}{s:S}{r:bk}{env aF:aX}{aa ao:St}{x:eZ}(h:jT P V s env n=some (.br aF,aa))(k:bS P V r aF aa=some (x,ao)):bS P V (.cons s r) env n=some (x,ao):=aR h k
noncomputable def GZ(jc kN oA:B ap):C→B ap
 |1=>jc|2=>kN|3=>oA|_=>[]
noncomputable def Hc:bk:=.cons (.gJ (.v 0) (.ss [117,112]) (.lst (.cons (.tup .nil) .nil))) (.cons (.dc [2] false (.tup (.cons (.ii 1) (.cons (.ii 2) (.cons (.ii 3) .nil)))) GY) .nil)
theorem af7{xs:B C}{t eI dN dH eh:C}{aV bu:Y D}(iw:∀l,jQ eI dN dH eh l≤2)(M:Good a h n)(cS:h .w=some (.ds (dE a t 6)))(aA:h .dR=some (.li (xs.map E)))(hm:h .eb=some (.li [E eI,E dN,E dH,E eh]))(bD:t<80000)
  (f:∀(jc kN oA:B ap) (cB:C) (J:St) (H:aT) (aY:bH) (s2:Y D),cB≤t+6→bS ac (runN ac (z+2)) Hc (ev (a .w) aV bu none none none none none) n=some (.br (ev (a .w) aV s2 none none none none none),J)→Good aY H J→H .w=some (.ds (dE aY cB 7))→H .fz=some (.li [.tup [],.tup (jc.map bd),.tup (kN.map bd),.tup (oA.map bd)])→bY (dB [.w,.fz]) a h aY H→aY .w=a .w→(⟨jQ eI dN dH eh,GZ jc kN oA⟩:cw).ok→X):X:=by
 have le:∀{s i j},s≤t+i→t+i≤t+j→j≤10→s<90000:=λ p q r=>cn (a' p q) (e' (r6 bD r) (aE rfl))
 have first:∀{X:Prop},(∀bW cQ ek,j' (n++[.li [.tup []]]) (.ref (a .w)) (.ss [117,112]) (.ref n.length)=some bW→Good ek cQ bW→cQ .w=some (.ds (dE ek t 7))→cQ .fz=some (.li [.tup []])→bY (dB [.w,.fz]) a h ek cQ→ek .w=a .w→X)→X:=λ f=>by
  have gd:up a .fz n.length .w=a .w:=bP _ _ (a5 rfl)
  have dA:=M.new .fz (λ _=>a5 rfl) (.li [.tup []])
  have pi:(up h .fz (some (.li [.tup []]))) .w=some (.ds (dE a t 6)):=(bP _ _ (a5 rfl)).trans cS
  have at2:=dA.at_ _ _ pi
  have d0:=dA.set (c3:=.ds (c7 (dE a t 6) [117,112] (.ref n.length))) pi
  rw[gd]at at2 d0
  have dr:c7 (dE a t 6) [117,112] (.ref n.length)=dE (up a .fz n.length) t 7:=by
   unfold dE
   rw[cR,bP _ _ (a5 rfl),bP _ _ (a5 rfl),bP _ _ (a5 rfl),bP _ _ (a5 rfl),bP _ _ (a5 rfl)];rfl
  rw[dr]at d0
  exact f _ _ _ ((x7 at2 yo).trans (by rw[dr])) d0 (cR _ _ _) ((bP _ _ (a5 rfl)).trans (cR _ _ _)) ((bY.mx xx).trans (bY.kK (.head _))) gd
 refine first λ bW cQ ek st d0 ig oA ng gd=>?_
 refine G3 (z:=z) (k:=0) (l:=0) (aV:=aV) (aW:=none) (bp:=none) (bq:=none) (bh:=none) (bj:=none) (bu:=bu) (aE rfl) iw d0 ig ((ng .dR (bo rfl)).2 _ aA) ((ng .eb (bo rfl)).2 _ hm) oA (le (cJ (t+0)) (cJ _) (fs _)) (aE rfl) λ PT er eO hP LU dL hZ tv afH f1 xW=>?_
 have f1:=ng.trans f1
 refine G3 (z:=z) (k:=0) (l:=1) (aV:=aV) (aW:=none) (bp:=none) (bq:=none) (bh:=none) (bj:=none) (bu:=some (.ii 1)) (aE rfl) iw hZ tv ((f1 .dR (bo rfl)).2 _ aA) ((f1 .eb (bo rfl)).2 _ hm) afH (le LU (cJ _) (aE rfl)) (aE rfl) λ PU eN jW i4 Ab fH h0 tw GU hn jS=>?_
 have hn:=f1.trans hn
 have Ab:eN≤t+4:=a' Ab (hb LU 2)
 refine G3 (z:=z) (k:=0) (l:=2) (aV:=aV) (aW:=none) (bp:=none) (bq:=none) (bh:=none) (bj:=none) (bu:=some (.ii 2)) (aE rfl) iw h0 tw ((hn .dR (bo rfl)).2 _ aA) ((hn .eb (bo rfl)).2 _ hm) GU (le Ab (cJ _) (aE rfl)) (aE rfl) λ afM hr qK xb Yr j4 pQ G9 GV xB td=>?_
 rw[gd]at dL fH j4
 exact f PT PU afM hr qK xb ek (some (.ii 3)) (a' Yr (hb Ab 2)) (dk (z+2) Hc (ev (a aN.w) aV bu none none none none none) n _ st _ rfl (aE rfl) _ _ (fc trivial dL (fc trivial fH (fc trivial j4 (hg trivial))))) pQ G9 GV (hn.trans xB) gd ⟨iw,λ l hl=>sS l (lr hl) xW jS td⟩
end
end Mine
end
section
namespace Mine
variable{l:C}{r:aN}{eI dN dH eh t k:C}{bu:Y D}{aG:B (C×D)}
section
variable{a:bH}{h:aT}{n:St}{T:B aP}{z:C}{W:cw}{X:Prop}
structure l6(a:bH)(h:aT)(l m:C):Prop where
 bF:∃aG,h (.ty l)=some (.bF 1 aG)∧aG.lookup 7=some (.ii 1)∧aG.lookup 11=some (.ref (a (.tyP l)))∧aG.lookup 15=some (.ref (a (.dv l)))∧aG.lookup 19=some (.ref (a (.cM l)))
 par:∃cp,h (.tyP l)=some (.li cp)∧cp.length=m
noncomputable def AZ(l:C)(r:aN):Prop:=r= .ty l∨r= .tyP l∨r= .dv l∨r= .cM l
theorem l6.bx{aY:bH}{H:aT}{l m:C}(P:l6 a h l m)(bx:bY (AZ l) a h aY H):l6 aY H l m:=
 let⟨aG,aw,aB,bZ,dL,fH⟩:=P.bF
 let⟨cp,gk,fT⟩:=P.par
 ⟨⟨aG,(bx _ (.inl rfl)).2 _ aw,aB,by rw[(bx _ (.inr (.inl rfl))).1];exact bZ,by rw[(bx _ (.inr (.inr (.inl rfl)))).1];exact dL,by rw[(bx _ (.inr (.inr (.inr rfl)))).1];exact fH⟩,⟨cp,(bx _ (.inr (.inl rfl))).2 _ gk,fT⟩⟩
noncomputable def kb(l:C):B aN:=[.ty l,.tyP l,.dv l,.cM l]
noncomputable def da:aN→C
 | .ty l| .tyP l| .dv l| .cM l=>l+1
 |_=>0
theorem F9(m:r∈kb l):da r=l+1:=(show∀r∈kb l,da r=l+1 from yz.mpr ⟨rfl,yz.mpr ⟨rfl,oX (P:=λ r=>da r=l+1) rfl rfl⟩⟩) r m
theorem abl(h:da r≠l+1)(k:r.ctorIdx≠aN.types.ctorIdx):dB (.types::kb l) r:=λ m=>(kh.mp m).elim (λ L=>k (an aN.ctorIdx L)) λ m=>h (F9 m)
theorem A0(q:AZ l r):da r=l+1∧r.ctorIdx≠aN.types.ctorIdx:=by rcases q with rfl|rfl|rfl|rfl<;>exact⟨rfl,tV rfl⟩
theorem l'{b9:B a0}{i:C}:(n++b9)[n.length+i]? =b9[i]? :=(yA (d2 ..)).trans (by rw[wd])
theorem lb{α:Type}{x y:α}{l:B α}:y∈x::y::l:=.tail _ (.head _)
theorem afy{e1 name:D}{cp:B C}(M:Good a h n)(f:∀aY H,Good aY H (n++Bx n.length e1 name cp)→aY (.ty l)=n.length→l6 aY H l cp.length→H (.dv l)=some (.li [])→H (.cM l)=some (.li [])→bY (dB (kb l)) a h aY H→X):X:=by
 have mO:Good a h (n++Bx n.length e1 name cp):=M.mm
 obtain⟨iU,dy⟩:=mO.adopt (r:=.ty l) (m:=n.length+0) (b:=n.length) M.E1 (cJ _) (l'.trans rfl) (λ _=>a5 rfl)
 obtain⟨jh,eD⟩:=iU.adopt (r:=.tyP l) (m:=n.length+2) dy (h5 _) (l'.trans rfl) (λ _=>a5 rfl)
 obtain⟨pO,pm⟩:=jh.adopt (r:=.dv l) (m:=n.length+6) eD (fA (aE rfl:3≤6) n.length) (l'.trans rfl) (λ _=>a5 rfl)
 obtain⟨pP,uX⟩:=pO.adopt (r:=.cM l) (m:=n.length+7) pm (cJ _) (l'.trans rfl) (λ _=>a5 rfl)
 have iz:∀{α:Type} {g:aN→α} {x y L:α},up (up (up g (.tyP l) x) (.dv l) y) (.cM l) L (.ty l)=g (.ty l):=(bP _ _ (a5 rfl)).trans ((bP _ _ (a5 rfl)).trans (bP _ _ (a5 rfl)))
 have kH:∀{α:Type} {g:aN→α} {x y L:α},up (up (up g (.tyP l) x) (.dv l) y) (.cM l) L (.tyP l)=x:=(bP _ _ (a5 rfl)).trans ((bP _ _ (a5 rfl)).trans (cR _ _ _))
 have ol:∀{α:Type} {g:aN→α} {y L:α},up (up g (.dv l) y) (.cM l) L (.dv l)=y:=(bP _ _ (a5 rfl)).trans (cR _ _ _)
 refine f _ _ pP (iz.trans (cR _ _ _)) ⟨⟨GN n.length e1 name (.ss cp),iz.trans (cR _ _ _),rfl,?_,?_,?_⟩,⟨tz cp,kH,cG ..⟩⟩ ol (cR _ _ _) ((((bY.mx (.head _)).trans (bY.mx lb)).trans (bY.mx (.tail _ lb))).trans (bY.mx (.tail _ (.tail _ lb))))
 ·rw[kH];rfl
 ·rw[ol];rfl
 ·rw[cR];rfl
noncomputable def Bw:bk:=(.cons (.ex (.append (.at (.v 1) 36) (.new 1 (.cons (.bin .add (.ii 66) (.v 2)) (.cons (.aq (.ss [65,66,67,68]) (.v 2)) (.cons (.ii 1) (.cons (.ii 0) (.cons (.neg (.ii 1)) (.cons (.mF (.ss [84,85]) (.aq (.aq (.v 0) (.ss [109,97,110,121])) (.v 2))) (.cons (.ii 1) .nil)))))))))) .nil)
theorem Dg:fG .add (.ii 66) (E l)=some (E (66+l)):=rfl
theorem afo{m:C}(hm:m≤2)(f:∀cp:B C,cp.length=m→cp.all (decide<|· <128)=true→(∀n,rR n (.ss [84,85]) (E m)=some (.inl (.ss cp)))→X):X:=
 sS (P:=λ m=>(∀cp:B C,cp.length=m→cp.all (decide<|· <128)=true→(∀n,rR n (.ss [84,85]) (E m)=some (.inl (.ss cp)))→X)→X) m hm (λ f=>f _ rfl rfl λ _=>rfl) (λ f=>f _ rfl rfl λ _=>rfl) (λ f=>f _ rfl rfl λ _=>rfl) f
theorem afA{aW bp bq bh bj:Y D}{rP:B D}(hl:l≤3)(iw:∀l,jQ eI dN dH eh l≤2)(M:Good a h n)(cS:h .w=some (.ds (dE a t (k+6))))(hm:h .eb=some (.li [E eI,E dN,E dH,E eh]))(hs:h .store=some (.bF 3 aG))(cl:aG.lookup 36=some (.ref (a .types)))(bD:h .types=some (.li rP))(Ys:rP.length<1000)
  (f:∀J H aY,(dh false [2] (E l) (ev (a .w) (some (.ref (a .store))) bu aW bp bq bh bj)).bind (λ aF=>bS ac (runN ac (z+1)) Bw aF n)=some (.br (ev (a .w) (some (.ref (a .store))) (some (E l)) aW bp bq bh bj),J)→Good aY H J→l6 aY H l (jQ eI dN dH eh l)→H (.dv l)=some (.li [])→H (.cM l)=some (.li [])→H .types=some (.li (rP++[.ref (aY (.ty l))]))→bY (dB (.types::kb l)) a h aY H→aY .types=a .types→X):X:=by
 obtain⟨nm,cy⟩:∃nm,dd n (.ss [65,66,67,68]) (E l)=some nm:=nb l hl ⟨_,rfl⟩ ⟨_,rfl⟩ ⟨_,rfl⟩ ⟨_,rfl⟩
 refine afo (iw l) λ cp LR bM Yw=>?_
 have e:=PL (z:=z) (n:=n) (e1:=E (66+l)) (name:=nm) (LR▸iw l) bM
 refine afy (l:=l) (e1:=E (66+l)) (name:=nm) (cp:=cp) M λ aY H dF C1 afi rc dj bx=>?_
 have JG:=(bx .types (λ m=>Ry l (F9 m).symm)).1
 refine dF.l9 (v:=.ref n.length) ((bx .types (λ m=>Ry l (F9 m).symm)).2 _ bD) Ys λ ao ez dA=>?_
 rw[JG]at ez
 exact f ao _ aY (aR (a:=ev (a .w) (some (.ref (a .store))) (some (E l)) aW bp bq bh bj) rfl (dk (z+1) Bw (ev (a aN.w) (some (D.ref (a aN.store))) (some (E l)) aW bp bq bh bj) n _ ((fj (M.at_ _ _ hs)).trans cl) (hQ (M.at_ _ _ bD)) _ rfl _ Dg _ cy _ rfl _ (gx (M.at_ _ _ cS) rfl) _ (E8 M hm hl) _ (Yw n) _ e _ ez)) dA (LR▸afi.bx (bY.set λ q=>(A0 q).2 rfl)) ((bP _ _ (a5 rfl)).trans rc) ((bP _ _ (a5 rfl)).trans dj) ((cR _ _ _).trans (by rw[C1])) ((bx.sub (gI λ r a4=>.tail _ a4)).trans (bY.kK (.head _))) JG
structure ko(a:bH)(h:aT):Prop where
 bF:∃aG,h .store=some (.bF 3 aG)∧aG.length<20∧aG.lookup 35=some (.ref (a .kt))∧aG.lookup 36=some (.ref (a .types))∧aG.lookup 15=some (.ref (a .meths))
noncomputable def vM:B aN:=.types::(kb 0++kb 1++kb 2++kb 3)
noncomputable def He:bk:=.cons (.cc (.v 1) 36 (.pE (.lst (.cons (.nn) .nil)) (.ii 66))) (.cons (.dc [2] false (.gQ (.ii 4)) Bw) (.cons (.ex (.append (.at (.v 1) 36) (.new 1 (.cons (.ii 70) (.cons (.ss [71]) (.cons (.ii 1) (.cons (.ii 0) (.cons (.neg (.ii 1)) (.cons (.ss [84]) (.cons (.ii 1) .nil)))))))))) .nil))
theorem tx{q:B aN}{ed:bH}{bJ:aT}(bx:bY (dB q) a h ed bJ)(z:([aN.dR,.gA,.store,.host,.eb,.fz,.hH].all λ r=>q.all λ p=>!(p.ctorIdx==r.ctorIdx))=true):dE ed t k=dE a t k:=by
 have f:∀r,r∈ [aN.dR,.gA,.store,.host,.eb,.fz,.hH]→ed r=a r:=λ r m=>(bx r (bo (g'.mp z r m))).1
 unfold dE
 rw[f .dR (.head _),f .gA (.tail _ (.head _)),f .store (.tail _ (.tail _ (.head _))),f .host (.tail _ (.tail _ (.tail _ (.head _)))),f .eb (.tail _ (.tail _ (.tail _ (.tail _ (.head _))))),f .fz (.tail _ (.tail _ (.tail _ (.tail _ (.tail _ (.head _)))))),f .hH (.tail _ (.tail _ (.tail _ (.tail _ (.tail _ (.tail _ (.head _)))))))]
noncomputable def si(a:bH)(h:aT)(l m:C):Prop:=l6 a h l m∧h (.dv l)=some (.li [])∧h (.cM l)=some (.li [])
theorem si.bx{l m:C}{aY:bH}{H:aT}(Q:si a h l m)(bx:bY (AZ l) a h aY H):si aY H l m:=⟨Q.1.bx bx,(bx _ (.inr (.inr (.inl rfl)))).2 _ Q.2.1,(bx _ (.inr (.inr (.inr rfl)))).2 _ Q.2.2⟩
structure CW(a:bH)(h:aT)(t k eI dN dH eh:C)(aG:B (C×D))(l:C):Prop where
 w:h .w=some (.ds (dE a t (k+6)))
 m:h .eb=some (.li [E eI,E dN,E dH,E eh])
 s:h .store=some (.bF 3 aG)
 f:aG.lookup 36=some (.ref (a .types))
 y:h .types=some (.li (dw 66 .nn++(ck l).map λ i=>.ref (a (.ty i))))
 q:∀i,i<l→si a h i (jQ eI dN dH eh i)
theorem By(hl:l≤3)(iw:∀l,jQ eI dN dH eh l≤2)(M:Good a h n)(S:CW a h t k eI dN dH eh aG l)
  (f:∀J H aY,(dh false [2] (E l) (ev (a .w) (some (.ref (a .store))) bu none none none none none)).bind (λ aF=>bS ac (runN ac (z+1)) Bw aF n)=some (.br (ev (a .w) (some (.ref (a .store))) (some (E l)) none none none none none),J)→Good aY H J→CW aY H t k eI dN dH eh aG (l+1)→bY (dB (.types::kb l)) a h aY H→aY .w=a .w→aY .store=a .store→X):X:=by
 refine afA (z:=z) (bu:=bu) (aW:=none) (bp:=none) (bq:=none) (bh:=none) (bj:=none) hl iw M S.w S.m S.s S.f S.y (by rw[fg,cG,gB,Cb];omega) λ J H aY e dF P ak I agf bx S8=>?_
 have lo:∀{i r},i<l→AZ i r→dB (.types::kb l) r:=λ ay q=>abl (λ L=>mS ay (oS ((A0 q).1.symm.trans L))) (A0 q).2
 refine f J H aY e dF ⟨(tx bx rfl).symm▸(bx .w (bo rfl)).2 _ S.w,(bx .eb (bo rfl)).2 _ S.m,(bx .store (bo rfl)).2 _ S.s,S8▸S.f,agf.trans ?_,λ i ay=>(Rr.mp ay).elim (λ ay=>(S.q i ay).bx (bx.sub λ r q=>lo ay q)) λ L=>by subst L;exact⟨P,ak,I⟩⟩ bx (bx .w (bo rfl)).1 (bx .store (bo rfl)).1
 rw[Cf,nF,jx]
 exact an (λ ae=>some (a0.li (dw 66 .nn++(ae++[.ref (aY (.ty l))])))) (pS λ i ay=>an D.ref (bx (.ty i) (lo (ga.mp ay) (.inl rfl))).1.symm)
theorem ac8{v:D}:vs (n++[.li [v]]) (.ref n.length) (.ii 66)=some (dw 66 v):=
 (an (λ o:Y a0=>match o with|some (.li [x])=>if(0:am)≤66∧(66:am)<1000 then some (dw (66:am).toNat x)else none|_=>none) (iZ rfl:(n++[a0.li [v]])[n.length]? =some (.li [v]))).trans rfl
theorem BC(hl:l≤3):∀r,r∈ .types::kb l→r∈ .store::vM:=λ r m=>.tail _ ((kh.mp m).elim (λ L=>L▸.head _) λ m=>.tail _ (nb (P:=λ l=>r∈kb l→r∈kb 0++kb 1++kb 2++kb 3) l hl (λ m=>oO _ (oO _ (oO _ m))) (λ m=>oO _ (oO _ (wb _ m))) (λ m=>oO _ (wb _ m)) (λ m=>wb _ m) m))
theorem af8(iw:∀l,jQ eI dN dH eh l≤2)(M:Good a h n)(cS:h .w=some (.ds (dE a t (k+6))))(hm:h .eb=some (.li [E eI,E dN,E dH,E eh]))(hs:h .store=some (.bF 3 aG))(z6:aG.length<19)(D8:aG.lookup 35=some (.ref (a .kt)))(D6:aG.lookup 15=some (.ref (a .meths)))
  (f:∀J H aY s2 x,bS ac (runN ac (z+1)) He (ev (a .w) (some (.ref (a .store))) bu none none none none none) n=some (.br (ev (a .w) (some (.ref (a .store))) s2 none none none none none),J)→Good aY H J→ko aY H→(∀l,l<4→si aY H l (jQ eI dN dH eh l))→H .types=some (.li (dw 66 .nn++[.ref (aY (.ty 0)),.ref (aY (.ty 1)),.ref (aY (.ty 2)),.ref (aY (.ty 3)),x]))→bY (dB (.store::vM)) a h aY H→aY .store=a .store→X):X:=by
 have first:∀{X:Prop},(∀bW cQ ek ux,lh ac (n++[.li [.nn]]++[.li (dw 66 .nn)]) (.ref (a .store)) 36 (.ref (n++[a0.li [.nn]]).length)=some bW→Good ek cQ bW→CW ek cQ t k eI dN dH eh ux 0→(ux.length<20∧ux.lookup 35=some (.ref (a .kt))∧ux.lookup 15=some (.ref (a .meths)))→bY (dB (.store::vM)) a h ek cQ→ek .w=a .w→ek .store=a .store→X)→X:=λ f=>by
  have dA:=(M.kE (.li [.nn])).new .types (λ _=>a5 rfl) (.li (dw 66 .nn))
  have as:up a .types (n++[a0.li [.nn]]).length .store=a .store:=bP _ _ (a5 rfl)
  have w9:(up h .types (some (.li (dw 66 .nn)))) .store=some (.bF 3 aG):=(bP _ _ (a5 rfl)).trans hs
  have d0:=dA.set (c3:=.bF 3 (c7 aG 36 (.ref (n++[a0.li [.nn]]).length))) w9
  have at2:=dA.at_ _ _ w9
  rw[as]at at2 d0
  have mw:bY (dB [.types]) a h (up a .types (n++[a0.li [.nn]]).length) (up h .types (some (.li (dw 66 .nn)))):=bY.mx (.head _)
  have g3:=(mw.sub (gI (AC (y:=.store)))).trans (bY.kK (r:=.store) (o:=some (.bF 3 (c7 aG 36 (.ref (n++[a0.li [.nn]]).length)))) xx)
  refine f _ _ _ (c7 aG 36 (.ref (n++[a0.li [.nn]]).length)) (x4 at2 rfl (fh z6 (aE rfl))) d0 ⟨?_,(g3 .eb (bo rfl)).2 _ hm,cR _ _ _,?_,?_,λ i ay=>absurd ay (yM i)⟩ ⟨cn AW (Rx z6),(nk (by decide)).trans D8,(nk (by decide)).trans D6⟩ (g3.sub (gI (oX (.tail _ (.head _)) (.head _)))) (bP _ _ (a5 rfl)) as
  ·rw[tx mw rfl];exact(g3 .w (bo rfl)).2 _ cS
  ·exact qy.trans (an (λ x=>some (D.ref x)) (cR _ _ _).symm)
  ·exact(bP _ _ (a5 rfl)).trans (cR _ _ _)
 refine first λ bW cQ ek ux bZ d0 y4 cl g3 sq q2=>?_
 refine By (z:=z) (l:=0) (bu:=bu) (aE rfl) iw d0 y4 λ eO hP kq dL hZ Sp f1 Db zc=>?_
 refine By (z:=z) (l:=1) (bu:=some (E 0)) (aE rfl) iw hZ Sp λ jW i4 k4 fH h0 Sq hn JL C6=>?_
 refine By (z:=z) (l:=2) (bu:=some (E 1)) (aE rfl) iw h0 Sq λ qK xb o6 j4 pQ Sr xB zh JE=>?_
 refine By (z:=z) (l:=3) (bu:=some (E 2)) (aE rfl) iw pQ Sr λ vV L1 JN wP v6 sh aaX agV zd=>?_
 have QH:Good JN L1 (vV++Bx vV.length (.ii 70) (.ss [71]) [84]):=v6.mm
 have ul:=PL (z:=z) (n:=vV) (e1:=.ii 70) (name:=.ss [71]) (cp:=[84]) (aE rfl) rfl
 have hT:=(((g3.trans (f1.sub (gI (BC (aE rfl))))).trans (hn.sub (gI (BC (aE rfl))))).trans (xB.sub (gI (BC (aE rfl))))).trans (aaX.sub (gI (BC (cJ 3))))
 have zd:=zd.trans (JE.trans (C6.trans (zc.trans q2)))
 have uS:=(fj (v6.at_ _ _ sh.s)).trans sh.f
 rw[zd]at uS
 rw[sq,q2]at dL
 rw[Db,zc,sq,q2]at fH
 rw[JL,C6,Db,zc,sq,q2]at j4
 rw[zh,JE,JL,C6,Db,zc,sq,q2]at wP
 refine QH.l9 (v:=.ref vV.length) sh.y (aE rfl) λ agm ez QI=>?_
 exact f agm _ JN (some (E 3)) (.ref vV.length) (dk (z+1) He (ev (a aN.w) (some (D.ref (a aN.store))) bu none none none none none) n _ ac8 _ bZ _ rfl _ rfl (aE rfl) _ _ (fc trivial dL (fc trivial fH (fc trivial j4 (fc trivial wP (hg trivial))))) _ uS (hQ (v6.at_ _ _ sh.y)) _ rfl _ rfl _ ul _ ez) QI ⟨ux,(bP _ _ (a5 rfl)).trans sh.s,cl.1,(hT .kt (bo rfl)).1.symm▸cl.2.1,sh.f,(hT .meths (bo rfl)).1.symm▸cl.2.2⟩ (λ l hl=>(sh.q l hl).bx (bY.set λ q=>(A0 q).2 rfl)) (cR _ _ _) (hT.trans (bY.kK (.tail _ (.head _)))) zd
end
end Mine
end
section
namespace Mine
variable{l:B aN}{r:aN}{ae:C}{al:B (am×D)}{k:C}{v:D}{aC:B aP}{m:C}{aV aQ bq:Y D}{aY:bH}{H:aT}{ks:B C}{O:B (B C×D)}{bh bj:Y D}
section
variable{a:bH}{h:aT}{n:St}{T:B aP}{z:C}{W:cw}{X:Prop}
theorem nT{p:aN→av}(h:(l.all λ q=>!(p q))=true)(k:p r=true):dB l r:=λ m=>jv ((an not k).symm.trans (g'.mp h r m))
noncomputable def dM(W:cw)(ae d:C):ap:=gY (66+(ae-d)) (W.dK ae d)
theorem u0(K:W.ok)(cC:ae≤3){d:C}(a1:d≤ae):(dM W ae d).wf∧(dM W ae d).size≤9∧bd (dM W ae d)= .tup [.ss [103],E (66+(ae-d)),.tup ((W.dK ae d).map bd)]:=
 have bO:=(K.arg cC a1).2
 ⟨WU (.inr ⟨d2 ..,fA (a' (nJ ..) (a' cC (h5 3))) 66⟩) λ t bD=>(bO t bD).2.1,
  a' (WQ λ t bD=>(bO t bD).2.2) (gq (hv (gq (a' a1 cC)) (gq (a' a1 cC)))),WS (K.lD cC a1)⟩
noncomputable def lV(T:B aP)(W:cw)(al:B (am×D)):Prop:=∀(k:C) (v:D),al.lookup (k:am)=some v→∃l b6 e6,l<3∧b6.length≤2∧ba T k (gY (66+(l+1)) b6)∧v=E e6∧ba T e6 (gY (66+l) ((W.up (l+1)).map (ap.sub b6)))
theorem lV.b7(ok:lV T W al)(e:al.lookup (k:am)=some v)(f:∀l b6 e6,l<3→b6.length≤2→ba T k (gY (66+(l+1)) b6)→v=E e6→ba T e6 (gY (66+l) ((W.up (l+1)).map (ap.sub b6)))→X):X:=let⟨l,b6,e6,ax,aH,cI,gh,kz⟩:=ok k v e;f l b6 e6 ax aH cI gh kz
theorem lV.more(m:∀{k:C} {t:ap},ba T k t→ba aC k t)(ok:lV T W al):lV aC W al:=λ k v e=>ok.b7 e λ l b6 e6 ax aH cI gh kz=>⟨l,b6,e6,ax,aH,m cI,gh,m kz⟩
theorem lV.put(ok:lV T W al){eU c2 l:C}{b6:B ap}(ax:l<3)(aH:b6.length≤2)(cI:ba T eU (gY (66+(l+1)) b6))(kz:ba T c2 (gY (66+l) ((W.up (l+1)).map (ap.sub b6)))):lV T W (c7 al (eU:am) (E c2)):=λ k v e=>
 (f9 ((k:am)=eU)).elim (λ L=>⟨l,b6,c2,ax,aH,tK L▸cI,(lk (L▸qy) e).symm,kz⟩) λ L=>ok k v ((nk L).symm.trans e)
noncomputable def EM:ab:=.call 54 (.cons (.v 0) (.cons (.tup (.cons (.ss [103]) (.cons (.bin .add (.ii 66) (.v 6)) (.cons (.v 7) .nil)))) .nil))
noncomputable def Zn(z w m:C)(l:B D)(aV aQ aW bp bq bN bm:Y D)(ds acc:B D)(n:St):Y (B D×St):=@lF (live (.ref m) l) (e0 (.ref m) l) (λ x ao=>(dh true [6,7] x (ev w aV aQ aW bp bq bN bm)).bind λ aF=>(hp ac (runN ac (z+31)) .nil aF ao).bind λ q=>if q.1=true then(ci ac (runN ac (z+31)) EM aF q.2).bind λ r=>some ([r.1],r.2)else some ([],q.2)) ds acc n
noncomputable def aad(W:cw)(ae d:C):D:=.tup [E (ae-d),.tup ((W.dK ae d).map bd)]
theorem Zu{l:B D}{aW bp bN bm:Y D}(cC:ae≤3){ds:B C}:∀{acc:B D} {n:St} {h:aT} {T:B aP},(∀d∈ds,d≤ae)→fO a h W→c6 a h T→Good a h n→h (.a6 m)=some (.li l)→T.length+24*(ds.length+1)<500000→
  (∀(ks:B C) (J:St) (aC:B aP) (H:aT),Zn z (a .w) m l aV aQ aW bp bq bN bm (ds.map (aad W ae)) acc n=some (acc++ks.map E,J)→d1 aC ks (ds.map (dM W ae))→b0 a h T (24*ds.length) J aC H→X)→X:=by
 induction ds with
 |nil=>exact λ{acc n h T} a1 lZ al M hm a3 f=>f [] n T h ((jF (de M hm)).trans (an (λ l=>some (l,n)) (eX acc).symm)) trivial ((b0.refl al M).mono (fs _))
 |cons d ds aZ=>
  intro acc n h T a1 lZ al M hm a3 f
  have hl:(d::ds).length=ds.length+1:=rfl
  have t:=u0 lZ.ok cC (a1 d (.head _))
  refine xp (z:=z) lZ al M t.1 (a' t.2.1 (aE rfl)) (by omega) λ k aa bX aI e q go=>?_
  refine aZ (acc:=acc++[E k]) (λ d gw=>a1 d (.tail _ gw)) (lZ.go go) go.bT go.good (go.a6 hm).1 (by have:=go.le;omega) λ ks ao cL bJ aB cO b8=>?_
  rw[t.2.2]at e
  have st:ci ac (runN ac (z+31)) EM (ev (a .w) aV aQ aW bp bq (some (E (ae-d))) (some (.tup ((W.dK ae d).map bd)))) n=some (E k,aa):=(hI (z+31) EM (ev (a aN.w) aV aQ aW bp bq (some (E (ae-d))) (some (D.tup (eA bd (W.dK ae d))))) n _ Dg _ _ e)
  exact f (k::ks) ao cL bJ (h7 (de M hm) (j2 (aF:=ev (a .w) aV aQ aW bp bq (some (E (ae-d))) (some (.tup ((W.dK ae d).map bd)))) rfl st) (aB.trans (an (λ l=>some (l,ao)) (jx ..)))) ⟨b8.eS q,cO⟩ ((go.trans b8).mono (by omega))
structure qQ(a:bH)(h:aT):Prop where
 bF:∃aG,h .host=some (.bF 9 aG)∧aG.length<20∧aG.lookup 35=some (.ref (a .kt))∧aG.lookup 70=some (.ref (a .fE))∧aG.lookup 7=none∧aG.lookup 9=none
theorem qQ.bx(cU:qQ a h)(dN:∀o,h .host=some o→H .host=some o)(dH:aY .kt=a .kt)(eh:aY .fE=a .fE):qQ aY H:=let⟨aG,aw,aB,bZ,dL,fH⟩:=cU.bF;⟨aG,dN _ aw,aB,dH.symm▸bZ,eh.symm▸dL,fH⟩
theorem qQ.b(cU:qQ a h)(M:Good a h n):d7 n (.ref (a .host)) 70=some (.ref (a .fE)):=let⟨_,aw,_,_,dL,_⟩:=cU.bF;(fj (M.at_ _ _ aw)).trans dL
theorem L4{i:C}(e:n[m]? =some (.li (ks.map E)))(ay:ks[i]? =some k):dd n (.ref m) (E i)=some (E k):=j7 e (i8 ay)
theorem OY{O:B (am×D)}(e:n[m]? =some (.cq O))(l:O.length<1000):j' n (.ref m) (E k) v=some (n.set m (.cq (c7 O (k:am) v))):=(an (rL n m (E k) v) e).trans (if_pos (pG l))
noncomputable def zl:bk:=(.cons (.gJ (.at (.aq (.v 0) (.ss [104,111,115,116])) 70) (.aq (.v 3) (.bin .sub (.v 4) (.ii 1))) (.aq (.v 3) (.v 4))) .nil)
theorem d1.get{bE:B ap}(q:d1 T ks bE):∀{i k:C} {t:ap},ks[i]? =some k→bE[i]? =some t→ba T k t:=
 q.b7 (ak:=λ ks bE=>∀{i k:C} {t:ap},ks[i]? =some k→bE[i]? =some t→ba T k t) (λ e=>nomatch e) λ _ _ _ _ q _ r {i _ _}=>match i with
  |0=>λ e bC=>lk e rfl▸lk bC rfl▸q
  |_+1=>λ e bC=>r e bC
theorem EX(sI:d1 T ks ((ck (ae+1)).map (dM W ae))){p:C}(bM:p<ae+1)(f:∀k,ks[p]? =some k→ba T k (dM W ae p)→X):X:=
 have e:p<ks.length:=by rw[sI.len,cG,gB];exact bM
 f _ (h2 e) (sI.get (h2 e) (i8 (yD bM)))
theorem aai{k ct:am}(e:(al.lookup k).isSome=true):((c7 al ct v).lookup k).isSome=true:=
 (f9 (k=ct)).elim (λ L=>L▸an pY qy) λ L=>(an pY (nk L)).trans e
noncomputable def Ut(z:C)(lo ay:am)(cf cp:B D)(env:aX)(n:St):Y (eZ×St):=@fD (live (.ew lo ay) cf) (e0 (.ew lo ay) cf) (λ x aF J=>(dh false [4] x aF).bind λ dG=>bS ac (runN ac z) zl dG J) cp env n
theorem Uj{lo ay:am}{cf:B D}(cC:ae≤3)(sI:d1 T ks ((ck (ae+1)).map (dM W ae)))(K:W.ok)(cy:T.Nodup){cp:B C}:∀{n:St} {h:aT} {al:B (am×D)} {cm:Y D},(∀p∈cp,p<ae)→Good a h n→h .w=some (.ds O)→O.lookup xj=some (.ref (a .host))→qQ a h→h (.a6 m)=some (.li (ks.map E))→h .fE=some (.cq al)→al.length+cp.length<900→lV T W al→
  (∀(J:St) (H:aT) (iD:B (am×D)) (jr:Y D),Ut z lo ay cf (cp.map λ p=>E (p+1)) (ev (a .w) aV aQ (some (.ref m)) cm bq bh bj) n=some (.br (ev (a .w) aV aQ (some (.ref m)) jr bq bh bj),J)→Good a H J→H .fE=some (.cq iD)→iD.length≤al.length+cp.length→lV T W iD→bY (dB [.fE]) a h a H→(∀p∈cp,∀k,ba T k (dM W ae p)→(iD.lookup (k:am)).isSome=true)→(∀k:am,(al.lookup k).isSome=true→(iD.lookup k).isSome=true)→X)→X:=by
 induction cp with
 |nil=>exact λ{n h al cm} bM M cS sH cU hm fE hl ok f=>f n h al cm (hg trivial) M fE (cJ _) ok bY.refl (λ p bM=>nomatch bM) λ k e=>e
 |cons p cp aZ=>
  intro n h al cm bM M cS sH cU hm fE hl ok f
  have n8:=bM p (.head _)
  refine EX sI (pX n8) λ eU md fx=>EX sI (Rx n8) λ c2 aw d'=>?_
  have hB:bY (dB [.fE]) a h a (up h .fE (some (.cq (c7 al (eU:am) (E c2))))):=bY.kK (.head _)
  have O:=Gz n8
  have abZ:=ok.put (l:=ae- (p+1)) (b6:=W.dK ae p) (eU:=eU) (c2:=c2) (e' (Cq (e' p.succ_pos n8) p.succ_pos) cC) (K.lD cC (h4 n8)) (O.symm▸fx) (O.symm▸d')
  have ag2:(p::cp).length=cp.length+1:=rfl
  have lO:=AW (O:=al) (k:=(eU:am)) (v:=E c2)
  refine aZ (cm:=some (E (p+1))) (λ p rg=>bM p (.tail _ rg)) (M.set (c3:=.cq (c7 al (eU:am) (E c2))) fE) ((hB .w (bo rfl)).2 _ cS) sH (cU.bx (λ o e=>(hB .host (bo rfl)).2 _ e) rfl rfl) ((hB _ (bo rfl)).2 _ hm) (cR _ _ _) (by omega) abZ λ ao bJ Hv jr aB dA Xd eD ab0 sZ uy Lp=>?_
  have st:bS ac (runN ac z) zl (ev (a .w) aV aQ (some (.ref m)) (some (E (p+1))) bq bh bj) n=some (.br (ev (a .w) aV aQ (some (.ref m)) (some (E (p+1))) bq bh bj),n.set (a .fE) (.cq (c7 al (eU:am) (E c2)))):=(dk z zl (ev (a aN.w) aV aQ (some (D.ref m)) (some (E (p+1))) bq bh bj) n _ (L4 (de M hm) aw) _ (gx (M.at_ _ _ cS) sH) _ (cU.b M) _ JP _ (L4 (de M hm) md) _ (OY (k:=eU) (v:=E c2) (M.at_ _ _ fE) (cn (d2 ..) (fh hl (aE rfl)))))
  exact f ao bJ Hv jr (fc trivial (aR (a:=ev (a .w) aV aQ (some (.ref m)) (some (E (p+1))) bq bh bj) rfl st) aB) dA Xd (by omega) ab0 (hB.trans sZ) (λ f3 rg k q=>(kh.mp rg).elim (λ L=>Lp _ (ba.inj cy (L▸q) fx▸an pY qy)) λ rg=>uy f3 rg k q) λ k e=>Lp k (aai e)
noncomputable def tT(l:B aN)(r:aN):Prop:=gZ r=false∧r∉l
theorem vc(k:gZ r=false)(h:(l.all λ q=>!(q.ctorIdx==r.ctorIdx))=true):tT l r:=⟨k,bo h⟩
theorem b0.bx{aI:aT}{bX:B aP}{b:C}{aa:St}(x:b0 a h T b aa bX aI):bY (tT l) a h a aI:=bY.go x λ r k=>k.1
noncomputable def sW:aN→av
 | .w| .store| .eb| .fz| .kt=>true
 |_=>false
theorem fO.bx(ae:fO a h W)(m:bY (λ r=>sW r=true) a h aY H):fO aY H W:=
 ⟨let⟨O,aw,aB,bZ,dL⟩:=ae.w;⟨O,(m .w rfl).2 _ aw,(m .store rfl).1.symm▸aB,(m .eb rfl).1.symm▸bZ,(m .fz rfl).1.symm▸dL⟩,let⟨aG,ir,gD⟩:=ae.store;⟨aG,(m .store rfl).2 _ ir,(m .kt rfl).1.symm▸gD⟩,(m .eb rfl).2 _ ae.many,(m .fz rfl).2 _ ae.up,ae.ok⟩
structure nR(a:bH)(h:aT)(T:B aP)(W:cw)(O:B (B C×D))(al:B (am×D)):Prop where
 lw:fO a h W
 bT:c6 a h T
 w:h .w=some (.ds O)
 zG:O.lookup xj=some (.ref (a .host))
 be:qQ a h
 az:h .fE=some (.cq al)
 ok:lV T W al
noncomputable def oJ(T:B aP)(W:cw)(al:B (am×D))(ae:C):Prop:=∀d,d<ae→∃k,ba T k (dM W ae d)∧(al.lookup (k:am)).isSome=true
theorem oJ.more{iD:B (am×D)}(m:∀{k:C} {t:ap},ba T k t→ba aC k t)(g:∀k:am,(al.lookup k).isSome=true→(iD.lookup k).isSome=true)(ok:oJ T W al ae):oJ aC W iD ae:=λ d a1=>let⟨k,q,e⟩:=ok d a1;⟨k,m q,g _ e⟩
noncomputable def ES:bk:=(.cons (.asg 3 (.comp (.call 54 (.cons (.v 0) (.cons (.tup (.cons (.ss [103]) (.cons (.bin .add (.ii 66) (.v 6)) (.cons (.v 7) .nil)))) .nil))) [6,7] true (.call 57 (.cons (.v 0) (.cons (.v 2) .nil))) (.nil))) (.cons (.dc [4] false (.pF (.ii 1) (.len (.v 3))) zl) .nil))
theorem Oo(cC:ae≤3):vx (.ii 1) (.ii ((ae+1:C):am))=some (.ew 1 ((ae+1:C):am))∧∀n,hR n (.ew 1 ((ae+1:C):am))=some ((ck ae).map λ p=>E (p+1)):=
 nb ae cC ⟨rfl,λ _=>rfl⟩ ⟨rfl,λ _=>rfl⟩ ⟨rfl,λ _=>rfl⟩ ⟨rfl,λ _=>rfl⟩
theorem Aw{bu cX cm:Y D}(cC:ae≤3)(M:Good a h n)(wl:nR a h T W O al)(a3:T.length+200<500000)(fE:al.length<800)
  (f:∀(J:St) (aC:B aP) (H:aT) (iD:B (am×D)) (hU jr:Y D),(dh false [2] (E ae) (ev (a .w) aV bu cX cm bq bh bj)).bind (λ aF=>bS ac (runN ac (z+31)) ES aF n)=some (.br (ev (a .w) aV (some (E ae)) hU jr bq bh bj),J)→Good a H J→nR a H aC W O iD→iD.length≤al.length+3→(∃X,aC=T++X)→aC.length≤T.length+96→bY (tT [.fE]) a h a H→oJ aC W iD ae→(∀k:am,(al.lookup k).isSome=true→(iD.lookup k).isSome=true)→X):X:=by
 refine EQ (z:=z+5) wl.lw wl.bT M (l:=ae) cC λ m aa aI aw cW hO cl=>?_
 have c':(ck (ae+1)).length=ae+1:=gB
 refine Zu (z:=z) (m:=m) (l:=lL W ae (ae+1)) (aV:=aV) (aQ:=some (E ae)) (aW:=cX) (bp:=cm) (bq:=bq) (bN:=bh) (bm:=bj) cC (ds:=ck (ae+1)) (acc:=[]) (λ d a1=>lr (ga.mp a1)) (wl.lw.go cW) cW.bT cW.good hO (by rw[c'];omega) λ ks ao cL bJ aB cO b8=>?_
 have en:=b0.start b8.bT b8.good (.li (ks.map E))
 have fX:b0 a h T 96 (ao++[.li (ks.map E)]) cL _:=((cW.trans b8).trans en.1).mono (by rw[c'];omega)
 have i2:ks.length=ae+1:=cO.len.trans ((cG ..).trans c')
 refine fX.bT.b7 λ _ _ _ _ I=>Uj (z:=z+31) (m:=ao.length) (ae:=ae) (ks:=ks) (O:=O) (aV:=aV) (aQ:=some (E ae)) (bq:=bq) (bh:=bh) (bj:=bj) (lo:=1) (ay:=((ae+1:C):am)) (cf:=(ck ae).map λ p=>E (p+1)) cC cO wl.lw.ok I.nodup (cp:=ck ae) (cm:=cm) (λ p bM=>ga.mp bM) fX.good (fX.off rfl wl.w) wl.zG (wl.be.bx (λ o e=>fX.off rfl e) rfl rfl) en.2 (fX.off rfl wl.az) (by rw[gB];omega) (wl.ok.more λ q=>fX.eS q) λ jW i4 Qv jr fH h0 Xw MS abW hn wS wY=>?_
 rw[gB]at MS
 have lM:la (ao++[.li (ks.map E)]) (.ref ao.length)=some ((ae+1:C):am):=(rp (iZ rfl)).trans (by rw[cG,i2])
 have Ev:(lL W ae (ae+1)).length≤100000:=by unfold lL;rw[cG,c'];omega
 have uP:((ck ae).map λ p=>E (p+1)).length≤100000:=by rw[cG,gB];omega
 refine f jW cL i4 Qv (some (.ref ao.length)) jr (aR (a:=ev (a .w) aV (some (E ae)) cX cm bq bh bj) rfl (dk (z+31) ES (ev (a aN.w) aV (some (E ae)) cX cm bq bh bj) n _ _ aw _ (ix (de cW.good hO)) Ev _ _ aB _ lM _ ((Oo cC).1) _ ((Oo cC).2 _) uP _ _ fH)) h0 ⟨(wl.lw.go fX).bx (hn.sub λ r k=>nT rfl k),fX.bT.bx (hn.sub λ r k=>nT (p:=hS) rfl k),(hn .w (bo rfl)).2 _ (fX.off rfl wl.w),wl.zG,wl.be.bx (λ o e=>(hn .host (bo rfl)).2 _ (fX.off rfl e)) rfl rfl,Xw,abW⟩ (a' MS (fA cC _)) fX.jm.ext fX.le (fX.bx.trans (hn.sub λ r k=>k.2)) (λ d a1=>?_) wY
 exact EX cO (pX a1) λ k _ q=>⟨k,q,wS d (ga.mpr a1) k q⟩
end
end Mine
end
section
namespace Mine
variable{b c:av}{O:B (B C×D)}
noncomputable def bk.app:bk→bk→bk
 | .nil,r=>r
 | .cons s t,r=>.cons s (t.app r)
theorem j9{P:iW}{V:jg}{r:bk}{aF:aX}{J:St}:∀{s:bk} {env:aX} {n:St},bS P V s env n=some (.br aF,J)→bS P V (s.app r) env n=bS P V r aF J
 | .nil,env,n,e=>by cases e;rfl
 | .cons s t,env,n,e=>b1 e λ p aw aB=>match p,aw,aB with
  | (.br uo,aa),aw,aB=>aR aw (j9 (s:=t) aB)
  | (.f5 v,aa),_,aB=>nomatch aB
section
variable{a:bH}{h:aT}{n:St}{T:B aP}{z:C}{W:cw}{X:Prop}
theorem A5{f:C}{d:oL}{b6:B D}{r:eZ}{J:St}(a1:ac.fns f=some d)(hl:b6.length=d.np)(e:bS ac (runN ac z) d.body (b6.map some++dw (d.nl-d.np) none) n=some (r,J)):runN ac (z+1) f b6 n=some (r.val,J):=aR a1 (bb hl (aR e (by cases r<;>rfl)))
noncomputable def Hf:bk:=.cons (.dc [2] false (.gQ (.ii 4)) ES) .nil
noncomputable def Yc:aN→av
 | .host| .fE=>true
 |_=>false
noncomputable def af2(r:aN):Bool:=sW r||(hS r||Yc r)
theorem ab5(h:c=true):(b||c)=true:=by
 cases b
 ·exact h
 ·rfl
theorem NV(h:b=true):(b||c)=true:=an (· ||c) h
theorem nR.bx{aY:bH}{H:aT}{al:B (am×D)}(w:nR a h T W O al)(m:bY (λ r=>af2 r=true) a h aY H):nR aY H T W O al:=
 ⟨w.lw.bx (m.sub λ r k=>NV k),w.bT.bx (m.sub λ r k=>ab5 (NV k)),(m .w rfl).2 _ w.w,(m .host rfl).1.symm▸w.zG,w.be.bx (m .host rfl).2 (m .kt rfl).1 (m .fE rfl).1,(m .fE rfl).2 _ w.az,w.ok⟩
noncomputable def P2:B aN:=[.w,.eb,.fz,.fE]++(.store::vM)
theorem DI{aC:B aP}(x:∃X,aC=T++X){k:C}{t:ap}(q:ba T k t):ba aC k t:=let⟨_,e⟩:=x;e▸q.more
theorem af9{aV bu:Y D}(M:Good a h n)(wl:nR a h T W O [])(a3:T.length<1000)
  (f:∀(J:St) (aC:B aP) (H:aT) (iD:B (am×D)) (aF:aX),bS ac (runN ac (z+31)) Hf (ev (a .w) aV bu none none none none none) n=some (.br aF,J)→Good a H J→nR a H aC W O iD→(∃X,aC=T++X)→aC.length≤T.length+400→bY (tT [.fE]) a h a H→(∀ae,ae≤3→oJ aC W iD ae)→X):X:=by
 refine Aw (z:=z) (ae:=0) (aV:=aV) (bq:=none) (bh:=none) (bj:=none) (bu:=bu) (cX:=none) (cm:=none) (fs 3) M wl (by omega) (aE rfl) λ aa bX aI Qu cX cm aw dJ Ha dy er d4 hB ir g1=>?_
 have dy:Qu.length≤3:=dy
 refine Aw (z:=z) (ae:=1) (aV:=aV) (bq:=none) (bh:=none) (bj:=none) (bu:=some (E 0)) (cX:=cX) (cm:=cm) (aE rfl) dJ Ha (by omega) (by omega) λ ao cL bJ Hv eM ack aB dA af3 eD eN d5 sZ gD g2=>?_
 refine Aw (z:=z) (ae:=2) (aV:=aV) (bq:=none) (bh:=none) (bj:=none) (bu:=some (E 1)) (cX:=eM) (cm:=ack) (aE rfl) dA af3 (by omega) (by omega) λ bW lB cQ Hw j8 xW bZ d0 af4 pm hr oF ng us gL=>?_
 refine Aw (z:=z) (ae:=3) (aV:=aV) (bq:=none) (bh:=none) (bj:=none) (bu:=some (E 2)) (cX:=j8) (cm:=xW) (cJ 3) d0 af4 (by omega) (by omega) λ eO sj hP BY ot te dL hZ af5 uX kM Qa aaZ sC mg=>?_
 have gN:=dk (z+31) Hf (ev (a .w) aV bu none none none none none) n _ rfl _ rfl (aE rfl) _ _ (fc (R:=some (.br (ev (a .w) aV (some (E 3)) ot te none none none),eO)) trivial aw (fc trivial aB (fc trivial bZ (fc trivial dL (hg trivial)))))
 exact f eO sj hP BY (ev (a .w) aV (some (E 3)) ot te none none none) gN hZ af5 (me er (me eN (me hr kM))) (by omega) (((hB.trans sZ).trans ng).trans aaZ) λ ae cC=>nb ae cC (λ d a1=>absurd a1 (yM d)) (gD.more (λ q=>DI kM (DI hr q)) λ k e=>mg k (gL k e)) (us.more (λ q=>DI kM q) λ k e=>mg k e) sC
theorem aaC{eI dN dH eh:C}(Dd:eI≤2)(gf:dN≤2)(i0:dH≤2)(iJ:eh≤2)(l:C):jQ eI dN dH eh l≤2:=match l with
 |0=>Dd|1=>gf|2=>i0|3=>iJ|_+4=>fs 2
theorem ZP{xs:B C}{t:C}{aG:B (C×D)}(M:Good a h n)(al:c6 a h T)(a3:T.length<900)(cS:h .w=some (.ds (dE a t 5)))(aA:h .dR=some (.li (xs.map E)))(bD:t<10000)(hs:h .store=some (.bF 3 aG))(z6:aG.length<19)(D8:aG.lookup 35=some (.ref (a .kt)))(D6:aG.lookup 15=some (.ref (a .meths)))(be:qQ a h)(az:h .fE=some (.cq []))
  (f:∀(W:cw) (J:St) (aC:B aP) (H:aT) (aY:bH) (iD:B (am×D)) (cB:C) (x:D),runN ac (z+32) 58 [.ref (a .w)] n=some (.nn,J)→Good aY H J→nR aY H aC W (dE aY cB 7) iD→cB≤t+10→ko aY H→(∀l,l<4→si aY H l (W.many l))→H .types=some (.li (dw 66 .nn++[.ref (aY (.ty 0)),.ref (aY (.ty 1)),.ref (aY (.ty 2)),.ref (aY (.ty 3)),x]))→aC.length≤T.length+400→bY (tT P2) a h aY H→(∀ae,ae≤3→oJ aC W iD ae)→aY .w=a .w→aY .store=a .store→X):X:=by
 refine af6 (z:=z+30) (aV:=some (.ref (a .store))) M cS aA (fh bD (aE rfl)) λ eI dN dH eh aa aI cx bu Dd gf i0 iJ aw dJ kP Nk mw zg=>?_
 have iw:=aaC Dd gf i0 iJ
 refine af7 (z:=z+29) (aV:=some (.ref (a .store))) (bu:=bu) iw dJ kP ((mw .dR (bo rfl)).2 _ aA) Nk (by omega) λ jc kN oA eN ao bJ ed s2 eD aB dA kQ pK xA wC ok=>?_
 have xz:bY (dB [.w,.eb,.fz]) a h ed bJ:=bY.trans (q:=dB [.w,.eb,.fz]) (mw.sub (gI (oX (.head _) lb))) (xA.sub (gI (oX (.head _) (.tail _ lb))))
 have Nl:=(xA .eb (bo rfl)).2 _ Nk
 have zb:=(xz .store (bo rfl)).1
 refine af8 (z:=z+30) (k:=1) (bu:=s2) iw dA kQ Nl ((xz .store (bo rfl)).2 _ hs) z6 ((xz .kt (bo rfl)).1.symm▸D8) ((xz .meths (bo rfl)).1.symm▸D6) λ bW cQ ek abM x bZ d0 y4 afv afD g3 q2=>?_
 have u9:bY (dB ([.w,.eb,.fz]++(.store::vM))) a h ek cQ:=bY.trans (q:=dB ([.w,.eb,.fz]++(.store::vM))) (xz.sub (gI λ r m=>oO _ m)) (g3.sub (gI λ r m=>wb _ m))
 have sq:=(g3 .w (bo rfl)).1
 have afS:dE ek eN 7=dE ed eN 7:=by
  unfold dE
  rw[(g3 .dR (bo rfl)).1,(g3 .gA (bo rfl)).1,q2,(g3 .host (bo rfl)).1,(g3 .eb (bo rfl)).1,(g3 .fz (bo rfl)).1,(g3 .hH (bo rfl)).1]
 have ig:cQ .w=some (.ds (dE ek eN 7)):=afS.symm▸(g3 .w (bo rfl)).2 _ kQ
 have af0:nR ek cQ T ⟨jQ eI dN dH eh,GZ jc kN oA⟩ (dE ek eN 7) []:=
  ⟨⟨⟨_,ig,rfl,rfl,rfl⟩,let⟨DU,eE,_,pH,_⟩:=y4.bF;⟨DU,eE,pH⟩,(g3 .eb (bo rfl)).2 _ Nl,(g3 .fz (bo rfl)).2 _ pK,ok⟩,al.bx (u9.sub λ r k=>nT (p:=hS) rfl k),ig,rfl,be.bx (u9 .host (bo rfl)).2 (u9 .kt (bo rfl)).1 (u9 .fE (bo rfl)).1,(u9 .fE (bo rfl)).2 _ az,λ k v e=>nomatch e⟩
 refine af9 (z:=z) (aV:=some (.ref (a .store))) (bu:=abM) d0 af0 (fh a3 (aE rfl)) λ eO sj hP BY KR dL hZ af1 bp Qa f1 sC=>?_
 have kJ:jT ac (runN ac (z+31)) (.asg 1 (.aq (.v 0) (.ss [115,116,111,114,101]))) (ev (a .w) none none none none none none none) n=some (.br (ev (a .w) (some (.ref (a .store))) none none none none none none),n):=aR (aR rfl (aR rfl (aR (gx (M.at_ _ _ cS) rfl) rfl))) rfl
 rw[zg]at aB
 rw[wC,zg,zb]at bZ
 rw[sq,wC,zg]at dL
 refine f ⟨jQ eI dN dH eh,GZ jc kN oA⟩ eO sj hP ek BY eN x (A5 (z:=z+31) (f:=58) (b6:=[.ref (a .w)]) (r:=.br KR) rfl rfl (show bS ac (runN ac (z+31)) (.cons (.asg 1 (.aq (.v 0) (.ss [115,116,111,114,101]))) (Hb.app (Hc.app (He.app Hf)))) (ev (a .w) none none none none none none none) n=some (.br KR,eO)from aR kJ ((j9 aw).trans ((j9 aB).trans ((j9 bZ).trans dL))))) hZ af1 (by omega) ?_ (λ l hl=>(afv l hl).bx (f1.sub λ r k=>?_)) ((f1 .types (vc rfl rfl)).2 _ afD) Qa ?_ sC (sq.trans (wC.trans zg)) (q2.trans zb)
 ·exact let⟨DU,eE,s⟩:=y4.bF;⟨DU,(f1 .store (vc rfl rfl)).2 _ eE,s⟩
 ·rcases k with rfl|rfl|rfl|rfl<;>exact vc rfl rfl
 ·exact bY.trans (q:=tT P2) (u9.sub λ r k a4=>k.2 ((nG.mp a4).elim (λ m=>oO _ ((kh.mp m).elim (λ L=>L▸.head _) λ m=>oX (P:=(· ∈_)) lb (.tail _ lb) r m)) (wb _))) (f1.sub λ r k=>⟨k.1,λ a4=>k.2 (jz.mp a4▸oO _ (.tail _ (.tail _ lb)))⟩)
end
end Mine
end
section
namespace Mine
variable{j:C}{r:b5}{p:b5→av}{F:C}{aY:bH}{H:aT}
noncomputable def af(R:B b5)(j:C):b5:=R.getD j ⟨0,0,0,false⟩
noncomputable def k9(R:B b5)(p:b5→av):B Nat:=(ck R.length).filter λ j=>p (af R j)
theorem adB{R:B b5}(h:j<R.length):af (R++[r]) j=af R j:=by
 unfold af;rw[jy,jy,qR h]
theorem adA{R:B b5}:af (R++[r]) R.length=r:=sD (iZ rfl)
theorem adz{R:B b5}(h:R[j]? =some r):af R j=r:=sD h
theorem L2{R:B b5}:k9 (R++[r]) p=k9 R p++if p r then [R.length]else []:=by
 unfold k9
 rw[fg,Q4,Cf,r3]
 refine cD (· ++·) (HP λ j bt=>?_) ?_
 ·rw[adB (ga.mp bt)]
 ·rw[QY,adA];rfl
theorem E'{R:B b5}:j∈k9 R p↔j<R.length∧p (af R j)=true:=oP.trans (and_congr_left' ga)
theorem Ey{R:B b5}:(k9 R p).length≤R.length:=a' (HZ ..) (dg gB)
noncomputable def eC(r:b5):Nat:=(if r.eL then 2 else 6)+128*r.aM
noncomputable def js(W:cw)(aU:C→ap)(r:b5):ap:=(aU r.nm).sub (W.dK r.ah r.ah)
noncomputable def Mw:B Nat:=[108,101,118,101,108]
noncomputable def My:B Nat:=[110,97,109,101]
noncomputable def MB:B Nat:=[115,111,114,116]
noncomputable def Mx:B Nat:=[109,105,100]
noncomputable def Mv:B Nat:=[102,108,97,103,115]
noncomputable def MC:B Nat:=[115,116,97,110,100,115]
noncomputable def MA:B Nat:=[111,118,101,114]
noncomputable def ow(a:bH)(j:C)(r:b5)(F:C):B (B C×D):=[(Mw,E r.ah),(My,.ss [r.nm]),(MB,E r.aM),(Mx,E (j+1)),(Mv,E F),(MC,.ref (a (.st j))),(MA,.cj r.eL)]
noncomputable def ll(p:ap×C):D:=.tup [bd p.1,E p.2]
section
variable{a:bH}{h:aT}{n:St}{T:B aP}{z:C}{W:cw}{aU:C→ap}{R:B b5}
structure pU(aG:B (C×D))(g dr j:C)(r:b5)(F:C):Prop where
 len:aG.length<30
 DJ:aG.lookup 24=some (E (j+1))
 nZ:aG.lookup 6=some (.ss [r.nm])
 uu:aG.lookup 26=some (.ii 6)
 f8:aG.lookup 8=some (E F)
 zK:aG.lookup 27=some (.ii 0)
 DK:aG.lookup 29=some (.ref g)
 zL:aG.lookup 30=some (.ii 0)
 zJ:aG.lookup 11=some (.tup [E dr])
 zM:aG.lookup 32=some (.tup [.ii 0])
 KZ:aG.lookup 25=some (E (66+r.ah))
structure ki(a:bH)(h:aT)(T:B aP)(W:cw)(aU:C→ap)(j:C)(r:b5)(F:C):Prop where
 bF:∃aG g dr,h (.bl j)=some (.bF 2 aG)∧pU aG g dr j r F∧ba T dr (js W aU r)∧h (.a6 g)=some (.li [])
theorem ki.b7(ak:ki a h T W aU j r F){X:Prop}(f:∀aG g dr,h (.bl j)=some (.bF 2 aG)→pU aG g dr j r F→ba T dr (js W aU r)→h (.a6 g)=some (.li [])→X):X:=let⟨aG,g,dr,aw,aB,bZ,dL⟩:=ak.bF;f aG g dr aw aB bZ dL
theorem ki.bx{aC:B aP}(ak:ki a h T W aU j r F)(dN:∀o,h (.bl j)=some o→H (.bl j)=some o)(dH:∀g o,h (.a6 g)=some o→H (.a6 g)=some o)(k:∀{k:C} {t:ap},ba T k t→ba aC k t):ki aY H aC W aU j r F:=ak.b7 λ aG g dr aw aB bZ dL=>⟨aG,g,dr,dN _ aw,aB,k bZ,dH _ _ dL⟩
structure nN(a:bH)(h:aT)(j:C)(r:b5)(F:C)(S:B (ap×C)):Prop where
 row:h (.row j)=some (.ds (ow a j r F))
 st:h (.st j)=some (.li (S.map ll))
theorem nN.bx{S:B (ap×C)}(x:nN a h j r F S)(m:bY (λ r=>r= .row j∨r= .st j) a h aY H):nN aY H j r F S:=
 ⟨by unfold ow;rw[(m (.st j) (.inr rfl)).1];exact(m _ (.inl rfl)).2 _ x.row,(m _ (.inr rfl)).2 _ x.st⟩
structure iG(a:bH)(h:aT)(T:B aP)(W:cw)(al:B (am×D))(aU:C→ap)(R:B b5)(xs:B C)(t:C):Prop where
 wl:nR a h T W (dE a t 8) al
 dR:h .dR=some (.li (xs.map E))
 aM:ko a h
 ty:∀l,l<4→l6 a h l (W.many l)
 cM:∀l,l<4→h (.cM l)=some (.li [])
 types:∃x,h .types=some (.li (dw 66 .nn++[.ref (a (.ty 0)),.ref (a (.ty 1)),.ref (a (.ty 2)),.ref (a (.ty 3)),x]))
 given:h .hH=some (.ds [([109],bd (aU 109)),([110],bd (aU 110))])
 lH:∀c,(aU c).ar (W.many 0)∧(aU c).wf∧(aU c).size≤2
 meths:h .meths=some (.li (.nn::(ck R.length).map λ j=>.ref (a (.bl j))))
 dv:∀l,l<4→h (.dv l)=some (.li ((k9 R λ r=>r.ah==l).map λ j=>E (j+1)))
 rows:h .gA=some (.li ((ck R.length).map λ j=>.ref (a (.row j))))
 bl:∀j r,R[j]? =some r→ki a h T W aU j r (eC r)
 row:∀j r,R[j]? =some r→nN a h j r (eC r) []
 eW:∀r∈R,r.ah≤3∧(r.nm=109∨r.nm=110)∧r.aM≤1
 kr:∀ae,ae≤3→oJ T W al ae
theorem GP{x:D}{l:C}(hl:l<4)(M:Good a h n)(e:h .types=some (.li (dw 66 .nn++[.ref (a (.ty 0)),.ref (a (.ty 1)),.ref (a (.ty 2)),.ref (a (.ty 3)),x]))):dd n (.ref (a .types)) (E (66+l))=some (.ref (a (.ty l))):=j7 (M.at_ _ _ e) (nb l (lr hl) rfl rfl rfl rfl)
theorem fO.vQ{O:B (B C×D)}(ae:fO a h W)(w:∃O,H .w=some (.ds O)∧O.lookup qi=some (.ref (a .store))∧O.lookup Ap=some (.ref (a .eb))∧O.lookup Aq=some (.ref (a .fz)))(f:∀r o,r≠ .w→h r=some o→H r=some o):fO a H W:=
 ⟨w,let⟨aG,ir,gD⟩:=ae.store;⟨aG,f _ _ (a5 rfl) ir,gD⟩,f _ _ (a5 rfl) ae.many,f _ _ (a5 rfl) ae.up,ae.ok⟩
theorem xG{r bw:aN}(z:bw≠r):dB [r] bw:=λ m=>z (jz.mp m)
theorem iG.take{al:B (am×D)}{xs:B C}{t cB:C}(p:iG a h T W al aU R xs t)(cS:H .w=some (.ds (dE a cB 8)))(bx:bY (dB [.w]) a h a H):iG a H T W al aU R xs cB:=
 have f:∀r o,r≠ .w→h r=some o→H r=some o:=λ r o z e=>(bx r (xG z)).2 o e
 {wl:=⟨p.wl.lw.vQ (O:=[]) ⟨_,cS,rfl,rfl,rfl⟩ f,p.wl.bT.bx (bx.sub λ r k=>nT (p:=hS) rfl k),cS,rfl,p.wl.be.bx (λ o e=>f _ _ (a5 rfl) e) rfl rfl,f _ _ (a5 rfl) p.wl.az,p.wl.ok⟩
  dR:=f _ _ (a5 rfl) p.dR
  aM:=let⟨aG,eE,s⟩:=p.aM.bF;⟨aG,f _ _ (a5 rfl) eE,s⟩
  ty:=λ l hl=>(p.ty l hl).bx (bx.sub λ r k=>by rcases k with rfl|rfl|rfl|rfl<;>exact bo rfl)
  cM:=λ l hl=>f _ _ (a5 rfl) (p.cM l hl)
  types:=let⟨x,e⟩:=p.types;⟨x,f _ _ (a5 rfl) e⟩
  given:=f _ _ (a5 rfl) p.given
  lH:=p.lH
  meths:=f _ _ (a5 rfl) p.meths
  dv:=λ l hl=>f _ _ (a5 rfl) (p.dv l hl)
  rows:=f _ _ (a5 rfl) p.rows
  bl:=λ j r e=>(p.bl j r e).bx (λ o=>f _ _ (a5 rfl)) (λ g o=>f _ _ (a5 rfl)) λ q=>q
  row:=λ j r e=>(p.row j r e).bx (bx.sub λ r k=>by rcases k with rfl|rfl<;>exact bo rfl)
  eW:=p.eW
  kr:=p.kr}
end
end Mine
end
section
namespace Mine
variable{m:C}{ak:C→Prop}{F:C}{fl rP:B D}{nm j l dr:C}
section
variable{a:bH}{h:aT}{n:St}{T:B aP}{z:C}{W:cw}{aU:C→ap}{R:B b5}{X:Prop}
theorem Good.SP{b:C}{o:a0}(M:Good a h n)(lt:∀r,(h r).isSome=true→a r<b)(hm:b≤m)(e:n[m]? =some o):Good a (Mine.up h (.a6 m) (some o)) n where
 at_:=λ bw x bC=>PQ bC (λ L w=>by rw[L,M.a6];exact e.trans w) λ _ w=>M.at_ bw x w
 inj:=λ fU gP ax aH q=>by
  have ae:∀bw,bw≠ .a6 m→(Mine.up h (.a6 m) (some o) bw).isSome=true→a bw<m:=λ bw L H=>by
   rw[bP _ _ L]at H;exact e' (lt _ H) hm
  by_cases d4:fU= .a6 m<;>by_cases d5:gP= .a6 m
  ·rw[d4,d5]
  ·have:=ae gP d5 aH
   rw[←q,d4,M.a6]at this
   exact absurd this (oR m)
  ·have:=ae fU d4 ax
   rw[q,d5,M.a6]at this
   exact absurd this (oR m)
  ·rw[bP _ _ d4]at ax
   rw[bP _ _ d5]at aH
   exact M.inj _ _ ax aH q
 a6:=M.a6
noncomputable def rC(F:C):Prop:=F=2∨F=6∨F=130∨F=134
theorem rC.b7(h:rC F)(rF:ak 2)(gk:ak 6)(fT:ak 130)(eM:ak 134):ak F:=by rcases h with rfl|rfl|rfl|rfl<;>assumption
theorem ro{k:C}(h:k≤1)(rF:ak 0)(gk:ak 1):ak k:=match k,h with
 |0,_=>rF
 |1,_=>gk
theorem Wz{r:b5}(h:r.aM≤1):rC (eC r):=by
 unfold eC
 cases r.eL
 ·exact ro (ak:=λ k=>rC ((if false=true then 2 else 6)+128*k)) h (.inr (.inl rfl)) (.inr (.inr (.inr rfl)))
 ·exact ro (ak:=λ k=>rC ((if true=true then 2 else 6)+128*k)) h (.inl rfl) (.inr (.inr (.inl rfl)))
theorem Zo(m8:rC F):runN ac (z+1) 32 [E F] n=some (E F,n):=by
 have gf:fG .band (E F) (.ii 96)=some (.ii 0):=m8.b7 (ak:=λ F=>fG .band (E F) (.ii 96)=some (.ii 0)) rfl rfl rfl rfl
 exact(cN z 32 [E F] n rfl rfl _ rfl _ gf _ rfl)
theorem Ex{i:C}{xs:B D}{v:D}(e:n[m]? =some (.li xs))(ay:xs[i]? =some v):dd n (.ref m) (E i)=some v:=j7 e ay
theorem ko.at_(aM:ko a h)(M:Good a h n):d7 n (.ref (a .store)) 15=some (.ref (a .meths))∧d7 n (.ref (a .store)) 36=some (.ref (a .types))∧d7 n (.ref (a .store)) 35=some (.ref (a .kt)):=
 let⟨_,eE,_,pH,tf,vz⟩:=aM.bF
 ⟨(fj (M.at_ _ _ eE)).trans vz,(fj (M.at_ _ _ eE)).trans tf,(fj (M.at_ _ _ eE)).trans pH⟩
theorem ko.bx{aY:bH}{H:aT}(aM:ko a h)(m:∀o,h .store=some o→H .store=some o)(aw:aY .kt=a .kt)(aB:aY .types=a .types)(bZ:aY .meths=a .meths):ko aY H:=
 let⟨aG,eE,jU,pH,tf,vz⟩:=aM.bF
 ⟨aG,m _ eE,jU,aw.symm▸pH,aB.symm▸tf,bZ.symm▸vz⟩
theorem abF{e1 lc N c:C}{k:D}{qG:D}(M:Good a h n)(aM:ko a h)(bD:h .types=some (.li rP))(Ac:rP[e1]? =some qG)(hm:h .meths=some (.li fl))(iw:fl[lc]? =some (.ref (a (.bl c))))(cy:nm=109∨nm=110)(m8:rC F)(be:h (.bl c)=some (.bF 2 (u7 N (E lc) (E e1) (.ss [nm]) (.ii 6) (E F) (.ii 0) k))):
  runN ac (z+1) 34 [.ref (a .store),E lc] n=some (.nn,n):=by
 have s:=aM.at_ M
 have YF:d7 n (.ref (a (.bl c))) 25=some (E e1):=fj (M.at_ _ _ be)
 have xc:d7 n (.ref (a (.bl c))) 8=some (E F):=fj (M.at_ _ _ be)
 have YG:d7 n (.ref (a (.bl c))) 6=some (.ss [nm]):=fj (M.at_ _ _ be)
 have gf:fG .band (E F) (.ii 64)=some (.ii 0):=m8.b7 (ak:=λ F=>fG .band (E F) (.ii 64)=some (.ii 0)) rfl rfl rfl rfl
 have cD:cY .eq (.ss [nm]) (.ss [70,105,110,97,108,105,122,101]) n=some false:=by rcases cy with rfl|rfl<;>rfl
 exact(cN z 34 [D.ref (a aN.store),E lc] n rfl rfl _ s.1 _ (Ex (M.at_ _ _ hm) iw) _ s.2.1 _ YF _ (Ex (M.at_ _ _ bD) Ac) _ xc _ gf _ rfl _ YG _ cD)
theorem aaI(M:Good a h n)(f:∀aa cx aI,n++[a0.bF 2 (u7 n.length (E (j+1)) (E (66+l)) (.ss [nm]) (.ii 6) (E F) (.ii 0) (E dr)),.li [],.li [],.li [.ss [112,48]]]=aa→Good cx aI aa→cx (.bl j)=n.length→aI (.bl j)=some (.bF 2 (u7 n.length (E (j+1)) (E (66+l)) (.ss [nm]) (.ii 6) (E F) (.ii 0) (E dr)))→aI (.a6 (n.length+2))=some (.li [])→bY (dB [.bl j]) a h cx aI→X):X:=by
 have mO:Good a h (n++[a0.bF 2 (u7 n.length (E (j+1)) (E (66+l)) (.ss [nm]) (.ii 6) (E F) (.ii 0) (E dr)),.li [],.li [],.li [.ss [112,48]]]):=M.mm
 obtain⟨iU,dy⟩:=mO.adopt (r:=.bl j) (m:=n.length+0) (b:=n.length) M.E1 (cJ _) (l'.trans rfl) (λ _=>a5 rfl)
 have jh:=iU.SP (m:=n.length+2) dy (h5 _) (l'.trans rfl)
 exact f _ _ _ rfl jh (cR _ _ _) ((bP _ _ (a5 rfl)).trans (cR _ _ _)) (cR _ _ _) (bY.trans (q:=dB [.bl j]) (bY.mx (.head _)) λ r k=>⟨rfl,λ o e=>mJ e (GH ((bP _ _ (a5 rfl)).trans (M.fresh (d2 ..))) e)⟩)
theorem aaM{α:Type}{x y L:α}:∀r,r∈ [x]→r∈ [x,y,L]:=λ _ h=>jz.mp h▸.head _
theorem SO{to:B D}(hl:l<4)(M:Good a h n)(aM:ko a h)(ty:l6 a h l (W.many l))(bD:h .types=some (.li rP))(Ac:rP[66+l]? =some (.ref (a (.ty l))))(rc:h (.dv l)=some (.li to))(hm:h .meths=some (.li fl))(bt:fl.length=j+1)(ag1:j<100)(Yt:to.length<100)(cy:nm=109∨nm=110)(m8:rC F)
  (f:∀(J:St) (aY:bH) (H:aT) (N:C),runN ac (z+3) 33 [.ref (a .store),E (66+l),.ss [nm],.ii 6,E F,.ii 0,.tup [E dr]] n=some (E (j+1),J)→Good aY H J→H .meths=some (.li (fl++[.ref (aY (.bl j))]))→H (.dv l)=some (.li (to++[E (j+1)]))→H (.bl j)=some (.bF 2 (u7 N (E (j+1)) (E (66+l)) (.ss [nm]) (.ii 6) (E F) (.ii 0) (E dr)))→H (.a6 (N+2))=some (.li [])→bY (dB [.bl j,.meths,.dv l]) a h aY H→aY .meths=a .meths→aY (.dv l)=a (.dv l)→X):X:=by
 obtain⟨vG,er,_,_,kM,_⟩:=ty.bF
 have e:=aaJ (z:=z) (n:=n) (lc:=E (j+1)) (vk:=E (66+l)) (name:=.ss [nm]) (ua:=.ii 6) (ut:=E F) (ret:=.ii 0) (k:=E dr)
 refine aaI (j:=j) (l:=l) (nm:=nm) (F:=F) (dr:=dr) M λ aa cx aI n' jh wv dN g1 bx=>?_
 rw[n']at e
 have so:cx .meths=a .meths:=(bx .meths (bo rfl)).1
 have t':cx (.dv l)=a (.dv l):=(bx (.dv l) (bo rfl)).1
 refine jh.l9 (v:=.ref n.length) ((bx .meths (bo rfl)).2 _ hm) (by omega) λ ao Jx dA=>?_
 have Lq:(up aI .meths (some (.li (fl++[.ref n.length])))) (.dv l)=some (.li to):=(bP _ _ (a5 rfl)).trans ((bx (.dv l) (bo rfl)).2 _ rc)
 refine dA.l9 (v:=E (j+1)) Lq (fh Yt (aE rfl)) λ bW wA d0=>?_
 have Lr:(up (up aI .meths (some (.li (fl++[.ref n.length])))) (.dv l) (some (.li (to++[E (j+1)])))) .meths=some (.li (fl++[.ref (cx (.bl j))])):=wv▸(bP _ _ (a5 rfl)).trans (cR _ _ _)
 have g3:bY (dB [.bl j,.meths,.dv l]) a h cx (up (up aI .meths (some (.li (fl++[.ref n.length])))) (.dv l) (some (.li (to++[E (j+1)])))):=bY.trans (q:=dB [.bl j,.meths,.dv l]) (bY.trans (q:=dB [.bl j,.meths,.dv l]) (bx.sub (gI aaM)) (bY.kK lb)) (bY.kK (.tail _ lb))
 have Ls:=(bP (up aI .meths (some (.li (fl++[.ref n.length])))) (r:=.dv l) (some (.li (to++[E (j+1)]))) (a5 rfl)).trans ((bP (r:=.meths) _ _ (a5 rfl)).trans dN)
 have s:=aM.at_ M
 have g4:=abF (z:=z+1) (e1:=66+l) (lc:=j+1) (c:=j) d0 (aM.bx (g3 .store (bo rfl)).2 (bx .kt (bo rfl)).1 (bx .types (bo rfl)).1 so) ((g3 .types (bo rfl)).2 _ bD) Ac Lr (iZ bt) cy m8 Ls
 rw[(bx .store (bo rfl)).1]at g4
 have len:=rp (M.at_ _ _ hm)
 rw[bt]at len
 have aQ:=dA.at_ (.ty l) _ ((bP _ _ (a5 rfl)).trans ((bx (.ty l) (bo rfl)).2 _ er))
 have aW:=dA.at_ _ _ Lq
 rw[(bx (.ty l) (bo rfl)).1]at aQ
 rw[t']at wA aW
 rw[so]at Jx
 exact f bW cx _ n.length (cN (z+2) 33 [D.ref (a aN.store),E (66+l),D.ss [nm],D.ii 6,E F,D.ii 0,D.tup [E dr]] n rfl rfl _ s.2.1 _ (Ex (M.at_ _ _ bD) Ac) _ s.1 _ len _ s.1 (hQ (M.at_ _ _ hm)) _ rfl _ _ (Zo (z:=z+1) (n:=n) m8) _ e _ Jx _ ((fj aQ).trans kM) (hQ aW) _ wA _ _ g4) d0 Lr (cR _ _ _) Ls ((bP _ _ (a5 rfl)).trans ((bP _ _ (a5 rfl)).trans g1)) g3 so t'
end
end Mine
end
section
namespace Mine
variable{al:B (am×D)}{xs:B C}{t:C}{H:aT}{α:Type}{x:α}{l i j:C}
section
variable{a:bH}{h:aT}{n:St}{T:B aP}{z:C}{W:cw}{aU:C→ap}{R:B b5}
theorem iG.go{b:C}{aC:B aP}{J:St}(p:iG a h T W al aU R xs t)(x:b0 a h T b J aC H):iG a H aC W al aU R xs t:=
 have f:∀r o,gZ r=false→h r=some o→H r=some o:=λ r o z e=>x.off z e
 have bx:∀{q:aN→Prop},(∀r,q r→gZ r=false)→bY q a h a H:=λ k=>bY.go x k
 {wl:=⟨p.wl.lw.go x,x.bT,f _ _ rfl p.wl.w,p.wl.zG,p.wl.be.bx (λ o e=>f _ _ rfl e) rfl rfl,f _ _ rfl p.wl.az,p.wl.ok.more λ q=>x.eS q⟩
  dR:=f _ _ rfl p.dR
  aM:=p.aM.bx (λ o e=>f _ _ rfl e) rfl rfl rfl
  ty:=λ l hl=>(p.ty l hl).bx (bx λ r k=>by rcases k with rfl|rfl|rfl|rfl<;>rfl)
  cM:=λ l hl=>f _ _ rfl (p.cM l hl)
  types:=let⟨x,e⟩:=p.types;⟨x,f _ _ rfl e⟩
  given:=f _ _ rfl p.given
  lH:=p.lH
  meths:=f _ _ rfl p.meths
  dv:=λ l hl=>f _ _ rfl (p.dv l hl)
  rows:=f _ _ rfl p.rows
  bl:=λ j r e=>(p.bl j r e).bx (λ o=>f _ _ rfl) (λ g o=>f _ _ rfl) λ q=>x.eS q
  row:=λ j r e=>(p.row j r e).bx (bx λ r k=>by rcases k with rfl|rfl<;>rfl)
  eW:=p.eW
  kr:=λ ae cC=>(p.kr ae cC).more (λ q=>x.eS q) λ k e=>e}
noncomputable def qs(j l:C):B aN:=[.bl j,.row j,.st j,.meths,.gA,.dv l]
theorem ms{y:α}{l:B α}{X:Prop}(m:x∈y::l)(f:x=y→X)(g:x∈l→X):X:=(kh.mp m).elim f g
theorem NI(h:i≠j):dB (qs j l) (.bl i):=λ m=>ms m (λ e=>h (aN.bl.inj e)) (bo (l:=[.row j,.st j,.meths,.gA,.dv l]) rfl)
theorem NJ(h:i≠j):dB (qs j l) (.row i):=λ m=>ms m (a5 rfl) λ m=>ms m (λ e=>h (aN.row.inj e)) (bo (l:=[.st j,.meths,.gA,.dv l]) rfl)
theorem abK(h:i≠j):dB (qs j l) (.st i):=λ m=>ms m (a5 rfl) λ m=>ms m (a5 rfl) λ m=>ms m (λ e=>h (aN.st.inj e)) (bo (l:=[.meths,.gA,.dv l]) rfl)
theorem NK(h:i≠l):dB (qs j l) (.dv i):=λ m=>ms m (a5 rfl) λ m=>ms m (a5 rfl) λ m=>ms m (a5 rfl) λ m=>ms m (a5 rfl) λ m=>ms m (a5 rfl) λ m=>h (aN.dv.inj (jz.mp m))
theorem F2{f g:C→α}{z:C}(h:∀j,j<z→g j=f j)(e:g z=x):(ck (z+1)).map g=(ck z).map f++[x]:=by
 rw[Cf,nF]
 exact cD (· ++·) (pS λ j bt=>h j (ga.mp bt)) (an (λ x=>[x]) e)
theorem iG.add{aY:bH}{r:b5}(p:iG a h T W al aU R xs t)(a4:r.ah≤3∧(r.nm=109∨r.nm=110)∧r.aM≤1)(bx:bY (dB (qs R.length r.ah)) a h aY H)(so:aY .gA=a .gA∧aY .meths=a .meths∧aY (.dv r.ah)=a (.dv r.ah))
  (aw:H .meths=some (.li ((.nn::(ck R.length).map λ j=>.ref (a (.bl j)))++[.ref (aY (.bl R.length))])))(aB:H (.dv r.ah)=some (.li (((k9 R λ x=>x.ah==r.ah).map λ j=>E (j+1))++[E (R.length+1)])))(bZ:H .gA=some (.li (((ck R.length).map λ j=>.ref (a (.row j)))++[.ref (aY (.row R.length))])))
  (m:ki aY H T W aU R.length r (eC r))(w:nN aY H R.length r (eC r) []):iG aY H T W al aU (R++[r]) xs t:=by
 have f:∀{x o},dB (qs R.length r.ah) x→h x=some o→H x=some o:=λ{x o} k e=>(bx x k).2 o e
 have aK:∀{x},dB (qs R.length r.ah) x→aY x=a x:=λ{x} k=>(bx x k).1
 have Fe:dE aY t 8=dE a t 8:=by
  unfold dE
  rw[aK (x:=.dR) (bo rfl),so.1,aK (x:=.store) (bo rfl),aK (x:=.host) (bo rfl),aK (x:=.eb) (bo rfl),aK (x:=.fz) (bo rfl),aK (x:=.hH) (bo rfl)]
 have len:(R++[r]).length=R.length+1:=fg ..
 have lt:∀{j:C},j<R.length→j≠R.length:=λ h=>mS h
 refine
 {wl:=Fe.symm▸p.wl.bx (bx.sub λ x k=>nT rfl k)
  dR:=f (bo rfl) p.dR
  aM:=p.aM.bx (λ o e=>f (bo rfl) e) (aK (bo rfl)) (aK (bo rfl)) so.2.1
  ty:=λ l hl=>?_
  cM:=λ l hl=>f (bo rfl) (p.cM l hl)
  types:=?_
  given:=f (bo rfl) p.given
  lH:=p.lH
  meths:=aw.trans (by rw[len,List.cons_append,F2 (f:=λ j=>D.ref (a (.bl j))) (λ j bt=>an D.ref (aK (NI (lt bt)))) rfl])
  dv:=λ l hl=>?_
  rows:=bZ.trans (by rw[len,F2 (f:=λ j=>D.ref (a (.row j))) (λ j bt=>an D.ref (aK (NJ (lt bt)))) rfl])
  bl:=λ j x e=>Bi e (λ e=>(p.bl j x e).bx (λ o=>f (NI (lt (mr e)))) (λ g o=>f (bo rfl)) λ q=>q) λ L q=>by subst L;subst q;exact m
  row:=λ j x e=>Bi e (λ e=>(p.row j x e).bx (bx.sub λ q k=>k.elim (λ L=>L▸NJ (lt (mr e))) λ L=>L▸abK (lt (mr e)))) λ L q=>by subst L;subst q;exact w
  eW:=λ x aA=>(nG.mp aA).elim (p.eW x) λ aA=>jz.mp aA▸a4
  kr:=p.kr}
 ·obtain⟨vG,er,eN,hr,kM,lS⟩:=(p.ty l hl).bF
  obtain⟨cp,gk,fT⟩:=(p.ty l hl).par
  have t':aY (.dv l)=a (.dv l):=(f9 (l=r.ah)).elim (λ L=>by rw[L];exact so.2.2) λ L=>aK (NK L)
  exact⟨⟨vG,f (bo rfl) er,eN,(aK (x:=.tyP l) (bo rfl)).symm▸hr,t'.symm▸kM,(aK (x:=.cM l) (bo rfl)).symm▸lS⟩,⟨cp,f (bo rfl) gk,fT⟩⟩
 ·obtain⟨x,e⟩:=p.types
  refine⟨x,?_⟩
  rw[aK (x:=.ty 0) (bo rfl),aK (x:=.ty 1) (bo rfl),aK (x:=.ty 2) (bo rfl),aK (x:=.ty 3) (bo rfl)]
  exact f (bo rfl) e
 ·by_cases L:l=r.ah
  ·subst L
   rw[aB,L2,if_pos (lE _),nF];rfl
  ·rw[f (NK L) (p.dv l hl),L2,if_neg (λ q=>L (eq_of_beq q).symm),eX]
end
end Mine
end
section
namespace Mine
variable{r:b5}
section
variable{a:bH}{h:aT}{n:St}{T:B aP}{z:C}{W:cw}{aU:C→ap}{R:B b5}{X:Prop}
theorem FY(K:W.ok)(hl:r.ah≤3)(g:(aU r.nm).ar (W.many 0)∧(aU r.nm).wf∧(aU r.nm).size≤2):(js W aU r).wf∧(js W aU r).size≤5∧(js W aU r).ar (W.many r.ah):=
 have a:=K.arg hl (d:=r.ah) (cJ _)
 ⟨PZ (λ t bD=>(a.2 t bD).2.1) g.2.1,a' (O1 (iF ..) (λ t bD=>(a.2 t bD).2.2) g.2.2) (hb hl 2),PW (λ t bD=>(a.2 t bD).1) (by rw[a.1,r8];exact g.1)⟩
theorem W0{l:B D}{x:D}:n4 (l++[x]) (-1)=some x:=by
 unfold n4
 rw[if_neg (by decide),if_pos (by rw[fg];show(0:am)≤ -1+((l.length+1:C):am);omega),fg]
 have:(-1+((l.length+1:C):am)).toNat=l.length:=by omega
 exact(an (λ z=>(l++[x])[z]?) this).trans (iZ rfl)
noncomputable def og(w:C)(aV aQ aW bp:D)(bq bh bj bK bB:Y D):aX:=[some (.ref w),some aV,some aQ,some aW,some bp,bq,bh,bj,bK,bB]
noncomputable def DM:ab:=.bin .add (.ite (.e (.v 4)) (.ii 2) (.ii 6)) (.bin .mul (.ii 128) (.v 3))
theorem Wx{V:jg}{w s:C}{b:av}{aV aQ:D}{bq bh bj bK bB:Y D}(hs:s≤1):jT ac V (.asg 7 DM) (og w aV aQ (E s) (.cj b) bq bh bj bK bB) n=some (.br (og w aV aQ (E s) (.cj b) bq bh (some (E ((if b then 2 else 6)+128*s))) bK bB),n):=
 ro (ak:=λ s=>jT ac V (.asg 7 DM) (og w aV aQ (E s) (.cj b) bq bh bj bK bB) n=some (.br (og w aV aQ (E s) (.cj b) bq bh (some (E ((if b then 2 else 6)+128*s))) bK bB),n)) hs (by cases b<;>rfl) (by cases b<;>rfl)
noncomputable def Ga(m j:C)(r:b5)(F:C):B (B C×D):=[(Mw,E r.ah),(My,.ss [r.nm]),(MB,E r.aM),(Mx,E (j+1)),(Mv,E F),(MC,.ref m),(MA,.cj r.eL)]
theorem adC{j F:C}(M:Good a h n)(f:∀k4 i4,Good k4 i4 (n++[a0.li []]++[.ds (Ga n.length j r F)])→k4 (.row j)=(n++[a0.li []]).length→nN k4 i4 j r F []→bY (dB [.st j,.row j]) a h k4 i4→X):X:=by
 have h0:=(M.new (.st j) (λ _=>a5 rfl) (.li [])).new (.row j) (λ _=>a5 rfl) (.ds (Ga n.length j r F))
 have S3:up (up a (.st j) n.length) (.row j) (n++[a0.li []]).length (.st j)=n.length:=(bP _ _ (a5 rfl)).trans (cR ..)
 exact f _ _ h0 (cR ..) ⟨(cR ..).trans (an (λ m=>some (a0.ds (Ga m j r F))) S3.symm),(bP _ _ (a5 rfl)).trans (cR ..)⟩ (bY.trans (q:=dB [.st j,.row j]) (bY.mx (.head _)) (bY.mx lb))
noncomputable def E0:bk:=.cons (.asg 8 (.call 33 (.cons (.aq (.v 0) (.ss [115,116,111,114,101])) (.cons (.bin .add (.ii 66) (.v 1)) (.cons (.v 2) (.cons (.ii 6) (.cons (.v 7) (.cons (.gl [86,79,73,68] (.ii 0)) (.cons (.tup (.cons (.call 54 (.cons (.v 0) (.cons (.v 6) .nil))) .nil)) .nil))))))))) (.cons (.asg 9 (.m4 [[108,101,118,101,108],[110,97,109,101],[115,111,114,116],[109,105,100],[102,108,97,103,115],[115,116,97,110,100,115],[111,118,101,114]] (.cons (.v 1) (.cons (.v 2) (.cons (.v 3) (.cons (.v 8) (.cons (.v 7) (.cons (.lst .nil) (.cons (.v 4) .nil))))))))) (.cons (.ex (.append (.aq (.v 0) (.ss [114,111,119,115])) (.v 9))) .nil))
noncomputable def M6:bk:=.cons (.asg 5 (.call 57 (.cons (.v 0) (.cons (.v 1) .nil)))) (.cons (.asg 6 (.call 53 (.cons (.aq (.aq (.v 0) (.ss [103,105,118,101,110])) (.v 2)) (.cons (.aq (.aq (.v 5) (.neg (.ii 1))) (.ii 1)) .nil)))) .nil)
theorem MT{al:B (am×D)}{xs:B C}{t:C}(p:iG a h T W al aU R xs t)(M:Good a h n)(a4:r.ah≤3∧(r.nm=109∨r.nm=110)∧r.aM≤1)(fQ:R.length<50)(a3:T.length<400000)
  (f:∀(J:St) (aY:bH) (H:aT) (aC:B aP),runN ac (z+32) 59 [.ref (a .w),E r.ah,.ss [r.nm],E r.aM,.cj r.eL] n=some (.nn,J)→Good aY H J→iG aY H aC W al aU (R++[r]) xs t→aC.length≤T.length+24→aY .w=a .w→aY .store=a .store→X):X:=by
 have K:=p.wl.lw.ok
 refine EQ (z:=z+5) p.wl.lw p.wl.bT M a4.1 λ m aa aI aw cW hO cl=>?_
 have gk:=p.go cW
 have hf:(W.dK r.ah r.ah).length=W.many 0:=(K.arg a4.1 (cJ _)).1.trans (by rw[r8])
 have g:=p.lH r.nm
 obtain⟨b9,aB⟩:=ER (z:=z+6) (n:=aa) (K.lD a4.1 (cJ r.ah)) (t:=aU r.nm) (a' g.2.2 (aE rfl)) (hf▸g.1)
 have b8:=cW.mm b9
 have fT:=p.go b8
 have q:=FY K a4.1 g
 refine xp (z:=z) fT.wl.lw b8.bT b8.good q.1 (a' q.2.1 (aE rfl)) (by have:=b8.le;omega) λ dr bW lB cQ bZ gm W6=>?_
 have jL:=b8.trans W6
 have eM:=p.go jL
 obtain⟨x,ty⟩:=eM.types
 have uJ:=pW a4.1
 have u4:((.nn::(ck R.length).map λ j=>D.ref (a (.bl j))):B D).length=R.length+1:=an l2 ((cG ..).trans gB)
 refine SO (z:=z+28) (l:=r.ah) (j:=R.length) (F:=eC r) (dr:=dr) uJ jL.good eM.aM (eM.ty _ uJ) ty (nb (P:=λ l=>(dw 66 D.nn++[.ref (a (.ty 0)),.ref (a (.ty 1)),.ref (a (.ty 2)),.ref (a (.ty 3)),x])[66+l]? =some (.ref (a (.ty l)))) _ a4.1 rfl rfl rfl rfl) (eM.dv _ uJ) eM.meths u4 (fh fQ (aE rfl)) (cG (as:=k9 R _) _▸cn Ey (fh fQ (aE rfl))) a4.2.1 (Wz a4.2.2) λ eO kq hP N dL hZ oh Rg cm mg f1 SV SG=>?_
 refine adC (j:=R.length) (F:=eC r) (r:=r) hZ λ k4 i4 h0 oZ Ow hn=>?_
 have hT:bY (dB [.bl R.length,.meths,.dv r.ah,.st R.length,.row R.length]) a cQ k4 i4:=bY.trans (q:=dB [.bl R.length,.meths,.dv r.ah,.st R.length,.row R.length]) (f1.sub (gI λ _ m=>oO [aN.st R.length,aN.row R.length] m)) (hn.sub (gI λ _ m=>wb [aN.bl R.length,aN.meths,aN.dv r.ah] m))
 have Oq:=(hT .gA (bo rfl)).2 _ eM.rows
 refine h0.l9 (v:=.ref (k4 (.row R.length))) Oq (cG (as:=ck R.length) _▸gB▸fh fQ (aE rfl)) λ qK ez pQ=>?_
 have Jn:k4 .gA=a .gA:=(hT .gA (bo rfl)).1
 have gd:k4 .w=a .w:=(hT .w (bo rfl)).1
 have xC:bY (dB (qs R.length r.ah)) a cQ k4 (up i4 .gA (some (.li (((ck R.length).map λ j=>.ref (a (.row j)))++[.ref (k4 (.row R.length))])))):=bY.trans (q:=dB (qs R.length r.ah)) (hT.sub (gI (yz.mpr ⟨.head _,yz.mpr ⟨.tail _ (.tail _ (.tail _ (.head _))),yz.mpr ⟨.tail _ (.tail _ (.tail _ (.tail _ lb))),oX (.tail _ lb) lb⟩⟩⟩))) (bY.kK (.tail _ (.tail _ (.tail _ lb))))
 have Bz:∀{x o c3},dB [.st R.length,.row R.length] x→x≠ .gA→hP x=some o→up i4 .gA c3 x=some o:=λ k L e=>(bP _ _ L).trans ((hn _ k).2 _ e)
 have hV:=eM.add (r:=r) a4 xC ⟨Jn,(hn _ (bo rfl)).1.trans SV,(hn _ (bo rfl)).1.trans SG⟩ ((hn (.bl R.length) (bo rfl)).1.symm▸Bz (bo rfl) (a5 rfl) oh) (Bz (bo rfl) (a5 rfl) Rg) (cR ..)
  ⟨⟨_,_,dr,Bz (bo rfl) (a5 rfl) cm,⟨aE rfl,rfl,rfl,rfl,rfl,rfl,rfl,rfl,rfl,rfl,rfl⟩,gm,Bz (bo rfl) (a5 rfl) mg⟩⟩ ⟨(bP _ _ (a5 rfl)).trans Ow.row,(bP _ _ (a5 rfl)).trans Ow.st⟩
 refine f qK k4 _ lB ?_ pQ hV jL.le gd (hT .store (bo rfl)).1
 have uQ:dd aa (.ref (a .hH)) (.ss [r.nm])=some (bd (aU r.nm)):=gx (cW.good.at_ _ _ gk.given) (by rcases a4.2.1 with q|q<;>rw[q]<;>rfl)
 have YE:dd aa (.ref m) (.ii (-1))=some (.tup [E 0,.tup ((W.dK r.ah r.ah).map bd)]):=by rw[Ag (de cW.good hO),M1,r8,W0]
 have aB:runN ac (z+31) 53 [bd (aU r.nm),.tup ((W.dK r.ah r.ah).map bd)] aa=some (bd (js W aU r),aa++b9):=aB
 have bq:=h0.at_ _ _ ((hT .w (bo rfl)).2 _ eM.wl.w)
 have bh:=h0.at_ _ _ Oq
 rw[gd]at bq
 rw[Jn]at bh ez
 rw[oZ]at ez
 have eE:bS ac (runN ac (z+31)) M6 (og (a .w) (E r.ah) (.ss [r.nm]) (E r.aM) (.cj r.eL) none none none none none) n=some (.br (og (a .w) (E r.ah) (.ss [r.nm]) (E r.aM) (.cj r.eL) (some (.ref m)) (some (bd (js W aU r))) none none none),aa++b9):=(dk (z+31) M6 (og (a aN.w) (E r.ah) (D.ss [r.nm]) (E r.aM) (D.cj r.eL) none none none none none) n _ _ aw _ (gx (cW.good.at_ _ _ gk.wl.w) rfl) _ uQ _ rfl _ YE _ rfl _ _ aB)
 have jU:bS ac (runN ac (z+31)) E0 (og (a .w) (E r.ah) (.ss [r.nm]) (E r.aM) (.cj r.eL) (some (.ref m)) (some (bd (js W aU r))) (some (E (eC r))) none none) (aa++b9)=some (.br (og (a .w) (E r.ah) (.ss [r.nm]) (E r.aM) (.cj r.eL) (some (.ref m)) (some (bd (js W aU r))) (some (E (eC r))) (some (E (R.length+1))) (some (.ref (eO++[a0.li []]).length))),qK):=(dk (z+31) E0 (og (a aN.w) (E r.ah) (D.ss [r.nm]) (E r.aM) (D.cj r.eL) (some (D.ref m)) (some (bd (js W aU r))) (some (E (eC r))) none none) (aa++b9) _ (gx (b8.good.at_ _ _ fT.wl.w) rfl) _ Dg _ _ bZ _ _ dL _ (gx bq rfl) (hQ bh) _ ez)
 exact A5 (z:=z+31) (f:=59) (b6:=[.ref (a .w),E r.ah,.ss [r.nm],E r.aM,.cj r.eL]) (r:=.br (og (a .w) (E r.ah) (.ss [r.nm]) (E r.aM) (.cj r.eL) (some (.ref m)) (some (bd (js W aU r))) (some (E (eC r))) (some (E (R.length+1))) (some (.ref (eO++[a0.li []]).length)))) rfl rfl ((j9 (r:=.cons (.asg 7 DM) E0) eE).trans (aR (Wx a4.2.2) jU))
end
end Mine
end
section
namespace Mine
variable{r:b5}{x j y:C}
noncomputable def iy(r:b5):C×C×Nat:=(r.ah,r.nm,r.aM)
structure il(R:B b5)(c:C):Prop where
 uniq:(R.map iy).Nodup
 low:∀r∈R,109≤r.nm∧2*r.ah+(r.nm-109)<c
 sorted:R.Pairwise λ x y=>x.ah≤y.ah
 C2:∀r∈R,r.eL=true→∃q∈R,q.ah<r.ah∧q.nm=r.nm∧q.aM=r.aM
 cnt:∀l,(R.filter λ r=>r.ah==l).length≤4∧(R.filter λ r=>r.ah==l).length≤2*(c-2*l)
theorem il.nil:il [] 0:=⟨Cd,(λ r h=>nomatch h),ago,(λ r h=>nomatch h),λ l=>⟨fs _,fs _⟩⟩
theorem MM{q:b5}(e:iy r=iy q):r.ah=q.ah∧r.nm=q.nm∧r.aM=q.aM:=⟨an Ie e,an (·.2.1) e,an (·.2.2) e⟩
theorem il.block{R Q:B b5}{l:C}(I:il R (2*l+x))(aA:x=0∨x=1)(bz:∀r∈Q,r.ah=l∧r.nm=109+x)(hs:(Q.map λ r=>r.aM).Nodup)(hl:Q.length≤2)(bO:∀r∈Q,r.eL=true→∃q∈R,q.ah<r.ah∧q.nm=r.nm∧q.aM=r.aM):il (R++Q) (2*l+x+1):=by
 have KL:∀r∈Q,2*r.ah+(r.nm-109)=2*l+x:=λ r a4=>by rw[(bz r a4).1,(bz r a4).2,wd]
 have old:∀r∈R,∀q∈Q,r.ah=q.ah→r.nm=q.nm→False:=λ r a4 q du aw aB=>oR _ (KL q du▸aw▸aB▸(I.low r a4).2)
 have aV:x≤1:=aA.elim (λ e=>e▸fs 1) λ e=>dg e
 refine⟨?_,λ r a4=>(nG.mp a4).elim (λ a4=>⟨(I.low r a4).1,pX (I.low r a4).2⟩) λ a4=>⟨(bz r a4).2▸d2 ..,KL r a4▸qU _⟩,?_,λ r a4 be=>?_,λ k=>?_⟩
 ·rw[nF,Cc]
  refine⟨I.uniq,tR.mpr ((tR.mp hs).imp λ q e=>q (MM e).2.2),λ k hk ct n6 e=>?_⟩
  obtain⟨r,a4,aw⟩:=hu.mp hk
  obtain⟨q,du,aB⟩:=hu.mp n6
  have e:=MM (aw.trans (e.trans aB.symm))
  exact old r a4 q du e.1 e.2.1
 ·refine List.pairwise_append.mpr ⟨I.sorted,List.pairwise_of_forall_mem_list λ r a4 q du=>dg ((bz r a4).1.trans (bz q du).1.symm),λ r a4 q du=>(bz q du).1.symm▸?_⟩
  have ax:2*r.ah<2*l+x:=cn (d2 ..) (I.low r a4).2
  exact Nat.le_of_mul_le_mul_left (lr (e' ax (fA aV _))) (Nat.succ_pos 1)
 ·obtain⟨q,du,L⟩:=(nG.mp a4).elim (λ a4=>I.C2 r a4 be) λ a4=>bO r a4 be
  exact⟨q,oO _ du,L⟩
 ·have c:=I.cnt k
  rw[r3,fg]
  by_cases L:k=l
  ·subst L
   have aH:=a' (HZ (λ r=>r.ah==k) Q) hl
   have ax:=c.2
   rw[wd]at ax
   rw[mQ,wd]
   have:=hv ax aH
   exact⟨a' this (hb (gU 2 aV) 2),this⟩
  ·rw[tO.mpr λ r a4 e=>L ((bz r a4).1▸(eq_of_beq e).symm)]
   exact⟨c.1,a' c.2 (gU 2 (Nat.sub_le_sub_right (h5 _) _))⟩
section
variable{a:bH}{h:aT}{n:St}{T:B aP}{z:C}{W:cw}{aU:C→ap}{R:B b5}
theorem sz{V:jg}{m:C}{l:B D}{env:aX}{f g:C→D}{p:C→av}{eo:fb}{b7:ab}(n':n[m]? =some (.li l)){eR:B C}:∀{acc:B D},(∀j∈eR,hp ac V eo (iP env x (f j)) n=some (p j,n)∧ci ac V b7 (iP env x (f j)) n=some (g j,n))→
  @lF (live (.ref m) l) (e0 (.ref m) l) (λ y ao=>(dh false [x] y env).bind λ aF=>(hp ac V eo aF ao).bind λ q=>if q.1=true then(ci ac V b7 aF q.2).bind λ r=>some ([r.1],r.2)else some ([],q.2)) (eR.map f) acc n=some (acc++(eR.filter p).map g,n):=by
 induction eR with
 |nil=>exact λ{acc} _=>(jF n').trans (an (λ l=>some (l,n)) (eX acc).symm)
 |cons j eR aZ=>
  intro acc cU
  have h:=cU j (.head _)
  have aZ:=λ acc=>aZ (acc:=acc) λ j bt=>cU j (.tail _ bt)
  rw[QY]
  cases q:p j with
  |true=>
   rw[q]at h
   exact h7 n' (aR rfl (aR h.1 ((if_pos rfl).trans (aR h.2 rfl)))) ((aZ _).trans (an (λ l=>some (l,n)) (jx ..)))
  |false=>
   rw[q]at h
   exact h7 n' (aR rfl (aR h.1 (if_neg mM))) ((aZ _).trans (by rw[eX];rfl))
theorem nN.at_{F:C}{S:B (ap×C)}(x:nN a h j r F S)(M:Good a h n):dd n (.ref (a (.row j))) (.ss [108,101,118,101,108])=some (E r.ah)∧dd n (.ref (a (.row j))) (.ss [110,97,109,101])=some (.ss [r.nm])∧dd n (.ref (a (.row j))) (.ss [115,111,114,116])=some (E r.aM)∧dd n (.ref (a (.row j))) (.ss [109,105,100])=some (E (j+1))∧dd n (.ref (a (.row j))) (.ss [102,108,97,103,115])=some (E F)∧dd n (.ref (a (.row j))) (.ss [115,116,97,110,100,115])=some (.ref (a (.st j)))∧dd n (.ref (a (.row j))) (.ss [111,118,101,114])=some (.cj r.eL):=by
 have e:=M.at_ _ _ x.row
 exact⟨gx e rfl,gx e rfl,gx e rfl,gx e rfl,gx e rfl,gx e rfl,gx e rfl⟩
theorem qd:cY .eq (E x) (E y) n=some (decide (x=y)):=mb
theorem M':cY .lt (E x) (E y) n=some (decide (x<y)):=m1
theorem iM{R:B b5}(h:j<R.length):R[j]? =some (af R j):=getD_at h
end
end Mine
end
section
namespace Mine
variable{V:jg}{t:C}{env:aX}{gf i0:av}{x y:C}{al:B (am×D)}{xs:B C}{nm aM ah:C}{bu bN bm:Y D}{d m c0:C}{l:B D}
section
variable{a:bH}{h:aT}{n:St}{T:B aP}{z:C}{W:cw}{aU:C→ap}{R:B b5}{X:Prop}
theorem qH{t:Mine.T}{r:fb}{b c:av}(h:fr ac V t env n=some (b,n))(k:hp ac V r env n=some (c,n)):hp ac V (.cons t r) env n=some (b&&c,n):=aR h (by
 cases b
 ·exact if_neg mM
 ·exact(if_pos rfl).trans k)
theorem SX{er eN hr:Mine.T}{iJ:av}(ax:fr ac V er env n=some (gf,n))(aH:fr ac V eN env n=some (i0,n))(cI:fr ac V hr env n=some (iJ,n)):hp ac V (.cons (.and (.cons er (.cons eN (.cons hr .nil)))) .nil) env n=some (gf&&i0&&iJ,n):=
 (qH (t:=.and _) (qH ax (qH aH (qH cI rfl))) rfl).trans (by rw[vY,vY,Bool.and_assoc])
theorem SW{er eN:Mine.T}(ax:fr ac V er env n=some (gf,n))(aH:fr ac V eN env n=some (i0,n)):hp ac V (.cons (.and (.cons er (.cons eN .nil))) .nil) env n=some (gf&&i0,n):=
 (qH (t:=.and _) (qH ax (qH aH rfl)) rfl).trans (by rw[vY,vY])
theorem NR(aA:x<128):vf [x]=true:=an (λ b=>true&&(b&&true)) (iL aA)
theorem aes(aA:x<128)(bI:y<128):cY .eq (.ss [x]) (.ss [y]) n=some (decide (x=y)):=(if_pos (dI.mpr ⟨NR aA,NR bI⟩)).trans (an some (q9.mpr ⟨λ e=>(B5 e).1,λ e=>e▸rfl⟩))
theorem Nz(aA:x=109∨x=110):x<128:=aA.elim (λ e=>e▸aE rfl) λ e=>e▸aE rfl
theorem Fs(aA:x=109∨x=110)(bI:y=109∨y=110):cY .eq (.ss [x]) (.ss [y]) n=some (decide (x=y)):=aes (Nz aA) (Nz bI)
noncomputable def SJ:fb:=.cons (.and (.cons (.cmp .eq (.aq (.v 7) (.ss [110,97,109,101])) (.v 1)) (.cons (.cmp .eq (.aq (.v 7) (.ss [115,111,114,116])) (.v 3)) (.cons (.cmp .lt (.aq (.v 7) (.ss [108,101,118,101,108])) (.v 4)) .nil)))) .nil
noncomputable def CY:ab:=(.comp (.v 7) [7] false (.aq (.v 0) (.ss [114,111,119,115])) (.cons (.and (.cons (.cmp .eq (.aq (.v 7) (.ss [110,97,109,101])) (.v 1)) (.cons (.cmp .eq (.aq (.v 7) (.ss [115,111,114,116])) (.v 3)) (.cons (.cmp .lt (.aq (.v 7) (.ss [108,101,118,101,108])) (.v 4)) .nil)))) .nil))
noncomputable def q1(R:B b5)(nm aM ah:C):B Nat:=k9 R λ r=>decide (r.nm=nm)&&decide (r.aM=aM)&&decide (r.ah<ah)
noncomputable def k3(w nm aM ah:C)(bu o5 bN bm:Y D):aX:=[some (.ref w),some (.ss [nm]),bu,some (E aM),some (E ah),o5,bN,bm]
theorem SK{o5:Y D}(p:iG a h T W al aU R xs t)(M:Good a h n)(cy:nm=109∨nm=110)(fQ:R.length<100):
  ci ac (runN ac z) CY (k3 (a .w) nm aM ah bu o5 bN bm) n=some (.ref n.length,n++[.li ((q1 R nm aM ah).map λ j=>.ref (a (.row j)))]):=by
 have gN:=sz (V:=runN ac z) (x:=7) (env:=k3 (a .w) nm aM ah bu o5 bN bm) (eo:=SJ) (b7:=.v 7) (acc:=[]) (eR:=ck R.length) (f:=λ j=>.ref (a (.row j))) (M.at_ _ _ p.rows) (p:=λ j=>(λ r:b5=>decide (r.nm=nm)&&decide (r.aM=aM)&&decide (r.ah<ah)) (af R j)) (g:=λ j=>.ref (a (.row j))) λ j bt=>by
  have e:=iM (ga.mp bt)
  have r:=(p.row j _ e).at_ M
  have hW:=p.eW _ (h3 e)
  have er:fr ac (runN ac z) (.cmp .eq (.aq (.v 7) (.ss [110,97,109,101])) (.v 1)) (k3 (a .w) nm aM ah bu o5 bN (some (.ref (a (.row j))))) n=some (decide ((af R j).nm=nm),n):=(jd z (Mine.T.cmp jf.eq ((ab.v 7).aq (ab.ss [110,97,109,101])) (ab.v 1)) (k3 (a aN.w) nm aM ah bu o5 bN (some (D.ref (a (aN.row j))))) n _ r.2.1 _ (Fs hW.2.1 cy))
  have eN:fr ac (runN ac z) (.cmp .eq (.aq (.v 7) (.ss [115,111,114,116])) (.v 3)) (k3 (a .w) nm aM ah bu o5 bN (some (.ref (a (.row j))))) n=some (decide ((af R j).aM=aM),n):=(jd z (Mine.T.cmp jf.eq ((ab.v 7).aq (ab.ss [115,111,114,116])) (ab.v 3)) (k3 (a aN.w) nm aM ah bu o5 bN (some (D.ref (a (aN.row j))))) n _ r.2.2.1 _ qd)
  have hr:fr ac (runN ac z) (.cmp .lt (.aq (.v 7) (.ss [108,101,118,101,108])) (.v 4)) (k3 (a .w) nm aM ah bu o5 bN (some (.ref (a (.row j))))) n=some (decide ((af R j).ah<ah),n):=(jd z (Mine.T.cmp jf.lt ((ab.v 7).aq (ab.ss [108,101,118,101,108])) (ab.v 4)) (k3 (a aN.w) nm aM ah bu o5 bN (some (D.ref (a (aN.row j))))) n _ r.1 _ M')
  exact⟨SX er eN hr,qz rfl⟩
 have hl:((ck R.length).map λ j=>D.ref (a (.row j))).length≤100000:=by rw[cG,gB];exact a' (h4 fQ) (aE rfl)
 exact(hI z CY (k3 (a aN.w) nm aM ah bu o5 bN bm) n _ (gx (M.at_ _ _ p.wl.w) rfl) _ (ix (M.at_ _ _ p.rows)) hl _ _ gN)
noncomputable def KG(d:C):Bool:=!(decide ((4:am)=d)||(decide ((5:am)=d)||false))
theorem Vh:cY .my (E d) (.tup [.ii 4,.ii 5]) n=some (KG d):=rfl
noncomputable def AV:bk:=(.cons (.ex (.call 59 (.cons (.v 0) (.cons (.v 4) (.cons (.v 1) (.cons (.v 3) (.cons (.and (.cons (.cmp .ne (.v 6) (.lst .nil)) (.cons (.cmp .my (.v 5) (.tup (.cons (.ii 4) (.cons (.ii 5) .nil)))) .nil))) .nil))))))) .nil)
noncomputable def AU:bk:=.cons (.asg 6 CY) AV
theorem SM(h:(q1 R nm aM ah).isEmpty=false):∃q∈R,q.ah<ah∧q.nm=nm∧q.aM=aM:=by
 obtain⟨j,bt⟩:=List.exists_mem_of_ne_nil _ (λ e=>nomatch(e▸h:([]:B C).isEmpty=false))
 have m:=E'.mp bt
 have dH:=(dI.mp m.2)
 have dN:=(dI.mp dH.1)
 exact⟨af R j,h3 (iM m.1),gi dH.2,gi dN.1,gi dN.2⟩
theorem abp(e:n[m]? =some (.li l))(bC:n[c0]? =some (.li [])):s1 n (.ref m) (.ref c0)=some (!l.isEmpty):=
 (an (λ o:Y a0=>match o,n[c0]? with|some (.li xs),some (.li [])=>some (!xs.isEmpty)|_,_=>none) e).trans (an (λ o:Y a0=>match some (a0.li l),o with|some (.li xs),some (.li [])=>some (!xs.isEmpty)|_,_=>none) bC)
theorem Fk(e:n[m]? =some (.li l))(bC:n[c0]? =some (.li [])):cY .ne (.ref m) (.ref c0) n=some (!l.isEmpty):=an (λ o:Y av=>match o with|some r=>some r|none=>(m5 4 n (.ref m) (.ref c0)).map (!·)) (abp e bC)
theorem acO(p:iG a h T W al aU R xs t)(M:Good a h n)(cy:nm=109∨nm=110)(hs:aM≤1)(hl:ah≤3)(a1:d<8)(fQ:R.length<50)(a3:T.length<400000)
  (f:∀(J:St) (aY:bH) (H:aT) (aC:B aP) (r:b5) (gy:Y D),bS ac (runN ac (z+32)) AU (k3 (a .w) nm aM ah bu (some (E d)) bN bm) n=some (.br (k3 (a .w) nm aM ah bu (some (E d)) gy bm),J)→Good aY H J→iG aY H aC W al aU (R++[r]) xs t→aC.length≤T.length+24→aY .w=a .w→aY .store=a .store→(r.ah=ah∧r.nm=nm∧r.aM=aM∧(r.eL=true→∃q∈R,q.ah<ah∧q.nm=nm∧q.aM=aM))→X):X:=by
 have aw:=SK (z:=z+32) (bu:=bu) (aM:=aM) (ah:=ah) (o5:=some (E d)) (bN:=bN) (bm:=bm) p M cy (fh fQ (aE rfl))
 have g1:=(b0.start p.wl.bT M (.li ((q1 R nm aM ah).map λ j=>.ref (a (.row j)))))
 have g2:=(b0.start g1.1.bT g1.1.good (.li []))
 have ne:=Fk (de g2.1.good (g2.1.a6 g1.2).1) (de g2.1.good g2.2)
 rw[Q2]at ne
 have go:∀b:av,(∀{J:St},runN ac (z+32) 59 [.ref (a .w),E ah,.ss [nm],E aM,.cj b] (n++[a0.li ((q1 R nm aM ah).map λ j=>.ref (a (.row j)))]++[.li []])=some (D.nn,J)→bS ac (runN ac (z+32)) AV (k3 (a .w) nm aM ah bu (some (E d)) (some (.ref n.length)) bm) (n++[.li ((q1 R nm aM ah).map λ j=>.ref (a (.row j)))])=some (.br (k3 (a .w) nm aM ah bu (some (E d)) (some (.ref n.length)) bm),J))→(b=true→∃q∈R,q.ah<ah∧q.nm=nm∧q.aM=aM)→X:=λ b st wy=>
  MT (z:=z) (r:=⟨ah,nm,aM,b⟩) ((p.go g1.1).go g2.1) g2.1.good ⟨hl,cy,hs⟩ fQ a3 λ J aY H aC e dF pZ L gd as=>f J aY H aC _ (some (.ref n.length)) (aR (aR aw rfl) (st e)) dF pZ L gd as ⟨rfl,rfl,rfl,wy⟩
 cases cP:(q1 R nm aM ah).isEmpty with
 |true=>
  rw[cP]at ne
  exact go false (λ e=>(dk (z+32) AV (k3 (a aN.w) nm aM ah bu (some (E d)) (some (D.ref (f' n))) bm) (n++[a0.li (eA (λ j=>D.ref (a (aN.row j))) (q1 R nm aM ah))]) _ ne _ rfl _ _ e)) (λ e=>nomatch e)
 |false=>
  rw[cP]at ne
  exact go (KG d) (λ e=>(dk (z+32) AV (k3 (a aN.w) nm aM ah bu (some (E d)) (some (D.ref (f' n))) bm) (n++[a0.li (eA (λ j=>D.ref (a (aN.row j))) (q1 R nm aM ah))]) _ ne _ rfl _ Vh _ _ e)) λ _=>SM cP
end
end Mine
end
section
namespace Mine
variable{x:C}{l:B (B C)}{d w s nm:C}{bu cm o5 bm:Y D}{ah k:C}{b:bk}{cf:B D}{N ic fN kJ:C}{cX bN:Y D}{env:aX}
section
variable{a:bH}{h:aT}{n:St}{T:B aP}{z:C}{W:cw}{aU:C→ap}{R:B b5}{al:B (am×D)}{xs:B C}{t:C}{X:Prop}
noncomputable def AT:bk:=(.cons (.ex (.call 59 (.cons (.v 0) (.cons (.ii 0) (.cons (.v 1) (.cons (.v 3) (.cons (.cj false) .nil))))))) .nil)
noncomputable def t9(s:B C):Prop:=(∀x∈s,x≤1)∧s.Nodup∧s.length≤2
theorem ad':t9 []:=⟨(λ _ h=>nomatch h),.nil,fs _⟩
theorem tj(h:x≤1):t9 [x]:=⟨jj h,.cons (λ _ h=>nomatch h) .nil,h5 1⟩
theorem Bh{y:C}(h:x≤1)(g:y≤1)(k:x≠y):t9 [x,y]:=⟨oX h g,.cons (jj k) (.cons (λ _ h=>nomatch h) .nil),cJ 2⟩
theorem ps{α:Type}{P:α→Prop}{x:α}{l:B α}(h:P x)(g:∀y∈l,P y):∀y∈x::l,P y:=λ y m=>ms m (λ e=>e▸h) (g y)
noncomputable def Pt:B (B C):=[[0],[1],[0,1],[1,0]]
noncomputable def Pu:B (B C):=[[],[0],[1],[0,1],[0],[1],[1,0],[0]]
theorem aea:∀s∈Pt,t9 s:=have L:=fs 1;have o:=cJ 1
 ps (tj L) (ps (tj o) (ps (Bh L o Cr) (jj (Bh o L Rt))))
theorem aeb:∀s∈Pu,t9 s:=have L:=fs 1;have o:=cJ 1
 ps ad' (ps (tj L) (ps (tj o) (ps (Bh L o Cr) (ps (tj L) (ps (tj o) (ps (Bh o L Rt) (jj (tj L))))))))
noncomputable def Pw(l:B (B C)):D:=.tup (l.map λ l=>.tup (l.map E))
theorem aff(a1:d<l.length)(hl:l.length≤1000):dd n (Pw l) (E d)=some (.tup ((l.getD d []).map E)):=Ai ((cG ..).symm▸hl) (i8 (getD_at a1))
noncomputable def jP(w nm:C)(bu cX cm o5 bN bm:Y D):aX:=[some (.ref w),some (.ss [nm]),bu,cX,cm,o5,bN,bm]
noncomputable def y3(z:C)(W:cw)(al:B (am×D))(aU:C→ap)(xs:B C)(t w s nm ah:C)(b:bk)(bu cm o5 bm:Y D):Prop:=
 ∀{a:bH} {h:aT} {n:St} {T:B aP} {R:B b5} {aM:C} {bN:Y D} {X:Prop},iG a h T W al aU R xs t→Good a h n→a .w=w→a .store=s→R.length<50→T.length<400000→aM≤1→
  (∀(J:St) (aY:bH) (H:aT) (aC:B aP) (r:b5) (gy:Y D),bS ac (runN ac (z+32)) b (jP w nm bu (some (E aM)) cm o5 bN bm) n=some (.br (jP w nm bu (some (E aM)) cm o5 gy bm),J)→Good aY H J→iG aY H aC W al aU (R++[r]) xs t→aC.length≤T.length+24→aY .w=w→aY .store=s→(r.ah=ah∧r.nm=nm∧r.aM=aM∧(r.eL=true→∃q∈R,q.ah<ah∧q.nm=nm∧q.aM=aM))→X)→X
theorem adx(cy:nm=109∨nm=110):y3 z W al aU xs t w s nm 0 AT bu cm o5 bm:=λ{a h n T R aM bN X} p M cS n9 fQ a3 hs f=>
 MT (z:=z) (r:=⟨0,nm,aM,false⟩) p M ⟨fs _,cy,hs⟩ fQ a3 λ J aY H aC e dF pZ L gd as=>f J aY H aC _ bN (by subst cS;exact(dk (z+32) AT (jP (a aN.w) nm bu (some (E aM)) cm o5 bN bm) n _ _ e)) dF pZ L (gd.trans cS) (as.trans n9) ⟨rfl,rfl,rfl,λ e=>nomatch e⟩
theorem ady(cy:nm=109∨nm=110)(hl:ah≤3)(a1:d<8):y3 z W al aU xs t w s nm ah AU bu (some (E ah)) (some (E d)) bm:=λ{a h n T R aM bN X} p M cS n9 fQ a3 hs f=>by
 subst cS
 exact acO p M cy hs hl a1 fQ a3 λ J aY H aC r gy e dF pZ L gd as q=>f J aY H aC r gy e dF pZ L gd (as.trans n9) q
theorem ZS{r:b5}:(R++[r]).length+k=R.length+(k+1):=by rw[fg,mQ,qT k];rfl
theorem ae3{ht b:C}(L:ht≤x+24)(h:x+24*(k+1)<b):ht+24*k<b:=AA L (cn (dg (an (x+·) (qT ..))) h)
theorem aak(P:y3 z W al aU xs t w s nm ah b bu cm o5 bm){l:B D}(ss:B C):∀{a:bH} {h:aT} {n:St} {T:B aP} {R:B b5} {cX bN:Y D} {X:Prop},(∀s∈ss,s≤1)→iG a h T W al aU R xs t→Good a h n→a .w=w→a .store=s→R.length+ss.length<50→T.length+24*ss.length<400000→
  (∀(J:St) (aY:bH) (H:aT) (aC:B aP) (Q:B b5) (hU gy:Y D),@fD (live (.tup l) cf) (e0 (.tup l) cf) (λ x aF J=>(dh false [3] x aF).bind λ dG=>bS ac (runN ac (z+32)) b dG J) (ss.map E) (jP w nm bu cX cm o5 bN bm) n=some (.br (jP w nm bu hU cm o5 gy bm),J)→Good aY H J→iG aY H aC W al aU (R++Q) xs t→aC.length≤T.length+24*ss.length→aY .w=w→aY .store=s→(Q.map λ r=>r.aM)=ss→(∀r∈Q,(r.ah=ah∧r.nm=nm)∧(r.eL=true→∃q∈R,q.ah<r.ah∧q.nm=r.nm∧q.aM=r.aM))→X)→X:=by
 induction ss with
 |nil=>exact λ{a h n T R cX bN X} hs p M cS n9 fQ a3 f=>f n a h T [] cX bN DR M ((eX R).symm▸p) (cJ _) cS n9 rfl (λ _ h=>nomatch h)
 |cons aM ss aZ=>
  exact λ{a h n T R cX bN X} hs p M cS n9 fQ a3 f=>P p M cS n9 (cn (d2 ..) fQ) (cn (d2 ..) a3) (hs aM (.head _)) λ aa cx aI bX r gy e dJ acY L gd as q=>
   aZ (λ x m=>hs x (.tail _ m)) acY dJ gd as (ZS▸fQ) (ae3 L a3) λ ao ed bJ cL Q hU abN aB dA F1 d5 wC zb d' cO=>
    f ao ed bJ cL (r::Q) hU abN ((wW e).trans aB) dA (mP R r Q▸F1) (a' (of L d5) (dg (an (T.length+·) (qT ..)))) wC zb (q.2.2.1▸d'▸rfl) λ x aA=>ms aA
     (λ k=>k▸⟨⟨q.1,q.2.1⟩,q.1▸q.2.1▸q.2.2.1▸q.2.2.2⟩)
     λ aA=>⟨(cO x aA).1,λ o=>((cO x aA).2 o).elim λ y v=>(nG.mp v.1).elim (λ m=>⟨y,m,v.2⟩) λ m=>absurd v.2.1 (by rw[jz.mp m,q.1,(cO x aA).1.1];exact oR _)⟩
structure oQ(N ic fN kJ:C)(W:cw)(al:B (am×D))(aU:C→ap)(xs:B C)(c:C)(a:bH)(h:aT)(T:B aP)(R:B b5)(t:C)(n:St):Prop where
 cp:iG a h T W al aU R xs t
 good:Good a h n
 inv:il R c
 w:a .w=fN
 s:a .store=kJ
 da:R.length≤2*c
 lp:T.length≤N+48*c
 tt:t≤ic+c
theorem JX{m i:C}{bT:ab}{st:S}{ra:aX}{cO jS:C→Y D}(aA:x=0∨x=1)(pd:2*ah+x≤7)(u:oQ N ic fN kJ W al aU xs (2*ah+x) a h T R t n)(k8:N<3000)(bD:ic<9000)(hl:l.length=m)(hm:0<m)(iv:m≤1000)(ad9:∀s∈l,t9 s)
  (hX:∀d<m,y3 z W al aU xs (t+1) fN kJ (109+x) ah b (cO d) cm (jS d) bm)
  (afY:∀d aa,runN ac (z+32) 52 [.ref fN,E m] n=some (E d,aa)→jT ac (runN ac (z+32)) st ra n=some (.br (jP fN (109+x) (cO d) cX cm (jS d) bN bm),aa))(ae8:∀{env n},ci ac (runN ac (z+32)) bT env n=some (Pw l,n))(un:∀d,(jP fN (109+x) (cO d) cX cm (jS d) bN bm)[i]? =some (some (E d)))
  (f:∀(J:St) (aY:bH) (H:aT) (aC:B aP) (hJ:B b5) (cB d:C) (hU gy:Y D),bS ac (runN ac (z+32)) (.cons st (.cons (.dc [3] false (.aq bT (.v i)) b) .nil)) ra n=some (.br (jP fN (109+x) (cO d) hU cm (jS d) gy bm),J)→oQ N ic fN kJ W al aU xs (2*ah+x+1) aY H aC hJ cB J→X):X:=by
 refine yg (z:=z+31) (k:=6) (m:=m) u.good u.cp.wl.w u.cp.dR (cn (a' u.tt (hv (h4 bD) pd)) (aE rfl)) hm λ d aa aI a1 aw dJ vR bx=>?_
 have S:=ad9 (l.getD d []) (h3 (getD_at (hl▸a1)))
 have d4:R.length+(l.getD d []).length<50:=cn (hv (a' u.da (gU 2 pd)) S.2.2) (aE rfl)
 have d5:T.length+24*(l.getD d []).length<400000:=cn (hv (a' u.lp (hv (h4 k8) (gU 48 pd))) (gU 24 S.2.2)) (aE rfl)
 refine aak (hX d a1) (l:=(l.getD d []).map E) (cf:=(l.getD d []).map E) (cX:=cX) (bN:=bN) _ S.1 (u.cp.take vR bx) dJ u.w u.s d4 d5 λ ao ed bJ cL Q hU gy aB dA F1 L gd as d' cO=>?_
 have M7:Q.length≤2:=by have:=S.2.2;rwa [←d',cG]at this
 refine f ao ed bJ cL (R++Q) (t+1) d hU gy (th (afY d aa (u.w▸aw)) (th (vt (aR ae8 (aR (qz (un d)) (aR (aff (hl▸a1) (hl▸iv)) rfl))) rfl (a' (a' (dg (cG ..)) S.2.2) (aE rfl)) aB) rfl)) ⟨F1,dA,u.inv.block aA (λ r a4=>(cO r a4).1) (d'▸S.2.1) M7 (λ r a4 o=>(cO r a4).2 o),gd,as,?_,a' L (a' (hv u.lp (gU 24 S.2.2)) (dg (mQ ..))),hb u.tt 1⟩
 rw[fg]
 exact hv u.da M7
noncomputable def Pn:ab:=(.tup (.cons (.tup (.cons (.ii 0) .nil)) (.cons (.tup (.cons (.ii 1) .nil)) (.cons (.tup (.cons (.ii 0) (.cons (.ii 1) .nil))) (.cons (.tup (.cons (.ii 1) (.cons (.ii 0) .nil))) .nil)))))
noncomputable def Po:ab:=(.tup (.cons (.tup .nil) (.cons (.tup (.cons (.ii 0) .nil)) (.cons (.tup (.cons (.ii 1) .nil)) (.cons (.tup (.cons (.ii 0) (.cons (.ii 1) .nil))) (.cons (.tup (.cons (.ii 0) .nil)) (.cons (.tup (.cons (.ii 1) .nil)) (.cons (.tup (.cons (.ii 1) (.cons (.ii 0) .nil))) (.cons (.tup (.cons (.ii 0) .nil)) .nil)))))))))
noncomputable def abu:bk:=(.cons (.asg 2 (.call 52 (.cons (.v 0) (.cons (.ii 4) .nil)))) (.cons (.dc [3] false (.aq Pn (.v 2)) AT) .nil))
noncomputable def Nx:bk:=(.cons (.asg 5 (.call 52 (.cons (.v 0) (.cons (.ii 8) .nil)))) (.cons (.dc [3] false (.aq Po (.v 5)) AU) .nil))
theorem JY(aA:x=0∨x=1)(Et:x≤7)(m:oQ N ic fN kJ W al aU xs (2*0+x) a h T R t n)(k8:N<3000)(bD:ic<9000)
  (f:∀(J:St) (aY:bH) (H:aT) (aC:B aP) (hJ:B b5) (cB:C) (s2 hU gy:Y D),bS ac (runN ac (z+32)) abu (jP fN (109+x) bu cX cm o5 bN bm) n=some (.br (jP fN (109+x) s2 hU cm o5 gy bm),J)→oQ N ic fN kJ W al aU xs (2*0+x+1) aY H aC hJ cB J→X):X:=
 JX (z:=z) (ah:=0) (i:=2) (st:=.asg 2 (.call 52 (.cons (.v 0) (.cons (.ii 4) .nil)))) (b:=AT) (ra:=jP fN (109+x) bu cX cm o5 bN bm) (cm:=cm) (bm:=bm) (l:=Pt) (bT:=Pn) (cO:=λ d=>some (E d)) (jS:=λ _=>o5) (cX:=cX) (bN:=bN) aA (a' (dg (ji _)) Et) m k8 bD rfl (aE rfl) (aE rfl) aea (λ d _=>adx (aA.elim (λ e=>.inl (e▸rfl)) λ e=>.inr (e▸rfl))) (λ d aa e=>aR (show ci ac (runN ac (z+32)) (.call 52 (.cons (.v 0) (.cons (.ii 4) .nil))) (jP fN (109+x) bu cX cm o5 bN bm) n=some (E d,aa)from(hI (z+32) (ab.call 52 (d6.cons (ab.v 0) (d6.cons (ab.ii 4) d6.nil))) (jP fN (109+x) bu cX cm o5 bN bm) n _ _ e)) rfl) rfl (λ d=>rfl) λ J aY H aC hJ cB d hU gy=>f J aY H aC hJ cB _ hU gy
theorem JZ(aA:x=0∨x=1)(hl:ah≤3)(Et:2*ah+x≤7)(m:oQ N ic fN kJ W al aU xs (2*ah+x) a h T R t n)(k8:N<3000)(bD:ic<9000)
  (f:∀(J:St) (aY:bH) (H:aT) (aC:B aP) (hJ:B b5) (cB:C) (hU Fz gy:Y D),bS ac (runN ac (z+32)) Nx (jP fN (109+x) bu cX (some (E ah)) o5 bN bm) n=some (.br (jP fN (109+x) bu hU (some (E ah)) Fz gy bm),J)→oQ N ic fN kJ W al aU xs (2*ah+x+1) aY H aC hJ cB J→X):X:=
 JX (z:=z) (i:=5) (st:=.asg 5 (.call 52 (.cons (.v 0) (.cons (.ii 8) .nil)))) (b:=AU) (ra:=jP fN (109+x) bu cX (some (E ah)) o5 bN bm) (cm:=some (E ah)) (bm:=bm) (l:=Pu) (bT:=Po) (cO:=λ _=>bu) (jS:=λ d=>some (E d)) (cX:=cX) (bN:=bN) aA Et m k8 bD rfl (aE rfl) (aE rfl) aeb (λ d a1=>ady (aA.elim (λ e=>.inl (e▸rfl)) λ e=>.inr (e▸rfl)) hl a1) (λ d aa e=>aR (show ci ac (runN ac (z+32)) (.call 52 (.cons (.v 0) (.cons (.ii 8) .nil))) (jP fN (109+x) bu cX (some (E ah)) o5 bN bm) n=some (E d,aa)from(hI (z+32) (ab.call 52 (d6.cons (ab.v 0) (d6.cons (ab.ii 8) d6.nil))) (jP fN (109+x) bu cX (some (E ah)) o5 bN bm) n _ _ e)) rfl) rfl (λ d=>rfl) λ J aY H aC hJ cB d hU gy=>f J aY H aC hJ cB hU _ gy
noncomputable def aat:bk:=(.cons (.dc [1] false (.ss [109,110]) Nx) .nil)
theorem zS{s:B C}{step:D→aX→St→Y (eZ×St)}{x:D}{r:B D}{aF:aX}{J:St}(e:step x env n=some (.br aF,J)): @fD (live (.ss s) cf) (e0 (.ss s) cf) step (x::r) env n= @fD (live (.ss s) cf) (e0 (.ss s) cf) step r aF J:=fc trivial e rfl
theorem PF{KP KQ:aX}{aa ao:St}(aw:bS ac (runN ac (z+32)) b (iP env 1 (.ss [109])) n=some (.br KP,aa))(aB:bS ac (runN ac (z+32)) b (iP KP 1 (.ss [110])) aa=some (.br KQ,ao)):jT ac (runN ac (z+32)) (.dc [1] false (.ss [109,110]) b) env n=some (.br KQ,ao):=
 vt (v:=.ss [109,110]) (l:=[.ss [109],.ss [110]]) rfl rfl (aE rfl) ((zS aw).trans ((zS aB).trans (hg trivial)))
theorem EU{cT:Y D}(hl:ah≤3)(m:oQ N ic fN kJ W al aU xs (2*ah) a h T R t n)(k8:N<3000)(bD:ic<9000)
  (f:∀(J:St) (aY:bH) (H:aT) (aC:B aP) (hJ:B b5) (cB:C) (abL hU Fz gy:Y D),(dh false [4] (E ah) [some (.ref fN),cT,bu,cX,cm,o5,bN,bm]).bind (λ aF=>bS ac (runN ac (z+32)) aat aF n)=some (.br [some (.ref fN),abL,bu,hU,some (E ah),Fz,gy,bm],J)→oQ N ic fN kJ W al aU xs (2*(ah+1)) aY H aC hJ cB J→X):X:=by
 refine JZ (z:=z) (x:=0) (bu:=bu) (cX:=cX) (o5:=o5) (bN:=bN) (bm:=bm) (.inl rfl) hl (a' (gU 2 hl) (h5 6)) m k8 bD λ aa cx aI bX Sl jV eM gz hV aw AG=>?_
 exact JZ (z:=z) (x:=1) (bu:=bu) (cX:=eM) (o5:=gz) (bN:=hV) (bm:=bm) (.inr rfl) hl (gq (gU 2 hl)) AG k8 bD λ ao ed bJ cL Ji yk j8 jS td aB pu=>
  f ao ed bJ cL Ji yk _ j8 jS td (th (PF aw aB) rfl) pu
theorem ZJ(m:oQ N ic fN kJ W al aU xs 0 a h T R t n)(k8:N<3000)(bD:ic<9000)
  (f:∀(J:St) (aY:bH) (H:aT) (aC:B aP) (hJ:B b5) (cB:C),runN ac (z+33) 60 [.ref fN] n=some (.nn,J)→oQ N ic fN kJ W al aU xs 8 aY H aC hJ cB J→X):X:=by
 refine JY (z:=z) (x:=0) (bu:=none) (cX:=none) (cm:=none) (o5:=none) (bN:=none) (bm:=none) (.inl rfl) (fs _) m k8 bD λ aa cx aI bX Sl jV fT eM hV aw AG=>?_
 refine JY (z:=z) (x:=1) (bu:=fT) (cX:=eM) (cm:=none) (o5:=none) (bN:=hV) (bm:=none) (.inr rfl) (aE rfl) AG k8 bD λ ao ed bJ cL Ji yk cO j8 td aB pu=>?_
 refine EU (z:=z) (ah:=1) (cT:=some (.ss [110])) (bu:=cO) (cX:=j8) (cm:=none) (o5:=none) (bN:=td) (bm:=none) (aE rfl) pu k8 bD λ bW ek cQ lB agT qJ fU ot ac6 ac7 bZ oj=>?_
 refine EU (z:=z) (ah:=2) (cT:=fU) (bu:=cO) (cX:=ot) (cm:=some (E 1)) (o5:=ac6) (bN:=ac7) (bm:=none) (aE rfl) oj k8 bD λ eO kq hP sj agU ahn eE pH vz Gd dL aa0=>?_
 refine EU (z:=z) (ah:=3) (cT:=eE) (bu:=cO) (cX:=pH) (cm:=some (E 2)) (o5:=vz) (bN:=Gd) (bm:=none) (cJ 3) aa0 k8 bD λ jW k4 i4 CU Sm GQ jc oA GU GV fH aa1=>?_
 exact f jW k4 i4 CU Sm GQ (A5 (z:=z+32) (f:=60) (b6:=[.ref fN]) (r:=.br [some (.ref fN),jc,cO,oA,some (E 3),GU,GV,none]) rfl rfl (th (PF aw aB) (th (vt (v:=.tup [E 1,E 2,E 3]) (l:=[E 1,E 2,E 3]) rfl rfl (aE rfl) ((wW bZ).trans ((wW dL).trans ((wW fH).trans DR)))) rfl))) aa1
end
end Mine
end
section
namespace Mine
variable{H:aT}{aC:B aP}{r:aN}{m:C}{J:St}{b l c k:C}{bE:B ap}{ks:B C}
section
variable{a:bH}{h:aT}{n:St}{T:B aP}{z:C}{W:cw}{aU:C→ap}{R:B b5}{al:B (am×D)}{X:Prop}
noncomputable def Qy(a:bH)(aG en:B (C×D)):Prop:=aG.lookup 47=some (.ref (a .store))∧aG.lookup 35=some (.ref (a .kt))∧aG.lookup 63=some (.ref (a .ih))∧aG.lookup 65=some (.ref (a .h8))∧en.lookup 56=some (.ref (a .host))∧en.lookup 59=some (.ref (a .ju))
noncomputable def HA(a:bH)(aG:B (C×D)):Prop:=aG.lookup 35=some (.ref (a .kt))∧aG.lookup 70=some (.ref (a .fE))∧aG.lookup 71=some (.ref (a .dx))∧aG.lookup 7=none∧aG.lookup 9=none
structure HB(W:cw)(aU:C→ap)(R:B b5):Prop where
 iR:W.ok
 lH:∀c,(aU c).ar (W.many 0)∧(aU c).wf∧(aU c).size≤2
 eW:∀r∈R,r.ah≤3∧(r.nm=109∨r.nm=110)∧r.aM≤1
 inv:il R 8
 da:R.length≤16
structure c8(a:bH)(h:aT)(T:B aP)(W:cw)(al:B (am×D))(aU:C→ap)(R:B b5):Prop extends HB W aU R where
 aM:ko a h
 bT:c6 a h T
 ty:∀l,l<4→l6 a h l (W.many l)
 types:∃x,h .types=some (.li (dw 66 .nn++[.ref (a (.ty 0)),.ref (a (.ty 1)),.ref (a (.ty 2)),.ref (a (.ty 3)),x]))
 meths:h .meths=some (.li (.nn::(ck R.length).map λ j=>.ref (a (.bl j))))
 dv:∀l,l<4→h (.dv l)=some (.li ((k9 R λ r=>r.ah==l).map λ j=>E (j+1)))
 be:∃aG,h .host=some (.bF 9 aG)∧HA a aG
 az:h .fE=some (.cq al)
 hs:h .dx=some (.cq [(34,.ii 3)])
 o7:lV T W al
 kr:∀ae,ae≤3→oJ T W al ae
 qb:∃aG en,h .eH=some (.bF 8 aG)∧h .ih=some (.bF 7 en)∧Qy a aG en
noncomputable def aa3:aN→av
 | .bl _| .cM _| .a6 _| .w| .h8=>false
 |_=>true
noncomputable def pC(r:aN):Bool:=!gZ r&&aa3 r
theorem c8.keep(ag:c8 a h T W al aU R)(f:∀r o,pC r=true→h r=some o→H r=some o)(bT:c6 a H aC)(k:∀{k:C} {t:ap},ba T k t→ba aC k t):c8 a H aC W al aU R:=
 let⟨aG,eE,s⟩:=ag.aM.bF
 let⟨x,ex⟩:=ag.types
 let⟨cl,ax,aH⟩:=ag.be
 let⟨ds,bf,q8,oD,DA⟩:=ag.qb
 ⟨ag.toHB,⟨aG,f _ _ rfl eE,s⟩,bT,λ l hl=>let⟨⟨aG,aw,e⟩,⟨cp,gk,p⟩⟩:=ag.ty l hl;⟨⟨aG,f _ _ rfl aw,e⟩,⟨cp,f _ _ rfl gk,p⟩⟩,⟨x,f _ _ rfl ex⟩,f _ _ rfl ag.meths,λ l hl=>f _ _ rfl (ag.dv l hl),⟨cl,f _ _ rfl ax,aH⟩,f _ _ rfl ag.az,f _ _ rfl ag.hs,ag.o7.more k,λ ae cC=>(ag.kr ae cC).more k λ k e=>e,⟨ds,bf,f _ _ rfl q8,f _ _ rfl oD,DA⟩⟩
theorem Oc(h:pC r=true):gZ r=false:=(tI _).mp (dI.mp h).1
theorem ac1(h:pC r=true):r≠ .a6 m:=λ e=>nomatch(e▸h:pC (.a6 m)=true)
theorem c8.go(ag:c8 a h T W al aU R)(x:b0 a h T b J aC H):c8 a H aC W al aU R:=ag.keep (λ r o q e=>x.off (Oc q) e) x.bT λ q=>x.eS q
theorem c8.put{o:a0}(ag:c8 a h T W al aU R)(bT:c6 a (up h (.a6 m) (some o)) T):c8 a (up h (.a6 m) (some o)) T W al aU R:=ag.keep (λ r o q e=>mJ e (ac1 q)) bT λ q=>q
noncomputable def j0(a:bH)(h:aT)(T:B aP)(W:cw)(aU:C→ap)(R:B b5)(F:C→C):Prop:=∀j,j<R.length→ki a h T W aU j (af R j) (F j)
theorem j0.go{F:C→C}(ak:j0 a h T W aU R F)(x:b0 a h T b J aC H):j0 a H aC W aU R F:=λ j bt=>(ak j bt).bx (λ o e=>x.off rfl e) (λ g o e=>x.off rfl e) λ q=>x.eS q
theorem c8.yj(ag:c8 a h T W al aU R)(M:Good a h n)(hl:l<4):dd n (.ref (a .types)) (E (66+l))=some (.ref (a (.ty l))):=let⟨_,tq⟩:=ag.types;GP hl M tq
theorem c8.qo(ag:c8 a h T W al aU R)(M:Good a h n){j:C}(bt:j<R.length):dd n (.ref (a .meths)) (E (j+1))=some (.ref (a (.bl j))):=j7 (M.at_ _ _ ag.meths) (i8 (f:=λ j=>D.ref (a (.bl j))) (yD bt))
theorem c8.afw(ag:c8 a h T W al aU R)(M:Good a h n)(hl:l<4):d7 n (.ref (a (.ty l))) 7=some (.ii 1):=let⟨⟨_,er,eN,_⟩,_⟩:=ag.ty l hl;(fj (M.at_ _ _ er)).trans eN
theorem c8.afu(ag:c8 a h T W al aU R)(M:Good a h n)(hl:l<4):d7 n (.ref (a (.ty l))) 11=some (.ref (a (.tyP l))):=let⟨⟨_,er,_,hr,_⟩,_⟩:=ag.ty l hl;(fj (M.at_ _ _ er)).trans hr
theorem c8.afx(ag:c8 a h T W al aU R)(M:Good a h n)(hl:l<4):la n (.ref (a (.tyP l)))=some ((W.many l:C):am):=let⟨_,_,gk,fT⟩:=ag.ty l hl;fT▸rp (M.at_ _ _ gk)
theorem c8.mc(ag:c8 a h T W al aU R)(M:Good a h n):d7 n (.ref (a .eH)) 47=some (.ref (a .store)):=let⟨_,_,e,_,d⟩:=ag.qb;(fj (M.at_ _ _ e)).trans d.1
theorem c8.zz(ag:c8 a h T W al aU R)(M:Good a h n):d7 n (.ref (a .eH)) 35=some (.ref (a .kt)):=let⟨_,_,e,_,d⟩:=ag.qb;(fj (M.at_ _ _ e)).trans d.2.1
theorem c8.zA(ag:c8 a h T W al aU R)(M:Good a h n):d7 n (.ref (a .eH)) 63=some (.ref (a .ih)):=let⟨_,_,e,_,d⟩:=ag.qb;(fj (M.at_ _ _ e)).trans d.2.2.1
theorem c8.zB(ag:c8 a h T W al aU R)(M:Good a h n):d7 n (.ref (a .eH)) 65=some (.ref (a .h8)):=let⟨_,_,e,_,d⟩:=ag.qb;(fj (M.at_ _ _ e)).trans d.2.2.2.1
theorem c8.BP(ag:c8 a h T W al aU R)(M:Good a h n):d7 n (.ref (a .ih)) 56=some (.ref (a .host)):=let⟨_,_,_,e,d⟩:=ag.qb;(fj (M.at_ _ _ e)).trans d.2.2.2.2.1
theorem c8.ahs(ag:c8 a h T W al aU R)(M:Good a h n):d7 n (.ref (a .ih)) 59=some (.ref (a .ju)):=let⟨_,_,_,e,d⟩:=ag.qb;(fj (M.at_ _ _ e)).trans d.2.2.2.2.2
theorem v'(hl:bE.length≤2)(f:∀ks,T[k]? =some (.g c ks)→d1 T ks bE→ks.length≤2→iA c→X):ba T k (gY c bE)→X:=
 zU (ak:=λ bE=>(∀ks,T[k]? =some (.g c ks)→d1 T ks bE→ks.length≤2→iA c→X)→ba T k (gY c bE)→X) bE hl (λ f q=>f [] q.2 trivial (fs _) q.1)
  (λ t f q=>q.n2 λ j o e q=>f [j] e ⟨q,trivial⟩ (h5 1) o) (λ t u f q=>q.n3 λ i j o e q ep=>f [i,j] e ⟨q,ep,trivial⟩ (cJ 2) o) f
theorem WP(o:iA c)(hl:bE.length≤2):d1 T ks bE→k0 T (.g c ks) (gY c bE):=
 zU (ak:=λ bE=>d1 T ks bE→k0 T (.g c ks) (gY c bE)) bE hl (λ q=>⟨o,by rw[List.length_eq_zero_iff.mp (d1.len q)]⟩) (λ t q=>q.one λ j e q=>e▸⟨o,j,rfl,q⟩) (λ t u q=>q.two λ i j e q ep=>e▸⟨o,i,j,rfl,q,ep⟩)
theorem FK(hl:l<4):iA (66+l):=.inr ⟨d2 ..,fA (h4 hl) 66⟩
theorem afe(hl:l<4):cY .pk (E (66+l)) (.cd o8) n=some false:=an some (rD (FK hl)).2
theorem Zt(ag:c8 a h T W al aU R)(M:Good a h n)(hl:l<4)(q:d1 T ks bE)(qh:bE.length≤2)(hs:(gY (66+l) bE).size≤24)(a3:T.length<500000)
  (f:∀k J aC H,runN ac (z+8) 38 [.ref (a .store),E (66+l),.tup (ks.map E)] n=some (E k,J)→ba aC k (gY (66+l) bE)→b0 a h T 1 J aC H→X):X:=
 U1 (z:=z) ag.bT M (WP (FK hl) qh q) (FK hl) hs a3 λ k J e g=>b0.s6 g λ aC H gm go=>
  f k J aC H (cN (z+7) 38 [D.ref (a aN.store),E (66+l),D.tup (eA E ks)] n rfl rfl _ ((ag.aM.at_ M).2.1) _ (ag.yj M hl) _ (ag.afw M hl) _ ((rfl:cY .eq (.ii 1) (.ii 2) n=some false)) _ ((rfl:cY .eq (.ii 1) (.ii 2) n=some false)) _ ((ag.aM.at_ M).2.2) _ _ e) gm go
noncomputable def Gp:bk:=(.cons (.ex (.append (.v 3) (.call 22 (.cons (.at (.v 0) 35) (.cons (.v 4) .nil))))) .nil)
theorem d1.snoc{t:ap}(q:d1 T ks bE)(p:ba T k t):d1 T (ks++[k]) (bE++[t]):=d1.b7 (ak:=λ ks bE=>d1 T (ks++[k]) (bE++[t])) ⟨p,trivial⟩ (λ _ _ _ _ q _ i=>⟨q,i⟩) q
theorem Gt{α c4:Type}{f:α→c4}{l:B α}{x:α}:l.map f++[f x]=(l++[x]).map f:=(nF (l₂:=[x])).symm
noncomputable def x9(a:bH)(aV aQ:Y D)(m:C)(cm:Y D):aX:=[some (.ref (a .store)),aV,aQ,some (.ref m),cm]
theorem aec{h₀:aT}{CT:B aP}{aV aQ:Y D}{lo ay:am}{cf:B D}(cy:h₀ (.a6 m)=none)(a3:CT.length<490000)(is:B C):∀{n:St} {T:B aP} {h:aT} {ks:B C} {bE:B ap} {b:C} {cm:Y D},b+is.length<10→ks.length+is.length<10→c8 a h T W al aU R→b0 a h₀ CT b n T h→h (.a6 m)=some (.li (ks.map E))→d1 T ks bE→
  (∀fJ J aC H jr,@fD (live (.ew lo ay) cf) (e0 (.ew lo ay) cf) (λ x aF J=>(dh false [4] x aF).bind λ dG=>bS ac (runN ac (z+8)) Gp dG J) (is.map E) (x9 a aV aQ m cm) n=some (.br (x9 a aV aQ m jr),J)→b0 a h₀ CT (b+is.length) J aC H→H (.a6 m)=some (.li (fJ.map E))→d1 aC fJ (bE++is.map .v)→c8 a H aC W al aU R→X)→X:=by
 induction is with
 |nil=>exact λ{n T h ks bE b cm} az hk ag go hm q f=>f ks n T h cm (hg trivial) go hm ((eX bE).symm▸q) ag
 |cons i is aZ=>
  exact λ{n T h ks bE b cm} az hk ag go hm q f=>afP (z:=z+1) ag.bT go.good i (cn go.le (fh (Nat.add_lt_add a3 (cn (d2 ..) az:b<10)) (aE rfl))) λ k aa e g=>b0.s6 g λ bX aI gm cW=>
   have aw:=cW.a6 hm
   have L:=(go.trans cW).put (c3:=.li (ks.map E++[E k])) aw.1 cy
   aZ (cn (dg (jA ..)) az) (cn (dg (by rw[fg];exact jA ..)) hk) ((ag.go cW).put L.1.bT) L.1 (L.2.trans (an (λ l=>some (a0.li l)) Gt)) ((cW.xl q).snoc gm) λ fJ J aC H jr bC wZ ia ep oK=>
    have st:bS ac (runN ac (z+8)) Gp (x9 a aV aQ m (some (E i))) n=some (.br (x9 a aV aQ m (some (E i))),aa.set m (.li (ks.map E++[E k]))):=(dk (z+8) Gp (x9 a aV aQ m (some (E i))) n (hQ (de go.good hm)) _ ((ag.aM.at_ go.good).2.2) _ _ e _ (m0 aw.2 (pG (fh (cn (dg (cG ..)) (cn (d2 ..) hk)) (aE rfl)))))
    f fJ J aC H jr (fc trivial st bC) (wZ.mono (dg (jA ..))) ia (mP bE (.v i) (is.map .v)▸ep) oK
theorem adu(hm:m≤2)(f:(∀n,hR n (.ew 0 (m:am))=some ((ck m).map E))→ov (E m)=some (.ew 0 (m:am))→X):X:=
 sS (P:=λ m=>((∀n,hR n (.ew 0 (m:am))=some ((ck m).map E))→ov (E m)=some (.ew 0 (m:am))→X)→X) m hm (λ f=>f (λ _=>rfl) rfl) (λ f=>f (λ _=>rfl) rfl) (λ f=>f (λ _=>rfl) rfl) f
theorem OS(ag:c8 a h T W al aU R)(M:Good a h n)(hl:l<4)(a3:T.length<490000)
  (f:∀k J aC H,runN ac (z+9) 37 [.ref (a .store),E (66+l)] n=some (E k,J)→ba aC k (dM W l 0)→b0 a h T 3 J aC H→X):X:=by
 have b2:=b0.start ag.bT M (.li [])
 have hm:=ag.iR.many l
 refine adu hm λ ay a4=>?_
 refine aec (z:=z) (aV:=some (E (66+l))) (aQ:=some (.ref (a (.ty l)))) (lo:=0) (ay:=(W.many l:C)) (cf:=(ck (W.many l)).map E) (cm:=none) (ks:=[]) (bE:=[]) (M.fresh (cJ _)) a3 (ck (W.many l)) (cn (dg (by rw[gB,ji])) (cn hm (aE rfl))) (cn (dg (by rw[gB];exact ji _)) (cn hm (aE rfl))) (ag.go b2.1) b2.1 b2.2 trivial λ fJ aa bX aI jr aw cW hO d' pM=>?_
 have QQ:(W.own l).length=W.many l:=by unfold cw.own;rw[cG,gB]
 have i0:0+(ck (W.many l)).length≤2:=by rw[gB,ji];exact hm
 refine Zt (z:=z) pM cW.good hl (bE:=W.own l) d' (QQ.symm▸hm) (a' (u0 ag.iR (ae:=l) (lr hl) (fs _)).2.1 (aE rfl)) (cn cW.le (e' (r6 a3 i0) (aE rfl))) λ k ao cL bJ aB gm b8=>?_
 have g7:=ag.go b2.1
 have mO:=b2.1.good
 have agk:((ck (W.many l)).map E).length≤100000:=a' (dg (cG ..)) (a' (a' (dg gB) hm) (aE rfl))
 exact f k ao cL bJ (cN (z+8) 37 [D.ref (a aN.store),E (66+l)] n rfl rfl _ (afe hl) _ ((ag.aM.at_ M).2.1) _ (ag.yj M hl) _ (g7.afu mO hl) _ (g7.afx mO hl) _ a4 _ (ay _) agk _ _ aw _ (PD (de cW.good hO)) _ _ aB) gm ((cW.trans b8).mono (gq i0))
end
end Mine
end
section
namespace Mine
variable{m k:C}{O:B (am×D)}{d ae fl:C}
section
variable{a:bH}{h:aT}{n:St}{T:B aP}{z:C}{W:cw}{aU:C→ap}{R:B b5}{al:B (am×D)}{X:Prop}
theorem Lg{d:D}(e:n[m]? =some (.cq O)):uD n (.ref m) (E k) d=some ((O.lookup (k:am)).getD d):=an (w0 (E k) d) e
theorem Mj(e:n[m]? =some (.cq O)):rh n (.ref m)=true:=an (λ o:Y a0=>match o with|some (.cq _)|some (.h9 _)=>true|_=>false) e
theorem Uh(ag:c8 a h T W al aU R)(M:Good a h n):mu ac n 9 (.ref (a .host))=some 12:=let⟨_,ir,_,_,_,_,nZ⟩:=ag.be;(an (FF λ c aG=>if(aG.lookup 9).isNone then ac.pv c 9 else none) (M.at_ _ _ ir)).trans (if_pos (an RB nZ))
theorem c8.Xc(ag:c8 a h T W al aU R)(M:Good a h n):d7 n (.ref (a .host)) 70=some (.ref (a .fE)):=let⟨_,ir,_,us,_⟩:=ag.be;(fj (M.at_ _ _ ir)).trans us
theorem Ui(ag:c8 a h T W al aU R)(M:Good a h n):runN ac (z+1) 12 [.ref (a .host),E k] n=some ((al.lookup (k:am)).getD (.ii (-1)),n):=by
 exact(cN z 12 [D.ref (a aN.host),E k] n rfl rfl _ (ag.Xc M) (Mj (M.at_ _ _ ag.az)) _ rfl _ (Lg (M.at_ _ _ ag.az)))
theorem Z2(K:W.ok)(cC:ae≤3){ku:C}(a1:d≤ae)(gw:ku≤ae)(e:dM W ae d=dM W ae ku):d=ku:=by
 rw[←r9 a1,←r9 gw,H8 (D0 (K.lD cC a1) (K.lD cC gw) e).1]
theorem abj(ag:c8 a h T W al aU R)(cC:ae≤3)(a1:d<ae)(q:ba T k (dM W ae d))(f:∀ct,al.lookup (k:am)=some (E ct)→ba T ct (dM W ae (d+1))→X):X:=
 ag.bT.b7 λ _ _ _ _ I=>let⟨eU,fx,md⟩:=ag.kr ae cC d a1
  let⟨v,e⟩:=oT.mp (ba.inj I.nodup q fx▸md)
  ag.o7.b7 e λ l b6 e6 dy eD d' DG cO=>f e6 (e.trans (an some DG)) (by
   have L:=D0 (ag.iR.lD cC (h4 a1)) eD (q.a6 d')
   show ba T e6 (gY (66+Nat.pred (ae-d)) ((W.up (ae-d)).map (ap.sub (W.dK ae d))))
   rw[H8 L.1,L.2]
   exact cO)
theorem ZF(ag:c8 a h T W al aU R)(cC:ae≤3)(q:ba T k (dM W ae ae)):al.lookup (k:am)=none:=
 we.mpr λ v e=>ag.o7.b7 e λ l b6 e6 dy eD d' _ _=>nomatch(r8 ae).symm.trans (H8 (D0 (ag.iR.lD cC (cJ _)) eD (q.a6 d')).1)
noncomputable def wF:Mine.T:=(.and (.cons (.cmp .ne (.v 1) (.neg (.ii 1))) (.cons (.cmp .my (.v 1) (.v 3)) .nil)))
noncomputable def zn:bk:=(.cons (.gJ (.v 3) (.v 1) (.ii 1)) (.cons (.ex (.append (.v 2) (.v 1))) (.cons (.asg 1 (.hj (.v 0) 9 (.cons (.v 1) .nil))) .nil)))
theorem abe:cY .ne (E k) (.ii (-1)) n=some true:=an (λ b=>some (!b)) (j3 (QN (QL (by decide:(-1:am)<0) (yw k))))
theorem abf:cY .ne (.ii (-1)) (.ii (-1)) n=some false:=rfl
theorem abr{S:B (am×D)}(e:n[m]? =some (.cq S))(nl:(S.lookup (k:am)).isSome=false):cY .my (E k) (.ref m) n=some true:=an (qV (!·)) ((Ak e).trans (an some nl))
noncomputable def o9(a:bH)(m fl:C)(v:D):aX:=[some (.ref (a .host)),some v,some (.ref m),some (.ref fl)]
theorem Ol{α:Type}{f:C→α}:(ck d).map f++[f d]=(ck (d+1)).map f:=(F2 (λ _ _=>rfl) rfl).symm
theorem Ki{aI:aT}{ks:B C}{S:B (am×D)}(cC:ae≤3)(nn:m≠fl)(kB:h (.a6 m)=none)(z8:h (.a6 fl)=none)(a1:d≤ae)(ag:c8 a aI T W al aU R)(go:b0 a h T 0 n T aI)(hm:aI (.a6 m)=some (.li (ks.map E)))(hs:aI (.a6 fl)=some (.cq S))(fK:d1 T ks ((ck d).map (dM W ae)))(q:ba T k (dM W ae d))(nt:∀ct:C,(S.lookup (ct:am)).isSome=true→∃ku,ku<d∧ba T ct (dM W ae ku))(dQ:S.length≤d)
  (f:∀(J:St) (H:aT),fr ac (runN ac (z+1)) wF (o9 a m fl (E k)) n=some (true,n)→(∀v,(al.lookup (k:am)).getD (.ii (-1))=v→bS ac (runN ac (z+1)) zn (o9 a m fl (E k)) n=some (.br (o9 a m fl v),J))→b0 a h T 0 J T H→H (.a6 m)=some (.li ((ks++[k]).map E))→H (.a6 fl)=some (.cq (c7 S (k:am) (.ii 1)))→c8 a H T W al aU R→X):X:=by
 have ag6:=de go.good hm
 have L0:=de go.good hs
 have nl:(S.lookup (k:am)).isSome=false:=rX.mpr λ e=>let⟨ku,gw,ep⟩:=nt k e;Cn gw (Z2 ag.iR cC a1 (h4 (e' gw a1)) (q.a6 ep))
 have KA:=a' a1 cC
 have g1:=go.put (c3:=.cq (c7 S (k:am) (.ii 1))) hs z8
 have hO:=mJ (x:=some (.cq (c7 S (k:am) (.ii 1)))) hm (tn nn)
 have u1:(ks.map E).length<1000:=by rw[cG,fK.len,cG,gB];exact cn KA (aE rfl)
 have g2:=g1.1.put (c3:=.li (ks.map E++[E k])) hO kB
 have mN:=(ag.put g1.1.bT).put g2.1.bT
 have ez:=m0 (v:=E k) (de g1.1.good hO) (pG u1)
 refine f _ _ (jd (z+1) wF (o9 a m fl (E k)) n _ rfl _ abe _ (abr L0 nl)) (λ v DG=>?_) g2.1 (g2.2.trans (an (λ l=>some (a0.li l)) Gt)) (mJ g1.2 (tn nn.symm)) mN
 subst DG
 exact(dk (z+1) zn (o9 a m fl (E k)) n _ (OY (k:=k) (v:=.ii 1) L0 (cn (a' dQ KA) (aE rfl))) (hQ (de g1.1.good hO)) _ ez _ (Uh mN g2.1.good) _ _ (Ui mN g2.1.good))
theorem UR(cC:ae≤3)(nn:m≠fl)(kB:h (.a6 m)=none)(z8:h (.a6 fl)=none){g:C}(r:C):∀{d:C} {n:St} {aI:aT} {k:C} {ks:B C} {S:B (am×D)},r+d=ae→c8 a aI T W al aU R→b0 a h T 0 n T aI→aI (.a6 m)=some (.li (ks.map E))→aI (.a6 fl)=some (.cq S)→d1 T ks ((ck d).map (dM W ae))→ba T k (dM W ae d)→(∀ct:C,(S.lookup (ct:am)).isSome=true→∃ku,ku<d∧ba T ct (dM W ae ku))→S.length≤d→
  (∀(v:D) (J:St) (H:aT) (fJ:B C),oC (fr ac (runN ac (z+1)) wF) (bS ac (runN ac (z+1)) zn) (g+r+2) (o9 a m fl (E k)) n=some (.br (o9 a m fl v),J)→b0 a h T 0 J T H→H (.a6 m)=some (.li (fJ.map E))→d1 T fJ ((ck (ae+1)).map (dM W ae))→X)→X:=by
 induction r with
 |zero=>
  intro d n aI k ks S a4 ag go hm hs fK q nt dQ f
  have pb:d=ae:=(ji d).symm.trans a4
  subst pb
  exact Ki cC nn kB z8 (cJ _) ag go hm hs fK q nt dQ λ J H t b wZ ia jM oK=>
   f (.ii (-1)) J H _ (G' t (b _ (an (Cu · (.ii (-1))) (ZF ag cC q))) (P0 (jd (z+1) wF (o9 a m fl (D.ii (-1))) J _ rfl _ abf))) wZ ia (Ol▸fK.snoc q)
 |succ r aZ=>
  intro d n aI k ks S a4 ag go hm hs fK q nt dQ f
  have uM:r+(d+1)=ae:=(jA r d).symm.trans a4
  have a1:d<ae:=uM▸iF ..
  exact Ki cC nn kB z8 (h4 a1) ag go hm hs fK q nt dQ λ J H t b wZ ia jM oK=>
   abj ag cC a1 q λ ct bC ep=>aZ uM oK wZ ia jM (Ol▸fK.snoc q) ep (λ Ms e=>(f9 ((Ms:am)=k)).elim (λ L=>⟨d,qU d,tK L▸q⟩) λ L=>let⟨ku,ax,aH⟩:=nt Ms (nk L▸e);⟨ku,pX ax,aH⟩) (a' AW (gq dQ))
    λ v ao bJ fJ aB b8 iv cO=>f v ao bJ fJ (G' t (b (E ct) (an (Cu · (.ii (-1))) bC)) aB) b8 iv cO
theorem Kh(ag:c8 a h T W al aU R)(M:Good a h n)(cC:ae≤3)(q:ba T k (dM W ae 0))
  (f:∀(m:C) (J:St) (H:aT) (ks:B C),runN ac (z+2) 43 [.ref (a .host),E k] n=some (.ref m,J)→b0 a h T 0 J T H→H (.a6 m)=some (.li (ks.map E))→h (.a6 m)=none→d1 T ks ((ck (ae+1)).map (dM W ae))→X):X:=by
 have b2:=b0.start ag.bT M (.li [])
 have g1:=b0.start b2.1.bT b2.1.good (.cq [])
 have ne:n.length≠(n++[a0.li []]).length:=λ e=>mS (qU _) (e.trans fg)
 have Vs:58-ae+ae+2=60:=an (· +2) (Cp (a' cC (aE rfl)))
 exact UR (z:=z) (g:=58-ae) cC ne (M.fresh (cJ _)) (M.fresh (a' (d2 ..) (dg fg.symm))) ae (d:=0) (ks:=[]) (S:=[]) (Rk ae) ((ag.go b2.1).go g1.1) (b2.1.trans g1.1) (g1.1.a6 b2.2).1 g1.2 trivial q (λ ct e=>nomatch e) (fs _) λ v J H ks e go hm fK=>
  have e:oC (fr ac (runN ac (z+1)) wF) (bS ac (runN ac (z+1)) zn) 60 (o9 a n.length (n++[a0.li []]).length (E k)) (n++[a0.li []]++[a0.cq []])=some (.br (o9 a n.length (n++[a0.li []]).length v),J):=Vs▸e
  f n.length J H ks (cN (z+1) 43 [D.ref (a aN.host),E k] n rfl rfl _ _ e) go hm (M.fresh (cJ _)) fK
end
end Mine
end
section
namespace Mine
variable{l k:C}{ks:B C}{j nm:C}
section
variable{a:bH}{h:aT}{n:St}{T:B aP}{z:C}{W:cw}{aU:C→ap}{R:B b5}{al:B (am×D)}{F:C→C}{X:Prop}
theorem afC(ag:c8 a h T W al aU R)(M:Good a h n)(hl:l<4)(q:T[k]? =some (.g (66+l) ks)):runN ac (z+3) 39 [.ref (a .store),E k] n=some (.ref (a (.ty l)),n):=by
 have e:=GG (z:=z) ag.bT M q
 have len:la n (.ref (a .types))=some 71:=let⟨_,tq⟩:=ag.types;rp (M.at_ _ _ tq)
 have LM:=lr hl
 have cz:cY .le (E (66+l)) (.ii 0) n=some false:=nb (P:=λ l=>cY .le (E (66+l)) (.ii 0) n=some false) l LM rfl rfl rfl rfl
 have cD:cY .ge (E (66+l)) (.ii 71) n=some false:=nb (P:=λ l=>cY .ge (E (66+l)) (.ii 71) n=some false) l LM rfl rfl rfl rfl
 exact(cN (z+2) 39 [D.ref (a aN.store),E k] n rfl rfl _ ((ag.aM.at_ M).2.2) _ _ e _ cz _ ((ag.aM.at_ M).2.1) _ len _ cD _ ((ag.aM.at_ M).2.1) _ (ag.yj M hl))
theorem ki.at_{F:C}{r:b5}(ak:ki a h T W aU j r F)(M:Good a h n)(f:∀aG g dr,pU aG g dr j r F→ba T dr (js W aU r)→(∀{i:C} {v:D},aG.lookup i=some v→d7 n (.ref (a (.bl j))) i=some v)→X):X:=
 ak.b7 λ aG g dr aw aB bZ _=>f aG g dr aB bZ λ q=>(fj (M.at_ _ _ aw)).trans q
noncomputable def wU:bk:=(.cons (.b4 (.cmp .eq (.at (.aq (.at (.v 0) 15) (.v 4)) 6) (.v 2)) (.cons (.ex (.append (.v 3) (.v 4))) .nil) (.nil)) .nil)
noncomputable def rb(a:bH)(aV:Y D)(nm m:C)(cm:Y D):aX:=[some (.ref (a .store)),aV,some (.ss [nm]),some (.ref m),cm]
theorem WE{m:C}{da:aN}{l:B D}{aV:Y D}(g7:c8 a h T W al aU R)(r4:j0 a h T W aU R F)(w6:gZ da=false)(hl:h da=some (.li l))(cy:nm=109∨nm=110)(kB:h (.a6 m)=none)(eR:B C):∀{n:St} {aI:aT} {acc:B D} {cm:Y D},(∀j∈eR,j<R.length)→b0 a h T 0 n T aI→aI (.a6 m)=some (.li acc)→acc.length+eR.length<900→
  (∀(J:St) (H:aT) (jr:Y D),@fD (live (.ref (a da)) l) (e0 (.ref (a da)) l) (λ x aF J=>(dh false [4] x aF).bind λ dG=>bS ac (runN ac z) wU dG J) (eR.map λ j=>E (j+1)) (rb a aV nm m cm) n=some (.br (rb a aV nm m jr),J)→b0 a h T 0 J T H→H (.a6 m)=some (.li (acc++(eR.filter λ j=>decide ((af R j).nm=nm)).map λ j=>E (j+1)))→X)→X:=by
 induction eR with
 |nil=>exact λ{n aI acc cm} bt go hm bO f=>f n aI cm (hg (go.good.at_ _ _ (go.off w6 hl))) go ((eX acc).symm▸hm)
 |cons j eR aZ=>
  intro n aI acc cm bt go hm bO f
  have ag:=g7.go go
  have kA:=bt j (.head _)
  have lI:∀j∈eR,j<R.length:=λ j m=>bt j (.tail _ m)
  have dq:=go.good.at_ _ _ (go.off w6 hl)
  refine((r4.go go) j kA).at_ go.good λ aG g dr bl rH at_=>?_
  have cz:=Fs (n:=n) (ag.eW _ (h3 (iM kA))).2.1 cy
  cases q:decide ((af R j).nm=nm)with
  |false=>
   rw[q]at cz
   have st:bS ac (runN ac z) wU (rb a aV nm m (some (E (j+1)))) n=some (.br (rb a aV nm m (some (E (j+1)))),n):=(dk z wU (rb a aV nm m (some (E (j+1)))) n _ ((ag.aM.at_ go.good).1) _ (ag.qo go.good kA) _ (at_ bl.nZ) _ cz)
   exact aZ lI go hm (cn (h5 _) bO) λ J H jr e hN ia=>f J H jr (fc dq st e) hN ((B6 (p:=λ j=>decide ((af R j).nm=nm)) (a:=j) (rX.mp q)).symm▸ia)
  |true=>
   rw[q]at cz
   have L:=go.put (c3:=.li (acc++[E (j+1)])) hm kB
   have st:bS ac (runN ac z) wU (rb a aV nm m (some (E (j+1)))) n=some (.br (rb a aV nm m (some (E (j+1)))),n.set m (.li (acc++[E (j+1)]))):=(dk z wU (rb a aV nm m (some (E (j+1)))) n _ ((ag.aM.at_ go.good).1) _ (ag.qo go.good kA) _ (at_ bl.nZ) _ cz (hQ (de go.good hm)) _ (m0 (de go.good hm) (pG (fh (cn (d2 ..) bO) (aE rfl)))))
   exact aZ lI L.1 L.2 (cn (dg (by rw[fg];exact jA ..)) bO) λ J H jr e hN ia=>f J H jr (fc dq st e) hN (by rw[B7 (p:=λ j=>decide ((af R j).nm=nm)) (a:=j) q,oN,mP];exact ia)
noncomputable def hi(R:B b5)(l nm:C):B Nat:=k9 R λ r=>r.ah==l&&decide (r.nm=nm)
theorem Z0:(k9 R λ r=>r.ah==l).filter (λ j=>decide ((af R j).nm=nm))=hi R l nm:=List.filter_filter.trans (HP λ _ _=>Bool.and_comm ..)
theorem Wt(ag:c8 a h T W al aU R)(ak:j0 a h T W aU R F)(M:Good a h n)(hl:l<4)(cy:nm=109∨nm=110)
  (f:∀(m:C) (J:St) (H:aT),runN ac (z+1) 40 [.ref (a .store),E (66+l),.ss [nm]] n=some (.ref m,J)→b0 a h T 0 J T H→H (.a6 m)=some (.li ((hi R l nm).map λ j=>E (j+1)))→h (.a6 m)=none→X):X:=by
 have b2:=b0.start ag.bT M (.li [])
 have g7:=ag.go b2.1
 have rc:=ag.dv l hl
 have kM:d7 (n++[a0.li []]) (.ref (a (.ty l))) 15=some (.ref (a (.dv l))):=let⟨⟨_,er,_,_,kM,_⟩,_⟩:=g7.ty l hl;(fj (b2.1.good.at_ _ _ er)).trans kM
 have len:(k9 R λ r=>r.ah==l).length≤16:=a' Ey ag.da
 refine WE (z:=z) (F:=F) (aV:=some (E (66+l))) (cm:=none) (m:=n.length) (da:=.dv l) ag ak rfl rc cy (M.fresh (cJ _)) (k9 R λ r=>r.ah==l) (λ j bt=>(E'.mp bt).1) b2.1 b2.2 (cn (dg (ji _)) (cn len (aE rfl))) λ J H jr e go hm=>?_
 exact f n.length J H (cN z 40 [D.ref (a aN.store),E (66+l),D.ss [nm]] n rfl rfl _ ((g7.aM.at_ b2.1.good).2.1) _ (g7.yj b2.1.good hl) _ kM _ (ix (b2.1.good.at_ _ _ (b2.1.off rfl rc))) (a' (dg (cG ..)) (a' len (aE rfl))) _ _ e) go (hm.trans (by rw[Z0];rfl)) (M.fresh (cJ _))
theorem OZ(ag:c8 a h T W al aU R)(ak:j0 a h T W aU R F)(M:Good a h n){bE:B ap}(hl:l<4)(bt:j<R.length)(qh:bE.length≤2)(q:ba T k (gY (66+l) bE))(hs:((js W aU (af R j)).sub bE).size≤24)(a3:T.length+24<500000)
  (f:∀(dr:C) (J:St) (aC:B aP) (H:aT),runN ac (z+35) 41 [.ref (a .store),.tup [E k,E (j+1),.tup []]] n=some (.tup [E 0,.tup [E dr]],J)→ba aC dr ((js W aU (af R j)).sub bE)→b0 a h T 24 J aC H→X):X:=by
 refine v' qh (λ ks e fK xn _=>?_) q
 refine(ak j bt).at_ M λ aG g dr bl rH at_=>?_
 have oZ:=JD (z:=z+32) ag.bT M e
 have Vc:runN ac (z+34) 26 [.ref (a .kt),.ii 0,.tup (ks.map E),.tup []] n=some (E 0,n):=U4 (z:=z+32) (v:=.tup (ks.map E)) ag.bT M
 have p9:cY .eq (E (j+1)) (.ii 0) n=some false:=rfl
 refine U2 (z:=z) ag.bT M rH fK xn hs a3 λ fk J aC H q' xX go=>f fk J aC H (cN (z+34) 41 [D.ref (a aN.store),D.tup [E k,E (j+1),D.tup []]] n rfl rfl _ rfl _ p9 _ ((ag.aM.at_ M).1) _ rfl _ (ag.qo M bt) _ p9 _ ((ag.aM.at_ M).2.2) _ rfl _ _ oZ _ ((ag.aM.at_ M).2.2) _ (at_ bl.zL) _ rfl _ _ Vc _ ((ag.aM.at_ M).2.2) _ (at_ bl.zJ) _ rfl _ _ q') xX go
theorem Xk(c:C)(f:∀i,(([(34,D.ii 3)]:B (am×D)).lookup (c:am)).getD (.ii 0)= .ii i→cY .eq (.ii i) (.ii 3) n=some (decide (c=34))→X):X:=
 (f9 (c=34)).elim (λ L=>f 3 (L▸rfl) (an some (iL L).symm)) λ L=>f 0 (an (Cu · (.ii 0)) (pq.trans (an (λ c=>bif c then _ else _) (ma.mpr λ e=>L (tK e))))) (an some (j3 L).symm)
theorem L6(ag:c8 a h T W al aU R)(M:Good a h n){c:C}(q:T[k]? =some (.g c ks)):runN ac (z+4) 42 [.ref (a .host),E k] n=some (.cj (decide (c=34)),n):=by
 have⟨aG,ir,gD,us,sC,wS,nZ⟩:=ag.be
 have at_:=M.at_ _ _ ir
 have KD:=M.at_ _ _ ag.hs
 have mt:mu ac n 7 (.ref (a .host))=some 13:=(an (FF λ c aG=>if(aG.lookup 7).isNone then ac.pv c 7 else none) at_).trans (if_pos (an RB wS))
 refine Xk (n:=n) c λ i en dn=>?_
 have O:runN ac (z+3) 13 [.ref (a .host),E k] n=some (.ii i,n):=by
  rw[←en]
  exact(cN (z+2) 13 [D.ref (a aN.host),E k] n rfl rfl _ ((fj at_).trans sC) (Mj KD) _ ((fj at_).trans gD) _ _ (GG (z:=z) ag.bT M q) _ (Lg KD))
 exact(cN (z+3) 42 [D.ref (a aN.host),E k] n rfl rfl _ ((fj at_).trans gD) _ _ (aej (z:=z+1) ag.bT M q) _ ((rfl:cY .eq (E (i' (.g c ks))) (.ii 2) n=some true)) _ rfl _ mt _ _ O _ dn)
end
end Mine
end
section
namespace Mine
variable{x y:D}{m k:C}{xs:B D}{c0:C}{bf:B D}{d dr i l nm:C}
section
variable{a:bH}{h:aT}{n:St}{T:B aP}{z:C}{W:cw}{aU:C→ap}{R:B b5}{al:B (am×D)}{F:C→C}{X:Prop}
theorem ad7{m:D}(e:d7 n m 26=some (.ii 6)):runN ac (z+1) 49 [x,y,m] n=some (.cj true,n):=by
 exact(cN z 49 [x,y,m] n rfl rfl _ e _ ((rfl:cY .eq (.ii 6) (.ii 1) n=some false)) _ e _ ((rfl:cY .my (.ii 6) (.tup [.ii 3,.ii 2]) n=some true)) _ rfl)
theorem AN(e:n[m]? =some (.li xs)):eK n (k+1) (.ref m)=xs.all (eK n k):=an (λ o:Y a0=>match o with|some (.li xs)=>xs.all (eK n k)|_=>false) e
theorem KU(e:n[m]? =some (.li xs))(bC:n[c0]? =some (.li bf)):fI n (k+1) (.ref m) (.ref c0)=k5 (fI n k) xs bf:=
 (an (λ o:Y a0=>match o,n[c0]? with|some (.li xs),some (.li bf)=>k5 (fI n k) xs bf|_,_=>false) e).trans (an (λ o:Y a0=>match some (a0.li xs),o with|some (.li xs),some (.li bf)=>k5 (fI n k) xs bf|_,_=>false) bC)
theorem DF(e:n[m]? =some (.li xs))(bC:n[c0]? =some (.li bf))(o:xs.all (eK n 3)=true)(c3:bf.all (eK n 3)=true):cY .eq (.ref m) (.ref c0) n=some (k5 (fI n 3) xs bf):=(if_pos (dI.mpr ⟨(AN e).trans o,(AN bC).trans c3⟩)).trans (an some (KU e bC))
theorem ab'(aw:d7 n x 32=some (.tup [.ii 0]))(aB:∀b9,d7 (n++b9) y 32=some (.tup [.ii 0])):runN ac (z+1) 50 [x,y] n=some (.cj true,n++[.li [.ii 0]]++[.li [.ii 0]]):=by
 have dy:(n++[a0.li [.ii 0]]++[a0.li [.ii 0]])[n.length]? =some (.li [.ii 0]):=(an (·[n.length]?) (jx ..)).trans (l' (i:=0))
 have gf:fG .band (.ii 0) (.ii 1)=some (.ii 0):=rfl
 have eE:ci ac (runN ac z) (.bin .band (.v 2) (.gl [80,70,95,79,85,84] (.ii 1))) [some x,some y,some (.ii 0),none] n=some (.ii 0,n):=(hI z (ab.bin iS.band (ab.v 2) (ab.gl [80,70,95,79,85,84] (D.ii 1))) [some x,some y,some (D.ii 0),none] n _ gf)
 have jU:ci ac (runN ac z) (.bin .band (.v 3) (.gl [80,70,95,79,85,84] (.ii 1))) [some x,some y,none,some (.ii 0)] (n++[.li [.ii 0]])=some (.ii 0,n++[.li [.ii 0]]):=(hI z (ab.bin iS.band (ab.v 3) (ab.gl [80,70,95,79,85,84] (D.ii 1))) [some x,some y,none,some (D.ii 0)] (n++[a0.li [D.ii 0]]) _ gf)
 exact(cN z 50 [x,y] n rfl rfl _ aw _ rfl (aE rfl) _ _ (h7 trivial (j2 rfl eE) (jF trivial)) _ (aB _) _ rfl (aE rfl) _ _ (h7 trivial (j2 rfl jU) (jF trivial)) _ (DF dy (iZ rfl) rfl rfl))
noncomputable def qO(R:B b5)(F:C→C):Prop:=∀j,j<R.length→F j=2+128*(af R j).aM∨F j=6+128*(af R j).aM
theorem age{x y s a9:C}(aA:x=2+128*s∨x=6+128*s)(bI:y=2+128*a9∨y=6+128*a9)(hs:s≤1)(jM:a9≤1):(∀L w,fG .bxor (E x) (E y)=some L→fG .band L (.ii 128)=some w→ie n w=some (!decide (s=a9))→X)→X:=
 ro (ak:=λ s=>(x=2+128*s∨x=6+128*s)→(∀L w,fG .bxor (E x) (E y)=some L→fG .band L (.ii 128)=some w→ie n w=some (!decide (s=a9))→X)→X) hs
  (ro (ak:=λ a9=>(y=2+128*a9∨y=6+128*a9)→(x=2∨x=6)→(∀L w,fG .bxor (E x) (E y)=some L→fG .band L (.ii 128)=some w→ie n w=some (!decide (0=a9))→X)→X) jM
   (λ bI aA f=>by rcases aA with rfl|rfl<;>rcases bI with rfl|rfl<;>exact f _ _ rfl rfl rfl) (λ bI aA f=>by rcases aA with rfl|rfl<;>rcases bI with rfl|rfl<;>exact f _ _ rfl rfl rfl) bI)
  (ro (ak:=λ a9=>(y=2+128*a9∨y=6+128*a9)→(x=130∨x=134)→(∀L w,fG .bxor (E x) (E y)=some L→fG .band L (.ii 128)=some w→ie n w=some (!decide (1=a9))→X)→X) jM
   (λ bI aA f=>by rcases aA with rfl|rfl<;>rcases bI with rfl|rfl<;>exact f _ _ rfl rfl rfl) (λ bI aA f=>by rcases aA with rfl|rfl<;>rcases bI with rfl|rfl<;>exact f _ _ rfl rfl rfl) bI) aA
theorem N7(K:W.ok){r bw:b5}(cC:r.ah≤3)(a1:d≤r.ah)(hl:bw.ah=r.ah-d)(cy:bw.nm=r.nm)(g:(aU r.nm).ar (W.many 0)):(js W aU bw).sub (W.dK r.ah d)=js W aU r:=by
 unfold js
 have e:=Rj a1
 have xo:=(K.arg (ae:=r.ah-d) (a' (nJ ..) cC) (d:=r.ah-d) (cJ _)).1
 rw[r8]at xo
 rw[cy,hl,Pg (xo.symm▸g),JC K cC a1 (dg e),e]
noncomputable def Gu:bk:=(.cons (.b4 (.and (.cons (.cmp .eq (.at (.aq (.at (.at (.v 0) 47) 15) (.v 6)) 27) (.v 3)) (.cons (.cmp .eq (.aq (.call 41 (.cons (.at (.v 0) 47) (.cons (.tup (.cons (.v 1) (.cons (.v 6) (.cons (.tup .nil) .nil)))) .nil))) (.ii 1)) (.v 4)) .nil))) (.cons (.ex (.append (.v 5) (.v 6))) .nil) (.nil)) .nil)
noncomputable def x'(a:bH)(k:C)(aQ:Y D)(dr m:C)(bN:Y D):aX:=[some (.ref (a .eH)),some (E k),aQ,some (.ii 0),some (.tup [E dr]),some (.ref m),bN]
theorem VL:cY .eq (.tup [E k]) (.tup [E k]) n=some true:=an (λ b=>some (b&&true)) (iL rfl)
theorem rx{b x:C}:b+24+24*x=b+24*(x+1):=(mQ b 24 _).trans (an (b+·) (qT ..))
theorem aen{dH:C}{l:B D}{aQ:Y D}(g7:c8 a h T W al aU R)(r4:j0 a h T W aU R F)(ay:i<R.length)(a1:d≤(af R i).ah)(fx:ba T k (dM W (af R i).ah d))(rH:ba T dr (js W aU (af R i)))(kB:h (.a6 m)=none)(ne:dH≠m)(eR:B C):∀{n:St} {bX:B aP} {aI:aT} {acc:B D} {bN:Y D} {b:C},(∀j∈eR,j<R.length∧(af R j).ah=(af R i).ah-d∧(af R j).nm=(af R i).nm)→b0 a h T b n bX aI→aI (.a6 m)=some (.li acc)→aI (.a6 dH)=some (.li l)→acc.length+eR.length<900→T.length+b+24*eR.length<480000→
  (∀(J:St) (aC:B aP) (H:aT) (gy:Y D),@fD (live (.ref dH) l) (e0 (.ref dH) l) (λ x aF J=>(dh false [6] x aF).bind λ dG=>bS ac (runN ac (z+35)) Gu dG J) (eR.map λ j=>E (j+1)) (x' a k aQ dr m bN) n=some (.br (x' a k aQ dr m gy),J)→b0 a h T (b+24*eR.length) J aC H→H (.a6 m)=some (.li (acc++eR.map λ j=>E (j+1)))→X)→X:=by
 induction eR with
 |nil=>exact λ{n bX aI acc bN b} bt go hm iv bO a3 f=>f n bX aI bN (hg (de go.good iv)) go ((eX acc).symm▸hm)
 |cons j eR aZ=>
  intro n bX aI acc bN b bt go hm iv bO a3 f
  have kA:=bt j (.head _)
  have ag:=g7.go go
  have ak:=r4.go go
  have hW:=ag.eW _ (h3 (iM ay))
  have g:=ag.lH (af R i).nm
  have cp:=N7 (aU:=aU) ag.iR hW.1 a1 kA.2.1 kA.2.2 g.1
  refine(ak j kA.1).at_ go.good λ aG qf ahg bl _ at_=>?_
  refine OZ (z:=z) ag ak go.good (l:=(af R i).ah-d) (j:=j) (k:=k) (bE:=W.dK (af R i).ah d) (pW (a' (nJ ..) hW.1)) kA.1 (ag.iR.lD hW.1 a1) (go.eS fx) (cp.symm▸a' (FY (aU:=aU) ag.iR hW.1 g).2.1 (aE rfl)) (cn (hb go.le 24) (e' (nI (cn (d2 ..) a3) 24) (aE rfl))) λ AR ao cL bJ aB cO b8=>?_
  rw[cp]at cO
  refine b8.bT.b7 λ _ _ _ _ I=>?_
  have hL:AR=dr:=ba.inj I.nodup cO (b8.eS (go.eS rH))
  subst hL
  have ia:=b8.a6 hm
  have L:=(go.trans b8).put (c3:=.li (acc++[E (j+1)])) ia.1 kB
  have st:bS ac (runN ac (z+35)) Gu (x' a k aQ AR m (some (E (j+1)))) n=some (.br (x' a k aQ AR m (some (E (j+1)))),ao.set m (.li (acc++[E (j+1)]))):=(dk (z+35) Gu (x' a k aQ AR m (some (E (j+1)))) n _ (ag.mc go.good) _ ((ag.aM.at_ go.good).1) _ (ag.qo go.good kA.1) _ (at_ bl.zK) _ ((rfl:cY .eq (.ii 0) (.ii 0) n=some true)) _ (ag.mc go.good) _ _ aB _ rfl _ VL (hQ ia.2) _ (m0 ia.2 (pG (fh (cn (d2 ..) bO) (aE rfl)))))
  exact aZ (λ j m=>bt j (.tail _ m)) L.1 L.2 (mJ (b8.a6 iv).1 (tn ne)) (cn (dg (by rw[fg];exact jA ..)) bO) (cn (dg rx) a3)
   λ J aC H gy e hN X3=>f J aC H gy (fc (de go.good iv) st e) (hN.mono (dg rx)) (X3.trans (an (λ l=>some (a0.li l)) (mP ..).symm))
theorem xy{j:C}:j∈hi R l nm↔j<R.length∧(af R j).ah=l∧(af R j).nm=nm:=E'.trans (and_congr_right' ((dI).trans (and_congr jk Vf)))
theorem Ax(h:R.length≤16):(hi R l nm).length≤16:=a' Ey h
theorem acp(ag:c8 a h T W al aU R)(ak:j0 a h T W aU R F)(M:Good a h n)(ay:i<R.length)(a1:d≤(af R i).ah)(fx:ba T k (dM W (af R i).ah d))(rH:ba T dr (js W aU (af R i)))(a3:T.length<400000)
  (f:∀(m:C) (J:St) (aC:B aP) (H:aT),runN ac (z+36) 51 [.ref (a .eH),E k,.ss [(af R i).nm],.ii 0,.tup [E dr]] n=some (.ref m,J)→b0 a h T 400 J aC H→H (.a6 m)=some (.li ((hi R ((af R i).ah-d) (af R i).nm).map λ j=>E (j+1)))→X):X:=by
 have hW:=ag.eW _ (h3 (iM ay))
 refine v' (ag.iR.lD hW.1 a1) (λ ks um fK xn _=>?_) fx
 have b2:=b0.start ag.bT M (.li [])
 have g7:=ag.go b2.1
 have mO:=b2.1.good
 refine Wt (z:=z+34) (F:=F) g7 (ak.go b2.1) mO (l:=(af R i).ah-d) (pW (a' (nJ ..) hW.1)) hW.2.1 λ dH ao bJ aB b8 iv cl=>?_
 have ne:dH≠n.length:=λ L=>nomatch(L▸cl).symm.trans b2.2
 have Pq:=GG (z:=z+33) g7.bT mO um
 have lM:(hi R ((af R i).ah-d) (af R i).nm).length≤16:=Ax ag.da
 refine aen (z:=z) (F:=F) (m:=n.length) (dH:=dH) (l:=(hi R ((af R i).ah-d) (af R i).nm).map λ j=>E (j+1)) (aQ:=some (.ss [(af R i).nm])) ag ak ay a1 fx rH (M.fresh (cJ _)) ne (hi R ((af R i).ah-d) (af R i).nm) (bN:=none) (λ j bt=>xy.mp bt) (b2.1.trans b8) (b8.a6 b2.2).1 iv (cn (dg (ji _)) (cn lM (aE rfl))) (e' (r6 a3 (gU 24 lM)) (aE rfl)) λ bW lB cQ bN bZ fX ph=>?_
 have qG:ie (n++[a0.li []]) (E (66+((af R i).ah-d)))=some true:=an some (iL (QN (QM.mpr (e' (Rz 65) (d2 ..)))))
 exact f n.length bW lB cQ (cN (z+35) 51 [D.ref (a aN.eH),E k,D.ss [(af R i).nm],D.ii 0,D.tup [E dr]] n rfl rfl _ (g7.zz mO) _ _ Pq _ qG _ (g7.mc mO) _ (g7.zz mO) _ _ Pq _ _ aB _ (ix (de b8.good iv)) (a' (dg (cG ..)) (a' lM (aE rfl))) _ _ bZ) (fX.mono (a' (fA (gU 24 lM) 0) (aE rfl))) ph
end
end Mine
end
section
namespace Mine
variable{V:jg}{r:fb}{env:aX}{aa:St}{many:av}{xs:B C}{x:D}{aF:aX}{b7:ab}{eo:fb}{m i:C}{aV aQ bp bh bj bK:Y D}{k d:C}{bB:Y D}
noncomputable def gv(R:B b5)(l nm aM:C):B Nat:=(hi R l nm).filter λ j=>decide ((af R j).aM=aM)
noncomputable def scan(R:B b5)(nm aM:C):C→av→Y (C×C×av)
 |0,_=>none
 |l+1,p=>match gv R l nm aM with
  |j::_=>some (l,j,p||decide ((gv R l nm aM).length< (hi R l nm).length))
  | []=>scan R nm aM l (p||decide (0< (hi R l nm).length))
section
variable{a:bH}{h:aT}{n:St}{T:B aP}{z:C}{W:cw}{aU:C→ap}{R:B b5}{al:B (am×D)}{F:C→C}{X:Prop}
noncomputable def K7:fb:=(.cons (.and (.cons (.e (.call 49 (.cons (.v 0) (.cons (.v 3) (.cons (.v 9) .nil))))) (.cons (.g4 (.e (.bin .band (.bin .bxor (.at (.v 9) 8) (.at (.v 3) 8)) (.gl [77,70,95,83,80,69,67,73,65,76] (.ii 128))))) (.cons (.e (.call 50 (.cons (.v 3) (.cons (.v 9) .nil)))) .nil)))) .nil)
theorem vL{t:Mine.T}{he:Y (av×St)}(e:fr ac V t env n=some (true,aa))(k:hp ac V r env aa=he):hp ac V (.cons t r) env n=he:=aR e ((if_pos rfl).trans k)
theorem PB{t:Mine.T}(e:fr ac V t env n=some (false,aa)):hp ac V (.cons t r) env n=some (false,aa):=aR e (if_neg mM)
theorem UH{v:D}{ao:St}(e:dh many xs x env=some aF)(t:hp ac V eo aF n=some (true,aa))(q:ci ac V b7 aF aa=some (v,ao)):
  ((dh many xs x env).bind λ aF=>(hp ac V eo aF n).bind λ q=>if q.1=true then(ci ac V b7 aF q.2).bind λ r=>some ([r.1],r.2)else some ([],q.2))=some ([v],ao):=aR e (aR t ((if_pos rfl).trans (aR q rfl)))
theorem UK(e:dh many xs x env=some aF)(t:hp ac V eo aF n=some (false,aa)):
  ((dh many xs x env).bind λ aF=>(hp ac V eo aF n).bind λ q=>if q.1=true then(ci ac V b7 aF q.2).bind λ r=>some ([r.1],r.2)else some ([],q.2))=some ([],aa):=aR e (aR t (if_neg mM))
noncomputable def gu(a:bH)(aV aQ:Y D)(i:C)(bp bq bh bj bK bB:Y D):aX:=[some (.ref (a .eH)),aV,aQ,some (.ref (a (.bl i))),bp,bq,bh,bj,bK,bB]
noncomputable def K6(z m:C)(l xs acc:B D)(env:aX)(n:St):Y (B D×St):=@lF (live (.ref m) l) (e0 (.ref m) l) (λ x ao=>(dh false [9] x env).bind λ aF=>(hp ac (runN ac (z+1)) K7 aF ao).bind λ q=>if q.1=true then(ci ac (runN ac (z+1)) (.at (.v 9) 24) aF q.2).bind λ r=>some ([r.1],r.2)else some ([],q.2)) xs acc n
theorem Wv{b:C}{l:B D}{bq hC:Y D}(g7:c8 a h T W al aU R)(r4:j0 a h T W aU R F)(hx:qO R F)(ay:i<R.length)(eR:B C):∀{n:St} {bX:B aP} {aI:aT} {acc:B D},(∀j∈eR,j<R.length)→b0 a h T b n bX aI→aI (.a6 m)=some (.li l)→
  (∀(J:St),K6 z m l (eR.map λ j=>.ref (a (.bl j))) acc (gu a aV aQ i bp bq bh bj bK hC) n=some (acc++(eR.filter λ j=>decide ((af R j).aM=(af R i).aM)).map λ j=>E (j+1),J)→b0 a h T b J bX aI→X)→X:=by
 induction eR with
 |nil=>exact λ{n bX aI acc} bt go hm f=>f n ((jF (de go.good hm)).trans (an (λ l=>some (l,n)) (eX acc).symm)) go
 |cons j eR aZ=>
  intro n bX aI acc bt go hm f
  have kA:=bt j (.head _)
  have lI:∀j∈eR,j<R.length:=λ j m=>bt j (.tail _ m)
  have ag:=g7.go go
  have ak:=r4.go go
  refine(ak j kA).at_ go.good λ aG g dr bl _ at_=>?_
  refine(ak i ay).at_ go.good λ agY uE ahh gO _ C0=>?_
  have dq:=de go.good hm
  have er:fr ac (runN ac (z+1)) (.e (.call 49 (.cons (.v 0) (.cons (.v 3) (.cons (.v 9) .nil))))) (gu a aV aQ i bp bq bh bj bK (some (.ref (a (.bl j))))) n=some (true,n):=(jd (z+1) (Mine.T.e (ab.call 49 (d6.cons (ab.v 0) (d6.cons (ab.v 3) (d6.cons (ab.v 9) d6.nil))))) (gu a aV aQ i bp bq bh bj bK (some (D.ref (a (aN.bl j))))) n _ _ (ad7 (z:=z) (x:=.ref (a .eH)) (y:=.ref (a (.bl i))) (at_ bl.uu)) _ rfl)
  refine age (n:=n) (hx j kA) (hx i ay) (ag.eW _ (h3 (iM kA))).2.2 (ag.eW _ (h3 (iM ay))).2.2 λ L w aw aB bZ=>?_
  cases q:decide ((af R j).aM=(af R i).aM)with
  |false=>
   rw[q]at bZ
   have eN:fr ac (runN ac (z+1)) (.g4 (.e (.bin .band (.bin .bxor (.at (.v 9) 8) (.at (.v 3) 8)) (.gl [77,70,95,83,80,69,67,73,65,76] (.ii 128))))) (gu a aV aQ i bp bq bh bj bK (some (.ref (a (.bl j))))) n=some (false,n):=(jd (z+1) ((Mine.T.e (ab.bin iS.band (ab.bin iS.bxor ((ab.v 9).at 8) ((ab.v 3).at 8)) (ab.gl [77,70,95,83,80,69,67,73,65,76] (D.ii 128)))).g4) (gu a aV aQ i bp bq bh bj bK (some (D.ref (a (aN.bl j))))) n _ (at_ bl.f8) _ (C0 gO.f8) _ aw _ aB _ bZ)
   exact aZ (acc:=acc++[]) lI go hm λ J e hN=>f J (h7 dq (UK rfl (PB (t:=.and _) (vL er (PB eN)))) (e.trans (by rw[B6 (p:=λ j=>decide ((af R j).aM=(af R i).aM)) (a:=j) (rX.mp q),eX]))) hN
  |true=>
   rw[q]at bZ
   have b8:=(go.kE (.li [.ii 0])).kE (.li [.ii 0])
   have eN:fr ac (runN ac (z+1)) (.g4 (.e (.bin .band (.bin .bxor (.at (.v 9) 8) (.at (.v 3) 8)) (.gl [77,70,95,83,80,69,67,73,65,76] (.ii 128))))) (gu a aV aQ i bp bq bh bj bK (some (.ref (a (.bl j))))) n=some (true,n):=(jd (z+1) ((Mine.T.e (ab.bin iS.band (ab.bin iS.bxor ((ab.v 9).at 8) ((ab.v 3).at 8)) (ab.gl [77,70,95,83,80,69,67,73,65,76] (D.ii 128)))).g4) (gu a aV aQ i bp bq bh bj bK (some (D.ref (a (aN.bl j))))) n _ (at_ bl.f8) _ (C0 gO.f8) _ aw _ aB _ bZ)
   have jU:=ab' (z:=z) (n:=n) (x:=.ref (a (.bl i))) (y:=.ref (a (.bl j))) (C0 gO.zM) λ b9=>(ak j kA).at_ (go.mm b9).good λ _ _ _ bl _ at_=>at_ bl.zM
   have hr:fr ac (runN ac (z+1)) (.e (.call 50 (.cons (.v 3) (.cons (.v 9) .nil)))) (gu a aV aQ i bp bq bh bj bK (some (.ref (a (.bl j))))) n=some (true,n++[.li [.ii 0]]++[.li [.ii 0]]):=(jd (z+1) (Mine.T.e (ab.call 50 (d6.cons (ab.v 3) (d6.cons (ab.v 9) d6.nil)))) (gu a aV aQ i bp bq bh bj bK (some (D.ref (a (aN.bl j))))) n _ _ jU _ rfl)
   have b7:ci ac (runN ac (z+1)) (.at (.v 9) 24) (gu a aV aQ i bp bq bh bj bK (some (.ref (a (.bl j))))) (n++[.li [.ii 0]]++[.li [.ii 0]])=some (E (j+1),n++[.li [.ii 0]]++[.li [.ii 0]]):=aR rfl ((ak j kA).at_ b8.good λ _ _ _ bl _ at_=>aR (at_ bl.DJ) rfl)
   exact aZ (acc:=acc++[E (j+1)]) lI b8 hm λ J e hN=>f J (h7 dq (UH rfl (vL (t:=.and _) (vL er (vL eN (vL hr rfl))) rfl) b7) (e.trans (an (λ l=>some (l,J)) ((mP ..).symm.trans (an (λ l=>acc++eA (λ j=>E (j+1)) l) (B7 (p:=λ j=>decide ((af R j).aM=(af R i).aM)) (a:=j) q).symm))))) hN
noncomputable def EV:ab:=(.comp (.aq (.at (.at (.v 0) 47) 15) (.v 8)) [8] false (.call 51 (.cons (.v 0) (.cons (.v 5) (.cons (.at (.v 3) 6) (.cons (.at (.v 3) 27) (.cons (.at (.v 3) 11) .nil)))))) (.cons (.cmp .ne (.at (.aq (.at (.at (.v 0) 47) 15) (.v 8)) 26) (.gl [65,95,80,82,73,86,65,84,69] (.ii 1))) .nil))
noncomputable def DL:ab:=(.comp (.at (.v 9) 24) [9] false (.v 6) K7)
noncomputable def ue:bk:=(.cons (.b4 (.e (.v 7)) (.cons (.ret (.tup (.cons (.v 5) (.cons (.aq (.v 7) (.ii 0)) (.cons (.len (.v 7)) (.cons (.or (.cons (.v 4) (.cons (.cmp .gt (.len (.v 6)) (.len (.v 7))) .nil))) .nil)))))) .nil) (.nil)) (.cons (.asg 4 (.or (.cons (.v 4) (.cons (.cmp .gt (.len (.v 6)) (.ii 0)) .nil)))) .nil))
noncomputable def zp:bk:=(.cons (.asg 6 EV) (.cons (.asg 7 DL) ue))
noncomputable def pp(R:B b5)(i d:C):B Nat:=hi R ((af R i).ah-d) (af R i).nm
noncomputable def iu(R:B b5)(i d:C):B Nat:=gv R ((af R i).ah-d) (af R i).nm (af R i).aM
theorem Z1(ag:c8 a h T W al aU R)(ak:j0 a h T W aU R F)(M:Good a h n)(ay:i<R.length)(a1:d≤(af R i).ah)(fx:ba T k (dM W (af R i).ah d))(a3:T.length<400000)
  (f:∀(m:C) (J:St) (aC:B aP) (H:aT),ci ac (runN ac (z+36)) EV (gu a aV aQ i bp (some (E k)) bh bj bK bB) n=some (.ref m,J)→b0 a h T 400 J aC H→H (.a6 m)=some (.li ((pp R i d).map λ j=>.ref (a (.bl j))))→X):X:=by
 refine(ak i ay).at_ M λ aG g dr bl rH at_=>?_
 refine acp (z:=z) ag ak M ay a1 fx rH a3 λ m aa bX aI aw cW hO=>?_
 have pM:=ag.go cW
 have en:=b0.start cW.bT cW.good (.li ((pp R i d).map λ j=>.ref (a (.bl j))))
 have n':=de cW.good hO
 have gN:=sz (V:=runN ac (z+36)) (env:=gu a aV aQ i bp (some (E k)) bh bj bK bB) (x:=8) (eo:=.cons (.cmp .ne (.at (.aq (.at (.at (.v 0) 47) 15) (.v 8)) 26) (.gl [65,95,80,82,73,86,65,84,69] (.ii 1))) .nil) (b7:=.aq (.at (.at (.v 0) 47) 15) (.v 8)) (f:=λ j=>E (j+1)) (acc:=[]) (eR:=pp R i d) n' (p:=λ _=>true) (g:=λ j=>.ref (a (.bl j))) λ j bt=>by
  have lI:=(xy.mp bt).1
  have aq:=pM.qo cW.good lI
  have hf:=pM.mc cW.good
  have iq:=(pM.aM.at_ cW.good).1
  refine(ak.go cW j lI).at_ cW.good λ _ _ _ bl _ at_=>⟨vL (aa:=aa) ?_ rfl,?_⟩
  ·have t:fr ac (runN ac (z+36)) (.cmp .ne (.at (.aq (.at (.at (.v 0) 47) 15) (.v 8)) 26) (.gl [65,95,80,82,73,86,65,84,69] (.ii 1))) (gu a aV aQ i bp (some (E k)) bh bj (some (E (j+1))) bB) aa=some (true,aa):=(jd (z+36) (Mine.T.cmp jf.ne (((((ab.v 0).at 47).at 15).aq (ab.v 8)).at 26) (ab.gl [65,95,80,82,73,86,65,84,69] (D.ii 1))) (gu a aV aQ i bp (some (E k)) bh bj (some (E (j+1))) bB) aa _ hf _ iq _ aq _ (at_ bl.uu) _ ((rfl:cY .ne (.ii 6) (.ii 1) aa=some true)))
   exact t
  ·have t:ci ac (runN ac (z+36)) (.aq (.at (.at (.v 0) 47) 15) (.v 8)) (gu a aV aQ i bp (some (E k)) bh bj (some (E (j+1))) bB) aa=some (.ref (a (.bl j)),aa):=(hI (z+36) ((((ab.v 0).at 47).at 15).aq (ab.v 8)) (gu a aV aQ i bp (some (E k)) bh bj (some (E (j+1))) bB) aa _ hf _ iq _ aq)
   exact t
 rw[B8.mpr (λ _ _=>rfl)]at gN
 exact f aa.length _ bX _ (hI (z+36) EV (gu a aV aQ i bp (some (E k)) bh bj bK bB) n _ (at_ bl.nZ) _ (at_ bl.zK) _ (at_ bl.zJ) _ _ aw _ (ix n') (a' (dg (cG ..)) (a' (Ax ag.da) (aE rfl))) _ _ gN) ((cW.trans en.1).mono (cJ _)) en.2
theorem uY{α:Type}{f:α→D}{l:B α}(e:n[m]? =some (.li (l.map f))):la n (.ref m)=some (l.length:am):=(rp e).trans (an (λ z:C=>some (z:am)) (cG f))
theorem UA(ag:c8 a h T W al aU R)(ak:j0 a h T W aU R F)(hx:qO R F)(M:Good a h n){p:av}{bN bm:Y D}(ay:i<R.length)(a1:d≤(af R i).ah)(fx:ba T k (dM W (af R i).ah d))(a3:T.length<400000)
  (f:∀(J:St) (aC:B aP) (H:aT) (gy mA:Y D),b0 a h T 400 J aC H→
   (∀j r,iu R i d=j::r→bS ac (runN ac (z+36)) zp (gu a aV aQ i (some (.cj p)) (some (E k)) bN bm bK bB) n=some (.f5 (.tup [E k,E (j+1),E (iu R i d).length,.cj (p||decide ((iu R i d).length< (pp R i d).length))]),J))→
   (iu R i d=[]→bS ac (runN ac (z+36)) zp (gu a aV aQ i (some (.cj p)) (some (E k)) bN bm bK bB) n=some (.br (gu a aV aQ i (some (.cj (p||decide (0< (pp R i d).length)))) (some (E k)) gy mA bK bB),J))→X):X:=by
 refine Z1 (z:=z) (aV:=aV) (aQ:=aQ) (bp:=some (.cj p)) (bh:=bN) (bj:=bm) (bK:=bK) (bB:=bB) ag ak M ay a1 fx a3 λ m aa bX aI aw cW hO=>?_
 refine Wv (z:=z+35) (m:=m) (l:=(pp R i d).map λ j=>.ref (a (.bl j))) (aV:=aV) (aQ:=aQ) (bp:=some (.cj p)) (bq:=some (E k)) (bh:=some (.ref m)) (bj:=bm) (bK:=bK) (hC:=bB) ag ak hx ay (pp R i d) (acc:=[]) (λ j bt=>(xy.mp bt).1) cW hO λ ao aB b8=>?_
 have en:=b0.start b8.bT b8.good (.li ((iu R i d).map λ j=>E (j+1)))
 have u4:=uY (de en.1.good (en.1.off (r:=.a6 m) rfl hO))
 have Ad:=de en.1.good en.2
 have xq:=uY Ad
 have aB:K6 (z+35) m ((pp R i d).map λ j=>.ref (a (.bl j))) ((pp R i d).map λ j=>.ref (a (.bl j))) [] (gu a aV aQ i (some (.cj p)) (some (E k)) (some (.ref m)) bm bK bB) aa=some ((iu R i d).map λ j=>E (j+1),ao):=aB
 have DD:ci ac (runN ac (z+36)) DL (gu a aV aQ i (some (.cj p)) (some (E k)) (some (.ref m)) bm bK bB) aa=some (.ref ao.length,ao++[.li ((iu R i d).map λ j=>E (j+1))]):=(hI (z+36) DL (gu a aV aQ i (some (D.cj p)) (some (E k)) (some (D.ref m)) bm bK bB) aa _ (ix (de cW.good hO)) (a' (dg (cG ..)) (a' (Ax ag.da) (aE rfl))) _ _ aB)
 have a1:∀{he},bS ac (runN ac (z+36)) ue (gu a aV aQ i (some (.cj p)) (some (E k)) (some (.ref m)) (some (.ref ao.length)) bK bB) (ao++[.li ((iu R i d).map λ j=>E (j+1))])=he→bS ac (runN ac (z+36)) zp (gu a aV aQ i (some (.cj p)) (some (E k)) bN bm bK bB) n=he:=λ e=>aR (aR aw rfl) (aR (aR DD rfl) e)
 refine f _ bX _ (some (.ref m)) (some (.ref ao.length)) (b8.trans en.1) (λ j r cl=>a1 ?_) λ cl=>a1 ?_
 ·have qG:=(GJ Ad).trans (an (λ l=>some (!(eA (λ j=>E (j+1)) l).isEmpty)) cl)
  have Mp:=j7 (k:=0) Ad (i8 (cl▸rfl:(iu R i d)[0]? =some j))
  cases p with
  |false=>exact(dk (z+36) ue (gu a aV aQ i (some (D.cj false)) (some (E k)) (some (D.ref m)) (some (D.ref (f' ao))) bK bB) (ao++[a0.li (eA (λ j=>E (j+1)) (iu R i d))]) _ qG _ Mp _ xq _ rfl _ u4 _ xq _ nV)
  |true=>exact(dk (z+36) ue (gu a aV aQ i (some (D.cj true)) (some (E k)) (some (D.ref m)) (some (D.ref (f' ao))) bK bB) (ao++[a0.li (eA (λ j=>E (j+1)) (iu R i d))]) _ qG _ Mp _ xq _ rfl)
 ·have qG:=(GJ Ad).trans (an (λ l=>some (!(eA (λ j=>E (j+1)) l).isEmpty)) cl)
  cases p with
  |false=>exact(dk (z+36) ue (gu a aV aQ i (some (D.cj false)) (some (E k)) (some (D.ref m)) (some (D.ref (f' ao))) bK bB) (ao++[a0.li (eA (λ j=>E (j+1)) (iu R i d))]) _ qG _ rfl _ u4 _ (nV (y:=0)))
  |true=>exact(dk (z+36) ue (gu a aV aQ i (some (D.cj true)) (some (E k)) (some (D.ref m)) (some (D.ref (f' ao))) bK bB) (ao++[a0.li (eA (λ j=>E (j+1)) (iu R i d))]) _ qG _ rfl)
end
end Mine
end
section
namespace Mine
variable{l nm aM j:C}{p:av}{m i:C}
section
variable{a:bH}{h:aT}{n:St}{T:B aP}{z:C}{W:cw}{aU:C→ap}{R:B b5}{al:B (am×D)}{F:C→C}{X:Prop}
theorem rv:j∈gv R l nm aM↔j<R.length∧(af R j).ah=l∧(af R j).nm=nm∧(af R j).aM=aM:=
 oP.trans ((and_congr xy Vf).trans ⟨λ L=>⟨L.1.1,L.1.2.1,L.1.2.2,L.2⟩,λ L=>⟨⟨L.1,L.2.1,L.2.2.1⟩,L.2.2.2⟩⟩)
theorem K'{dq:St→Prop}{jl:qM dq}{step:D→aX→St→Y (eZ×St)}{x v:D}{r:B D}{env:aX}{J:St}(h:dq n)(e:step x env n=some (.f5 v,J)): @fD dq jl step (x::r) env n=some (.f5 v,J):=(if_pos h).trans (aR e rfl)
theorem d1.sA{ks:B C}{t:ap}{bE:B ap}(q:d1 T ks (t::bE))(f:∀k fJ,ks=k::fJ→ba T k t→d1 T fJ bE→X):X:=match ks,q with
 |k::ks,q=>f k ks rfl q.1 q.2
theorem pt{k b x:C}:b+k+k*x=b+k*(x+1):=(mQ b k _).trans (an (b+·) (qT ..))
theorem Bc{r:B C}(cl:gv R l nm aM=j::r):scan R nm aM (l+1) p=some (l,j,p||decide ((gv R l nm aM).length< (hi R l nm).length)):=
 an (λ x:B C=>match x with|j::_=>some (l,j,p||decide ((gv R l nm aM).length< (hi R l nm).length))| []=>scan R nm aM l (p||decide (0< (hi R l nm).length))) cl
theorem x5(cl:gv R l nm aM=[]):scan R nm aM (l+1) p=scan R nm aM l (p||decide (0< (hi R l nm).length)):=
 an (λ x:B C=>match x with|j::_=>some (l,j,p||decide ((gv R l nm aM).length< (hi R l nm).length))| []=>scan R nm aM l (p||decide (0< (hi R l nm).length))) cl
theorem bm_loop{l:B D}{aV aQ bK bB:Y D}(g7:c8 a h T W al aU R)(r4:j0 a h T W aU R F)(hx:qO R F)(ay:i<R.length)(c:C):∀{d b:C} {p f3:av} {aO j:C} {ks:B C} {n:St} {bX:B aP} {aI:aT} {o5 bN bm:Y D},c+d=(af R i).ah+1→d1 bX ks ((pT d c).map (dM W (af R i).ah))→b0 a h T b n bX aI→aI (.a6 m)=some (.li l)→scan R (af R i).nm (af R i).aM c p=some (aO,j,f3)→T.length+b+400*c<400000→
  (∀(J:St) (aC:B aP) (H:aT) (k:C),@fD (live (.ref m) l) (e0 (.ref m) l) (λ x aF J=>(dh false [5] x aF).bind λ dG=>bS ac (runN ac (z+36)) zp dG J) (ks.map E) (gu a aV aQ i (some (.cj p)) o5 bN bm bK bB) n=some (.f5 (.tup [E k,E (j+1),E (gv R aO (af R i).nm (af R i).aM).length,.cj f3]),J)→ba aC k (dM W (af R i).ah ((af R i).ah-aO))→aO<c→j∈gv R aO (af R i).nm (af R i).aM→b0 a h T (b+400*c) J aC H→X)→X:=by
 induction c with
 |zero=>exact λ{d b p f3 aO j ks n bX aI o5 bN bm} hc fK go hm hs=>nomatch hs
 |succ c aZ=>
  intro d b p f3 aO j ks n bX aI o5 bN bm hc fK go hm hs a3 f
  refine d1.sA (bE:=(pT (d+1) c).map (dM W (af R i).ah)) fK λ k fJ dp fx xX=>?_
  subst dp
  have a1:=oS ((Rw c d).symm.trans hc)
  have hl:(af R i).ah-d=c:=by rw[←a1,Ri]
  have Ev:bX.length<400000:=cn (a' go.le (d2 ..)) a3
  refine UA (z:=z) (p:=p) (aV:=aV) (aQ:=aQ) (bN:=bN) (bm:=bm) (bK:=bK) (bB:=bB) (g7.go go) (r4.go go) hx go.good ay (a1▸iF ..) fx Ev λ ao cL bJ gy mA b8 m9 Nj=>?_
  have Vv:iu R i d=gv R c (af R i).nm (af R i).aM:=an (λ l=>gv R l (af R i).nm (af R i).aM) hl
  have pb:pp R i d=hi R c (af R i).nm:=an (λ l=>hi R l (af R i).nm) hl
  rw[Vv,pb]at m9 Nj
  have dq:=de go.good hm
  have jL:=go.trans b8
  cases cl:gv R c (af R i).nm (af R i).aM with
  |cons fS r=>
   have L:=lk (Bc cl) hs
   cases L
   exact f ao cL bJ k (K' dq (m9 _ _ cl)) ((by rw[←hl,r9 (a1▸iF ..)]:d=(af R i).ah-c)▸b8.eS fx) (qU c) (cl▸.head _) (jL.mono (fA (iF 400 (400*c)) b))
  |nil=>
   exact aZ (d:=d+1) (b:=b+400) (o5:=some (E k)) (bN:=gy) (bm:=mA) ((jA c d).symm.trans hc) (xX.more λ q=>b8.eS q) jL (b8.a6 hm).1 ((x5 cl).symm.trans hs) (pt (k:=400) (b:=T.length+b)▸a3) λ J aC H ct aB cO eD dH g2=>
    f J aC H ct (fc dq (Nj cl) aB) cO (pX eD) dH (g2.mono (dg pt))
theorem DT{l:B D}(e:n[m]? =some (.li l)):uw n (.ref m) (.ii 1)=some (l.drop 1):=an (sT λ l=>some (l.drop 1)) e
theorem aaF(ag:c8 a h T W al aU R)(ak:j0 a h T W aU R F)(hx:qO R F)(M:Good a h n){aO:C}(ay:i<R.length)(hs:scan R (af R i).nm (af R i).aM (af R i).ah false=some (aO,j,p))(a3:T.length<300000)
  (f:∀(J:St) (aC:B aP) (H:aT) (k:C),runN ac (z+37) 48 [.ref (a .eH),E (66+(af R i).ah),E (i+1)] n=some (.tup [E k,E (j+1),E (gv R aO (af R i).nm (af R i).aM).length,.cj p],J)→ba aC k (dM W (af R i).ah ((af R i).ah-aO))→aO< (af R i).ah→j∈gv R aO (af R i).nm (af R i).aM→b0 a h T 1300 J aC H→X):X:=by
 have hW:=ag.eW _ (h3 (iM ay))
 refine OS (z:=z+27) ag M (l:=(af R i).ah) (pW hW.1) (fh a3 (aE rfl)) λ eU aa bX aI aw d' cW=>?_
 refine Kh (z:=z+34) (ag.go cW) cW.good hW.1 d' λ m ao bJ ks aB b8 hm cl fK=>?_
 rw[Ce]at fK
 refine d1.sA (bE:=(pT 1 (af R i).ah).map (dM W (af R i).ah)) fK λ eU fJ dp _ Og=>?_
 subst dp
 have sF:=cW.trans b8
 have en:=b0.start sF.bT sF.good (.li (fJ.map E))
 have uP:T.length+(3+0+0)+400*(af R i).ah<400000:=e' (r6 (nI a3 3) (gU 400 hW.1)) (aE rfl)
 refine bm_loop (z:=z) (m:=ao.length) (l:=fJ.map E) (aV:=some (E (66+(af R i).ah))) (aQ:=some (E (i+1))) (bK:=none) (bB:=none) (o5:=none) (bN:=none) (bm:=none) ag ak hx ay (af R i).ah (d:=1) rfl Og (sF.trans en.1) en.2 hs uP λ J aC H k bZ j8 pm eh fX=>?_
 have xn:(fJ.map E).length≤100000:=by rw[cG,Og.len,cG,Q3];exact a' hW.1 (aE rfl)
 exact f J aC H k (cN (z+36) 48 [D.ref (a aN.eH),E (66+(af R i).ah),E (i+1)] n rfl rfl _ (ag.mc M) _ ((ag.aM.at_ M).1) _ (ag.qo M ay) _ (ag.zA M) _ (ag.BP M) _ (ag.mc M) _ _ aw _ _ aB _ (DT (de b8.good hm)) _ (ix (de en.1.good en.2)) xn _ _ bZ) j8 pm eh (fX.mono (a' (fA (gU 400 hW.1) _) (aE rfl)))
end
end Mine
end
section
namespace Mine
variable{c i j l x s k:C}{xs:B D}{O:B (C×ap×C)}{e:C×ap×C}
section
variable{a:bH}{h:aT}{n:St}{T:B aP}{z:C}{W:cw}{aU:C→ap}{R:B b5}{al:B (am×D)}{F:C→C}{X:Prop}
theorem il.same(I:il R c)(ay:i<R.length)(bt:j<R.length)(aw:(af R i).ah=(af R j).ah)(aB:(af R i).nm=(af R j).nm)(bZ:(af R i).aM=(af R j).aM):i=j:=
 (B' (l:=R.map iy) (by rw[cG];exact ay) I.uniq).mp ((i8 (iM ay)).trans (BZ ((i8 (iM bt)).trans (an some (by unfold iy;rw[aw,aB,bZ])))))
theorem Ww{nm aM:C}(I:il R c):(gv R l nm aM).length≤1:=
 Ro λ h=>absurd ((B' (l:=gv R l nm aM) (i:=0) (j:=1) (mR h) ((wc.filter _).filter _)).mp ((h2 (mR h)).trans (BZ ((h2 h).trans (an some
  (have p:=rv.mp (yF h);have q:=rv.mp (yF (mR h));I.same p.1 q.1 (p.2.1.trans q.2.1.symm) (p.2.2.1.trans q.2.2.1.symm) (p.2.2.2.trans q.2.2.2.symm))))))) Cr
@[elab_as_elim] theorem WD{ak:C→Prop}(aA:x=2+128*s∨x=6+128*s)(hs:s≤1)(rF:ak 2)(gk:ak 6)(fT:ak 130)(eM:ak 134):ak x:=
 ro (ak:=λ s=>(x=2+128*s∨x=6+128*s)→ak x) hs (λ aA=>aA.elim (λ e=>e▸rF) λ e=>e▸gk) (λ aA=>aA.elim (λ e=>e▸fT) λ e=>e▸eM) aA
theorem K8(aA:x=2+128*s∨x=6+128*s)(hs:s≤1):fG .band (E x) (.ii 2)=some (.ii 2)∧fG .band (E x) (.ii 1)=some (.ii 0)∧fG .band (E x) (.ii 16)=some (.ii 0)∧fG .band (E x) (.ii 8)=some (.ii 0):=
 WD (ak:=λ x=>fG .band (E x) (.ii 2)=some (.ii 2)∧fG .band (E x) (.ii 1)=some (.ii 0)∧fG .band (E x) (.ii 16)=some (.ii 0)∧fG .band (E x) (.ii 8)=some (.ii 0)) aA hs ⟨rfl,rfl,rfl,rfl⟩ ⟨rfl,rfl,rfl,rfl⟩ ⟨rfl,rfl,rfl,rfl⟩ ⟨rfl,rfl,rfl,rfl⟩
theorem abG(ag:c8 a h T W al aU R)(ak:j0 a h T W aU R F)(hx:qO R F)(M:Good a h n){aO len:C}{p:av}(ay:i<R.length)(bt:j<R.length)(e5:aO< (af R i).ah)(n5:(af R j).ah=aO)(XT:(af R j).nm=(af R i).nm)(q:ba T k (dM W (af R i).ah ((af R i).ah-aO)))(i2:len≤1)(a3:T.length<400000)
  (f:∀(J:St) (aC:B aP) (H:aT),runN ac (z+36) 47 [.ref (a .eH),.ref (a (.bl i)),.ref (a (.bl j)),.tup [E k,E (j+1),E len,.cj p]] n=some (.ii 0,J)→b0 a h T 24 J aC H→X):X:=by
 have hF:=ag.eW _ (h3 (iM ay))
 have adm:=ag.eW _ (h3 (iM bt))
 have b:=K8 (hx j bt) adm.2.2
 have pb:=r9 (h4 e5)
 have a1:=nJ (af R i).ah aO
 have cp:=N7 (aU:=aU) ag.iR (r:=af R i) (bw:=af R j) hF.1 a1 (n5.trans pb.symm) XT (ag.lH (af R i).nm).1
 have q:ba T k (gY (66+aO) (W.dK (af R i).ah ((af R i).ah-aO))):=by unfold dM at q;rwa [pb]at q
 refine(ak i ay).at_ M λ _ _ _ gO _ SR=>?_
 refine(ak j bt).at_ M λ _ _ _ Fb _ wv=>?_
 refine OZ (z:=z) ag ak M (l:=aO) (j:=j) (k:=k) (bE:=W.dK (af R i).ah ((af R i).ah-aO)) (e' e5 (ls hF.1)) bt (ag.iR.lD hF.1 a1) q (cp.symm▸a' (FY (aU:=aU) ag.iR hF.1 (ag.lH (af R i).nm)).2.1 (aE rfl)) (e' (nI a3 24) (aE rfl)) λ dr J aC H e cO go=>?_
 refine((ak.go go) i ay).at_ go.good λ _ _ _ Ni _ Js=>?_
 refine((ak.go go) j bt).at_ go.good λ _ _ _ aaV _ SS=>?_
 have cz:cY .eq (.ss [(af R i).nm]) (.ss [70,105,110,97,108,105,122,101]) n=some false:=hF.2.1.elim (λ L=>by rw[L];rfl) λ L=>by rw[L];rfl
 exact f J aC H (cN (z+35) 47 [D.ref (a aN.eH),D.ref (a (aN.bl i)),D.ref (a (aN.bl j)),D.tup [E k,E (j+1),E len,D.cj p]] n rfl rfl _ (SR gO.nZ) _ cz _ rfl _ (iK (nV (y:=1)) (r7.mpr i2)) _ (wv Fb.f8) _ b.1 _ rfl _ (wv Fb.f8) _ b.2.1 _ rfl _ (wv Fb.f8) _ b.2.2.1 _ rfl _ (ag.mc M) _ rfl _ rfl _ _ e _ rfl _ (Js Ni.zL) _ ((rfl:cY .ne (E 0) (.ii 0) J=some false)) _ (SS aaV.uu) _ ((rfl:cY .ne (E 0) (.ii 0) J=some false)) _ (Js Ni.uu) _ ((rfl:cY .ne (E 0) (.ii 0) J=some false))) go
noncomputable def es(T:B aP):B D→B (C×ap×C)→Prop
 | [],[]=>True
 |x::xs,e::O=>(∃k,x= .tup [E e.1,E k,E e.2.2]∧ba T k e.2.1)∧es T xs O
 |_,_=>False
noncomputable def iN(e:C×ap×C)(k:C):D:=.tup [E e.1,E k,E e.2.2]
@[elab_as_elim] theorem es.b7{ak:B D→B (C×ap×C)→Prop}(z:ak [] [])(c:∀k e xs O,ba T k e.2.1→es T xs O→ak xs O→ak (iN e k::xs) (e::O)):∀{O:B (C×ap×C)} {xs:B D},es T xs O→ak xs O
 | [],[],_=>z
 |e::O,x::xs,⟨⟨k,L,q⟩,r⟩=>L▸c k e xs O q r (es.b7 z c r)
theorem es.more{aC:B aP}(m:∀{k:C} {t:ap},ba T k t→ba aC k t)(I:es T xs O):es aC xs O:=I.b7 trivial λ k _ _ _ q _ r=>⟨⟨k,rfl,m q⟩,r⟩
theorem es.len(I:es T xs O):xs.length=O.length:=I.b7 rfl λ _ _ _ _ _ _ r=>an l2 r
theorem es.add(q:ba T k e.2.1)(I:es T xs O):es T (xs++[iN e k]) (O++[e]):=I.b7 (ak:=λ xs O=>es T (xs++[iN e k]) (O++[e])) ⟨⟨k,rfl,q⟩,trivial⟩ λ k _ _ _ q _ r=>⟨⟨k,rfl,q⟩,r⟩
theorem YU{f:C×ap×C}{ct:C}(cy:T.Nodup)(q:ba T k e.2.1)(ep:ba T ct f.2.1)(aa2:¬(f.1=e.1∧f.2.1=e.2.1∧f.2.2=e.2.2)):fI n 2 (iN f ct) (iN e k)=false:=rX.mpr λ L=>by
 have L:(decide ((f.1:am)=e.1)&&(decide ((ct:am)=k)&&(decide ((f.2.2:am)=e.2.2)&&true)))=true:=L
 have d4:=dI.mp L
 have d5:=dI.mp d4.2
 have dp:=tK (gi d5.1)
 exact aa2 ⟨tK (gi d4.1),(dp▸ep).a6 q,tK (gi (dI.mp d5.2).1)⟩
theorem es.eK(I:es T xs O):xs.all (Mine.eK n 2)=true:=I.b7 rfl λ _ _ _ _ _ _ r=>r
theorem es.abE(cy:T.Nodup)(q:ba T k e.2.1)(I:es T xs O):(∀x∈O,¬(x.1=e.1∧x.2.1=e.2.1∧x.2.2=e.2.2))→(xs.any λ x=>fI n 2 x (iN e k))=false:=
 I.b7 (ak:=λ xs O=>(∀x∈O,¬(x.1=e.1∧x.2.1=e.2.1∧x.2.2=e.2.2))→(xs.any λ x=>fI n 2 x (iN e k))=false) (λ _=>rfl) λ ct f xs O ep _ r ne=>Qs.mpr ⟨YU cy q ep (ne f (.head _)),r λ x m=>ne x (.tail _ m)⟩
theorem abs{m:C}{v:D}(e:n[m]? =some (.li xs))(o:xs.all (eK n 2)=true)(c3:eK n 2 v=true)(f:(xs.any λ x=>fI n 2 x v)=false):cY .my v (.ref m) n=some true:=
 (an (λ o:Y a0=>qV (!·) (match o with|some (.li xs)=>xe n v xs|some (.cq O)=>jO (λ i=>some (O.lookup i).isSome) v|_=>none)) e).trans (an (qV (!·)) ((if_pos (dI.mpr ⟨o,c3⟩)).trans (an some f)))
theorem L8{e1:C}(M:Good a h n)(bT:c6 a h T)(jU:d7 n (.ref (a .store)) 36=some (.ref (a .types)))(tf:dd n (.ref (a .types)) (E e1)=some (.ref (a (.ty l))))(lS:d7 n (.ref (a (.ty l))) 19=some (.ref (a (.cM l))))(dj:h (.cM l)=some (.li xs))(im:es T xs O)(q:ba T k e.2.1)(hl:O.length<900)(ne:∀x∈O,¬(x.1=e.1∧x.2.1=e.2.1∧x.2.2=e.2.2))
  (f:∀J,runN ac (z+2) 36 [.ref (a .store),E e1,E e.1,E k,E e.2.2] n=some (.nn,J)→Good a (up h (.cM l) (some (.li (xs++[iN e k])))) J→X):X:=
 bT.b7 λ _ _ _ _ I=>M.l9 (v:=iN e k) dj (im.len▸fh hl (aE rfl)) λ J ez dF=>by
  have at_:=M.at_ _ _ dj
  have hL:runN ac (z+1) 35 [.ref (a (.cM l)),iN e k] n=some (.nn,J):=(cN z 35 [D.ref (a (aN.cM l)),iN e k] n rfl rfl _ (abs at_ im.eK rfl (im.abE I.nodup q ne)) (hQ at_) _ ez)
  exact f J (cN (z+1) 36 [D.ref (a aN.store),E e1,E e.fst,E k,E e.snd.snd] n rfl rfl _ jU _ tf _ lS _ _ hL) dF
end
end Mine
end
section
namespace Mine
variable{e:C×ap×C}{I:C→B (C×ap×C)}{c aO i j:C}{p:av}{xs:B D}{O:B (ap×C)}
section
variable{T:B aP}{W:cw}{R:B b5}{X:Prop}
structure nD(W:cw)(R:B b5)(I:C→B (C×ap×C))(c:C):Prop where
 each:∀l,l<4→∀e∈I l,(e.2.1= .b2 34∧e.2.2=900)∨∃r,r<R.length∧e.2.2=r+1∧(af R r).ah<l∧e.2.1=dM W l (l- (af R r).ah)
 dist:∀l,l<4→∀m,(((I l).filter λ e=>e.1==m&&e.2.2 != 900).map λ e=>e.2.2).Nodup
 cnt:∀l,l<4→∀m,((I l).filter λ e=>e.1==m&&e.2.2 != 900).length≤l
 len:∀l,l<4→(I l).length≤20+3*c
noncomputable def ho(W:cw)(R:B b5)(I:C→B (C×ap×C))(i aO j:C)(p:av):B (ap×C):=
 (if p=true then [(dM W (af R i).ah ((af R i).ah-aO),j+1)]else [])++((I aO).filter λ e=>e.1==j+1&&e.2.2 != 900).map λ e=>(e.2.1.sub (W.dK (af R i).ah ((af R i).ah-aO)),e.2.2)
theorem EW(K:W.ok){ae:C}(cC:ae≤3){d e:C}(LI:d+e≤ae):(dM W (ae-d) e).sub (W.dK ae d)=dM W ae (d+e):=by
 unfold dM
 rw[WR,JC K cC (a' (d2 ..) LI) LI,Ib]
theorem AD{m:C}{l:B (C×ap×C)}(h:e∈l.filter λ e=>e.1==m&&e.2.2 != 900):e∈l∧e.1=m∧e.2.2≠900:=
 have p:=oP.mp h;have q:=dI.mp p.2;⟨p.1,eq_of_beq q.1,p8.mp q.2⟩
theorem nD.own(ok:nD W R I c)(h:aO<4)(m:e∈I aO)(z:e.2.2≠900):∃r,r<R.length∧e.2.2=r+1∧(af R r).ah<aO∧e.2.1=dM W aO (aO- (af R r).ah):=(ok.each aO h e m).elim (λ L=>absurd L.2 z) id
theorem Fw(K:W.ok)(ok:nD W R I c)(cC:(af R i).ah≤3)(e5:aO< (af R i).ah)(bt:j<R.length)(n5:(af R j).ah=aO):∀x∈ho W R I i aO j p,∃r,r<R.length∧x.2=r+1∧(af R r).ah< (af R i).ah∧x.1=dM W (af R i).ah ((af R i).ah- (af R r).ah):=λ x aA=>
 (nG.mp aA).elim
  (λ aA=>match p,aA with
   |true,aA=>jz.mp aA▸⟨j,bt,rfl,n5.symm▸e5,n5.symm▸rfl⟩
   |false,aA=>nomatch(aA:x∈ []))
  λ aA=>(hu.mp aA).elim λ e L=>L.2▸(ok.own (e' e5 (ls cC)) (AD L.1).1 (AD L.1).2.2).elim λ r q=>⟨r,q.1,q.2.1,fh q.2.2.1 e5,by
   have s:=Ru (h4 e5) (h4 q.2.2.1)
   have t:=EW K cC (d:=(af R i).ah-aO) (e:=aO- (af R r).ah) (s▸nJ ..)
   rw[r9 (h4 e5),s]at t
   exact(an (ap.sub _) q.2.2.2).trans t⟩
theorem NE(ok:nD W R I c)(e5:aO<4)(n5:(af R j).ah=aO):((ho W R I i aO j p).map λ x=>x.2).Nodup:=by
 have nd:=ok.dist aO e5 (j+1)
 have e:(((I aO).filter λ e=>e.1==j+1&&e.2.2 != 900).map λ e=>(e.2.1.sub (W.dK (af R i).ah ((af R i).ah-aO)),e.2.2)).map (λ x=>x.2)=((I aO).filter λ e=>e.1==j+1&&e.2.2 != 900).map λ e=>e.2.2:=tQ
 cases p with
 |false=>exact e▸nd
 |true=>exact nH.mpr ⟨λ m=>(hu.mp (e▸m)).elim λ x L=>(ok.own e5 (AD L.1).1 (AD L.1).2.2).elim λ r q=>mS q.2.2.1 (oS (q.2.1.symm.trans L.2)▸n5),e▸nd⟩
theorem NG(ok:nD W R I c)(e5:aO<4):(ho W R I i aO j p).length≤aO+1:=by
 have k:=ok.cnt aO e5 (j+1)
 rw[←cG (f:=λ e:C×ap×C=>(e.2.1.sub (W.dK (af R i).ah ((af R i).ah-aO)),e.2.2))]at k
 cases p with
 |false=>exact ls k
 |true=>exact gq k
noncomputable def mI(R:B b5)(I:C→B (C×ap×C))(i:C)(d3:B (ap×C)):C→B (C×ap×C):=λ l=>if l=(af R i).ah then I l++d3.map λ x=>(i+1,x.1,x.2)else I l
theorem tu{l:C}{d3:B (ap×C)}(P:B (C×ap×C)→Prop)(y:l=(af R i).ah→P (I l)→P (I l++d3.map λ x=>(i+1,x.1,x.2)))(z:P (I l)):P (mI R I i d3 l):=
 (f9 (l=(af R i).ah)).elim (λ e=>(an P (if_pos e)).mpr (y e z)) λ e=>(an P (if_neg e)).mpr z
theorem PR(K:W.ok)(ok:nD W R I c)(cC:(af R i).ah≤3)(e5:aO< (af R i).ah)(bt:j<R.length)(n5:(af R j).ah=aO)(fQ:R.length≤16)(rQ:∀e∈I (af R i).ah,e.1=i+1→e.2.2=900):nD W R (mI R I i (ho W R I i aO j p)) (c+1):=by
 have uJ:=e' e5 (ls cC)
 have ne:=Fw (p:=p) K ok cC e5 bt n5
 have nd:=NE (W:=W) (i:=i) (p:=p) ok uJ n5
 have nl:=NG (W:=W) (R:=R) (i:=i) (j:=j) (p:=p) ok uJ
 have Wp:((ho W R I i aO j p).map λ x=>(i+1,x.1,x.2)).filter (λ e=>e.1==i+1&&e.2.2 != 900)=(ho W R I i aO j p).map λ x=>(i+1,x.1,x.2):=B8.mpr λ e b3=>(hu.mp b3).elim λ x L=>L.2▸(ne x L.1).elim λ r q=>dI.mpr ⟨lE (i+1),p8.mpr (mS (q.2.1▸cn (a' q.1 fQ) (aE rfl)))⟩
 have Wo:∀{m},m≠i+1→((ho W R I i aO j p).map λ x=>(i+1,x.1,x.2)).filter (λ e=>e.1==m&&e.2.2 != 900)=[]:=λ z=>tO.mpr λ e b3 y=>(hu.mp b3).elim λ x L=>z ((eq_of_beq (dI.mp y).1).symm.trans (an Ie L.2).symm)
 have Wq:(I (af R i).ah).filter (λ e=>e.1==i+1&&e.2.2 != 900)=[]:=tO.mpr λ e b3 y=>p8.mp (dI.mp y).2 (rQ e b3 (eq_of_beq (dI.mp y).1))
 have zN:∀{l m},l=(af R i).ah→(m=i+1→(I l++(ho W R I i aO j p).map λ x=>(i+1,x.1,x.2)).filter (λ e=>e.1==m&&e.2.2 != 900)=(ho W R I i aO j p).map λ x=>(i+1,x.1,x.2))∧(m≠i+1→(I l++(ho W R I i aO j p).map λ x=>(i+1,x.1,x.2)).filter (λ e=>e.1==m&&e.2.2 != 900)=(I l).filter λ e=>e.1==m&&e.2.2 != 900):=λ L=>⟨λ y=>by rw[r3,y,Wp,L,Wq,H4],λ y=>by rw[r3,Wo y,eX]⟩
 exact{
  each:=λ l hl=>tu (λ cf=>∀e∈cf,(e.2.1= .b2 34∧e.2.2=900)∨∃r,r<R.length∧e.2.2=r+1∧(af R r).ah<l∧e.2.1=dM W l (l- (af R r).ah)) (λ L k e b3=>(nG.mp b3).elim (k e) λ b3=>(hu.mp b3).elim λ x w=>w.2▸.inr (L▸ne x w.1)) (ok.each l hl)
  dist:=λ l hl m=>tu (λ cf=>((cf.filter λ e=>e.1==m&&e.2.2 != 900).map λ e=>e.2.2).Nodup) (λ L k=>(f9 (m=i+1)).elim (λ y=>by rw[(zN L).1 y,tQ];exact nd) λ y=>by rw[(zN L).2 y];exact k) (ok.dist l hl m)
  cnt:=λ l hl m=>tu (λ cf=>(cf.filter λ e=>e.1==m&&e.2.2 != 900).length≤l) (λ L k=>(f9 (m=i+1)).elim (λ y=>by rw[(zN L).1 y,cG];exact a' nl (L▸e5)) λ y=>by rw[(zN L).2 y];exact k) (ok.cnt l hl m)
  len:=λ l hl=>tu (λ cf=>cf.length≤20+3*(c+1)) (λ L _=>by rw[fg,cG];exact(hv (ok.len l hl) (a' nl (a' e5 cC)):_≤20+3*c+3)) (a' (ok.len l hl) (d2 _ 3))}
noncomputable def gV(T:B aP):B D→B (ap×C)→Prop
 | [],[]=>True
 |x::xs,e::O=>(∃k,x= .tup [E k,E e.2]∧ba T k e.1)∧gV T xs O
 |_,_=>False
@[elab_as_elim] theorem gV.b7{ak:B D→B (ap×C)→Prop}(z:ak [] [])(c:∀k e xs O,ba T k e.1→gV T xs O→ak xs O→ak (.tup [E k,E e.2]::xs) (e::O)):∀{O:B (ap×C)} {xs:B D},gV T xs O→ak xs O
 | [],[],_=>z
 |e::O,x::xs,⟨⟨k,L,q⟩,r⟩=>L▸c k e xs O q r (gV.b7 z c r)
theorem gV.more{aC:B aP}(m:∀{k:C} {t:ap},ba T k t→ba aC k t)(I:gV T xs O):gV aC xs O:=I.b7 trivial λ k _ _ _ q _ r=>⟨⟨k,rfl,m q⟩,r⟩
theorem gV.len(I:gV T xs O):xs.length=O.length:=I.b7 rfl λ _ _ _ _ _ _ r=>an l2 r
theorem gV.add{e:ap×C}{k:C}(q:ba T k e.1)(I:gV T xs O):gV T (xs++[.tup [E k,E e.2]]) (O++[e]):=I.b7 (ak:=λ xs O=>gV T (xs++[D.tup [E k,E e.2]]) (O++[e])) ⟨⟨k,rfl,q⟩,trivial⟩ λ k _ _ _ q _ r=>⟨⟨k,rfl,q⟩,r⟩
end
end Mine
end
section
namespace Mine
variable{xs:B D}{e:C×ap×C}{p:av}{ae aO j eU m len:C}{aV aQ bp bB:Y D}
section
variable{a:bH}{h:aT}{n:St}{T:B aP}{z:C}{W:cw}{aU:C→ap}{R:B b5}{al:B (am×D)}{F:C→C}{X:Prop}
noncomputable def vE:bk:=(.cons (.b4 (.and (.cons (.cmp .eq (.v 6) (.aq (.v 3) (.ii 1))) (.cons (.g4 (.e (.call 42 (.cons (.at (.at (.v 0) 63) 56) (.cons (.v 7) .nil))))) .nil))) (.cons (.ex (.append (.v 5) (.tup (.cons (.call 26 (.cons (.at (.v 0) 35) (.cons (.v 7) (.cons (.call 25 (.cons (.at (.v 0) 35) (.cons (.aq (.v 3) (.ii 0)) .nil))) (.cons (.tup .nil) .nil))))) (.cons (.v 8) .nil))))) .nil) (.nil)) .nil)
theorem es.sA{O:B (C×ap×C)}(I:es T xs (e::O))(f:∀k tD,xs=iN e k::tD→ba T k e.2.1→es T tD O→X):X:=match xs,I with
 |x::xs,⟨⟨k,L,q⟩,r⟩=>f k xs (L▸rfl) q r
theorem es.AK(I:es T xs []):xs=[]:=match xs,I with
 | [],_=>rfl
noncomputable def eV(eU j len:C)(p:av):D:=.tup [E eU,E (j+1),E len,.cj p]
noncomputable def hq(a:bH)(aV aQ:Y D)(v:D)(bp:Y D)(m:C)(bN bm eJ bB:Y D):aX:=[some (.ref (a .eH)),aV,aQ,some v,bp,some (.ref m),bN,bm,eJ,bB]
noncomputable def xP(W:cw)(ae aO:C)(e:C×ap×C):ap×Nat:=(e.2.1.sub (W.dK ae (ae-aO)),e.2.2)
noncomputable def own(j:C)(e:C×ap×C):Bool:=e.1==j+1&&e.2.2 != 900
theorem Wr{α c4:Type}{p:α→av}{g:α→c4}{e:α}{O:B α}{l:B c4}:l++(if p e=true then [g e]else [])++(O.filter p).map g=l++((e::O).filter p).map g:=by
 cases h:p e with
 |true=>rw[B7 h,if_pos rfl];exact(mP ..).symm
 |false=>rw[B6 (rX.mp h),if_neg mM,eX]
noncomputable def HD(W:cw)(R:B b5)(aO:C)(e:C×ap×C):Prop:=(e.2.1= .b2 34∧e.2.2=900)∨∃r,r<R.length∧e.2.2=r+1∧(af R r).ah<aO∧e.2.1=dM W aO (aO- (af R r).ah)
theorem aew{k b:C}{aI:aT}{bX:B aP}{acc:B D}{d3:B (ap×C)}(g7:c8 a h T W al aU R)(cC:ae≤3)(e5:aO<ae)(fx:ba T eU (dM W ae (ae-aO)))(kB:h (.a6 m)=none)(q:ba T k e.2.1)(nY:HD W R aO e)(go:b0 a h T b n bX aI)(hm:aI (.a6 m)=some (.li acc))(pB:gV bX acc d3)(re:acc.length<900)(a3:T.length+b<400000)(fQ:R.length≤16)
  (f:∀(ao:St) (cL:B aP) (bJ:aT) (y9:B D),bS ac (runN ac (z+33)) vE (hq a aV aQ (eV eU j len p) bp m (some (E e.1)) (some (E k)) (some (E e.2.2)) bB) n=some (.br (hq a aV aQ (eV eU j len p) bp m (some (E e.1)) (some (E k)) (some (E e.2.2)) bB),ao)→b0 a h T (b+24) ao cL bJ→bJ (.a6 m)=some (.li y9)→gV cL y9 (d3++if own j e=true then [xP W ae aO e]else [])→y9.length≤acc.length+1→X):X:=by
 have ag:=g7.go go
 have d':=go.eS q
 have jn:dd n (eV eU j len p) (.ii 1)=some (E (j+1)):=rfl
 have YD:dd n (eV eU j len p) (.ii 0)=some (E eU):=rfl
 have no:own j e=false→gV bX acc (d3++if own j e=true then [xP W ae aO e]else []):=λ L=>by rw[L];exact(eX d3).symm▸pB
 cases c:decide (e.1=j+1)with
 |false=>
  have cz:=(qd (n:=n) (x:=e.1) (y:=j+1)).trans (an some c)
  exact f n bX aI acc (dk (z+33) vE (hq a aV aQ (eV eU j len p) bp m (some (E e.fst)) (some (E k)) (some (E e.snd.snd)) bB) n _ jn _ cz) (go.mono (d2 ..)) hm (no (an (· &&e.2.2 != 900) (ma.mpr (of_decide_eq_false c)))) (h5 _)
 |true=>
  have cz:=(qd (n:=n) (x:=e.1) (y:=j+1)).trans (an some c)
  refine nY.elim (λ t=>?_) λ⟨r,fU,gP,ot,te⟩=>?_
  ·have d':ba bX k (.b2 34):=t.1▸d'
   have EB:=L6 (z:=z+29) ag go.good d'.2
   exact f n bX aI acc (dk (z+33) vE (hq a aV aQ (eV eU j len p) bp m (some (E e.fst)) (some (E k)) (some (E e.snd.snd)) bB) n _ jn _ cz _ (ag.zA go.good) _ (ag.BP go.good) _ _ EB _ ((rfl:ie n (.cj (decide (34=34)))=some true))) (go.mono (d2 ..)) hm (no ((an (λ x=>e.1==j+1&&x != 900) t.2).trans (Qp _))) (h5 _)
  ·have d':ba bX k (dM W aO (aO- (af R r).ah)):=te▸d'
   refine v' (ag.iR.lD (ae:=aO) (h4 (e' e5 cC)) (d:=aO- (af R r).ah) (nJ ..)) (λ ag8 um ahi ag7 abV=>?_) d'
   refine v' (ag.iR.lD cC (d:=ae-aO) (nJ ..)) (λ Zx VB ac5 Zv ahf=>?_) (go.eS fx)
   have EB:=L6 (z:=z+29) ag go.good um
   have tt:ie n (.cj (decide (66+(aO- (aO- (af R r).ah))=34)))=some false:=an some (j3 (Cn (e' (aE rfl:34<66) (d2 ..))))
   have oZ:=JD (z:=z+31) ag.bT go.good VB
   have s:=Ru (h4 e5) (h4 ot)
   have hs:=s▸nJ ae (af R r).ah
   have mp:=EW ag.iR cC (d:=ae-aO) (e:=aO- (af R r).ah) hs
   rw[r9 (h4 e5)]at mp
   refine Ko (z:=z) (k:=k) (t:=dM W aO (aO- (af R r).ah)) (ks:=Zx) (l:=W.dK ae (ae-aO)) ag.bT go.good d' ac5 Zv (mp.symm▸a' (u0 ag.iR cC hs).2.1 (aE rfl)) (cn (hb go.le 24) (e' (nI a3 24) (aE rfl))) λ fk ao cL bJ q' xX b8=>?_
   have iv:=b8.a6 hm
   have jL:=(go.trans b8).put (c3:=.li (acc++[.tup [E fk,E e.2.2]])) iv.1 kB
   have Ff:own j e=true:=dI.mpr ⟨jk.mpr (gi c),p8.mpr (mS (gP▸cn (a' fU fQ) (aE rfl)))⟩
   refine f _ cL _ _ (dk (z+33) vE (hq a aV aQ (eV eU j len p) bp m (some (E e.fst)) (some (E k)) (some (E e.snd.snd)) bB) n _ jn _ cz _ (ag.zA go.good) _ (ag.BP go.good) _ _ EB _ tt (hQ (de go.good hm)) _ (ag.zz go.good) _ (ag.zz go.good) _ YD _ _ oZ _ _ q' _ (m0 iv.2 (pG (fh re (aE rfl))))) jL.1 jL.2 ?_ (dg fg)
   rw[if_pos Ff]
   exact(pB.more λ q=>b8.eS q).add (e:=xP W ae aO e) ((an (λ t:ap=>ba cL fk (t.sub (W.dK ae (ae-aO)))) te).mpr xX)
noncomputable def aeu(z:C)(a:bH)(da:aN)(l xs:B D)(env:aX)(n:St):Y (eZ×St):=@fD (live (.ref (a da)) l) (e0 (.ref (a da)) l) (λ x aF J=>(dh true [6,7,8] x aF).bind λ dG=>bS ac (runN ac (z+33)) vE dG J) xs env n
theorem aev{da:aN}{l:B D}(g7:c8 a h T W al aU R)(cC:ae≤3)(e5:aO<ae)(fx:ba T eU (dM W ae (ae-aO)))(w6:gZ da=false)(hl:h da=some (.li l))(kB:h (.a6 m)=none)(fQ:R.length≤16)(O:B (C×ap×C)):∀{xs:B D} {n:St} {bX:B aP} {aI:aT} {acc:B D} {d3:B (ap×C)} {b:C} {bN bm eJ:Y D},es T xs O→(∀e∈O,HD W R aO e)→b0 a h T b n bX aI→aI (.a6 m)=some (.li acc)→gV bX acc d3→acc.length+O.length<900→T.length+b+24*O.length<400000→
  (∀(J:St) (aC:B aP) (H:aT) (lC:B D) (hV gF hE:Y D),aeu z a da l xs (hq a aV aQ (eV eU j len p) bp m bN bm eJ bB) n=some (.br (hq a aV aQ (eV eU j len p) bp m hV gF hE bB),J)→b0 a h T (b+24*O.length) J aC H→H (.a6 m)=some (.li lC)→gV aC lC (d3++(O.filter (own j)).map (xP W ae aO))→X)→X:=by
 induction O with
 |nil=>exact λ{xs n bX aI acc d3 b bN bm eJ} im nY go hm pB re a3 f=>f n bX aI acc bN bm eJ (im.AK▸hg (go.good.at_ _ _ (go.off w6 hl))) go hm ((eX d3).symm▸pB)
 |cons e O aZ=>
  intro xs n bX aI acc d3 b bN bm eJ im nY go hm pB re a3 f
  refine im.sA λ k tD ex q sQ=>?_
  subst ex
  exact aew g7 cC e5 fx kB q (nY e (.head _)) go hm pB (cn (d2 ..) re) (cn (d2 ..) a3) fQ λ ao cL bJ y9 st b8 iv FX C1=>
   aZ sQ (λ e m=>nY e (.tail _ m)) b8 iv FX (cn (a' (hb C1 _) (dg (jA ..))) re) (rx (b:=T.length+b)▸a3) λ J aC H lC hV gF hE aB g2 ia FW=>
    f J aC H lC hV gF hE (fc (go.good.at_ _ _ (go.off w6 hl)) st aB) (g2.mono (dg rx)) ia (Wr (p:=own j) (g:=xP W ae aO)▸FW)
end
end Mine
end
section
namespace Mine
variable{xs:B D}{r:b5}{m:C}{aG:B (C×D)}{g dr j qN hN:C}
section
variable{a:bH}{h:aT}{n:St}{T:B aP}{z:C}{W:cw}{aU:C→ap}{R:B b5}{al:B (am×D)}{F:C→C}{X:Prop}
noncomputable def Bl:bk:=(.cons (.ex (.call 36 (.cons (.at (.v 0) 47) (.cons (.v 1) (.cons (.v 2) (.cons (.v 7) (.cons (.v 8) .nil))))))) .nil)
noncomputable def yb(a:bH)(ae i:C)(aW bp:Y D)(m:C)(bN bm eJ bB:Y D):aX:=[some (.ref (a .eH)),some (E (66+ae)),some (E (i+1)),aW,bp,some (.ref m),bN,bm,eJ,bB]
theorem gV.sA{e:ap×C}{O:B (ap×C)}(I:gV T xs (e::O))(f:∀k tD,xs= .tup [E k,E e.2]::tD→ba T k e.1→gV T tD O→X):X:=match xs,I with
 |x::xs,⟨⟨k,L,q⟩,r⟩=>f k xs (L▸rfl) q r
theorem gV.AK(I:gV T xs []):xs=[]:=match xs,I with
 | [],_=>rfl
theorem ac2{r:aN}(h:pC r=true):r≠ .cM m:=λ e=>nomatch(e▸h:pC (.cM m)=true)
theorem c8.PI(ag:c8 a h T W al aU R)(M:Good a h n){l:C}(hl:l<4):d7 n (.ref (a (.ty l))) 19=some (.ref (a (.cM l))):=let⟨⟨_,er,_,_,_,lS⟩,_⟩:=ag.ty l hl;(fj (M.at_ _ _ er)).trans lS
noncomputable def aex(z m:C)(l xs:B D)(env:aX)(n:St):Y (eZ×St):=@fD (live (.ref m) l) (e0 (.ref m) l) (λ x aF J=>(dh true [7,8] x aF).bind λ dG=>bS ac (runN ac (z+2)) Bl dG J) xs env n
noncomputable def jR(i:C)(x:ap×C):C×ap×Nat:=(i+1,x.1,x.2)
theorem aey{ae i:C}{aW bp bN bB:Y D}{l:B D}(cC:ae<4)(d3:B (ap×C)):∀{xs:B D} {n:St} {aI:aT} {bf:B D} {O:B (C×ap×C)} {bm eJ:Y D},gV T xs d3→c8 a aI T W al aU R→Good a aI n→aI (.cM ae)=some (.li bf)→es T bf O→aI (.a6 m)=some (.li l)→(d3.map λ x=>x.2).Nodup→(∀x∈O,x.1=i+1→∀y∈d3,x.2.2≠y.2)→O.length+d3.length<800→
  (∀(J:St) (H:aT) (kc:B D) (gF hE:Y D),aex z m l xs (yb a ae i aW bp m bN bm eJ bB) n=some (.br (yb a ae i aW bp m bN gF hE bB),J)→Good a H J→H (.cM ae)=some (.li kc)→es T kc (O++d3.map (jR i))→(∀r,r≠ .cM ae→H r=aI r)→c8 a H T W al aU R→X)→X:=by
 induction d3 with
 |nil=>exact λ{xs n aI bf O bm eJ} pB ag M dj im hm nd bo hl f=>f n aI bf bm eJ (pB.AK▸hg (de M hm)) M dj ((eX O).symm▸im) (λ _ _=>rfl) ag
 |cons r d3 aZ=>
  intro xs n aI bf O bm eJ pB ag M dj im hm nd bo hl f
  refine pB.sA λ k tD ex q FW=>?_
  subst ex
  have nd:=nH.mp nd
  refine L8 (z:=z) (e1:=66+ae) (l:=ae) (e:=jR i r) (k:=k) M ag.bT (ag.aM.at_ M).2.1 (ag.yj M cC) (ag.PI M cC) dj im q (cn (d2 ..) (fh hl (aE rfl))) (λ x aA L=>bo x aA L.1 r (.head _) L.2.2) λ aa aw dJ=>?_
  have fq:∀hX,hX≠ .cM ae→(up aI (.cM ae) (some (.li (bf++[iN (jR i r) k])))) hX=aI hX:=λ hX L=>bP _ _ L
  have Qz:=ag.keep (λ hX o k e=>(fq hX (ac2 k)).trans e) (ag.bT.off λ hX o k e=>(fq hX λ L=>nomatch(L▸k:hS (.cM ae)=true)).trans e) λ q=>q
  have st:bS ac (runN ac (z+2)) Bl (yb a ae i aW bp m bN (some (E k)) (some (E r.2)) bB) n=some (.br (yb a ae i aW bp m bN (some (E k)) (some (E r.2)) bB),aa):=(dk (z+2) Bl (yb a ae i aW bp m bN (some (E k)) (some (E r.snd)) bB) n _ (ag.mc M) _ _ aw)
  refine aZ (O:=O++[jR i r]) (bm:=some (E k)) (eJ:=some (E r.2)) FW Qz dJ (cR _ _ _) (im.add (e:=jR i r) q) ((fq _ (a5 rfl)).trans hm) nd.2 (λ x aA L y bI=>(nG.mp aA).elim (λ aA=>bo x aA L y (.tail _ bI)) λ aA w=>nd.1 (hu.mpr ⟨y,bI,w.symm.trans (jz.mp aA▸rfl)⟩)) (cn (dg (by rw[fg];exact jA ..)) hl) λ J H kc gF hE aB dF Xf sQ ab9 oK=>
   f J H kc gF hE (fc (de M hm) st aB) dF Xf (mP O (jR i r) (d3.map (jR i))▸sQ) (λ hX L=>(ab9 hX L).trans (fq hX L)) oK
theorem Oa{O:B (C×D)}{k:C}{v w:D}(h:O.lookup k=some w):(c7 O k v).length=O.length:=by
 unfold c7
 exact(an f' (if_pos (an pY h))).trans (cG ..)
theorem pU.adY{g9:C}(m:pU aG g dr j r qN):pU (c7 aG 8 (E g9)) g dr j r g9:=
 have z:∀{f:C} {v:D},(kj f 8)=false→aG.lookup f=some v→(c7 aG 8 (E g9)).lookup f=some v:=λ L e=>(nk (tV L)).trans e
 ⟨(Oa m.f8).symm▸m.len,z rfl m.DJ,z rfl m.nZ,z rfl m.uu,qy,z rfl m.zK,z rfl m.DK,z rfl m.zL,z rfl m.zJ,z rfl m.zM,z rfl m.KZ⟩
theorem pU.adX(m:pU aG g dr j r qN):pU (c7 aG 29 (.ref hN)) hN dr j r qN:=
 have z:∀{f:C} {v:D},(kj f 29)=false→aG.lookup f=some v→(c7 aG 29 (.ref hN)).lookup f=some v:=λ L e=>(nk (tV L)).trans e
 ⟨(Oa m.DK).symm▸m.len,z rfl m.DJ,z rfl m.nZ,z rfl m.uu,z rfl m.f8,z rfl m.zK,qy,z rfl m.zL,z rfl m.zJ,z rfl m.zM,z rfl m.KZ⟩
theorem aaL(g9:C)(ak:ki a h T W aU j r qN)(M:Good a h n)(f:∀(J:St) (o:a0),lh ac n (.ref (a (.bl j))) 8 (E g9)=some J→Good a (up h (.bl j) (some o)) J→ki a (up h (.bl j) (some o)) T W aU j r g9→X):X:=
 ak.b7 λ aG g dr aw aB bZ dL=>f _ _ (x4 (M.at_ _ _ aw) rfl (fh aB.len (aE rfl))) (M.set aw) ⟨_,g,dr,cR _ _ _,aB.adY,bZ,(bP _ _ (a5 rfl)).trans dL⟩
theorem aaK(ak:ki a h T W aU j r qN)(M:Good a h n)(i1:h (.a6 hN)=some (.li []))(f:∀(J:St) (o:a0),lh ac n (.ref (a (.bl j))) 29 (.ref hN)=some J→Good a (up h (.bl j) (some o)) J→ki a (up h (.bl j) (some o)) T W aU j r qN→X):X:=
 ak.b7 λ aG g dr aw aB bZ dL=>f _ _ (x4 (M.at_ _ _ aw) rfl (fh aB.len (aE rfl))) (M.set aw) ⟨_,hN,dr,cR _ _ _,aB.adX,bZ,(bP _ _ (a5 rfl)).trans i1⟩
structure lW(a:bH)(h:aT)(T:B aP)(W:cw)(al:B (am×D))(aU:C→ap)(R:B b5)(F:C→C)(I:C→B (C×ap×C))(c:C):Prop where
 fR:c8 a h T W al aU R
 bl:j0 a h T W aU R F
 hx:qO R F
 im:∀l,l<4→∃xs,h (.cM l)=some (.li xs)∧es T xs (I l)
 io:nD W R I c
theorem ab4{s:C}(hs:s≤1):kD .bor (E (2+128*s)) (.ii 4)=some (E (6+128*s)):=ro (ak:=λ s=>kD .bor (E (2+128*s)) (.ii 4)=some (E (6+128*s))) hs rfl rfl
noncomputable def kO(F:C→C)(i x:C):C→Nat:=λ j=>if j=i then x else F j
end
end Mine
end
section
namespace Mine
variable{k j len aO:C}{p:av}{aV aQ bp:Y D}{i x:C}
section
variable{a:bH}{h:aT}{n:St}{T:B aP}{z:C}{W:cw}{aU:C→ap}{R:B b5}{al:B (am×D)}{F:C→C}{I:C→B (C×ap×C)}{X:Prop}
structure QG(h:aT)(T:B aP)(H:aT)(aC:B aP)(b i ae:C):Prop where
 ext:∃X,aC=T++X
 le:aC.length≤T.length+b
 off:∀r o,gZ r=false→r≠ .bl i→r≠ .cM ae→h r=some o→H r=some o
theorem c8.but{rI:aN}{H:aT}(ag:c8 a h T W al aU R)(fq:∀r,r≠rI→H r=h r)(c2:pC rI=false)(dW:hS rI=false):c8 a H T W al aU R:=
 ag.keep (λ r o k e=>(fq r λ L=>nomatch(L.symm▸c2:pC r=false).symm.trans k).trans e) (ag.bT.off λ r o k e=>(fq r λ L=>nomatch(L.symm▸dW:hS r=false).symm.trans k).trans e) λ q=>q
noncomputable def Gl:bk:=.cons (.asg 5 (.lst .nil)) (.cons (.b4 (.e (.aq (.v 3) (.ii 3))) (.cons (.ex (.append (.v 5) (.tup (.cons (.aq (.v 3) (.ii 0)) (.cons (.aq (.v 3) (.ii 1)) .nil))))) .nil) (.nil)) .nil)
noncomputable def OR:bk:=.cons (.dc [6,7,8] true (.at (.call 39 (.cons (.at (.v 0) 47) (.cons (.aq (.v 3) (.ii 0)) .nil))) 19) vE) .nil
noncomputable def x6:bk:=.cons (.b4 (.e (.aq (.v 3) (.ii 3))) (.cons (.o3 (.v 9) 8 .bor (.gl [77,70,95,78,69,87,83,76,79,84] (.ii 4))) .nil) (.nil)) .nil
noncomputable def Bd:bk:=.cons (.dc [7,8] true (.v 5) Bl) .nil
theorem adR{ae:C}(bT:c6 a h T)(M:Good a h n)(q:ba T k (dM W ae (ae-aO)))
  (f:∀aa aI acc,bS ac (runN ac z) Gl [some (.ref (a .eH)),aV,aQ,some (eV k j len p),bp,none,none,none,none,none] n=some (.br (hq a aV aQ (eV k j len p) bp n.length none none none none),aa)→b0 a h T 0 aa T aI→aI (.a6 n.length)=some (.li acc)→gV T acc (if p=true then [(dM W ae (ae-aO),j+1)]else [])→acc.length≤1→X):X:=by
 have b2:=b0.start bT M (.li [])
 cases p with
 |false=>exact f _ _ [] (dk z Gl [some (D.ref (a aN.eH)),aV,aQ,some (eV k j len false),bp,none,none,none,none,none] n _ ((rfl:dd (n++[a0.li []]) (eV k j len false) (.ii 3)=some (.cj false))) _ rfl) b2.1 b2.2 trivial (fs _)
 |true=>
  have g1:=b2.1.put (c3:=.li ([]++[.tup [E k,E (j+1)]])) b2.2 (M.fresh (cJ _))
  have s:=de b2.1.good b2.2
  exact f _ _ _ (dk z Gl [some (D.ref (a aN.eH)),aV,aQ,some (eV k j len true),bp,none,none,none,none,none] n _ ((rfl:dd (n++[a0.li []]) (eV k j len true) (.ii 3)=some (.cj true))) _ rfl (hQ s) _ ((rfl:dd (n++[a0.li []]) (eV k j len true) (.ii 0)=some (E k))) _ ((rfl:dd (n++[a0.li []]) (eV k j len true) (.ii 1)=some (E (j+1)))) _ (m0 s (pG (aE rfl)))) g1.1 g1.2 ⟨⟨k,rfl,q⟩,trivial⟩ (cJ _)
theorem adS{m:C}{bN bm eJ:Y D}(ak:ki a h T W aU i (af R i) (F i))(M:Good a h n)(hs:(af R i).aM≤1)(m8:F i=2+128*(af R i).aM)
  (f:∀(bW:St) (cQ:aT),bS ac (runN ac z) x6 (hq a aV aQ (eV k j len p) bp m bN bm eJ (some (.ref (a (.bl i))))) n=some (.br (hq a aV aQ (eV k j len p) bp m bN bm eJ (some (.ref (a (.bl i))))),bW)→Good a cQ bW→ki a cQ T W aU i (af R i) (if p=true then 6+128*(af R i).aM else F i)→(∀r,r≠ .bl i→cQ r=h r)→X):X:=by
 cases p with
 |false=>exact f n h (dk z x6 (hq a aV aQ (eV k j len false) bp m bN bm eJ (some (D.ref (a (aN.bl i))))) n _ ((rfl:dd n (eV k j len false) (.ii 3)=some (.cj false))) _ rfl) M ak λ _ _=>rfl
 |true=>
  exact aaL (6+128*(af R i).aM) ak M λ bW o O d0 r5=>ak.at_ M λ _ _ _ bl _ at_=>
   have Sy:d7 n (.ref (a (.bl i))) 8=some (E (2+128*(af R i).aM)):=(at_ bl.f8).trans (an (λ x=>some (E x)) m8);
   f bW _ (dk z x6 (hq a aV aQ (eV k j len true) bp m bN bm eJ (some (D.ref (a (aN.bl i))))) n _ ((rfl:dd n (eV k j len true) (.ii 3)=some (.cj true))) _ rfl _ Sy _ (ab4 hs) _ O) d0 r5 λ r L=>bP _ _ L
theorem G0{F:C→C}:kO F i x i=x:=if_pos rfl
theorem BA{F:C→C}(h:j≠i):kO F i x j=F j:=if_neg h
theorem No(h:j≠i):aN.bl j≠ .bl i:=λ e=>h (aN.bl.inj e)
theorem Nr(h:j≠i):aN.cM j≠ .cM i:=λ e=>h (aN.cM.inj e)
theorem aeN{c:C}{nd:D}(S:lW a h T W al aU R F I c)(M:Good a h n)(ay:i<R.length)(e5:aO< (af R i).ah)(bt:j∈gv R aO (af R i).nm (af R i).aM)(q:ba T k (dM W (af R i).ah ((af R i).ah-aO)))(rQ:∀e∈I (af R i).ah,e.1=i+1→e.2.2=900)(m8:F i=2+128*(af R i).aM)(hc:c≤20)(a3:T.length<300000)
  (f:∀(J:St) (aC:B aP) (H:aT),runN ac (z+34) 46 [.ref (a .eH),E (66+(af R i).ah),E (i+1),eV k j len p,nd] n=some (.nn,J)→Good a H J→lW a H aC W al aU R (kO F i (if p=true then 6+128*(af R i).aM else F i)) (mI R I i (ho W R I i aO j p)) (c+1)→QG h T H aC 2400 i (af R i).ah→X):X:=by
 have ag:=S.fR
 have hF:=ag.eW _ (h3 (iM ay))
 have fZ:=rv.mp bt
 have uG:=hF.1
 have qn:aO<4:=e' e5 (ls uG)
 have tN:(af R i).ah<4:=pW uG
 have J6:20+3*c≤80:=fA (gU 3 hc) 20
 have kB:h (.a6 n.length)=none:=M.fresh (cJ _)
 refine adR (z:=z+33) (j:=j) (len:=len) (p:=p) (aV:=some (E (66+(af R i).ah))) (aQ:=some (E (i+1))) (bp:=some nd) ag.bT M q λ aa aI acc aw cW hO acM jj=>?_
 have⟨xs,hxs,imx⟩:=S.im aO qn
 have uK:=a' (S.io.len aO qn) J6
 have d4:acc.length+(I aO).length<900:=cn (hv jj uK) (aE rfl)
 have d5:T.length+0+24*(I aO).length<400000:=e' (r6 a3 (gU 24 uK)) (aE rfl)
 refine aev (z:=z) (ae:=(af R i).ah) (aO:=aO) (j:=j) (eU:=k) (m:=n.length) (len:=len) (p:=p) (aV:=some (E (66+(af R i).ah))) (aQ:=some (E (i+1))) (bp:=some nd) (bB:=none) (da:=.cM aO) (l:=xs) (bN:=none) (bm:=none) (eJ:=none) ag uG e5 q rfl hxs kB ag.da (I aO) imx (S.io.each aO qn) cW hO acM d4 d5 λ ao cL bJ lC hV gF hE aB b8 iv FX=>?_
 have N8:gV cL lC (ho W R I i aO j p):=FX
 have pM:=ag.go cW
 have mN:=ag.go b8
 have Ch:=S.bl.go b8
 have NH:=NG (W:=W) (R:=R) (i:=i) (j:=j) (p:=p) S.io qn
 have Fx:=Fw (p:=p) ag.iR S.io uG e5 fZ.1 fZ.2.1
 refine v' (ag.iR.lD uG (d:=(af R i).ah-aO) (nJ ..)) (λ ks um fK xn abV=>?_) (cW.eS q)
 rw[r9 (h4 e5)]at um
 have Vu:bS ac (runN ac (z+33)) OR (hq a (some (E (66+(af R i).ah))) (some (E (i+1))) (eV k j len p) (some nd) n.length none none none none) aa=some (.br (hq a (some (E (66+(af R i).ah))) (some (E (i+1))) (eV k j len p) (some nd) n.length hV gF hE none),ao):=(dk (z+33) OR (hq a (some (E (66+(af R i).ah))) (some (E (i+1))) (eV k j len p) (some nd) (f' n) none none none none) aa _ (pM.mc cW.good) _ ((rfl:dd aa (eV k j len p) (.ii 0)=some (E k))) _ _ (afC (z:=z+30) pM cW.good qn um) _ (pM.PI cW.good qn) _ (ix (cW.good.at_ _ _ (cW.off rfl hxs))) (imx.len▸a' uK (aE rfl)) _ _ aB)
 have Tb:=(K8 (S.hx i ay) hF.2.2).2.2.2
 have lp:=GJ (de b8.good iv)
 have Vx:∀{he},bS ac (runN ac (z+33)) (x6.app Bd) (hq a (some (E (66+(af R i).ah))) (some (E (i+1))) (eV k j len p) (some nd) n.length hV gF hE (some (.ref (a (.bl i))))) ao=he→bS ac (runN ac (z+33)) (.cons (.asg 9 (.aq (.at (.at (.v 0) 47) 15) (.v 2))) (.cons (.b4 (.and (.cons (.e (.v 5)) (.cons (.e (.bin .band (.at (.v 9) 8) (.gl [77,70,95,65,66,83,84,82,65,67,84] (.ii 8)))) .nil))) (.cons (.bad) .nil) (.nil)) (x6.app Bd))) (hq a (some (E (66+(af R i).ah))) (some (E (i+1))) (eV k j len p) (some nd) n.length hV gF hE none) ao=he:=λ e=>
  (Ch i ay).at_ b8.good λ _ _ _ bl _ at_=>by
   have Vt:ci ac (runN ac (z+33)) (.aq (.at (.at (.v 0) 47) 15) (.v 2)) (hq a (some (E (66+(af R i).ah))) (some (E (i+1))) (eV k j len p) (some nd) n.length hV gF hE none) ao=some (.ref (a (.bl i)),ao):=(hI (z+33) ((((ab.v 0).at 47).at 15).aq (ab.v 2)) (hq a (some (E (66+(af R i).ah))) (some (E (i+1))) (eV k j len p) (some nd) (f' n) hV gF hE none) ao _ (mN.mc b8.good) _ ((mN.aM.at_ b8.good).1) _ (mN.qo b8.good ay))
   have t:fr ac (runN ac (z+33)) (.and (.cons (.e (.v 5)) (.cons (.e (.bin .band (.at (.v 9) 8) (.gl [77,70,95,65,66,83,84,82,65,67,84] (.ii 8)))) .nil))) (hq a (some (E (66+(af R i).ah))) (some (E (i+1))) (eV k j len p) (some nd) n.length hV gF hE (some (.ref (a (.bl i))))) ao=some (false,ao):=by
    cases w:lC.isEmpty with
    |true=>rw[w]at lp;exact(jd (z+33) (Mine.T.and (fb.cons (Mine.T.e (ab.v 5)) (fb.cons (Mine.T.e (ab.bin iS.band ((ab.v 9).at 8) (ab.gl [77,70,95,65,66,83,84,82,65,67,84] (D.ii 8)))) fb.nil))) (hq a (some (E (66+(af R i).ah))) (some (E (i+1))) (eV k j len p) (some nd) (f' n) hV gF hE (some (D.ref (a (aN.bl i))))) ao _ lp)
    |false=>rw[w]at lp;exact(jd (z+33) (Mine.T.and (fb.cons (Mine.T.e (ab.v 5)) (fb.cons (Mine.T.e (ab.bin iS.band ((ab.v 9).at 8) (ab.gl [77,70,95,65,66,83,84,82,65,67,84] (D.ii 8)))) fb.nil))) (hq a (some (E (66+(af R i).ah))) (some (E (i+1))) (eV k j len p) (some nd) (f' n) hV gF hE (some (D.ref (a (aN.bl i))))) ao _ lp _ (at_ bl.f8) _ Tb _ ((rfl:ie ao (.ii 0)=some false)))
   exact aR (aR Vt rfl) (aR (aR t (if_neg mM)) e)
 refine adS (z:=z+33) (k:=k) (j:=j) (len:=len) (m:=n.length) (p:=p) (aV:=some (E (66+(af R i).ah))) (aQ:=some (E (i+1))) (bp:=some nd) (bN:=hV) (bm:=gF) (eJ:=hE) (Ch i ay) b8.good hF.2.2 m8 λ bW cQ bZ d0 r5 lN=>?_
 have Qw:=mN.but lN rfl rfl
 have⟨bf,hys,imy⟩:=S.im (af R i).ah tN
 have XY:=a' (S.io.len (af R i).ah tN) J6
 have ph:cQ (.a6 n.length)=some (.li lC):=(lN _ (a5 rfl)).trans iv
 refine aey (z:=z+31) (ae:=(af R i).ah) (i:=i) (m:=n.length) (aW:=some (eV k j len p)) (bp:=some nd) (bN:=hV) (bB:=some (.ref (a (.bl i)))) (l:=lC) (bm:=gF) (eJ:=hE) tN _ N8 Qw d0 ((lN _ (a5 rfl)).trans (b8.off rfl hys)) (imy.more λ q=>b8.eS q) ph (NE (W:=W) (i:=i) (p:=p) S.io qn fZ.2.1) (λ x aA L y bI=>?_) (cn (hv XY (a' NH qn)) (aE rfl)) λ eO hP kc Oj Ok dL hZ Xg YS vh Qx=>?_
 ·have⟨r,fU,gP,_⟩:=Fx y bI
  rw[rQ x aA L,gP]
  exact Cn (cn (a' fU ag.da) (aE rfl))
 have zF:bS ac (runN ac (z+33)) Bd (hq a (some (E (66+(af R i).ah))) (some (E (i+1))) (eV k j len p) (some nd) n.length hV gF hE (some (.ref (a (.bl i))))) bW=some (.br (hq a (some (E (66+(af R i).ah))) (some (E (i+1))) (eV k j len p) (some nd) n.length hV Oj Ok (some (.ref (a (.bl i))))),eO):=(dk (z+33) Bd (hq a (some (E (66+(af R i).ah))) (some (E (i+1))) (eV k j len p) (some nd) (f' n) hV gF hE (some (D.ref (a (aN.bl i))))) bW _ (ix (de d0 ph)) (N8.len▸a' NH (a' qn (aE rfl))) _ _ dL)
 refine f eO cL hP (A5 (z:=z+33) (f:=46) (b6:=[.ref (a .eH),E (66+(af R i).ah),E (i+1),eV k j len p,nd]) (r:=.br (hq a (some (E (66+(af R i).ah))) (some (E (i+1))) (eV k j len p) (some nd) n.length hV Oj Ok (some (.ref (a (.bl i)))))) rfl rfl ((j9 aw).trans ((j9 Vu).trans (Vx ((j9 bZ).trans zF))))) hZ ⟨Qx,λ fS lI=>?_,λ fS lI=>?_,λ l hl=>?_,PR ag.iR S.io uG e5 fZ.1 fZ.2.1 ag.da rQ⟩ ⟨b8.jm.ext,a' b8.le (fA (a' (fA (gU 24 uK) 0) (aE rfl)) _),λ r o k iz kH e=>(vh r kH).trans ((lN r iz).trans (b8.off k e))⟩
 ·exact(f9 (fS=i)).elim (λ L=>by rw[L,G0];exact r5.bx (λ o e=>(vh _ (a5 rfl)).trans e) (λ g o e=>(vh _ (a5 rfl)).trans e) λ q=>q)
   λ L=>by rw[BA L];exact(Ch fS lI).bx (λ o e=>(vh _ (a5 rfl)).trans ((lN _ (No L)).trans e)) (λ g o e=>(vh _ (a5 rfl)).trans ((lN _ (a5 rfl)).trans e)) λ q=>q
 ·refine(f9 (fS=i)).elim (λ L=>?_) λ L=>by rw[BA L];exact S.hx fS lI
  rw[L,G0]
  cases p with
  |false=>exact S.hx i ay
  |true=>exact .inr rfl
 ·exact(f9 (l=(af R i).ah)).elim (λ L=>⟨kc,L▸Xg,(an (es cL kc) (if_pos L)).mpr (L▸YS)⟩)
   λ L=>let⟨bR,Ew,ED⟩:=S.im l hl;⟨bR,(vh _ (Nr L)).trans ((lN _ (a5 rfl)).trans (b8.off rfl Ew)),(an (es cL bR) (if_neg L)).mpr (ED.more λ q=>b8.eS q)⟩
end
end Mine
end
section
namespace Mine
variable{aO:B C}
noncomputable def mC(aO:B C)(x:C):D:=.tup [E (aO.getD x 0+1),E x]
noncomputable def hG(aO:B C):B D:=(ck aO.length).map (mC aO)
noncomputable def hD(aO:B C):B Nat:=(ck 4).flatMap λ l=>(ck aO.length).filter λ x=>aO.getD x 0==l
noncomputable def gX(rev:av)(cz cD dn:C):B Nat:=if rev then dw dn 3++dw cD 2++dw cz 1 else dw cz 1++dw cD 2++dw dn 3
noncomputable def Ah(aO:B C):Y (B C):=if aO.length<2 then some (ck aO.length)else(oc (λ i j=>E2 ((hG aO).getD i .nn) ((hG aO).getD j .nn)) aO.length (CG aO.length)).map λ p=>p.toList
theorem Ov{i:C}(h:i<aO.length):(hG aO).getD i .nn=mC aO i:=sD (i8 (yD h))
theorem aeh:pJ (hG aO)=(Ah aO).map λ is=>is.map λ i=>(hG aO).getD i .nn:=by
 have len:(hG aO).length=aO.length:=(cG ..).trans gB
 unfold pJ Ah
 rw[len]
 exact(f9 (aO.length<2)).elim (λ L=>by rw[if_pos L,if_pos L];exact an some (pS λ i m=>(Ov (ga.mp m)).symm)) λ L=>by rw[if_neg L,if_neg L];exact(Option.map_map ..).symm
noncomputable def sx(rev:av)(cz cD dn:C):Bool:=decide (Ah (gX rev cz cD dn)=some (hD (gX rev cz cD dn)))
theorem UT:((ck 5).all λ cz=>(ck 5).all λ cD=>(ck 5).all λ dn=>sx true cz cD dn&&sx false cz cD dn)=true:=by kernel_rfl
theorem ub{p:C→av}(a:(ck 5).all p=true){c:C}(h:c≤4):p c=true:=g'.mp a c (ga.mpr (pW h))
theorem FL{x:C}:x∈hD aO↔x<aO.length∧aO.getD x 0<4:=
 List.mem_flatMap.trans ⟨λ⟨l,ax,aH⟩=>have q:=oP.mp aH;⟨ga.mp q.1,eq_of_beq q.2▸ga.mp ax⟩,λ h=>⟨aO.getD x 0,ga.mpr h.2,oP.mpr ⟨ga.mpr h.1,lE _⟩⟩⟩
theorem aeg{rev:av}{cz cD dn:C}(ax:cz≤4)(aH:cD≤4)(cI:dn≤4):pJ (hG (gX rev cz cD dn))=some ((hD (gX rev cz cD dn)).map (mC (gX rev cz cD dn))):=by
 have a:=dI.mp (ub (p:=λ dn=>sx true cz cD dn&&sx false cz cD dn) (ub (p:=λ cD=>(ck 5).all λ dn=>sx true cz cD dn&&sx false cz cD dn) (ub UT ax) aH) cI)
 have b:Ah (gX rev cz cD dn)=some (hD (gX rev cz cD dn)):=gi (Qt (motive:=λ rev=>sx rev cz cD dn=true) a.2 a.1 rev)
 rw[aeh,b]
 exact an some (pS λ i m=>Ov (FL.mp m).1)
end Mine
end
section
namespace Mine
variable{nm aM j c aO i:C}
section
variable{a:bH}{h:aT}{n:St}{T:B aP}{z:C}{W:cw}{aU:C→ap}{R:B b5}{al:B (am×D)}{F:C→C}{I:C→B (C×ap×C)}{X:Prop}
theorem adP(ax:j<R.length)(cI:(af R j).nm=nm)(gh:(af R j).aM=aM):∀{p:av},(af R j).ah<c→(∀aO j f3,scan R nm aM c p=some (aO,j,f3)→X)→X:=by
 induction c with
 |zero=>exact λ h=>nomatch h
 |succ c aZ=>
  intro p aH f
  cases e:gv R c nm aM with
  |cons x r=>exact f _ _ _ (Bc e)
  |nil=>
   have ne:(af R j).ah≠c:=λ L=>nomatch(e▸rv.mpr ⟨ax,L,cI,gh⟩:j∈ [])
   exact aZ (Nat.lt_of_le_of_ne (lr aH) ne) λ aO j f3 s=>f aO j f3 ((x5 e).trans s)
theorem OQ{f3:av}:∀{p:av},scan R nm aM c p=some (aO,j,f3)→aO<c∧j∈gv R aO nm aM:=by
 induction c with
 |zero=>exact λ e=>nomatch e
 |succ c aZ=>
  intro p e
  cases cl:gv R c nm aM with
  |cons x r=>
   have L:=lk (Bc cl) e
   cases L
   exact⟨qU _,cl▸.head _⟩
  |nil=>exact⟨pX (aZ ((x5 cl).symm.trans e)).1,(aZ ((x5 cl).symm.trans e)).2⟩
theorem AP(b9:il R c)(ay:i<R.length)(be:(af R i).eL=true)(f:∀aO j p,scan R (af R i).nm (af R i).aM (af R i).ah false=some (aO,j,p)→X):X:=
 have⟨q,du,d',cO,j8⟩:=b9.C2 _ (h3 (iM ay)) be
 have⟨j,bt⟩:=List.getElem?_of_mem du
 have e:=adz bt
 adP (mr bt) (e.symm▸cO) (e.symm▸j8) (e.symm▸d') f
noncomputable def ka(W:cw)(R:B b5)(s:(C→C)×(C→B (C×ap×C)))(i:C):(C→C)×(C→B (C×ap×C)):=
 match scan R (af R i).nm (af R i).aM (af R i).ah false with
 |some (aO,j,p)=>(kO s.1 i (if p=true then 6+128*(af R i).aM else s.1 i),mI R s.2 i (ho W R s.2 i aO j p))
 |none=>s
theorem Gv{s:(C→C)×(C→B (C×ap×C))}{p:av}(e:scan R (af R i).nm (af R i).aM (af R i).ah false=some (aO,j,p)):ka W R s i=(kO s.1 i (if p=true then 6+128*(af R i).aM else s.1 i),mI R s.2 i (ho W R s.2 i aO j p)):=
 an (λ x:Y (C×C×av)=>match x with|some (aO,j,p)=>(kO s.1 i (if p=true then 6+128*(af R i).aM else s.1 i),mI R s.2 i (ho W R s.2 i aO j p))|none=>s) e
theorem lW.go{H:aT}{aC:B aP}{J:St}{b:C}(S:lW a h T W al aU R F I c)(x:b0 a h T b J aC H):lW a H aC W al aU R F I c:=
 ⟨S.fR.go x,S.bl.go x,S.hx,λ l hl=>let⟨xs,e,im⟩:=S.im l hl;⟨xs,x.off rfl e,im.more λ q=>x.eS q⟩,S.io⟩
noncomputable def aa5:aN→av
 | .bl _| .cM _=>false
 |_=>true
noncomputable def rl(r:aN):Bool:=!gZ r&&aa5 r
theorem xm{r:aN}(h:rl r=true):gZ r=false:=(tI _).mp (dI.mp h).1
theorem ace{nd:D}(S:lW a h T W al aU R F I c)(M:Good a h n)(ay:i<R.length)(be:(af R i).eL=true)(rQ:∀e∈I (af R i).ah,e.1=i+1→e.2.2=900)(m8:F i=2+128*(af R i).aM)(hc:c≤20)(a3:T.length<200000)
  (f:∀(J:St) (aC:B aP) (H:aT),runN ac (z+38) 45 [.ref (a .eH),E (66+(af R i).ah),E (i+1),nd] n=some (.nn,J)→Good a H J→lW a H aC W al aU R (ka W R (F,I) i).1 (ka W R (F,I) i).2 (c+1)→(∃X,aC=T++X)→aC.length≤T.length+4000→(∀r o,rl r=true→h r=some o→H r=some o)→X):X:=by
 refine AP S.fR.inv ay be λ aO j p aS=>?_
 refine aaF (z:=z) S.fR S.bl S.hx M ay aS (fh a3 (aE rfl)) λ aa bX aI k aw d' e5 bt cW=>?_
 have fZ:=rv.mp bt
 have oV:=S.go cW
 have ir:=Ww (l:=aO) (nm:=(af R i).nm) (aM:=(af R i).aM) S.fR.inv
 have d4:bX.length<201300:=cn cW.le (nI a3 1300)
 refine abG (z:=z+1) (len:=(gv R aO (af R i).nm (af R i).aM).length) (p:=p) oV.fR oV.bl oV.hx cW.good ay fZ.1 e5 fZ.2.1 fZ.2.2.1 d' ir (fh d4 (aE rfl)) λ ao cL bJ aB b8=>?_
 have So:=oV.go b8
 have sF:=cW.trans b8
 refine aeN (z:=z+3) (p:=p) (len:=(gv R aO (af R i).nm (af R i).aM).length) (nd:=nd) So b8.good ay e5 bt (b8.eS d') rQ m8 hc (cn b8.le (e' (nI d4 24) (aE rfl))) λ bW lB cQ bZ d0 ip ge=>?_
 have mg:=b0.start ip.fR.bT d0 (.li [])
 have lA:=ip.go mg.1
 refine aaK (lA.bl i ay) mg.1.good mg.2 λ jW o O h0 Ck=>?_
 have fq:∀r,r≠ .bl i→(up (up cQ (.a6 bW.length) (some (.li []))) (.bl i) (some o)) r=(up cQ (.a6 bW.length) (some (.li []))) r:=λ r L=>bP _ _ L
 have q0:lW a (up (up cQ (.a6 bW.length) (some (.li []))) (.bl i) (some o)) lB W al aU R (kO F i (if p=true then 6+128*(af R i).aM else F i)) (mI R I i (ho W R I i aO j p)) (c+1):=
  ⟨lA.fR.but fq rfl rfl,λ fS lI=>(f9 (fS=i)).elim (λ L=>L.symm▸Ck) λ L=>(lA.bl fS lI).bx (λ o e=>(fq _ (No L)).trans e) (λ g o e=>(fq _ (a5 rfl)).trans e) λ q=>q,ip.hx,λ l hl=>let⟨xs,e,im⟩:=lA.im l hl;⟨xs,(fq _ (a5 rfl)).trans e,im⟩,ip.io⟩
 have ic:ie ao (.ii 0)=some false:=rfl
 have hM:runN ac (z+38) 45 [.ref (a .eH),E (66+(af R i).ah),E (i+1),nd] n=some (.nn,jW):=(q0.bl j fZ.1).b7 λ aG g dr aV bl _ bp=>by
  have MZ:=de h0 bp
  exact(cN (z+37) 45 [D.ref (a aN.eH),E (66+(af R i).ah),E (i+1),nd] n rfl rfl _ _ aw _ ((rfl:cY .is (eV k j (gv R aO (af R i).nm (af R i).aM).length p) .nn aa=some false)) _ (oV.fR.mc cW.good) _ ((oV.fR.aM.at_ cW.good).1) _ (oV.fR.qo cW.good ay) _ (oV.fR.mc cW.good) _ ((oV.fR.aM.at_ cW.good).1) _ ((rfl:dd aa (eV k j (gv R aO (af R i).nm (af R i).aM).length p) (.ii 1)=some (E (j+1)))) _ (oV.fR.qo cW.good fZ.1) _ _ aB _ ic _ ((rfl:cY .eq (.ii 0) (.ii 0) ao=some true)) _ _ bZ _ O _ ((fj (h0.at_ _ _ aV)).trans bl.DK) _ (ix MZ) (aE rfl) _ _ (hg MZ))
 exact f jW lB _ hM h0 ((Gv (W:=W) (s:=(F,I)) aS).symm▸q0) (me sF.jm.ext ge.ext) (a' ge.le (a' (hb sF.le _) (fA (aE rfl:1300+24+2400≤4000) _))) λ r c3 k e=>(fq r λ L=>nomatch(L▸k:rl (.bl i)=true)).trans (mg.1.off (xm k) (ge.off r c3 (xm k) (λ L=>nomatch(L▸k:rl (.bl i)=true)) (λ L=>nomatch(L▸k:rl (.cM (af R i).ah)=true)) (sF.off (xm k) e)))
end
end Mine
end
section
namespace Mine
variable{m:C}{lo ay:am}{os:B C}{x:C}{nd:C→D}{i:C}
section
variable{a:bH}{h:aT}{n:St}{T:B aP}{z:C}{W:cw}{aU:C→ap}{R:B b5}{al:B (am×D)}{F:C→C}{I:C→B (C×ap×C)}{X:Prop}
theorem afJ(z:C):∀{lo:C},upTo (lo:am) z=(pT lo z).map E:=by
 induction z with
 |zero=>exact rfl
 |succ z aZ=>exact λ{lo}=>an (E lo::·) (aZ (lo:=lo+1))
theorem Gs(hm:m≤1000):small (m:am)=true:=dI.mpr ⟨iL (QL (by decide: -(2:am)^62<0) (yw m)),iL (Int.lt_of_le_of_lt (QO.mpr hm) (by decide:((1000:C):am)<2^62))⟩
theorem ado{m:am}(h:small m=true):ov (.ii m)=some (.ew 0 m):=if_pos h
theorem Zc(h:small lo=true)(H:small ay=true):hR n (.ew lo ay)=some (upTo lo (ay-lo).toNat):=if_pos (dI.mpr ⟨h,H⟩)
theorem adt(hm:m≤1000):ov (.ii (m:am))=some (.ew 0 (m:am)):=ado (Gs hm)
theorem ads(hm:m≤1000):hR n (.ew 0 (m:am))=some ((ck m).map E):=(Zc (Gs (fs 1000)) (Gs hm)).trans (an some ((an (upTo 0) (an HJ (Int.sub_zero (m:am)))).trans ((afJ m).trans (an (eA E) Ce.symm))))
noncomputable def py(R:B b5)(nd:C→D)(os:B C):B D:=os.map λ j=>.tup [E (66+(af R j).ah),E (j+1),nd j]
noncomputable def fw(R:B b5)(os:B C):B Nat:=os.map λ j=>(af R j).ah
theorem Nb(aA:x<os.length):(fw R os).getD x 0=(af R (os.getD x 0)).ah:=sD (i8 (getD_at aA))
theorem mem_getD(aA:x<os.length):os.getD x 0∈os:=h3 (getD_at aA)
noncomputable def FN:bk:=(.cons (.asg 3 (.call 37 (.cons (.at (.v 0) 47) (.cons (.aq (.aq (.at (.v 0) 65) (.v 2)) (.ii 0)) .nil)))) (.cons (.ex (.append (.v 1) (.tup (.cons (.len (.call 43 (.cons (.at (.at (.v 0) 63) 56) (.cons (.v 3) .nil)))) (.cons (.v 2) .nil))))) .nil))
noncomputable def qx(a:bH)(aV bu cX cm o5 bN bm:Y D):aX:=[some (.ref (a .eH)),aV,bu,cX,cm,o5,bN,bm]
noncomputable def aca(z:C)(lo ay:am)(cf xs:B D)(env:aX)(n:St):Y (eZ×St):=@fD (live (.ew lo ay) cf) (e0 (.ew lo ay) cf) (λ x aF J=>(dh false [2] x aF).bind λ dG=>bS ac (runN ac (z+38)) FN dG J) xs env n
theorem acb{cf:B D}{cm o5 bN bm:Y D}(g7:c8 a h T W al aU R)(mh:∀i∈os,i<R.length)(qg:h .h8=some (.li (py R nd os)))(kB:h (.a6 m)=none)(xs:B C):∀{n:St} {bX:B aP} {aI:aT} {acc:B D} {b:C} {bu cX:Y D},(∀x∈xs,x<os.length)→b0 a h T b n bX aI→aI (.a6 m)=some (.li acc)→acc.length+xs.length<900→T.length+b+24*xs.length<300000→
  (∀(J:St) (aC:B aP) (H:aT) (fT eM:Y D),aca z lo ay cf (xs.map E) (qx a (some (.ref m)) bu cX cm o5 bN bm) n=some (.br (qx a (some (.ref m)) fT eM cm o5 bN bm),J)→b0 a h T (b+24*xs.length) J aC H→H (.a6 m)=some (.li (acc++xs.map (mC (fw R os))))→X)→X:=by
 induction xs with
 |nil=>exact λ{n bX aI acc b bu cX} aA go hm bO a3 f=>f n bX aI bu cX (hg trivial) go ((eX acc).symm▸hm)
 |cons x xs aZ=>
  intro n bX aI acc b bu cX aA go hm bO a3 f
  have xa:=aA x (.head _)
  have rf:os.getD x 0<R.length:=mh _ (mem_getD xa)
  have ag:=g7.go go
  have hF:=ag.eW _ (h3 (iM rf))
  refine OS (z:=z+29) ag go.good (l:=(af R (os.getD x 0)).ah) (pW hF.1) (cn go.le (cn (d2 ..) (fh a3 (aE rfl)))) λ k ao cL bJ aw d' b8=>?_
  have mN:=ag.go b8
  refine Kh (z:=z+36) mN b8.good hF.1 d' λ aaG bW cQ ks aB jL X5 cl fK=>?_
  have len:=uY (de jL.good X5)
  rw[fK.len,cG,gB]at len
  have aq:=j7 (go.good.at_ _ _ (go.off (r:=.h8) rfl qg)) (i8 (f:=λ j=>D.tup [E (66+(af R j).ah),E (j+1),nd j]) (getD_at (x:=0) xa))
  have Ln:=b8.trans jL
  have ph:=Ln.a6 hm
  have VI:D.tup [E ((af R (os.getD x 0)).ah+1),E x]=mC (fw R os) x:=an (λ l=>D.tup [E (l+1),E x]) (Nb xa).symm
  have fX:=(go.trans Ln).put (c3:=.li (acc++[mC (fw R os) x])) ph.1 kB
  have st:bS ac (runN ac (z+38)) FN (qx a (some (.ref m)) (some (E x)) cX cm o5 bN bm) n=some (.br (qx a (some (.ref m)) (some (E x)) (some (E k)) cm o5 bN bm),bW.set m (.li (acc++[mC (fw R os) x]))):=by
   rw[←VI]
   exact(dk (z+38) FN (qx a (some (D.ref m)) (some (E x)) cX cm o5 bN bm) n _ (ag.mc go.good) _ (ag.zB go.good) _ aq _ rfl _ _ aw (hQ (b8.a6 hm).2) _ (mN.zA b8.good) _ (mN.BP b8.good) _ _ aB _ len _ (m0 ph.2 (pG (fh (cn (d2 ..) bO) (aE rfl)))))
  exact aZ (λ y m=>aA y (.tail _ m)) (fX.1.mono (fA (aE rfl:3+0≤24) b)) fX.2 (cn (dg (by rw[fg];exact jA ..)) bO) (rx (b:=T.length+b)▸a3) λ J aC H fT eM e hN ia=>
   f J aC H fT eM (fc trivial st e) (hN.mono (dg rx)) (ia.trans (an (λ l=>some (a0.li l)) (mP ..).symm))
noncomputable def FO:bk:=(.cons (.o1 [5,6,7] (.aq (.at (.v 0) 65) (.v 2))) (.cons (.ex (.call 45 (.cons (.v 0) (.cons (.v 5) (.cons (.v 6) (.cons (.v 7) .nil)))))) .nil))
theorem WK{s:(C→C)×(C→B (C×ap×C))}(b9:il R 8)(ay:i<R.length)(be:(af R i).eL=true):(∀jN,jN≠i→(ka W R s i).1 jN=s.1 jN)∧∀l,∀e∈(ka W R s i).2 l,e.1=i+1∨e∈s.2 l:=
 AP b9 ay be λ aO j p aS=>(Gv (W:=W) (s:=s) aS).symm▸⟨λ jN z=>BA z,λ l=>tu (λ cf=>∀e∈cf,e.1=i+1∨e∈s.2 l) (λ _ _ e b3=>(nG.mp b3).elim .inr λ b3=>(hu.mp b3).elim λ x w=>.inl (w.2▸rfl)) λ e b3=>.inr b3⟩
noncomputable def nO(R:B b5)(F:C→C)(I:C→B (C×ap×C))(i:C):Prop:=i<R.length∧(af R i).eL=true∧F i=2+128*(af R i).aM∧∀e∈I (af R i).ah,e.1=i+1→e.2.2=900
theorem nO.step{j:C}(b9:il R 8)(ay:nO R F I i)(ne:j≠i)(p:nO R F I j):nO R (ka W R (F,I) i).1 (ka W R (F,I) i).2 j:=
 have s:=WK (W:=W) (s:=(F,I)) b9 ay.1 ay.2.1
 ⟨p.1,p.2.1,(s.1 _ ne).trans p.2.2.1,λ e b3 L=>(s.2 _ e b3).elim (λ w=>absurd (oS (L.symm.trans w)) ne) λ b3=>p.2.2.2 e b3 L⟩
noncomputable def abP(z m:C)(l xs:B D)(env:aX)(n:St):Y (eZ×St):=@fD (live (.ref m) l) (e0 (.ref m) l) (λ x aF J=>(dh true [4,2] x aF).bind λ dG=>bS ac (runN ac (z+38)) FO dG J) xs env n
theorem acd{l:B D}{aV aW:Y D}(xs:B C):∀{n:St} {T:B aP} {h:aT} {F:C→C} {I:C→B (C×ap×C)} {c:C} {bu cm o5 bN bm:Y D},(∀x∈xs,x<os.length)→(xs.map λ x=>os.getD x 0).Nodup→(∀x∈xs,nO R F I (os.getD x 0))→lW a h T W al aU R F I c→Good a h n→h .h8=some (.li (py R nd os))→h (.a6 m)=some (.li l)→c+xs.length≤20→T.length+4000*xs.length<200000→
  (∀(J:St) (aC:B aP) (H:aT) (aF:aX),abP z m l (xs.map (mC (fw R os))) (qx a aV bu aW cm o5 bN bm) n=some (.br aF,J)→Good a H J→lW a H aC W al aU R ((xs.map λ x=>os.getD x 0).foldl (ka W R) (F,I)).1 ((xs.map λ x=>os.getD x 0).foldl (ka W R) (F,I)).2 (c+xs.length)→(∃X,aC=T++X)→aC.length≤T.length+4000*xs.length→(∀r o,rl r=true→h r=some o→H r=some o)→X)→X:=by
 induction xs with
 |nil=>exact λ{n T h F I c bu cm o5 bN bm} aA om bM S M qg hm hc a3 f=>f n T h _ (hg (de M hm)) M S ⟨[],(eX T).symm⟩ (cJ _) λ r o _ e=>e
 |cons x xs aZ=>
  intro n T h F I c bu cm o5 bN bm aA om bM S M qg hm hc a3 f
  have om:=nH.mp om
  have xa:=aA x (.head _)
  have n8:=bM x (.head _)
  refine ace (z:=z) (nd:=nd (os.getD x 0)) S M n8.1 n8.2.1 n8.2.2.2 n8.2.2.1 (a' (d2 ..) hc) (cn (d2 ..) a3) λ aa bX aI aw dJ bU ex pn qv=>?_
  have aq:=j7 (M.at_ _ _ qg) (i8 (f:=λ j=>D.tup [E (66+(af R j).ah),E (j+1),nd j]) (getD_at (x:=0) xa))
  have st:bS ac (runN ac (z+38)) FO (qx a aV (some (E x)) aW (some (E ((fw R os).getD x 0+1))) o5 bN bm) n=some (.br (qx a aV (some (E x)) aW (some (E ((fw R os).getD x 0+1))) (some (E (66+(af R (os.getD x 0)).ah))) (some (E (os.getD x 0+1))) (some (nd (os.getD x 0)))),aa):=(dk (z+38) FO (qx a aV (some (E x)) aW (some (E ((fw R os).getD x 0+1))) o5 bN bm) n _ (S.fR.zB M) _ aq _ rfl _ _ aw)
  exact aZ (λ y bI=>aA y (.tail _ bI)) om.2 (λ y bI=>nO.step S.fR.inv n8 (λ L=>om.1 (hu.mpr ⟨y,bI,L⟩)) (bM y (.tail _ bI))) bU dJ (qv _ _ rfl qg) (qv _ _ rfl hm) (a' (dg (jA ..)) hc) (cn (a' (hb pn _) (dg pt)) a3) λ J aC H aF aB dF fB wR of FJ=>
   f J aC H aF (fc (de M hm) st aB) dF ((jA c xs.length)▸fB) (me ex wR) (a' of (a' (hb pn _) (dg pt))) λ r o k e=>FJ r o k (qv r o k e)
end
end Mine
end
section
namespace Mine
variable{aO:B C}{rev:av}{cz dn:C}{os:B C}
theorem NX:(hD aO).Nodup:=by
 unfold hD List.Nodup
 rw[List.pairwise_flatMap]
 exact⟨λ l _=>wc.filter _,wc.imp_of_mem λ _ _ ne x aA y bI e=>ne ((eq_of_beq (oP.mp aA).2).symm.trans (e▸eq_of_beq (oP.mp bI).2))⟩
theorem UU:((ck 5).all λ cz=>(ck 5).all λ cD=>(ck 5).all λ dn=>(kk (hD (gX true cz cD dn)).length 12&&kk (gX true cz cD dn).length 12)&&(kk (hD (gX false cz cD dn)).length 12&&kk (gX false cz cD dn).length 12))=true:=by kernel_rfl
theorem ab7{cD:C}(ax:cz≤4)(aH:cD≤4)(cI:dn≤4):(hD (gX rev cz cD dn)).length≤12∧(gX rev cz cD dn).length≤12:=
 have a:=dI.mp (ub (p:=λ dn=>(kk (hD (gX true cz cD dn)).length 12&&kk (gX true cz cD dn).length 12)&&(kk (hD (gX false cz cD dn)).length 12&&kk (gX false cz cD dn).length 12)) (ub (p:=λ cD=>(ck 5).all λ dn=>(kk (hD (gX true cz cD dn)).length 12&&kk (gX true cz cD dn).length 12)&&(kk (hD (gX false cz cD dn)).length 12&&kk (gX false cz cD dn).length 12)) (ub UU ax) aH) cI);
 have g:∀{x y:C},(kk x 12&&kk y 12)=true→x≤12∧y≤12:=λ h=>⟨aE (dI.mp h).1,aE (dI.mp h).2⟩;
 Qt (motive:=λ rev=>(hD (gX rev cz cD dn)).length≤12∧(gX rev cz cD dn).length≤12) (g a.2) (g a.1) rev
theorem Nf(h:os.Nodup){xs:B C}(nd:xs.Nodup)(aA:∀x∈xs,x<os.length):(xs.map λ x=>os.getD x 0).Nodup:=
 tR.mpr (nd.imp_of_mem λ ax aH ne e=>ne ((B' (aA _ ax) h).mp ((getD_at (aA _ ax)).trans ((an some e).trans (getD_at (aA _ aH)).symm))))
section
variable{a:bH}{h:aT}{n:St}{T:B aP}{z:C}{W:cw}{aU:C→ap}{R:B b5}{al:B (am×D)}{F:C→C}{I:C→B (C×ap×C)}{X:Prop}
theorem aei{m:C}{bf:B D}(e:n[m]? =some (.li (hG aO)))(hl:aO.length<64)(s:pJ (hG aO)=some bf)(bI:bf.length<64):vD n (.ref m)=some bf:=
 (an (sT λ xs=>if xs.length<64∧xs.all m'=true then(pJ xs).bind λ bf=>if bf.length<64 then some bf else none else none) e).trans ((if_pos ⟨by unfold hG;rw[cG,gB];exact hl,g'.mpr λ x m=>(hu.mp m).elim λ y w=>w.2▸rfl⟩).trans (aR s (if_pos bI)))
noncomputable def mB(R:B b5)(os:B C):B Nat:=(hD (fw R os)).map λ x=>os.getD x 0
theorem acf{nd:C→D}{cD:C}(S:lW a h T W al aU R F I 0)(M:Good a h n)(mh:∀i∈os,nO R F I i)(En:os.Nodup)(e5:fw R os=gX rev cz cD dn)(ax:cz≤4)(aH:cD≤4)(cI:dn≤4)(qg:h .h8=some (.li (py R nd os)))(a3:T.length<100000)
  (f:∀(J:St) (aC:B aP) (H:aT),runN ac (z+39) 44 [.ref (a .eH)] n=some (.nn,J)→Good a H J→lW a H aC W al aU R ((mB R os).foldl (ka W R) (F,I)).1 ((mB R os).foldl (ka W R) (F,I)).2 ((mB R os).length)→(∃X,aC=T++X)→aC.length≤T.length+60000→(∀r o,rl r=true→h r=some o→H r=some o)→X):X:=by
 have lM:(fw R os).length=os.length:=cG ..
 have qk:=ab7 (rev:=rev) ax aH cI
 rw[←e5]at qk
 have oq:os.length≤12:=lM▸qk.2
 have da:(ck os.length).length≤12:=gB.symm▸oq
 have b2:=b0.start S.fR.bT M (.li [])
 have Oi:=a' oq (aE rfl:12≤1000)
 refine acb (z:=z) (nd:=nd) (os:=os) (m:=n.length) (lo:=0) (ay:=(os.length:am)) (cf:=(ck os.length).map E) (cm:=none) (o5:=none) (bN:=none) (bm:=none) (bu:=none) (cX:=none) S.fR (λ i ay=>(mh i ay).1) qg (M.fresh (cJ _)) (ck os.length) (λ x aA=>ga.mp aA) b2.1 b2.2 (cn (dg (ji _)) (cn da (aE rfl))) (e' (r6 a3 (gU 24 da)) (aE rfl)) λ aa bX aI fT eM aw cW hO=>?_
 have pn:bX.length≤T.length+288:=a' cW.le (fA (a' (fA (gU 24 da) 0) (aE rfl)) _)
 have hO:aI (.a6 n.length)=some (.li (hG (fw R os))):=hO.trans (an (λ z=>some (a0.li ((ck z).map (mC (fw R os))))) lM.symm)
 have aeo:pJ (hG (fw R os))=some ((hD (fw R os)).map (mC (fw R os))):=e5▸aeg ax aH cI
 have g2:=b0.start cW.bT cW.good (.li ((hD (fw R os)).map (mC (fw R os))))
 have vS:∀x∈hD (fw R os),x<os.length:=λ x aA=>lM▸(FL.mp aA).1
 have uP:bX.length+4000*(hD (fw R os)).length<200000:=cn (hv pn (gU 4000 qk.1)) (e' (nI (nI a3 288) (4000*12)) (aE rfl))
 refine acd (z:=z) (nd:=nd) (os:=os) (m:=aa.length) (l:=(hD (fw R os)).map (mC (fw R os))) (aV:=some (.ref n.length)) (aW:=eM) (hD (fw R os)) (bu:=fT) (cm:=none) (o5:=none) (bN:=none) (bm:=none) vS (Nf En NX vS) (λ x aA=>mh _ (mem_getD (vS x aA))) ((S.go cW).go g2.1) g2.1.good (g2.1.off rfl (cW.off rfl qg)) g2.2 (a' (dg (ji _)) (a' qk.1 (aE rfl))) uP λ J aC H aF aB dF fB ex of FJ=>?_
 have ZR:=uY (b2.1.good.at_ _ _ (b2.1.off (r:=.h8) rfl qg))
 have E6:∀{α c4:Type} {f:α→c4} {l:B α} {b:C},l.length≤12→12≤b→(l.map f).length≤b:=λ p q=>(cG ..).symm▸a' p q
 have A6:=aei (de cW.good hO) (lM.symm▸cn oq (aE rfl)) aeo (pW (E6 qk.1 (aE rfl)))
 have ab1:(mB R os).length=0+(hD (fw R os)).length:=(cG ..).trans (ji _).symm
 have ZQ:aC.length≤T.length+60000:=a' of (a' (hv pn (gU 4000 qk.1)) (fA (aE rfl:288+4000*12≤60000) _))
 have oD:((ck os.length).map E).length≤100000:=E6 da (aE rfl)
 have tE:((hD (fw R os)).map (mC (fw R os))).length≤100000:=E6 qk.1 (aE rfl)
 have Hn:=adt Oi
 have agg:hR (n++[a0.li []]) (.ew 0 (os.length:am))=some ((ck os.length).map E):=ads Oi
 exact f J aC H (cN (z+38) 44 [D.ref (a aN.eH)] n rfl rfl _ ((S.fR.go b2.1).zB b2.1.good) _ ZR _ Hn _ agg oD _ _ aw _ A6 _ (ix (de g2.1.good g2.2)) tE _ _ aB) dF (ab1.symm▸fB) (me cW.jm.ext ex) ZQ λ r o k e=>FJ r o k (g2.1.off (xm k) (cW.off (xm k) e))
end
end Mine
end
section
namespace Mine
variable{t i c:C}{aQ bp bq bh bj bK bB cE:Y D}{m:C}{bi aW:Y D}
section
variable{a:bH}{h:aT}{n:St}{T:B aP}{z:C}{W:cw}{R:B b5}{c5:C→C}{S:C→B (ap×C)}{X:Prop}
structure ff(a:bH)(h:aT)(T:B aP)(W:cw)(R:B b5)(c5:C→C)(S:C→B (ap×C))(t:C):Prop where
 lw:fO a h W
 bT:c6 a h T
 w:h .w=some (.ds (dE a t 8))
 rows:h .gA=some (.li ((ck R.length).map λ j=>.ref (a (.row j))))
 row:∀j,j<R.length→nN a h j (af R j) (c5 j) (S j)
 eW:∀r∈R,r.ah≤3∧(r.nm=109∨r.nm=110)∧r.aM≤1
 da:R.length≤16
 lR:∀j,j<R.length→∀x∈S j,∃e,e≤(af R j).ah∧x.1=dM W (af R j).ah e
 mG:∀j,j<R.length→(S j).length≤(af R j).ah
theorem ff.go{H:aT}{aC:B aP}{J:St}{b:C}(ae:ff a h T W R c5 S t)(x:b0 a h T b J aC H):ff a H aC W R c5 S t:=
 ⟨ae.lw.go x,x.bT,x.off rfl ae.w,x.off rfl ae.rows,λ j bt=>(ae.row j bt).bx (bY.go x λ r k=>k.elim (λ e=>e▸rfl) λ e=>e▸rfl),ae.eW,ae.da,ae.lR,ae.mG⟩
theorem ff.ok(ae:ff a h T W R c5 S t)(ay:i<R.length):(af R i).ah≤3∧((af R i).nm=109∨(af R i).nm=110)∧(af R i).aM≤1:=ae.eW _ (h3 (iM ay))
noncomputable def E4:ab:=(.comp (.v 9) [9] false (.aq (.v 0) (.ss [114,111,119,115])) (.cons (.and (.cons (.cmp .eq (.aq (.v 9) (.ss [108,101,118,101,108])) (.v 3)) (.cons (.cmp .eq (.aq (.v 9) (.ss [110,97,109,101])) (.aq (.v 1) (.ss [110,97,109,101]))) .nil))) .nil))
noncomputable def DV:ab:=(.comp (.v 10) [10] false (.v 5) (.cons (.cmp .eq (.aq (.v 10) (.ss [115,111,114,116])) (.aq (.v 1) (.ss [115,111,114,116]))) .nil))
noncomputable def i7(a:bH)(i:C)(bi aQ aW bp bq bh bj bK bB cE:Y D):aX:=[bi,some (.ref (a (.row i))),aQ,aW,bp,bq,bh,bj,bK,bB,cE]
theorem aac(ae:ff a h T W R c5 S t)(M:Good a h n)(ay:i<R.length):ci ac (runN ac z) E4 (i7 a i (some (.ref (a .w))) aQ (some (E c)) bp bq bh bj bK bB cE) n=some (.ref n.length,n++[.li ((hi R c (af R i).nm).map λ j=>.ref (a (.row j)))]):=by
 have q:=(ae.row i ay).at_ M
 have gN:=sz (V:=runN ac z) (x:=9) (env:=i7 a i (some (.ref (a .w))) aQ (some (E c)) bp bq bh bj bK bB cE) (acc:=[]) (eR:=ck R.length) (f:=λ j=>.ref (a (.row j))) (b7:=.v 9) (eo:=.cons (.and (.cons (.cmp .eq (.aq (.v 9) (.ss [108,101,118,101,108])) (.v 3)) (.cons (.cmp .eq (.aq (.v 9) (.ss [110,97,109,101])) (.aq (.v 1) (.ss [110,97,109,101]))) .nil))) .nil) (M.at_ _ _ ae.rows) (p:=λ j=>(af R j).ah==c&&decide ((af R j).nm=(af R i).nm)) (g:=λ j=>.ref (a (.row j))) λ j bt=>by
  have bt:=ga.mp bt
  have r:=(ae.row j bt).at_ M
  have er:fr ac (runN ac z) (.cmp .eq (.aq (.v 9) (.ss [108,101,118,101,108])) (.v 3)) (i7 a i (some (.ref (a .w))) aQ (some (E c)) bp bq bh bj bK (some (.ref (a (.row j)))) cE) n=some (decide ((af R j).ah=c),n):=(jd z (Mine.T.cmp jf.eq ((ab.v 9).aq (ab.ss [108,101,118,101,108])) (ab.v 3)) (i7 a i (some (D.ref (a aN.w))) aQ (some (E c)) bp bq bh bj bK (some (D.ref (a (aN.row j)))) cE) n _ r.1 _ qd)
  have eN:fr ac (runN ac z) (.cmp .eq (.aq (.v 9) (.ss [110,97,109,101])) (.aq (.v 1) (.ss [110,97,109,101]))) (i7 a i (some (.ref (a .w))) aQ (some (E c)) bp bq bh bj bK (some (.ref (a (.row j)))) cE) n=some (decide ((af R j).nm=(af R i).nm),n):=(jd z (Mine.T.cmp jf.eq ((ab.v 9).aq (ab.ss [110,97,109,101])) ((ab.v 1).aq (ab.ss [110,97,109,101]))) (i7 a i (some (D.ref (a aN.w))) aQ (some (E c)) bp bq bh bj bK (some (D.ref (a (aN.row j)))) cE) n _ r.2.1 _ q.2.1 _ (Fs (ae.ok bt).2.1 (ae.ok ay).2.1))
  exact⟨SW er eN,qz rfl⟩
 have hl:((ck R.length).map λ j=>D.ref (a (.row j))).length≤100000:=by rw[cG,gB];exact a' ae.da (aE rfl)
 exact(hI z E4 (i7 a i (some (D.ref (a aN.w))) aQ (some (E c)) bp bq bh bj bK bB cE) n _ (gx (M.at_ _ _ ae.w) rfl) _ (ix (M.at_ _ _ ae.rows)) hl _ _ gN)
theorem WM(ae:ff a h T W R c5 S t)(M:Good a h n)(ay:i<R.length)(hm:n[m]? =some (.li ((hi R c (af R i).nm).map λ j=>.ref (a (.row j))))):ci ac (runN ac z) DV (i7 a i bi aQ aW bp (some (.ref m)) bh bj bK bB cE) n=some (.ref n.length,n++[.li ((gv R c (af R i).nm (af R i).aM).map λ j=>.ref (a (.row j)))]):=by
 have q:=(ae.row i ay).at_ M
 have gN:=sz (V:=runN ac z) (x:=10) (env:=i7 a i bi aQ aW bp (some (.ref m)) bh bj bK bB cE) (acc:=[]) (eR:=hi R c (af R i).nm) (f:=λ j=>.ref (a (.row j))) (b7:=.v 10) (eo:=.cons (.cmp .eq (.aq (.v 10) (.ss [115,111,114,116])) (.aq (.v 1) (.ss [115,111,114,116]))) .nil) hm (p:=λ j=>decide ((af R j).aM=(af R i).aM)) (g:=λ j=>.ref (a (.row j))) λ j bt=>by
  have r:=(ae.row j (xy.mp bt).1).at_ M
  have er:fr ac (runN ac z) (.cmp .eq (.aq (.v 10) (.ss [115,111,114,116])) (.aq (.v 1) (.ss [115,111,114,116]))) (i7 a i bi aQ aW bp (some (.ref m)) bh bj bK bB (some (.ref (a (.row j))))) n=some (decide ((af R j).aM=(af R i).aM),n):=(jd z (Mine.T.cmp jf.eq ((ab.v 10).aq (ab.ss [115,111,114,116])) ((ab.v 1).aq (ab.ss [115,111,114,116]))) (i7 a i bi aQ aW bp (some (D.ref m)) bh bj bK bB (some (D.ref (a (aN.row j))))) n _ r.2.2.1 _ q.2.2.1 _ qd)
  exact⟨(qH er rfl).trans (by rw[vY]),qz rfl⟩
 have hl:((hi R c (af R i).nm).map λ j=>D.ref (a (.row j))).length≤100000:=by rw[cG];exact a' (Ax ae.da) (aE rfl)
 exact(hI z DV (i7 a i bi aQ aW bp (some (D.ref m)) bh bj bK bB cE) n _ (ix hm) hl _ _ gN)
noncomputable def vi:bk:=(.cons (.ex (.append (.aq (.v 1) (.ss [115,116,97,110,100,115])) (.tup (.cons (.call 53 (.cons (.v 7) (.cons (.v 4) .nil))) (.cons (.v 8) .nil))))) .nil)
theorem WT{l:B ap}:(∀t∈l,t.ar m)→(gY c l).ar m:=uA (ak:=λ l=>(∀t∈l,t.ar m)→(gY c l).ar m) l (λ _=>trivial) (λ t h=>h t (.head _)) (λ t u h=>⟨h t (.head _),h u (.tail _ (.head _))⟩) λ _ _ _ _ _=>trivial
noncomputable def vB(W:cw)(ae d:C)(x:ap×C):ap×Nat:=(x.1.sub (W.dK ae d),x.2)
theorem ach{j d:C}{qN:C}(K:W.ok)(cC:(af R i).ah≤3)(a1:d≤(af R i).ah)(bt:(af R j).ah=(af R i).ah-d)(ne:j≠i){l:B D}(xs:B (ap×C)):∀{n:St} {aI:aT} {acc:B (ap×C)} {bm eJ:Y D},(∀x∈xs,∃e,e≤(af R j).ah∧x.1=dM W (af R j).ah e)→Good a aI n→aI (.row i)=some (.ds (ow a i (af R i) qN))→aI (.st i)=some (.li (acc.map ll))→aI (.st j)=some (.li l)→acc.length+xs.length<900→
  (∀(J:St) (H:aT) (gF hE:Y D),@fD (live (.ref (a (.st j))) l) (e0 (.ref (a (.st j))) l) (λ x aF J=>(dh true [7,8] x aF).bind λ dG=>bS ac (runN ac (z+25)) vi dG J) (xs.map ll) (i7 a i bi aQ aW (some (.tup ((W.dK (af R i).ah d).map bd))) bq bh bm eJ bB cE) n=some (.br (i7 a i bi aQ aW (some (.tup ((W.dK (af R i).ah d).map bd))) bq bh gF hE bB cE),J)→Good a H J→H (.st i)=some (.li ((acc++xs.map (vB W (af R i).ah d)).map ll))→(∀r,r≠ .st i→H r=aI r)→X)→X:=by
 induction xs with
 |nil=>exact λ{n aI acc bm eJ} aA M a4 hs Aa hl f=>f n aI bm eJ (hg (M.at_ _ _ Aa)) M ((eX acc).symm▸hs) λ _ _=>rfl
 |cons x xs aZ=>
  intro n aI acc bm eJ aA M a4 hs Aa hl f
  have⟨e,b3,ex⟩:=aA x (.head _)
  have M2:(af R j).ah≤3:=bt▸a' (nJ ..) cC
  have ar:x.1.ar (W.dK (af R i).ah d).length:=by rw[(K.arg cC a1).1,ex,←bt];exact WT λ t bD=>((K.arg M2 b3).2 t bD).1
  have ae2:x.1.size≤24:=ex▸a' (u0 K M2 b3).2.1 (aE rfl)
  have⟨b9,O⟩:=ER (z:=z) (n:=n) (K.lD cC a1) ae2 ar
  have jn:dd n (.ref (a (.row i))) (.ss [115,116,97,110,100,115])=some (.ref (a (.st i))):=gx (M.at_ _ _ a4) rfl
  refine(M.mm (b9:=b9)).l9 (v:=ll (vB W (af R i).ah d x)) hs ((cG (as:=acc) ll).symm▸fh (cn (d2 ..) hl) (aE rfl)) λ ao ez dA=>?_
  have st:bS ac (runN ac (z+25)) vi (i7 a i bi aQ aW (some (.tup ((W.dK (af R i).ah d).map bd))) bq bh (some (bd x.1)) (some (E x.2)) bB cE) n=some (.br (i7 a i bi aQ aW (some (.tup ((W.dK (af R i).ah d).map bd))) bq bh (some (bd x.1)) (some (E x.2)) bB cE),ao):=(dk (z+25) vi (i7 a i bi aQ aW (some (D.tup (eA bd (W.dK (af R i).ah d)))) bq bh (some (bd x.fst)) (some (E x.snd)) bB cE) n _ jn (hQ (M.at_ _ _ hs)) _ _ O _ ez)
  exact aZ (acc:=acc++[vB W (af R i).ah d x]) (bm:=some (bd x.1)) (eJ:=some (E x.2)) (λ y bI=>aA y (.tail _ bI)) dA ((bP _ _ (a5 rfl)).trans a4) ((cR _ _ _).trans (an (λ l=>some (a0.li l)) (Gt (f:=ll)))) ((bP _ _ λ L=>ne (aN.st.inj L)).trans Aa) (cn (dg (by rw[fg];exact jA ..)) hl) λ J H gF hE aB dF jM fq=>
   f J H gF hE (fc (M.at_ _ _ Aa) st aB) dF (mP acc (vB W (af R i).ah d x) (xs.map (vB W (af R i).ah d))▸jM) λ r L=>(fq r L).trans (bP _ _ L)
end
end Mine
end
section
namespace Mine
variable{i:C}{d3:B (ap×C)}{x j d mv:C}{p:av}{r:B C}{bi bq bj bK bB cE:Y D}{t:C}
section
variable{a:bH}{h:aT}{n:St}{T:B aP}{z:C}{W:cw}{R:B b5}{c5:C→C}{S:C→B (ap×C)}{X:Prop}
noncomputable def i9(W:cw)(R:B b5)(S:C→B (ap×C))(i aO j:C)(p:av):B (ap×C):=
 (if p=true then [(dM W (af R i).ah ((af R i).ah-aO),j+1)]else [])++(S j).map λ x=>(x.1.sub (W.dK (af R i).ah ((af R i).ah-aO)),x.2)
noncomputable def oB(S:C→B (ap×C))(i:C)(d3:B (ap×C)):C→B (ap×C):=λ x=>if x=i then d3 else S x
theorem yl:oB S i d3 i=d3:=if_pos rfl
theorem ym(h:x≠i):oB S i d3 x=S x:=if_neg h
noncomputable def zP:bk:=.cons (.o4 (.v 1) (.ss [102,108,97,103,115]) .add (.ii 4)) (.cons (.ex (.append (.aq (.v 1) (.ss [115,116,97,110,100,115])) (.tup (.cons (.tup (.cons (.ss [103]) (.cons (.bin .add (.ii 66) (.v 3)) (.cons (.v 4) .nil)))) (.cons (.aq (.aq (.v 6) (.ii 0)) (.ss [109,105,100])) .nil))))) .nil)
noncomputable def El:bk:=(.cons (.b4 (.e (.v 2)) zP .nil) (.cons (.dc [7,8] true (.aq (.aq (.v 6) (.ii 0)) (.ss [115,116,97,110,100,115])) vi) (.cons (.mD) .nil)))
noncomputable def M8:bk:=(.cons (.asg 5 E4) (.cons (.asg 6 DV) (.cons (.asg 2 (.or (.cons (.v 2) (.cons (.cmp .gt (.len (.v 5)) (.len (.v 6))) .nil)))) (.cons (.b4 (.cmp .ne (.v 6) (.lst .nil)) El .nil) .nil))))
noncomputable def xt(W:cw)(ae d:C):D:=.tup [E (ae-d),.tup ((W.dK ae d).map bd)]
theorem SN:kD .add (E x) (.ii 4)=some (E (x+4)):=rfl
theorem Fl(h:j≠i):aN.row j≠ .row i:=λ e=>h (aN.row.inj e)
theorem Nq(h:j≠i):aN.st j≠ .st i:=λ e=>h (aN.st.inj e)
noncomputable def pg(a:bH)(i:C)(bi:Y D)(p:av)(W:cw)(ae d:C)(bq:Y D)(mv:C)(bj bK bB cE:Y D):aX:=i7 a i bi (some (.cj p)) (some (E (ae-d))) (some (.tup ((W.dK ae d).map bd))) bq (some (.ref mv)) bj bK bB cE
theorem XQ(K:W.ok)(M:Good a h n)(cC:(af R i).ah≤3)(a1:d≤(af R i).ah)(ne:j≠i)(t8:nN a h i (af R i) (c5 i) [])(wr:h (.row j)=some (.ds (ow a j (af R j) (c5 j))))(hm:h (.a6 mv)=some (.li ((j::r).map λ j=>.ref (a (.row j)))))
  (f:∀(aa:St) (aI:aT),bS ac (runN ac z) (.cons (.b4 (.e (.v 2)) zP .nil) .nil) (pg a i bi p W (af R i).ah d bq mv bj bK bB cE) n=some (.br (pg a i bi p W (af R i).ah d bq mv bj bK bB cE),aa)→Good a aI aa→aI (.row i)=some (.ds (ow a i (af R i) (if p=true then c5 i+4 else c5 i)))→aI (.st i)=some (.li ((if p=true then [(dM W (af R i).ah d,j+1)]else []).map ll))→(∀r,r≠ .row i→r≠ .st i→aI r=h r)→X):X:=by
 cases p with
 |false=>exact f n h (dk z (bk.cons (S.b4 (T.e (ab.v 2)) zP bk.nil) bk.nil) (pg a i bi false W (af R i).ah d bq mv bj bK bB cE) n _ ((rfl:ie n (.cj false)=some false))) M t8.row t8.st λ _ _ _=>rfl
 |true=>
  have q:=t8.at_ M
  have qC:vv n (.ref (a (.row i))) (.ss [102,108,97,103,115])=some (E (c5 i)):=q.2.2.2.2.1
  have dJ:=M.set (c3:=.ds (ow a i (af R i) (c5 i+4))) t8.row
  have adT:j' n (.ref (a (.row i))) (.ss [102,108,97,103,115]) (E (c5 i+4))=some (n.set (a (.row i)) (.ds (ow a i (af R i) (c5 i+4)))):=x7 (M.at_ _ _ t8.row) (aE rfl)
  have O7:(up h (.row i) (some (.ds (ow a i (af R i) (c5 i+4))))) (.st i)=some (.li (([]:B (ap×C)).map ll)):=(bP _ _ (a5 rfl)).trans t8.st
  have bl:dd (n.set (a (.row i)) (.ds (ow a i (af R i) (c5 i+4)))) (.ref (a (.row j))) (.ss [109,105,100])=some (E (j+1)):=gx (dJ.at_ _ _ ((bP _ _ (Fl ne)).trans wr)) rfl
  have EI:=j7 (k:=0) (de dJ ((bP _ _ (a5 rfl)).trans hm)) rfl
  have xc:dd (n.set (a (.row i)) (.ds (ow a i (af R i) (c5 i+4)))) (.ref (a (.row i))) (.ss [115,116,97,110,100,115])=some (.ref (a (.st i))):=gx (dJ.at_ _ _ (cR _ _ _)) rfl
  refine dJ.l9 (v:=.tup [bd (dM W (af R i).ah d),E (j+1)]) O7 (aE rfl) λ ao ez dA=>?_
  rw[(u0 K cC a1).2.2]at ez
  exact f ao _ (dk z (bk.cons (S.b4 (T.e (ab.v 2)) zP bk.nil) bk.nil) (pg a i bi true W (af R i).ah d bq mv bj bK bB cE) n _ ((rfl:ie n (.cj true)=some true)) _ qC _ SN _ adT _ xc (hQ (dJ.at_ _ _ O7)) _ rfl _ EI _ bl _ ez) dA ((bP _ _ (a5 rfl)).trans (cR _ _ _)) (cR _ _ _) λ r d4 d5=>(bP _ _ d5).trans (bP _ _ d4)
theorem Nw{r:aN}(k:sW r=true):r≠ .row i∧r≠ .st i:=⟨λ L=>(nomatch(L▸k:sW (.row i)=true)),λ L=>(nomatch(L▸k:sW (.st i)=true))⟩
theorem Nv{r:aN}(k:hS r=true):r≠ .row i∧r≠ .st i:=⟨λ L=>(nomatch(L▸k:hS (.row i)=true)),λ L=>(nomatch(L▸k:hS (.st i)=true))⟩
theorem ff.upd{H:aT}{g9:C}(ae:ff a h T W R c5 S t)(a4:H (.row i)=some (.ds (ow a i (af R i) g9)))(hs:H (.st i)=some (.li (d3.map ll)))(fq:∀r,r≠ .row i→r≠ .st i→H r=h r)(aM:∀x∈d3,∃e,e≤(af R i).ah∧x.1=dM W (af R i).ah e)(dQ:d3.length≤(af R i).ah):ff a H T W R (kO c5 i g9) (oB S i d3) t where
 lw:=ae.lw.bx λ r k=>⟨rfl,λ o e=>(fq r (Nw k).1 (Nw k).2).trans e⟩
 bT:=ae.bT.off λ r o k e=>(fq r (Nv k).1 (Nv k).2).trans e
 w:=(fq _ (a5 rfl) (a5 rfl)).trans ae.w
 rows:=(fq _ (a5 rfl) (a5 rfl)).trans ae.rows
 row:=λ x aA=>(f9 (x=i)).elim (λ L=>by rw[L,G0,yl];exact⟨a4,hs⟩) λ L=>by rw[BA L,ym L];exact⟨(fq _ (Fl L) (a5 rfl)).trans (ae.row x aA).row,(fq _ (a5 rfl) (Nq L)).trans (ae.row x aA).st⟩
 eW:=ae.eW
 da:=ae.da
 lR:=λ x aA=>(f9 (x=i)).elim (λ L=>by rw[L,yl];exact aM) λ L=>by rw[ym L];exact ae.lR x aA
 mG:=λ x aA=>(f9 (x=i)).elim (λ L=>by rw[L,yl];exact dQ) λ L=>by rw[ym L];exact ae.mG x aA
theorem XR(ae:ff a h T W R c5 S t)(M:Good a h n)(ay:i<R.length)(a1:d≤(af R i).ah)(LG:1≤d)(dx:S i=[])(cl:gv R ((af R i).ah-d) (af R i).nm (af R i).aM=j::r)(hm:h (.a6 mv)=some (.li ((gv R ((af R i).ah-d) (af R i).nm (af R i).aM).map λ j=>.ref (a (.row j)))))
  (f:∀(J:St) (H:aT),bS ac (runN ac (z+31)) El (pg a i bi p W (af R i).ah d bq mv bj bK bB cE) n=some (.f5 .nn,J)→Good a H J→ff a H T W R (kO c5 i (if p=true then c5 i+4 else c5 i)) (oB S i (i9 W R S i ((af R i).ah-d) j p)) t→(∀r,r≠ .row i→r≠ .st i→H r=h r)→X):X:=by
 have K:=ae.lw.ok
 have hF:=ae.ok ay
 have fZ:=rv.mp (cl▸.head _:j∈gv R ((af R i).ah-d) (af R i).nm (af R i).aM)
 have lt:(af R j).ah< (af R i).ah:=fZ.2.1▸Cq (e' LG a1) LG
 have ne:j≠i:=λ L=>oR _ (L▸lt)
 have wr:=ae.row j fZ.1
 rw[cl]at hm
 refine XQ (z:=z+31) (p:=p) (bi:=bi) (bq:=bq) (bj:=bj) (bK:=bK) (bB:=bB) (cE:=cE) K M hF.1 a1 ne (dx▸ae.row i ay) wr.row hm λ aa aI aw dJ LS w7 xN=>?_
 have Pc:=(xN _ (a5 rfl) (Nq ne)).trans wr.st
 have Gq:=ae.mG j fZ.1
 have first:(if p=true then [(dM W (af R i).ah d,j+1)]else []).length≤1:=match p with|true=>cJ _|false=>fs _
 refine ach (z:=z+6) (i:=i) (j:=j) (d:=d) (bi:=bi) (aQ:=some (.cj p)) (aW:=some (E ((af R i).ah-d))) (bq:=bq) (bh:=some (.ref mv)) (bB:=bB) (cE:=cE) (l:=(S j).map ll) K hF.1 a1 fZ.2.1 ne (S j) (bm:=bj) (eJ:=bK) (ae.lR j fZ.1) dJ LS w7 Pc (cn (hv first (a' Gq (ae.ok fZ.1).1)) (aE rfl)) λ ao bJ gF hE aB dA z9 FM=>?_
 have adb:=r9 a1
 have Gb:i9 W R S i ((af R i).ah-d) j p=(if p=true then [(dM W (af R i).ah d,j+1)]else [])++(S j).map (vB W (af R i).ah d):=by unfold i9;rw[adb];rfl
 have xc:dd aa (.ref (a (.row j))) (.ss [115,116,97,110,100,115])=some (.ref (a (.st j))):=gx (dJ.at_ _ _ ((xN _ (Fl ne) (a5 rfl)).trans wr.row)) rfl
 have EI:=j7 (k:=0) (de dJ ((xN _ (a5 rfl) (a5 rfl)).trans hm)) rfl
 have bZ:bS ac (runN ac (z+31)) (.cons (.dc [7,8] true (.aq (.aq (.v 6) (.ii 0)) (.ss [115,116,97,110,100,115])) vi) (.cons (.mD) .nil)) (pg a i bi p W (af R i).ah d bq mv bj bK bB cE) aa=some (.f5 .nn,ao):=(dk (z+31) (bk.cons (Mine.S.dc [7,8] true (((ab.v 6).aq (ab.ii 0)).aq (ab.ss [115,116,97,110,100,115])) vi) (bk.cons Mine.S.mD bk.nil)) (pg a i bi p W (af R i).ah d bq mv bj bK bB cE) aa _ EI _ xc _ (ix (dJ.at_ _ _ Pc)) ((cG (as:=S j) ll).symm▸a' Gq (a' (ae.ok fZ.1).1 (aE rfl))) _ _ aB)
 refine f ao bJ ((j9 aw).trans bZ) dA (ae.upd ((FM _ (a5 rfl)).trans LS) (Gb▸z9) (λ r d4 d5=>(FM r d5).trans (xN r d4 d5)) ?_ ?_) λ r d4 d5=>(FM r d5).trans (xN r d4 d5)
 ·rw[Gb]
  exact λ y bI=>(nG.mp bI).elim (λ bI=>match p,bI with
   |true,bI=>⟨d,a1,(jz.mp bI).symm▸rfl⟩
   |false,bI=>nomatch(bI:y∈ [])) λ bI=>(hu.mp bI).elim λ w L=>L.2▸(ae.lR j fZ.1 w L.1).elim λ e q=>
    have le:d+e≤(af R i).ah:=a' (fA (fZ.2.1▸q.1) d) (dg (Rj a1));
    ⟨d+e,le,(an (ap.sub _) (q.2.trans (fZ.2.1▸rfl))).trans (EW K hF.1 le)⟩
 ·rw[Gb,fg,cG]
  exact a' (hv first Gq) (qT .. ▸lt)
end
end Mine
end
section
namespace Mine
variable{V:jg}{env:aX}{i t:C}
section
variable{a:bH}{h:aT}{n:St}{T:B aP}{z:C}{W:cw}{R:B b5}{c5:C→C}{S:C→B (ap×C)}{X:Prop}
theorem ab3{x:C}{e:ab}{p b:av}(h:env[x]? =some (some (.cj p)))(b3:ci ac V e env n=some (.cj b,n)):ci ac V (.or (.cons (.v x) (.cons e .nil))) env n=some (.cj (p||b),n):=
 show xY ac V _ env n=_ from aR (qz h) (aR rfl (match p with|true=>if_pos rfl|false=>(if_neg mM).trans b3))
theorem W9{x y:ab}{j:C}(ax:ci ac V x env n=some (E i,n))(aH:ci ac V y env n=some (E j,n)):ci ac V (.cmp .gt x y) env n=some (.cj (decide (j<i)),n):=aR ax (aR aH (aR nV rfl))
noncomputable def nf(R:B b5)(i d:C):B Nat:=hi R ((af R i).ah-d) (af R i).nm
noncomputable def vl(R:B b5)(i d:C)(p:av):Bool:=p||decide ((iu R i d).length< (nf R i d).length)
theorem aam{m:C}{l:B D}(HL:ff a h T W R c5 S t)(ay:i<R.length)(dx:S i=[])(c:C):∀{d:C} {p:av} {s:C×C×av} {n:St} {aI:aT} {cX cm o5 bN bm eJ hC em:Y D},c+d=(af R i).ah+1→1≤d→b0 a h T 0 n T aI→aI (.a6 m)=some (.li l)→scan R (af R i).nm (af R i).aM c p=some s→
  (∀(J:St) (H:aT),@fD (live (.ref m) l) (e0 (.ref m) l) (λ x aF J=>(dh true [3,4] x aF).bind λ dG=>bS ac (runN ac (z+31)) M8 dG J) ((pT d c).map (xt W (af R i).ah)) (i7 a i (some (.ref (a .w))) (some (.cj p)) cX cm o5 bN bm eJ hC em) n=some (.f5 .nn,J)→Good a H J→ff a H T W R (kO c5 i (if s.2.2=true then c5 i+4 else c5 i)) (oB S i (i9 W R S i s.1 s.2.1 s.2.2)) t→(∀r o,gZ r=false→r≠ .row i→r≠ .st i→h r=some o→H r=some o)→X)→X:=by
 induction c with
 |zero=>exact λ{d p s n aI cX cm o5 bN bm eJ hC em} hc a1 go hm hs=>nomatch hs
 |succ c aZ=>
  intro d p s n aI cX cm o5 bN bm eJ hC em hc a1 go hm hs f
  have ae:=HL.go go
  have LD:=oS ((Rw c d).symm.trans hc)
  have hl:(af R i).ah-d=c:=by rw[←LD,Ri]
  have XE:d≤(af R i).ah:=LD▸iF ..
  have jM:scan R (af R i).nm (af R i).aM ((af R i).ah-d+1) p=some s:=hl.symm▸hs
  have dq:=de go.good hm
  have aw:=aac (z:=z+31) (i:=i) (c:=(af R i).ah-d) (aQ:=some (.cj p)) (bp:=some (.tup ((W.dK (af R i).ah d).map bd))) (bq:=o5) (bh:=bN) (bj:=bm) (bK:=eJ) (bB:=hC) (cE:=em) ae go.good ay
  have g1:=b0.start go.bT go.good (.li ((nf R i d).map λ j=>.ref (a (.row j))))
  have aB:=WM (z:=z+31) (i:=i) (c:=(af R i).ah-d) (m:=n.length) (bi:=some (.ref (a .w))) (aQ:=some (.cj p)) (aW:=some (E ((af R i).ah-d))) (bp:=some (.tup ((W.dK (af R i).ah d).map bd))) (bh:=bN) (bj:=bm) (bK:=eJ) (bB:=hC) (cE:=em) (ae.go g1.1) g1.1.good ay (de g1.1.good g1.2)
  have g2:=b0.start g1.1.bT g1.1.good (.li ((iu R i d).map λ j=>.ref (a (.row j))))
  have u4:=uY (de g2.1.good (g2.1.a6 g1.2).1)
  have xq:=uY (de g2.1.good g2.2)
  have gL:=b0.start g2.1.bT g2.1.good (.li [])
  have jL:=((go.trans g1.1).trans g2.1).trans gL.1
  have ne:=Fk (de gL.1.good (gL.1.a6 g2.2).1) (de gL.1.good gL.2)
  rw[Q2]at ne
  have tt:fr ac (runN ac (z+31)) (.cmp .ne (.v 6) (.lst .nil)) (pg a i (some (.ref (a .w))) (vl R i d p) W (af R i).ah d (some (.ref n.length)) (n++[a0.li ((nf R i d).map λ j=>.ref (a (.row j)))]).length bm eJ hC em) (n++[.li ((nf R i d).map λ j=>.ref (a (.row j)))]++[.li ((iu R i d).map λ j=>.ref (a (.row j)))])=some (!(iu R i d).isEmpty,n++[.li ((nf R i d).map λ j=>.ref (a (.row j)))]++[.li ((iu R i d).map λ j=>.ref (a (.row j)))]++[.li []]):=(jd (z+31) (Mine.T.cmp jf.ne (ab.v 6) (ab.lst d6.nil)) (pg a i (some (D.ref (a aN.w))) (vl R i d p) W (af R i).ah d (some (D.ref (f' n))) (f' (n++[a0.li (eA (λ j=>D.ref (a (aN.row j))) (nf R i d))])) bm eJ hC em) (n++[a0.li (eA (λ j=>D.ref (a (aN.row j))) (nf R i d))]++[a0.li (eA (λ j=>D.ref (a (aN.row j))) (iu R i d))]) _ ne)
  have lc:∀{he},(bS ac (runN ac (z+31)) (.cons (.b4 (.cmp .ne (.v 6) (.lst .nil)) El .nil) .nil) (pg a i (some (.ref (a .w))) (vl R i d p) W (af R i).ah d (some (.ref n.length)) (n++[a0.li ((nf R i d).map λ j=>.ref (a (.row j)))]).length bm eJ hC em) (n++[.li ((nf R i d).map λ j=>.ref (a (.row j)))]++[.li ((iu R i d).map λ j=>.ref (a (.row j)))]))=he→bS ac (runN ac (z+31)) M8 (i7 a i (some (.ref (a .w))) (some (.cj p)) (some (E ((af R i).ah-d))) (some (.tup ((W.dK (af R i).ah d).map bd))) o5 bN bm eJ hC em) n=he:=λ e=>aR (aR aw rfl) (aR (aR aB rfl) (aR (aR (ab3 rfl (W9 (aR (qz rfl) (aR u4 rfl)) (aR (qz rfl) (aR xq rfl)))) rfl) e))
  cases cl:iu R i d with
  |cons fS r=>
   have L:=lk (Bc cl) jM
   subst L
   exact XR (z:=z) (i:=i) (d:=d) (mv:=(n++[a0.li ((nf R i d).map λ j=>.ref (a (.row j)))]).length) (p:=vl R i d p) (bi:=some (.ref (a .w))) (bq:=some (.ref n.length)) (bj:=bm) (bK:=eJ) (bB:=hC) (cE:=em) (HL.go jL) gL.1.good ay XE a1 dx cl (gL.1.a6 g2.2).1 λ J H fH dF lY fq=>
    f J H (K' dq (lc (aR (aR tt ((if_pos (an (λ l:B C=>!l.isEmpty) cl)).trans fH)) rfl))) dF lY λ r o k iz kH e=>(fq r iz kH).trans (jL.off k e)
  |nil=>
   have hL:vl R i d p=(p||decide (0< (hi R ((af R i).ah-d) (af R i).nm).length)):=an (λ x:B C=>p||decide (x.length< (nf R i d).length)) cl
   have z9:=(x5 cl).symm.trans jM
   rw[←hL,hl]at z9
   exact aZ (d:=d+1) (p:=vl R i d p) (cX:=some (E ((af R i).ah-d))) (cm:=some (.tup ((W.dK (af R i).ah d).map bd))) (o5:=some (.ref n.length)) (bN:=some (.ref (n++[a0.li ((nf R i d).map λ j=>.ref (a (.row j)))]).length)) (bm:=bm) (eJ:=eJ) (hC:=hC) (em:=em) ((jA c d).symm.trans hc) (iF ..) jL (gL.1.a6 (g2.1.a6 (g1.1.a6 hm).1).1).1 z9 λ J H j4 dF lY off=>
    f J H (fc dq (lc (aR (aR tt (if_neg (ne_true_of_eq_false (an (λ l:B C=>!l.isEmpty) cl)))) rfl)) j4) dF lY off
theorem ZN{s:C×C×av}(ae:ff a h T W R c5 S t)(M:Good a h n)(ay:i<R.length)(dx:S i=[])(hs:scan R (af R i).nm (af R i).aM (af R i).ah false=some s)
  (f:∀(J:St) (H:aT),runN ac (z+32) 61 [.ref (a .w),.ref (a (.row i))] n=some (.nn,J)→Good a H J→ff a H T W R (kO c5 i (if s.2.2=true then c5 i+4 else c5 i)) (oB S i (i9 W R S i s.1 s.2.1 s.2.2)) t→(∀r o,gZ r=false→r≠ .row i→r≠ .st i→h r=some o→H r=some o)→X):X:=by
 have hF:=ae.ok ay
 refine EQ (z:=z+5) ae.lw ae.bT M hF.1 λ m aa aI aw cW hO cl=>?_
 have g2:=b0.start cW.bT cW.good (.li ((pT 1 (af R i).ah).map (xt W (af R i).ah)))
 have zT:=DT (de cW.good hO)
 have Vo:(lL W (af R i).ah ((af R i).ah+1)).drop 1=(pT 1 (af R i).ah).map (xt W (af R i).ah):=by unfold lL;rw[Ce];rfl
 rw[Vo]at zT
 have a3:((pT 1 (af R i).ah).map (xt W (af R i).ah)).length≤100000:=by rw[cG,Q3];exact a' hF.1 (aE rfl)
 exact aam (z:=z) (m:=aa.length) (l:=(pT 1 (af R i).ah).map (xt W (af R i).ah)) ae ay dx (af R i).ah (d:=1) (p:=false) (cX:=none) (cm:=none) (o5:=none) (bN:=none) (bm:=none) (eJ:=none) (hC:=none) (em:=none) rfl (cJ 1) (cW.trans g2.1) g2.2 hs λ J H aB dF lY off=>
  f J H (cN (z+31) 61 [D.ref (a aN.w),D.ref (a (aN.row i))] n rfl rfl _ (((ae.row i ay).at_ M).1) _ _ aw _ zT _ (ix (de g2.1.good g2.2)) a3 _ _ aB) dF lY off
end
end Mine
end
section
namespace Mine
variable{i:C}{d3:B (ap×C)}{os:B C}
section
variable{W:cw}{R:B b5}{X:Prop}
noncomputable abbrev l0:=(C→C)×(C→B (ap×C))×(C→B (C×ap×C))
noncomputable def kL(W:cw)(R:B b5)(s:l0)(i:C):l0:=
 match scan R (af R i).nm (af R i).aM (af R i).ah false with
 |some (aO,j,p)=>(kO s.1 i (if p=true then s.1 i+4 else s.1 i),oB s.2.1 i (i9 W R s.2.1 i aO j p),mI R s.2.2 i (i9 W R s.2.1 i aO j p))
 |none=>s
theorem Pa{s:l0}{aO j:C}{p:av}(e:scan R (af R i).nm (af R i).aM (af R i).ah false=some (aO,j,p)):kL W R s i=(kO s.1 i (if p=true then s.1 i+4 else s.1 i),oB s.2.1 i (i9 W R s.2.1 i aO j p),mI R s.2.2 i (i9 W R s.2.1 i aO j p)):=
 an (λ x:Y (C×C×av)=>match x with|some (aO,j,p)=>(kO s.1 i (if p=true then s.1 i+4 else s.1 i),oB s.2.1 i (i9 W R s.2.1 i aO j p),mI R s.2.2 i (i9 W R s.2.1 i aO j p))|none=>s) e
noncomputable def N0(I:C→B (C×ap×C))(R:B b5)(j:C):B (ap×C):=((I (af R j).ah).filter (own j)).map λ e=>(e.2.1,e.2.2)
structure wq(R:B b5)(g:(C→C)×(C→B (C×ap×C)))(s:l0):Prop where
 f:g.1=s.1
 i:g.2=s.2.2
 own:∀j,j<R.length→s.2.1 j=N0 g.2 R j
theorem aci(h:∀x∈d3,x.2≠900):(d3.map (jR i)).filter (own i)=d3.map (jR i):=B8.mpr λ e b3=>(hu.mp b3).elim λ x L=>L.2▸dI.mpr ⟨lE (i+1),p8.mpr (h x L.1)⟩
theorem acj{x:C}(h:x≠i):(d3.map (jR i)).filter (own x)=[]:=tO.mpr λ e b3 y=>(hu.mp b3).elim λ w L=>h (oS ((eq_of_beq (dI.mp y).1).symm.trans (an Ie L.2).symm))
theorem N2{l:B (C×ap×C)}(rQ:∀e∈l,e.1=i+1→e.2.2=900):l.filter (own i)=[]:=tO.mpr λ e b3 y=>p8.mp (dI.mp y).2 (rQ e b3 (eq_of_beq (dI.mp y).1))
theorem adh{g:(C→C)×(C→B (C×ap×C))}{s:l0}{c:C}(K:W.ok)(r:wq R g s)(io:nD W R g.2 c)(b9:il R 8)(eW:∀r∈R,r.ah≤3∧(r.nm=109∨r.nm=110)∧r.aM≤1)(fQ:R.length≤16)(p:nO R g.1 g.2 i)(f:wq R (ka W R g i) (kL W R s i)→nD W R (ka W R g i).2 (c+1)→X):X:=by
 refine AP b9 p.1 p.2.1 λ aO j b aS=>?_
 have hl:=OQ aS
 have fZ:=rv.mp hl.2
 have hF:=eW _ (h3 (iM p.1))
 rw[Gv (W:=W) (s:=g) aS,Pa (W:=W) (s:=s) aS]at f
 have cH:i9 W R s.2.1 i aO j b=ho W R g.2 i aO j b:=by
  unfold i9 ho
  rw[r.own j fZ.1,←fZ.2.1]
  exact an (_++·) tQ
 rw[cH,←r.i,←r.f]at f
 have Fx:=Fw (p:=b) K io hF.1 hl.1 fZ.1 fZ.2.1
 have Ff:∀x∈ho W R g.2 i aO j b,x.2≠900:=λ x m=>(Fx x m).elim λ bw q=>mS (q.2.1▸cn (a' q.1 fQ) (aE rfl))
 have DD:(if b=true then g.1 i+4 else g.1 i)=(if b=true then 6+128*(af R i).aM else g.1 i):=match b with
  |true=>(an (· +4) p.2.2.1).trans (pV 2 _ 4)
  |false=>rfl
 rw[DD]at f
 refine f ⟨rfl,rfl,λ x aA=>(f9 (x=i)).elim (λ L=>?_) λ L=>?_⟩ (PR K io hF.1 hl.1 fZ.1 fZ.2.1 fQ p.2.2.2)
 ·rw[L]
  refine yl.trans (BZ ?_)
  show((mI R g.2 i (ho W R g.2 i aO j b) (af R i).ah).filter (own i)).map _=_
  rw[show mI R g.2 i (ho W R g.2 i aO j b) (af R i).ah=g.2 (af R i).ah++(ho W R g.2 i aO j b).map (jR i)from if_pos rfl,r3,N2 p.2.2.2,aci Ff,H4,tQ]
  exact Q6 _
 ·refine(ym L).trans ((r.own x aA).trans (BZ ?_))
  exact tu (λ cf=>(cf.filter (own x)).map (λ e=>(e.2.1,e.2.2))=N0 g.2 R x) (λ _ k=>by rw[r3];exact(an (λ l=>(QW (own x) (g.2 (af R x).ah)++l).map _) (acj L)).trans ((an (eA _) (eX _)).trans k)) rfl
theorem adg(K:W.ok)(b9:il R 8)(eW:∀r∈R,r.ah≤3∧(r.nm=109∨r.nm=110)∧r.aM≤1)(fQ:R.length≤16)(os:B C):∀{g:(C→C)×(C→B (C×ap×C))} {s:l0} {c:C},os.Nodup→(∀i∈os,nO R g.1 g.2 i)→wq R g s→nD W R g.2 c→wq R (os.foldl (ka W R) g) (os.foldl (kL W R) s):=by
 induction os with
 |nil=>exact λ _ _ r _=>r
 |cons i os aZ=>
  intro g s c nd be r io
  have nd:=nH.mp nd
  exact adh K r io b9 eW fQ (be i (.head _)) λ bw Y1=>aZ nd.2 (λ jN h'=>nO.step b9 (be i (.head _)) (λ L=>nd.1 (L▸h')) (be jN (.tail _ h'))) bw Y1
theorem aaD:(ck os.length).map (λ x=>os.getD x 0)=os:=HO (by rw[cG,gB]) λ i ax aH=>by
 rw[HX,HY]
 exact ej ((getD_at aH).symm.trans (h2 aH))
theorem ab6:mB R os=(ck 4).flatMap λ l=>os.filter λ j=>(af R j).ah==l:=by
 unfold mB hD
 rw[List.map_flatMap,show(fw R os).length=os.length from cG ..]
 exact an (λ f=>(ck 4).flatMap f) (funext λ l=>(an (eA λ x=>os.getD x 0) (HP λ x aA=>an (· ==l) (Nb (R:=R) (ga.mp aA)))).trans (QZ.symm.trans (an (QW λ j=>(af R j).ah==l) aaD)))
end
end Mine
end
section
namespace Mine
variable{t l i j:C}{bR:B (Y D)}{bi aQ aW bh bj bK:Y D}
section
variable{a:bH}{h:aT}{n:St}{T:B aP}{z:C}{W:cw}{R:B b5}{c5:C→C}{S:C→B (ap×C)}{X:Prop}
theorem ff.keep{H:aT}{aC:B aP}(ae:ff a h T W R c5 S t)(f:∀r o,gZ r=false→r≠ .ei l→h r=some o→H r=some o)(bT:c6 a H aC):ff a H aC W R c5 S t:=
 ⟨⟨let⟨O,e,k⟩:=ae.lw.w;⟨O,f _ _ rfl (a5 rfl) e,k⟩,let⟨aG,e,k⟩:=ae.lw.store;⟨aG,f _ _ rfl (a5 rfl) e,k⟩,f _ _ rfl (a5 rfl) ae.lw.many,f _ _ rfl (a5 rfl) ae.lw.up,ae.lw.ok⟩,bT,f _ _ rfl (a5 rfl) ae.w,f _ _ rfl (a5 rfl) ae.rows,λ j bt=>⟨f _ _ rfl (a5 rfl) (ae.row j bt).row,f _ _ rfl (a5 rfl) (ae.row j bt).st⟩,ae.eW,ae.da,ae.lR,ae.mG⟩
noncomputable def lU(a:bH):a0:=.li [.ref (a (.ei 0)),.ref (a (.ei 1)),.ref (a (.ei 2)),.ref (a (.ei 3))]
theorem PY(hl:l<4)(M:Good a h n)(cS:h .want=some (lU a)):dd n (.ref (a .want)) (E l)=some (.ref (a (.ei l))):=j7 (M.at_ _ _ cS) (nb l (lr hl) rfl rfl rfl rfl)
theorem Fm(h:j≠i):aN.ei j≠ .ei i:=λ e=>h (aN.ei.inj e)
noncomputable def BI:bk:=(.cons (.ex (.append (.aq (.v 4) (.v 9)) (.tup (.cons (.aq (.v 5) (.ss [109,105,100])) (.cons (.call 54 (.cons (.v 1) (.cons (.v 10) .nil))) (.cons (.v 11) .nil)))))) .nil)
noncomputable def hz(a:bH)(bf:B (Y D))(bi aQ aW bq bh bj bK bB cE dZ:Y D):aX:=bi::some (.ref (a .w))::aQ::aW::some (.ref (a .want))::bq::bh::bj::bK::bB::cE::dZ::bf
theorem af'{lst:B D}(ay:i<R.length)(hl:l<4)(xs:B (ap×C)):∀{n:St} {aI:aT} {bX:B aP} {bf:B D} {O:B (C×ap×C)} {em fF:Y D},(∀x∈xs,∃e,e≤(af R i).ah∧x.1=dM W (af R i).ah e)→ff a aI bX W R c5 S t→Good a aI n→aI .want=some (lU a)→aI (.ei l)=some (.li bf)→es bX bf O→aI (.st i)=some (.li lst)→O.length+xs.length<900→bX.length+24*xs.length<400000→
  (∀(J:St) (H:aT) (aC:B aP) (kc:B D) (iB iC:Y D),@fD (live (.ref (a (.st i))) lst) (e0 (.ref (a (.st i))) lst) (λ x aF J=>(dh true [10,11] x aF).bind λ dG=>bS ac (runN ac (z+31)) BI dG J) (xs.map ll) (hz a bR bi aQ aW (some (.ref (a (.row i)))) bh bj bK (some (E l)) em fF) n=some (.br (hz a bR bi aQ aW (some (.ref (a (.row i)))) bh bj bK (some (E l)) iB iC),J)→Good a H J→ff a H aC W R c5 S t→(∃X,aC=bX++X)→aC.length≤bX.length+24*xs.length→H (.ei l)=some (.li kc)→es aC kc (O++xs.map (jR i))→(∀r o,gZ r=false→r≠ .ei l→aI r=some o→H r=some o)→X)→X:=by
 induction xs with
 |nil=>exact λ{n aI bX bf O em fF} aA ae M cS bI im hs w3 a3 f=>f n aI bX bf em fF (hg (M.at_ _ _ hs)) M ae ⟨[],(eX _).symm⟩ (cJ _) bI ((eX O).symm▸im) λ _ _ _ _ e=>e
 |cons x xs aZ=>
  intro n aI bX bf O em fF aA ae M cS bI im hs w3 a3 f
  have⟨e,b3,ex⟩:=aA x (.head _)
  have rs:=u0 ae.lw.ok (ae.ok ay).1 b3
  have d4:bX.length+24+24*xs.length<400000:=rx (b:=bX.length)▸a3
  refine xp (z:=z) ae.lw ae.bT M (t:=x.1) (ex.symm▸rs.1) (ex.symm▸a' rs.2.1 (aE rfl)) (cn (d2 ..) (fh d4 (aE rfl))) λ k aa cL bJ aw q go=>?_
  have bl:=((ae.row i ay).at_ M).2.2.2.1
  refine go.good.l9 (v:=iN (jR i x) k) (go.off (r:=.ei l) rfl bI) (im.len▸fh (cn (d2 ..) w3) (aE rfl)) λ bW ez d0=>?_
  have fq:∀r,r≠ .ei l→(up bJ (.ei l) (some (.li (bf++[iN (jR i x) k])))) r=bJ r:=λ r L=>bP _ _ L
  have tS:=ae.keep (λ r o k L e=>(fq r L).trans (go.off k e)) (go.bT.off λ r o k e=>(fq r λ L=>nomatch(L▸k:hS (.ei l)=true)).trans e)
  have st:bS ac (runN ac (z+31)) BI (hz a bR bi aQ aW (some (.ref (a (.row i)))) bh bj bK (some (E l)) (some (bd x.1)) (some (E x.2))) n=some (.br (hz a bR bi aQ aW (some (.ref (a (.row i)))) bh bj bK (some (E l)) (some (bd x.1)) (some (E x.2))),bW):=(dk (z+31) BI (hz a bR bi aQ aW (some (D.ref (a (aN.row i)))) bh bj bK (some (E l)) (some (bd x.fst)) (some (E x.snd))) n _ (PY (n:=n) hl M cS) (hQ (M.at_ _ _ bI)) _ bl _ _ aw _ ez)
  exact aZ (O:=O++[jR i x]) (em:=some (bd x.1)) (fF:=some (E x.2)) (λ y bI=>aA y (.tail _ bI)) tS d0 ((fq _ (a5 rfl)).trans (go.off rfl cS)) (cR _ _ _) ((im.more λ q=>go.eS q).add (e:=jR i x) q) ((fq _ (a5 rfl)).trans (go.off rfl hs)) (cn (dg (by rw[fg];exact jA ..)) w3) (cn (hb go.le _) d4) λ J H aC kc iB iC aB dF lY jH Av Eu sQ abS=>
   f J H aC kc iB iC (fc (M.at_ _ _ hs) st aB) dF lY (me go.jm.ext jH) (a' Av (a' (hb go.le _) (dg rx))) Eu (mP O (jR i x) (xs.map (jR i))▸sQ) λ r o k L e=>abS r o k L ((fq r L).trans (go.off k e))
structure kg(a:bH)(h:aT)(T:B aP)(W:cw)(R:B b5)(s:l0)(t:C)(os:B C)(dX b:C):Prop where
 c':ff a h T W R s.1 s.2.1 t
 want:h .want=some (lU a)
 wl:∀l,l<4→∃bf,h (.ei l)=some (.li bf)∧es T bf (s.2.2 l)
 BB:∀l,(s.2.2 l).length≤b
 eL:h (.a6 dX)=some (.li (os.map λ j=>.ref (a (.row j))))
 lp:T.length≤200000+100*b
noncomputable def aa4:aN→av
 | .row _| .st _| .ei _=>false
 |_=>true
noncomputable def rm(r:aN):Bool:=!gZ r&&aa4 r
theorem MI{r:aN}(h:rm r=true):gZ r=false:=(tI _).mp (dI.mp h).1
noncomputable def u6:bk:=(.cons (.b4 (.cmp .eq (.aq (.v 5) (.ss [108,101,118,101,108])) (.v 9)) (.cons (.ex (.call 61 (.cons (.v 1) (.cons (.v 5) .nil)))) (.cons (.dc [10,11] true (.aq (.v 5) (.ss [115,116,97,110,100,115])) BI) .nil)) (.nil)) .nil)
theorem adD{aO:C}{p:av}(ae:ff a h T W R c5 S t)(e5:aO< (af R i).ah)(bt:j<R.length)(n5:(af R j).ah=aO):(i9 W R S i aO j p).length≤(af R i).ah:=by
 have k:=n5▸ae.mG j bt
 rw[←cG (f:=λ x:ap×C=>(x.1.sub (W.dK (af R i).ah ((af R i).ah-aO)),x.2))]at k
 cases p with
 |false=>exact h4 (cn k e5)
 |true=>exact cn k e5
theorem aax{s:l0}{b dX:C}{os:B C}{em fF:Y D}(P:kg a h T W R s t os dX b)(M:Good a h n)(b9:il R 8)(ay:i<R.length)(be:(af R i).eL=true)(dx:s.2.1 i=[])(az:b≤500)
  (f:∀(J:St) (H:aT) (aC:B aP) (iB iC:Y D),bS ac (runN ac (z+32)) u6 (hz a bR bi aQ aW (some (.ref (a (.row i)))) bh bj bK (some (E (af R i).ah)) em fF) n=some (.br (hz a bR bi aQ aW (some (.ref (a (.row i)))) bh bj bK (some (E (af R i).ah)) iB iC),J)→Good a H J→kg a H aC W R (kL W R s i) t os dX (b+3)→(∃X,aC=T++X)→(∀r o,rm r=true→h r=some o→H r=some o)→X):X:=by
 refine AP b9 ay be λ aO j p aS=>?_
 have hl:=OQ aS
 have fZ:=rv.mp hl.2
 have hF:=P.c'.ok ay
 have tN:=pW hF.1
 have O:=Pa (W:=W) (s:=s) aS
 have da:=adD (p:=p) P.c' hl.1 fZ.1 fZ.2.1
 have x0:=a' da hF.1
 refine ZN (z:=z) P.c' M ay dx aS λ aa aI aw dJ kW qw=>?_
 have kW:ff a aI T W R (kO s.1 i (if p=true then s.1 i+4 else s.1 i)) (oB s.2.1 i (i9 W R s.2.1 i aO j p)) t:=kW
 have⟨bf,bI,im⟩:=P.wl (af R i).ah tN
 have w7:=(kW.row i ay).st
 have Bj:=kW.lR i ay
 rw[yl]at w7 Bj
 have w':=qw .want _ rfl (a5 rfl) (a5 rfl) P.want
 have d4:T.length≤250000:=a' P.lp (fA (gU 100 az) 200000)
 refine af' (z:=z+1) (l:=(af R i).ah) (lst:=(i9 W R s.2.1 i aO j p).map ll) (bR:=bR) (bi:=bi) (aQ:=aQ) (aW:=aW) (bh:=bh) (bj:=bj) (bK:=bK) (em:=em) (fF:=fF) ay tN (i9 W R s.2.1 i aO j p) Bj kW dJ w' (qw _ _ rfl (a5 rfl) (a5 rfl) bI) im w7 (cn (hv (a' (P.BB _) az) x0) (aE rfl)) (cn (hv d4 (gU 24 x0)) (aE rfl)) λ ao bJ cL kc iB iC aB dA Cg jH ZW Eu sQ nj=>?_
 have d':=((P.c'.row i ay).at_ M).1
 have cO:=((kW.row i ay).at_ dJ).2.2.2.2.2.1
 have cz:cY .eq (E (af R i).ah) (E (af R i).ah) n=some true:=qd.trans (an some (iL rfl))
 have a3:((i9 W R s.2.1 i aO j p).map ll).length≤100000:=(cG ..).symm▸a' x0 (aE rfl)
 refine f ao bJ cL iB iC (dk (z+32) u6 (hz a bR bi aQ aW (some (D.ref (a (aN.row i)))) bh bj bK (some (E (af R i).ah)) em fF) n _ d' _ cz _ _ aw _ cO _ (ix (dJ.at_ _ _ w7)) a3 _ _ aB) dA (O.symm▸⟨Cg,nj _ _ rfl (a5 rfl) w',λ l hl=>?_,λ l=>?_,nj _ _ rfl (a5 rfl) (qw _ _ rfl (a5 rfl) (a5 rfl) P.eL),?_⟩) jH λ r o k e=>nj r o (MI k) (λ L=>nomatch(L▸k:rm (.ei (af R i).ah)=true)) (qw r o (MI k) (λ L=>nomatch(L▸k:rm (.row i)=true)) (λ L=>nomatch(L▸k:rm (.st i)=true)) e)
 ·exact(f9 (l=(af R i).ah)).elim (λ L=>⟨kc,L▸Eu,(an (es cL kc) (if_pos L)).mpr (L▸sQ)⟩)
   λ L=>let⟨bR,Ew,ED⟩:=P.wl l hl;⟨bR,nj _ _ rfl (Fm L) (qw _ _ rfl (a5 rfl) (a5 rfl) Ew),(an (es cL bR) (if_neg L)).mpr (ED.more λ q=>let⟨_,jH⟩:=jH;jH▸q.more)⟩
 ·exact tu (λ cf=>cf.length≤b+3) (λ _ _=>by rw[fg,cG];exact hv (P.BB l) x0) (a' (P.BB l) (d2 ..))
 ·exact a' ZW (a' (hv P.lp (a' (gU 24 x0) (aE rfl:24*3≤100*3))) (dg ((mQ ..).trans (an (200000+·) (Nat.mul_add 100 b 3).symm))))
end
end Mine
end
section
namespace Mine
variable{s:l0}{x t dX b:C}{os:B C}{bR:B (Y D)}{bi aQ aW bh bj:Y D}
section
variable{a:bH}{h:aT}{n:St}{T:B aP}{z:C}{W:cw}{R:B b5}{X:Prop}
theorem Pb{i:C}(z:x≠i):(kL W R s i).2.1 x=s.2.1 x:=
 have iy:∀y:Y (C×C×av),(match y with|some (aO,j,p)=>((kO s.1 i (if p=true then s.1 i+4 else s.1 i),oB s.2.1 i (i9 W R s.2.1 i aO j p),mI R s.2.2 i (i9 W R s.2.1 i aO j p)):l0)|none=>s).2.1 x=s.2.1 x:=λ y=>match y with
  |some (aO,j,p)=>ym z
  |none=>rfl
 iy _
theorem WJ(os:B C):∀{s:l0},x∉os→(os.foldl (kL W R) s).2.1 x=s.2.1 x:=by
 induction os with
 |nil=>exact λ _=>rfl
 |cons i os aZ=>exact λ z=>(aZ λ q=>z (.tail _ q)).trans (Pb λ q=>z (q▸.head _))
theorem kg.mono{hw:C}(P:kg a h T W R s t os dX b)(q:b≤hw):kg a h T W R s t os dX hw:=⟨P.c',P.want,P.wl,λ l=>a' (P.BB l) q,P.eL,a' P.lp (fA (gU 100 q) _)⟩
noncomputable def AB(R:B b5)(os:B C)(l:C):B Nat:=os.filter λ j=>(af R j).ah==l
noncomputable def aaw(z dX:C)(lst xs:B D)(env:aX)(n:St):Y (eZ×St):=@fD (live (.ref dX) lst) (e0 (.ref dX) lst) (λ x aF J=>(dh false [5] x aF).bind λ dG=>bS ac (runN ac (z+32)) u6 dG J) xs env n
theorem aay{l:C}{bK:Y D}(b9:il R 8)(is:B C):∀{s:l0} {n:St} {h:aT} {T:B aP} {b:C} {o5 em fF:Y D},(∀i∈is,i<R.length∧(af R i).eL=true)→is.Nodup→(∀i∈is,(af R i).ah=l→s.2.1 i=[])→kg a h T W R s t os dX b→Good a h n→b+3*is.length≤500→
  (∀(J:St) (H:aT) (aC:B aP) (gz iB iC:Y D),aaw z dX (os.map λ j=>.ref (a (.row j))) (is.map λ j=>.ref (a (.row j))) (hz a bR bi aQ aW o5 bh bj bK (some (E l)) em fF) n=some (.br (hz a bR bi aQ aW gz bh bj bK (some (E l)) iB iC),J)→Good a H J→kg a H aC W R ((AB R is l).foldl (kL W R) s) t os dX (b+3*is.length)→(∃X,aC=T++X)→(∀r o,rm r=true→h r=some o→H r=some o)→X)→X:=by
 induction is with
 |nil=>exact λ{s n h T b o5 em fF} ay nd dx P M az f=>f n h T o5 em fF (hg (de M P.eL)) M P ⟨[],(eX T).symm⟩ λ _ _ _ e=>e
 |cons i is aZ=>
  intro s n h T b o5 em fF ay nd dx P M az f
  have nd:=nH.mp nd
  have rf:=ay i (.head _)
  have dq:=de M P.eL
  have h':∀i∈is,i<R.length∧(af R i).eL=true:=λ i m=>ay i (.tail _ m)
  have w2:b+3+3*is.length≤500:=pt (k:=3)▸az
  refine(f9 ((af R i).ah=l)).elim (λ L=>?_) λ L=>?_
  ·refine aax (z:=z) (bR:=bR) (bi:=bi) (aQ:=aQ) (aW:=aW) (bh:=bh) (bj:=bj) (bK:=bK) (em:=em) (fF:=fF) P M b9 rf.1 rf.2 (dx i (.head _) L) (a' (d2 ..) az) λ aa aI bX iB iC aw dJ h6 jH qw=>?_
   rw[L]at aw
   exact aZ (s:=kL W R s i) (b:=b+3) (o5:=some (.ref (a (.row i)))) (em:=iB) (fF:=iC) h' nd.2 (λ x aA tG=>(Pb λ(q:x=i)=>nd.1 (q▸aA)).trans (dx x (.tail _ aA) tG)) h6 dJ w2 λ ao bJ cL jS xU xV aB dA mX qc nj=>
    f ao bJ cL jS xU xV (fc dq aw aB) dA (pt (k:=3) (b:=b)▸(an (λ l=>kg a bJ cL W R (l.foldl (kL W R) s) t os dX (b+3+3*is.length)) (B7 (p:=λ j=>(af R j).ah==l) (jk.mpr L))).mpr mX) (me jH qc) λ r o k e=>nj r o k (qw r o k e)
  ·have d':=((P.c'.row i rf.1).at_ M).1
   have cz:cY .eq (E (af R i).ah) (E l) n=some false:=qd.trans (an some (j3 L))
   have st:bS ac (runN ac (z+32)) u6 (hz a bR bi aQ aW (some (.ref (a (.row i)))) bh bj bK (some (E l)) em fF) n=some (.br (hz a bR bi aQ aW (some (.ref (a (.row i)))) bh bj bK (some (E l)) em fF),n):=(dk (z+32) u6 (hz a bR bi aQ aW (some (D.ref (a (aN.row i)))) bh bj bK (some (E l)) em fF) n _ d' _ cz)
   exact aZ (s:=s) (b:=b) (o5:=some (.ref (a (.row i)))) (em:=em) (fF:=fF) h' nd.2 (λ x aA tG=>dx x (.tail _ aA) tG) P M (a' (hb (d2 b 3) _) w2) λ ao bJ cL jS xU xV aB dA mX qc nj=>
    f ao bJ cL jS xU xV (fc dq st aB) dA ((an (λ l=>kg a bJ cL W R (l.foldl (kL W R) s) t os dX (b+3*(is.length+1))) (B6 (p:=λ j=>(af R j).ah==l) λ y=>L (eq_of_beq y))).mpr (mX.mono (fA (gU 3 (h5 _)) b))) qc nj
noncomputable def sV:bk:=(.cons (.dc [5] false (.v 8) u6) .nil)
theorem aav{lo ay:am}{cf:B D}(b9:il R 8)(be:∀i∈os,i<R.length∧(af R i).eL=true)(nd:os.Nodup)(oq:os.length≤16)(mp:B C):∀{s:l0} {n:St} {h:aT} {T:B aP} {b:C} {o5 hC em fF:Y D},mp.Nodup→(∀i∈os,(af R i).ah∈mp→s.2.1 i=[])→kg a h T W R s t os dX b→Good a h n→b+48*mp.length≤500→
  (∀(J:St) (H:aT) (aC:B aP) (gz tb iB iC:Y D),@fD (live (.ew lo ay) cf) (e0 (.ew lo ay) cf) (λ x aF J=>(dh false [9] x aF).bind λ dG=>bS ac (runN ac (z+32)) sV dG J) (mp.map E) (hz a bR bi aQ aW o5 bh bj (some (.ref dX)) hC em fF) n=some (.br (hz a bR bi aQ aW gz bh bj (some (.ref dX)) tb iB iC),J)→Good a H J→kg a H aC W R ((mp.flatMap (AB R os)).foldl (kL W R) s) t os dX (b+48*mp.length)→(∃X,aC=T++X)→(∀r o,rm r=true→h r=some o→H r=some o)→X)→X:=by
 induction mp with
 |nil=>exact λ{s n h T b o5 hC em fF} nl dx P M az f=>f n h T o5 hC em fF (hg trivial) M P ⟨[],(eX T).symm⟩ λ _ _ _ e=>e
 |cons l mp aZ=>
  intro s n h T b o5 hC em fF nl dx P M az f
  have nl:=nH.mp nl
  have w2:b+48+48*mp.length≤500:=pt (k:=48)▸az
  have Xv:=a' (fA (gU 3 oq) b) (a' (d2 ..) w2)
  refine aay (z:=z) (l:=l) (bR:=bR) (bi:=bi) (aQ:=aQ) (aW:=aW) (bh:=bh) (bj:=bj) (bK:=some (.ref dX)) (o5:=o5) (em:=em) (fF:=fF) b9 os be nd (λ i ay L=>dx i ay (L▸.head _)) P M Xv λ aa aI bX gz iB iC aw dJ h6 ex off=>?_
  have st:bS ac (runN ac (z+32)) sV (hz a bR bi aQ aW o5 bh bj (some (.ref dX)) (some (E l)) em fF) n=some (.br (hz a bR bi aQ aW gz bh bj (some (.ref dX)) (some (E l)) iB iC),aa):=(dk (z+32) sV (hz a bR bi aQ aW o5 bh bj (some (D.ref dX)) (some (E l)) em fF) n _ (ix (de M P.eL)) ((cG (as:=os) λ j=>D.ref (a (.row j))).symm▸a' oq (aE rfl)) _ _ aw)
  exact aZ (s:=(AB R os l).foldl (kL W R) s) (b:=b+48) (o5:=gz) (hC:=some (E l)) (em:=iB) (fF:=iC) nl.2 (λ i ay L=>(WJ (AB R os l) λ q=>nl.1 (eq_of_beq (oP.mp q).2▸L)).trans (dx i ay (.tail _ L))) (h6.mono (fA (gU 3 oq) b)) dJ w2 λ ao bJ cL jS ac0 xU xV aB dA mX wR nj=>
   f ao bJ cL jS ac0 xU xV (fc trivial st aB) dA (pt (k:=48) (b:=b)▸(an (λ s=>kg a bJ cL W R s t os dX (b+48+48*mp.length)) ((an (HS (kL W R) s) List.flatMap_cons).trans List.foldl_append)).mpr mX) (me ex wR) λ r o k e=>nj r o k (off r o k e)
theorem aau{o5 hC em fF:Y D}(b9:il R 8)(ay:∀i∈os,i<R.length∧(af R i).eL=true)(nd:os.Nodup)(oq:os.length≤16)(dx:∀i∈os,s.2.1 i=[])(P:kg a h T W R s t os dX b)(M:Good a h n)(az:b+192≤500)
  (f:∀(J:St) (H:aT) (aC:B aP) (gz tb iB iC:Y D),jT ac (runN ac (z+32)) (.dc [9] false (.gQ (.ii 4)) sV) (hz a bR bi aQ aW o5 bh bj (some (.ref dX)) hC em fF) n=some (.br (hz a bR bi aQ aW gz bh bj (some (.ref dX)) tb iB iC),J)→Good a H J→kg a H aC W R ((mB R os).foldl (kL W R) s) t os dX (b+192)→(∃X,aC=T++X)→(∀r o,rm r=true→h r=some o→H r=some o)→X):X:=
 aav (z:=z) (lo:=0) (ay:=4) (cf:=[E 0,E 1,E 2,E 3]) b9 ay nd oq (ck 4) wc (λ i ay _=>dx i ay) P M az λ J H aC gz tb iB iC e dF pZ ex off=>
  f J H aC gz tb iB iC (vt (v:=.ew 0 4) (l:=[E 0,E 1,E 2,E 3]) rfl rfl (aE rfl) e) dF ((an (λ l:B C=>kg a H aC W R (l.foldl (kL W R) s) t os dX (b+192)) ab6).mpr pZ) ex off
end
end Mine
end
section
namespace Mine
variable{t cB:C}{H:aT}{xs:B C}{c:C}
section
variable{a:bH}{h:aT}{n:St}{T:B aP}{z:C}{W:cw}{R:B b5}{c5:C→C}{S:C→B (ap×C)}{I:C→B (C×ap×C)}{X:Prop}
theorem ff.take(ae:ff a h T W R c5 S t)(cS:H .w=some (.ds (dE a cB 8)))(bx:bY (dB [.w]) a h a H):ff a H T W R c5 S cB:=
 have f:∀r o,r≠ .w→h r=some o→H r=some o:=λ r o z e=>(bx r (xG z)).2 o e
 ⟨⟨⟨_,cS,rfl,rfl,rfl⟩,let⟨aG,ir,gD⟩:=ae.lw.store;⟨aG,f _ _ (a5 rfl) ir,gD⟩,f _ _ (a5 rfl) ae.lw.many,f _ _ (a5 rfl) ae.lw.up,ae.lw.ok⟩,ae.bT.bx (bx.sub λ r k=>nT (p:=hS) rfl k),cS,f _ _ (a5 rfl) ae.rows,λ j bt=>⟨f _ _ (a5 rfl) (ae.row j bt).row,f _ _ (a5 rfl) (ae.row j bt).st⟩,ae.eW,ae.da,ae.lR,ae.mG⟩
theorem ff.but{rI:aN}(ae:ff a h T W R c5 S t)(fq:∀r,r≠rI→H r=h r)(k: [aN.w,.store,.eb,.fz,.gA,.row 0,.st 0].all (λ r=>!(r.ctorIdx==rI.ctorIdx))=true)(dW:hS rI=false):ff a H T W R c5 S t:=
 have f:∀r o,r∈ [aN.w,.store,.eb,.fz,.gA,.row 0,.st 0]→∀{bw:aN},bw.ctorIdx=r.ctorIdx→h bw=some o→H bw=some o:=λ r o m bw aB e=>(fq bw (a5 (((an (· ==rI.ctorIdx) aB).trans ((tI _).mp (g'.mp k r m)))))).trans e
 ⟨⟨let⟨O,e,k⟩:=ae.lw.w;⟨O,f _ _ (.head _) rfl e,k⟩,let⟨aG,e,k⟩:=ae.lw.store;⟨aG,f _ _ (.tail _ (.head _)) rfl e,k⟩,f _ _ (.tail _ (.tail _ (.head _))) rfl ae.lw.many,f _ _ (.tail _ (.tail _ (.tail _ (.head _)))) rfl ae.lw.up,ae.lw.ok⟩,ae.bT.off λ r o k e=>(fq r λ L=>nomatch(L.symm▸dW:hS r=false).symm.trans k).trans e,f _ _ (.head _) rfl ae.w,f _ _ (.tail _ (.tail _ (.tail _ (.tail _ (.head _))))) rfl ae.rows,λ j bt=>⟨f _ _ (.tail _ (.tail _ (.tail _ (.tail _ (.tail _ (.head _)))))) rfl (ae.row j bt).row,f _ _ (.tail _ (.tail _ (.tail _ (.tail _ (.tail _ (.tail _ (.head _))))))) rfl (ae.row j bt).st⟩,ae.eW,ae.da,ae.lR,ae.mG⟩
structure nE(a:bH)(h:aT)(T:B aP)(W:cw)(R:B b5)(c5:C→C)(S:C→B (ap×C))(xs:B C)(t:C)(I:C→B (C×ap×C))(c:C):Prop where
 c':ff a h T W R c5 S t
 dR:h .dR=some (.li (xs.map E))
 aM:ko a h
 ty:∀l,l<4→l6 a h l (W.many l)
 types:∃x,h .types=some (.li (dw 66 .nn++[.ref (a (.ty 0)),.ref (a (.ty 1)),.ref (a (.ty 2)),.ref (a (.ty 3)),x]))
 im:∀l,l<4→∃bf bR,h (.cM l)=some (.li bf)∧es T bf (I l)∧h (.ei l)=some (.li bR)∧es T bR (I l)
 want:h .want=some (lU a)
 each:∀l,∀e∈I l,e.2.1= .b2 34∧e.2.2=900∧e.1≤c
 len:∀l,(I l).length≤c
noncomputable def y'(I:C→B (C×ap×C))(l j:C):C→B (C×ap×C):=λ cf=>if cf=l then I cf++[(j+1,.b2 34,900)]else I cf
theorem Jq{l j cf:C}(P:B (C×ap×C)→Prop)(y:cf=l→P (I cf)→P (I cf++[(j+1,.b2 34,900)]))(z:P (I cf)):P (y' I l j cf):=
 (f9 (cf=l)).elim (λ e=>(an P (if_pos e)).mpr (y e z)) λ e=>(an P (if_neg e)).mpr z
noncomputable def AH:aN→av
 | .w| .cM _| .ei _=>false
 |_=>true
noncomputable def s5(h H:aT):Prop:=∀r o,gZ r=false→AH r=true→h r=some o→H r=some o
theorem nE.keep{ug:C}{aC:B aP}{ey:C→B (C×ap×C)}(P:nE a h T W R c5 S xs t I c)(f:s5 h H)(c':ff a H aC W R c5 S cB)(im:∀l,l<4→∃bf bR,H (.cM l)=some (.li bf)∧es aC bf (ey l)∧H (.ei l)=some (.li bR)∧es aC bR (ey l))(nY:∀l,∀e∈ey l,e.2.1= .b2 34∧e.2.2=900∧e.1≤ug)(le:∀l,(ey l).length≤ug):nE a H aC W R c5 S xs cB ey ug:=
 ⟨c',f _ _ rfl rfl P.dR,let⟨aG,eE,s⟩:=P.aM.bF;⟨aG,f _ _ rfl rfl eE,s⟩,λ l hl=>let⟨⟨aG,aw,e⟩,⟨cp,gk,p⟩⟩:=P.ty l hl;⟨⟨aG,f _ _ rfl rfl aw,e⟩,⟨cp,f _ _ rfl rfl gk,p⟩⟩,let⟨x,e⟩:=P.types;⟨x,f _ _ rfl rfl e⟩,im,f _ _ rfl rfl P.want,nY,le⟩
noncomputable def Ld:ab:=.tup (.cons (.ss [103]) (.cons (.ii 34) (.cons (.tup .nil) .nil)))
noncomputable def uU:bk:=(.cons (.b4 (.and (.cons (.cmp .lt (.aq (.v 5) (.ss [108,101,118,101,108])) (.ii 3)) (.cons (.cmp .eq (.call 52 (.cons (.v 1) (.cons (.ii 3) .nil))) (.ii 2)) .nil))) (.cons (.ex (.call 36 (.cons (.v 2) (.cons (.bin .add (.ii 66) (.aq (.v 5) (.ss [108,101,118,101,108]))) (.cons (.aq (.v 5) (.ss [109,105,100])) (.cons (.call 54 (.cons (.v 1) (.cons Ld .nil))) (.cons (.ii 900) .nil))))))) (.cons (.ex (.append (.aq (.v 4) (.aq (.v 5) (.ss [108,101,118,101,108]))) (.tup (.cons (.aq (.v 5) (.ss [109,105,100])) (.cons (.call 54 (.cons (.v 1) (.cons Ld .nil))) (.cons (.ii 900) .nil)))))) .nil)) (.nil)) .nil)
noncomputable def xd(a:bH)(bR:B (Y D))(bi aW:Y D)(c:C)(bh bj bK bB cE dZ:Y D):aX:=hz a bR bi (some (.ref (a .store))) aW (some (.ref (a (.row c)))) bh bj bK bB cE dZ
theorem YL{aa:St}{aI:aT}(ae:ff a h T W R c5 S t)(h6:nE a aI T W R c5 S xs (t+1) I c)(dJ:Good a aI aa)(hc:c<R.length)(L:(af R c).ah<3)(a3:T.length<100000)
  (f:∀(ao bW eO J:St) (H:aT) (aC:B aP) (k ct:C),runN ac (z+31) 54 [.ref (a .w),bd (.b2 34)] aa=some (E k,ao)→runN ac (z+31) 36 [.ref (a .store),E (66+(af R c).ah),E (c+1),E k,.ii 900] ao=some (.nn,bW)→(∃eC,dd bW (.ref (a (.row c))) (.ss [108,101,118,101,108])=some (E (af R c).ah)∧dd bW (.ref (a (.row c))) (.ss [109,105,100])=some (E (c+1))∧eC=true)→dd bW (.ref (a .want)) (E (af R c).ah)=some (.ref (a (.ei (af R c).ah)))→ml bW (.ref (a (.ei (af R c).ah)))=true→runN ac (z+31) 54 [.ref (a .w),bd (.b2 34)] bW=some (E ct,eO)→l8 eO (.ref (a (.ei (af R c).ah))) (.tup [E (c+1),E ct,.ii 900])=some J→Good a H J→nE a H aC W R c5 S xs (t+1) (y' I (af R c).ah c) (c+1)→(∃X,aC=T++X)→aC.length≤T.length+48→s5 aI H→X):X:=by
 have kW:=h6.c'
 have uX:(af R c).ah<4:=pX L
 have UE:c<900:=e' hc (a' kW.da (aE rfl))
 refine xp (z:=z) kW.lw kW.bT dJ (t:=.b2 34) (.inl rfl) (aE rfl) (e' (nI a3 24) (aE rfl)) λ k ao cL bJ aB gm b8=>?_
 have Cg:=kW.go b8
 have⟨bf,bR,hf,iq,k2,nS⟩:=h6.im (af R c).ah uX
 have⟨ht,ty⟩:=h6.types
 have⟨aG,eE,jU,pH,tf,vz⟩:=h6.aM.bF
 have⟨⟨vG,er,eN,hr,kM,lS⟩,_⟩:=h6.ty (af R c).ah uX
 have MV:=cn (h6.len (af R c).ah) UE
 refine L8 (z:=z+29) (e1:=66+(af R c).ah) (l:=(af R c).ah) (e:=(c+1,.b2 34,900)) (k:=k) b8.good b8.bT ((fj (b8.good.at_ _ _ (b8.off rfl eE))).trans tf) (GP uX b8.good (b8.off (r:=.types) rfl ty)) ((fj (b8.good.at_ _ _ (b8.off rfl er))).trans lS) (b8.off rfl hf) (iq.more λ q=>b8.eS q) gm MV (λ e b3 w=>oR c (a' (dg w.1.symm) (h6.each _ e b3).2.2:c+1≤c)) λ bW bZ d0=>?_
 have lN:∀r,r≠ .cM (af R c).ah→(up bJ (.cM (af R c).ah) (some (.li (bf++[iN (c+1,.b2 34,900) k])))) r=bJ r:=λ r L=>bP _ _ L
 have tS:=Cg.but lN rfl rfl
 have oF:cL.length+24<500000:=cn (hb b8.le 24) (e' (nI (nI a3 24) 24) (aE rfl))
 refine xp (z:=z) tS.lw tS.bT d0 (t:=.b2 34) (.inl rfl) (aE rfl) oF λ ct eO sj hP dL ac4 fX=>?_
 have LZ:=(lN (.ei (af R c).ah) (a5 rfl)).trans (b8.off rfl k2)
 refine fX.good.l9 (v:=iN (c+1,.b2 34,900) ct) (fX.off rfl LZ) (nS.len▸fh MV (aE rfl)) λ jW ez h0=>?_
 have xO:∀r,r≠ .ei (af R c).ah→(up hP (.ei (af R c).ah) (some (.li (bR++[iN (c+1,.b2 34,900) ct])))) r=hP r:=λ r L=>bP _ _ L
 have off:s5 aI (up hP (.ei (af R c).ah) (some (.li (bR++[iN (c+1,.b2 34,900) ct])))):=λ r o c2 dW e=>(xO r λ L=>nomatch(L▸dW:AH (.ei (af R c).ah)=true)).trans (fX.off c2 ((lN r λ L=>nomatch(L▸dW:AH (.cM (af R c).ah)=true)).trans (b8.off c2 e)))
 have d9:∀{k:C} {t:ap},ba T k t→ba sj k t:=λ q=>fX.eS (b8.eS q)
 have ot:=(tS.row c hc).at_ d0
 refine f ao bW eO jW _ sj k ct aB bZ ⟨true,ot.1,ot.2.2.2.1,rfl⟩ (PY uX d0 ((lN _ (a5 rfl)).trans (b8.off rfl h6.want))) (hQ (d0.at_ _ _ LZ)) dL ez h0 (h6.keep off ((tS.go fX).but xO rfl rfl) (λ l hl=>(f9 (l=(af R c).ah)).elim (λ tF=>?_) λ tF=>?_) (λ l=>Jq (λ cf=>∀e∈cf,e.2.1= .b2 34∧e.2.2=900∧e.1≤c+1) (λ _ k e b3=>(nG.mp b3).elim (k e) λ b3=>jz.mp b3▸⟨rfl,rfl,cJ _⟩) λ e b3=>⟨(h6.each l e b3).1,(h6.each l e b3).2.1,ls (h6.each l e b3).2.2⟩) λ l=>Jq (λ cf=>cf.length≤c+1) (λ _ _=>by rw[fg];exact gq (h6.len l)) (ls (h6.len l))) (me b8.jm.ext fX.jm.ext) (of b8.le fX.le) off
 ·rw[tF]
  have DC:y' I (af R c).ah c (af R c).ah=I (af R c).ah++[(c+1,.b2 34,900)]:=if_pos rfl
  rw[DC]
  exact⟨_,_,(xO _ (a5 rfl)).trans (fX.off rfl (cR _ _ _)),((iq.more λ q=>b8.eS q).add (e:=(c+1,.b2 34,900)) gm).more (λ q=>fX.eS q),cR _ _ _,(nS.more d9).add (e:=(c+1,.b2 34,900)) ac4⟩
 ·have DC:y' I (af R c).ah c l=I l:=if_neg tF
  rw[DC]
  have⟨kc,Qc,gf,i0,iJ,zi⟩:=h6.im l hl
  exact⟨kc,Qc,(xO _ (a5 rfl)).trans (fX.off rfl ((lN _ (Nr tF)).trans (b8.off rfl gf))),i0.more d9,(xO _ (Fm tF)).trans (fX.off rfl ((lN _ (a5 rfl)).trans (b8.off rfl iJ))),zi.more d9⟩
theorem YN{bR:B (Y D)}{bi aW bh bj bK bB cE dZ:Y D}(P:nE a h T W R c5 S xs t I c)(M:Good a h n)(hc:c<R.length)(bD:t<90000)(a3:T.length<100000)
  (f:∀(J:St) (H:aT) (aC:B aP) (cB:C) (ey:C→B (C×ap×C)),bS ac (runN ac (z+31)) uU (xd a bR bi aW c bh bj bK bB cE dZ) n=some (.br (xd a bR bi aW c bh bj bK bB cE dZ),J)→Good a H J→nE a H aC W R c5 S xs cB ey (c+1)→cB≤t+1→(∃X,aC=T++X)→aC.length≤T.length+48→s5 h H→X):X:=by
 have ae:=P.c'
 have q:=(ae.row c hc).at_ M
 have KN:∀l,∀e∈I l,e.2.1= .b2 34∧e.2.2=900∧e.1≤c+1:=λ l e b3=>⟨(P.each l e b3).1,(P.each l e b3).2.1,ls (P.each l e b3).2.2⟩
 have Av:∀l,(I l).length≤c+1:=λ l=>ls (P.len l)
 have cz:cY .lt (E (af R c).ah) (.ii 3) n=some (decide ((af R c).ah<3)):=M' (y:=3)
 refine(f9 ((af R c).ah<3)).elim (λ L=>?_) λ L=>?_
 ·rw[iL L]at cz
  refine yg (z:=z+30) (k:=6) (m:=3) M ae.w P.dR (fh bD (aE rfl)) (aE rfl) λ x aa aI LY aw dJ vR hB=>?_
  have kW:=ae.take vR hB
  have DW:∀r o,r≠ .w→h r=some o→aI r=some o:=λ r o k e=>(hB r (xG k)).2 o e
  have AQ:s5 h aI:=λ r o _ k e=>DW r o (λ L=>nomatch(L▸k:AH .w=true)) e
  have L9:∀l,l<4→∃bf bR,aI (.cM l)=some (.li bf)∧es T bf (I l)∧aI (.ei l)=some (.li bR)∧es T bR (I l):=λ l hl=>let⟨bf,bR,hf,iq,k2,nS⟩:=P.im l hl;⟨bf,bR,DW _ _ (a5 rfl) hf,iq,DW _ _ (a5 rfl) k2,nS⟩
  have cD:cY .eq (E x) (.ii 2) aa=some (decide (x=2)):=qd (y:=2)
  have fU:=(kW.row c hc).at_ dJ
  have gf:fG .add (.ii 66) (E (af R c).ah)=some (E (66+(af R c).ah)):=rfl
  refine(f9 (x=2)).elim (λ tG=>?_) λ tG=>?_
  ·rw[iL tG]at cD
   exact YL (z:=z) ae (P.keep AQ kW L9 P.each P.len) dJ hc L a3 λ ao bW eO J H aC k ct aB bZ ⟨_,ot,te,_⟩ afV is dL ez dF pZ ex le off=>
    f J H aC (t+1) _ (dk (z+31) uU (xd a bR bi aW c bh bj bK bB cE dZ) n _ q.1 _ cz _ _ aw _ cD _ fU.1 _ gf _ fU.2.2.2.1 _ _ aB _ _ bZ _ ot _ afV is _ te _ _ dL _ ez) dF pZ (cJ _) ex le λ r o c2 dW e=>off r o c2 dW (AQ r o c2 dW e)
  ·rw[j3 tG]at cD
   exact f aa aI T (t+1) I (dk (z+31) uU (xd a bR bi aW c bh bj bK bB cE dZ) n _ q.1 _ cz _ _ aw _ cD) dJ (P.keep AQ kW L9 KN Av) (cJ _) ⟨[],(eX T).symm⟩ (d2 ..) AQ
 ·rw[j3 L]at cz
  exact f n h T t I (dk (z+31) uU (xd a bR bi aW c bh bj bK bB cE dZ) n _ q.1 _ cz) M (P.keep (λ r o _ _ e=>e) ae P.im KN Av) (h5 _) ⟨[],(eX T).symm⟩ (d2 ..) λ r o _ _ e=>e
end
end Mine
end
section
namespace Mine
variable{xs:B C}{bR:B (Y D)}{bi aW:Y D}{t:C}{aQ:Y D}
section
variable{a:bH}{h:aT}{n:St}{T:B aP}{z:C}{W:cw}{R:B b5}{c5:C→C}{S:C→B (ap×C)}{al:B (am×D)}{X:Prop}
noncomputable def YK(z m:C)(l xs:B D)(env:aX)(n:St):Y (eZ×St):=@fD (live (.ref m) l) (e0 (.ref m) l) (λ x aF J=>(dh false [5] x aF).bind λ dG=>bS ac (runN ac (z+31)) uU dG J) xs env n
theorem YM{bh bj bK bB cE dZ:Y D}(m:C):∀{c:C} {n:St} {h:aT} {T:B aP} {t:C} {I:C→B (C×ap×C)} {o5:Y D},c+m=R.length→nE a h T W R c5 S xs t I c→Good a h n→t+m<90000→T.length+48*m<100000→
  (∀(J:St) (H:aT) (aC:B aP) (cB:C) (ey:C→B (C×ap×C)) (gz:Y D),YK z (a .gA) ((ck R.length).map λ j=>.ref (a (.row j))) ((pT c m).map λ j=>.ref (a (.row j))) (hz a bR bi (some (.ref (a .store))) aW o5 bh bj bK bB cE dZ) n=some (.br (hz a bR bi (some (.ref (a .store))) aW gz bh bj bK bB cE dZ),J)→Good a H J→nE a H aC W R c5 S xs cB ey R.length→cB≤t+m→(∃X,aC=T++X)→aC.length≤T.length+48*m→s5 h H→X)→X:=by
 induction m with
 |zero=>exact λ{c n h T t I o5} hc P M bD a3 f=>f n h T t I o5 (hg (M.at_ _ _ P.c'.rows)) M ((Rk c).symm.trans hc▸P) (cJ _) ⟨[],(eX T).symm⟩ (cJ _) λ r o _ _ e=>e
 |succ m aZ=>
  intro c n h T t I o5 hc P M bD a3 f
  have z5:c+1+m=R.length:=(jA c m).trans hc
  exact YN (z:=z) (bR:=bR) (bi:=bi) (aW:=aW) (bh:=bh) (bj:=bj) (bK:=bK) (bB:=bB) (cE:=cE) (dZ:=dZ) P M (z5▸d2 (c+1) m) (cn (d2 ..) bD) (cn (d2 ..) a3) λ aa aI bX jV ce aw dJ h6 M9 jH pn qw=>
   aZ (o5:=some (.ref (a (.row c)))) z5 h6 dJ (cn (a' (hb M9 m) (dg (jA t m))) bD) (cn (a' (hb pn _) (dg pt)) a3) λ ao bJ cL yk c1 gz aB dA mX aan qc of nj=>
    f ao bJ cL yk c1 gz (fc (M.at_ _ _ P.c'.rows) aw aB) dA mX (a' aan (a' (hb M9 m) (dg (jA t m)))) (me jH qc) (a' of (a' (hb pn _) (dg pt))) λ r o c2 dW e=>nj r o c2 dW (qw r o c2 dW e)
noncomputable def D4:bk:=(.cons (.gJ (.aq (.v 1) (.ss [103,105,118,101,110])) (.v 3) (.call 55 (.cons (.v 1) (.cons (.aq (.aq (.v 1) (.ss [109,97,110,121])) (.ii 0)) .nil)))) .nil)
noncomputable def zX(er eN:ap)(c:C):ap:=if c=109 then er else if c=110 then eN else .k 7
noncomputable def OE:bk:=.cons (.gJ (.v 1) (.ss [103,105,118,101,110]) (.eP .s)) (.cons (.dc [3] false (.ss [109,110]) D4) .nil)
noncomputable def m7(w:C)(bR:B (Y D))(bi aQ aW:Y D):aX:=bi::some (.ref w)::aQ::aW::bR
theorem Lo{c:C}{en:B (B C×D)}(lw:fO a h W)(M:Good a h n)(cS:h .w=some (.ds (dE a t 8)))(aA:h .dR=some (.li (xs.map E)))(i1:h .hH=some (.ds en))(XK:en.length<10)(bD:t<90000)
  (f:∀(u:ap) (J:St) (H:aT),bS ac (runN ac (z+2)) D4 (m7 (a .w) bR bi aQ (some (.ss [c]))) n=some (.br (m7 (a .w) bR bi aQ (some (.ss [c]))),J)→Good a H J→H .w=some (.ds (dE a (t+1) 8))→H .hH=some (.ds (c7 en [c] (bd u)))→(u.ar (W.many 0)∧u.wf∧u.size≤2)→bY (dB [.w,.hH]) a h a H→X):X:=by
 refine Pp (z:=z) (k:=6) (m:=W.many 0) M cS aA (fh bD (aE rfl)) λ u aa aI e q dJ vR hB=>?_
 have LK:=(hB .hH (bo rfl)).2 _ i1
 have eI:=(lw.zf M).1
 have dN:dd n (.ref (a .eb)) (.ii 0)=some (E (W.many 0)):=(lw.zf M).2 0 (fs _)
 have jn:dd aa (.ref (a .w)) (.ss [103,105,118,101,110])=some (.ref (a .hH)):=gx (dJ.at_ _ _ vR) rfl
 have st:=x7 (s:=[c]) (v:=bd u) (dJ.at_ _ _ LK) (fh XK (aE rfl))
 exact f u _ _ (dk (z+2) D4 (m7 (a aN.w) bR bi aQ (some (D.ss [c]))) n _ eI _ dN _ _ e _ jn _ st) (dJ.set LK) ((bP _ _ (a5 rfl)).trans vR) (cR _ _ _) q (bY.trans (q:=dB [.w,.hH]) (hB.sub (gI λ r m=>jz.mp m▸.head _)) (bY.kK (.tail _ (.head _))))
theorem W3{x:D}(M:Good a h n)(wl:nR a h T W (dE a t 7) al)(aA:h .dR=some (.li (xs.map E)))(aM:ko a h)(ty:∀l,l<4→si a h l (W.many l))(Yu:h .types=some (.li (dw 66 .nn++[.ref (a (.ty 0)),.ref (a (.ty 1)),.ref (a (.ty 2)),.ref (a (.ty 3)),x])))(hm:h .meths=some (.li [.nn]))(a4:h .gA=some (.li []))(bD:t<9000)(Xx:∀ae,ae≤3→oJ T W al ae)
  (f:∀(jc kN:ap) (J:St) (H:aT) (aY:bH) (eM:Y D),bS ac (runN ac (z+2)) OE (m7 (a .w) bR bi aQ aW) n=some (.br (m7 (a .w) bR bi aQ eM),J)→Good aY H J→iG aY H T W al (zX jc kN) [] xs (t+2)→aY .w=a .w→aY .store=a .store→X):X:=by
 have iy:∀{ek:bH} {cQ:aT} {bW:St},Good ek cQ bW→jT ac (runN ac (z+2)) (.gJ (.v 1) (.ss [103,105,118,101,110]) (.eP .s)) (m7 (a .w) bR bi aQ aW) n=some (.br (m7 (a .w) bR bi aQ aW),bW)→cQ .w=some (.ds (dE ek t 8))→cQ .hH=some (.ds [])→bY (dB [.w,.hH]) a h ek cQ→ek .w=a .w→X:=λ{ek cQ bW} d0 st ig gL ng gd=>by
  have E5:∀{pc:aT} {ae4:C},pc .w=some (.ds (dE ek ae4 8))→bY (dB [.w,.hH]) a h ek pc→fO ek pc W:=λ w bx=>⟨⟨_,w,rfl,rfl,rfl⟩,let⟨aG,ir,gD⟩:=wl.lw.store;⟨aG,(bx .store (bo rfl)).2 _ ir,(bx .kt (bo rfl)).1.symm▸gD⟩,(bx .eb (bo rfl)).2 _ wl.lw.many,(bx .fz (bo rfl)).2 _ wl.lw.up,wl.lw.ok⟩
  refine Lo (z:=z) (c:=109) (bR:=bR) (bi:=bi) (aQ:=aQ) (E5 ig ng) d0 ig ((ng .dR (bo rfl)).2 _ aA) gL (aE rfl) (fh bD (aE rfl)) λ jc eO hP dL hZ tv mg d' f1=>?_
  have xC:=ng.trans f1
  refine Lo (z:=z) (c:=110) (bR:=bR) (bi:=bi) (aQ:=aQ) (E5 tv xC) hZ tv ((xC .dR (bo rfl)).2 _ aA) mg (aE rfl) (cn bD (aE rfl)) λ kN jW i4 fH h0 tw wY cO hn=>?_
  have hT:=xC.trans hn
  have F:∀{r:aN} {o:a0},([aN.w,.hH].all λ p=>!(p.ctorIdx==r.ctorIdx))=true→h r=some o→i4 r=some o:=λ k e=>(hT _ (bo k)).2 _ e
  rw[gd]at dL fH
  have zE:∀l,ek (.ty l)=a (.ty l):=λ l=>(hT (.ty l) (bo rfl)).1
  exact f jc kN jW i4 ek (some (.ss [110])) (th st (th (vt (v:=.ss [109,110]) (l:=[.ss [109],.ss [110]]) rfl rfl (aE rfl) ((zS dL).trans ((zS fH).trans (hg trivial)))) rfl)) h0
   {wl:=⟨E5 tw hT,wl.bT.bx (hT.sub λ r k=>nT (p:=hS) rfl k),tw,rfl,wl.be.bx (hT .host (bo rfl)).2 (hT .kt (bo rfl)).1 (hT .fE (bo rfl)).1,F rfl wl.az,wl.ok⟩
    dR:=F rfl aA
    aM:=aM.bx (hT .store (bo rfl)).2 (hT .kt (bo rfl)).1 (hT .types (bo rfl)).1 (hT .meths (bo rfl)).1
    ty:=λ l hl=>(ty l hl).1.bx (hT.sub λ r k=>by rcases k with rfl|rfl|rfl|rfl<;>exact bo rfl)
    cM:=λ l hl=>F rfl (ty l hl).2.2
    types:=⟨x,by rw[zE 0,zE 1,zE 2,zE 3];exact F rfl Yu⟩
    given:=wY
    lH:=λ c=>(f9 (c=109)).elim (λ L=>by rw[show zX jc kN c=jc from if_pos L];exact d') λ d4=>(f9 (c=110)).elim (λ L=>by rw[show zX jc kN c=kN from(if_neg d4).trans (if_pos L)];exact cO) λ d5=>by rw[show zX jc kN c= .k 7 from(if_neg d4).trans (if_neg d5)];exact⟨trivial,.inl rfl,h5 1⟩
    meths:=F rfl hm
    dv:=λ l hl=>F rfl (ty l hl).2.1
    rows:=F rfl a4
    bl:=λ j r e=>nomatch e
    row:=λ j r e=>nomatch e
    eW:=λ r a4=>nomatch a4
    kr:=Xx} gd (hT .store (bo rfl)).1
 have dA:=M.new .hH (λ _=>a5 rfl) (.ds [])
 have pi:(up h .hH (some (.ds []))) .w=some (.ds (dE a t 7)):=(bP _ _ (a5 rfl)).trans wl.w
 have gd:up a .hH n.length .w=a .w:=bP _ _ (a5 rfl)
 have at2:=dA.at_ _ _ pi
 rw[gd]at at2
 have d0:=dA.set (c3:=.ds (dE (up a .hH n.length) t 8)) pi
 rw[gd]at d0
 have dr:c7 (dE a t 7) EL (.ref n.length)=dE (up a .hH n.length) t 8:=by
  unfold dE
  rw[cR,bP _ _ (a5 rfl),bP _ _ (a5 rfl),bP _ _ (a5 rfl),bP _ _ (a5 rfl),bP _ _ (a5 rfl),bP _ _ (a5 rfl)];rfl
 have st:jT ac (runN ac (z+2)) (.gJ (.v 1) (.ss [103,105,118,101,110]) (.eP .s)) (m7 (a .w) bR bi aQ aW) n=some (.br (m7 (a .w) bR bi aQ aW),(n++[a0.ds []]).set (a .w) (a0.ds (dE (up a .hH n.length) t 8))):=aR ((x7 at2 yo).trans (an (λ x=>some ((n++[a0.ds []]).set (a .w) (.ds x))) dr)) rfl
 exact iy d0 st (cR _ _ _) ((bP _ _ (a5 rfl)).trans (cR _ _ _)) ((bY.mx (.tail _ (.head _))).trans (bY.kK (.head _))) gd
end
end Mine
end
section
namespace Mine
section
variable{a:bH}{h:aT}{n:St}{T:B aP}{z:C}{W:cw}{R:B b5}{c5 F:C→C}{S:C→B (ap×C)}{I:C→B (C×ap×C)}{al:B (am×D)}{aU:C→ap}{X:Prop}
structure wg(a:bH)(h:aT)(T:B aP)(W:cw)(al:B (am×D))(aU:C→ap)(R:B b5)(F:C→C):Prop extends HB W aU R where
 aM:ko a h
 bT:c6 a h T
 ty:∀l,l<4→l6 a h l (W.many l)
 types:∃x,h .types=some (.li (dw 66 .nn++[.ref (a (.ty 0)),.ref (a (.ty 1)),.ref (a (.ty 2)),.ref (a (.ty 3)),x]))
 meths:h .meths=some (.li (.nn::(ck R.length).map λ j=>.ref (a (.bl j))))
 dv:∀l,l<4→h (.dv l)=some (.li ((k9 R λ r=>r.ah==l).map λ j=>E (j+1)))
 be:∃aG,h .host=some (.bF 9 aG)∧HA a aG
 az:h .fE=some (.cq al)
 hs:h .dx=some (.cq [(34,.ii 3)])
 o7:lV T W al
 kr:∀ae,ae≤3→oJ T W al ae
 bl:j0 a h T W aU R F
theorem wg.off{H:aT}{aC:B aP}(ag:wg a h T W al aU R F)(f:s5 h H)(bT:c6 a H aC)(k:∀{k:C} {t:ap},ba T k t→ba aC k t):wg a H aC W al aU R F:=
 ⟨ag.toHB,let⟨aG,eE,s⟩:=ag.aM.bF;⟨aG,f _ _ rfl rfl eE,s⟩,bT,λ l hl=>let⟨⟨aG,aw,e⟩,⟨cp,gk,p⟩⟩:=ag.ty l hl;⟨⟨aG,f _ _ rfl rfl aw,e⟩,⟨cp,f _ _ rfl rfl gk,p⟩⟩,let⟨x,e⟩:=ag.types;⟨x,f _ _ rfl rfl e⟩,f _ _ rfl rfl ag.meths,λ l hl=>f _ _ rfl rfl (ag.dv l hl),let⟨aG,aw,e⟩:=ag.be;⟨aG,f _ _ rfl rfl aw,e⟩,f _ _ rfl rfl ag.az,f _ _ rfl rfl ag.hs,ag.o7.more k,λ ae cC=>(ag.kr ae cC).more k λ k e=>e,λ j bt=>(ag.bl j bt).bx (λ o e=>f _ _ rfl rfl e) (λ g o e=>f _ _ rfl rfl e) k⟩
theorem Good.Fp{r:aN}(M:Good a h n)(o:a0)(a4:∀m,r≠ .a6 m)(f:∀aY H,Good aY H (n++[o])→aY r=n.length→H r=some o→bY (dB [r]) a h aY H→X):X:=f _ _ (M.new r a4 o) (cR _ _ _) (cR _ _ _) (bY.mx (.head _))
noncomputable def Bm(n:St):C→St
 |0=>n
 |k+1=>Bm n k++[.li []]
theorem wants(M:Good a h n)(k:C):∀{X:Prop},(∀aY H,Good aY H (Bm n k)→(∀l,l<k→aY (.ei l)=(Bm n l).length∧H (.ei l)=some (.li []))→bY (dB ((ck k).map .ei)) a h aY H→X)→X:=by
 induction k with
 |zero=>exact λ f=>f a h M (λ l h=>nomatch h) bY.refl
 |succ k aZ=>
  exact λ f=>aZ λ cx aI dJ w bx=>dJ.Fp (r:=.ei k) (.li []) (λ _=>a5 rfl) λ ed bJ dA aw aB xA=>
   f ed bJ dA (λ l hl=>(Rr.mp hl).elim (λ hl=>have m:=xA (.ei l) (xG (Fm (mS hl)));⟨m.1.trans (w l hl).1,m.2 _ (w l hl).2⟩) λ e=>e▸⟨aw,aB⟩)
    ((bx.sub (gI λ r m=>(hu.mp m).elim λ l L=>hu.mpr ⟨l,ga.mpr (pX (ga.mp L.1)),L.2⟩)).trans (xA.sub (gI λ r m=>hu.mpr ⟨k,ga.mpr (qU k),(jz.mp m).symm⟩)))
noncomputable def xF:B aN:=.dx::.host::.want::(ck 4).map .ei
noncomputable def A9:bk:=.cons (.cc (.aq (.v 1) (.ss [104,111,115,116])) 71 (.pa [34] (.cons (.ii 3) .nil))) (.cons (.asg 4 (.lst (.cons (.lst .nil) (.cons (.lst .nil) (.cons (.lst .nil) (.cons (.lst .nil) .nil)))))) .nil)
noncomputable def sY(w:C)(bR:B (Y D))(bi aQ aW bp:Y D):aX:=bi::some (.ref w)::aQ::aW::bp::bR
theorem aaS{xs:B C}{t:C}{bR:B (Y D)}{bi aQ aW cm:Y D}(p:iG a h T W al aU R xs t)(M:Good a h n)(b9:il R 8)(da:R.length≤16)
  (f:∀(J:St) (H:aT) (aY:bH),bS ac (runN ac z) A9 (sY (a .w) bR bi aQ aW cm) n=some (.br (sY (a .w) bR bi aQ aW (some (.ref (aY .want)))),J)→Good aY H J→wg aY H T W al aU R (λ j=>eC (af R j))→nE aY H T W R (λ j=>eC (af R j)) (λ _=>[]) xs t (λ _=>[]) 0→aY .w=a .w→aY .store=a .store→X):X:=by
 have⟨aG,ir,gD,us,sC,wS,nZ⟩:=p.wl.be.bF
 refine M.Fp (r:=.dx) (.cq [(34,.ii 3)]) (λ _=>a5 rfl) λ cx aI dJ Vy dx mw=>?_
 have w5:=(mw .host (bo rfl)).2 _ ir
 have CZ:=(mw .host (bo rfl)).1
 have dA:=dJ.set (c3:=.bF 9 (c7 aG 71 (.ref n.length))) w5
 have OL:lh ac (n++[a0.cq [(34,.ii 3)]]) (.ref (a .host)) 71 (.ref n.length)=some ((n++[a0.cq [(34,.ii 3)]]).set (a .host) (.bF 9 (c7 aG 71 (.ref n.length)))):=x4 (CZ▸dJ.at_ _ _ w5) rfl (fh gD (aE rfl))
 rw[CZ]at dA
 generalize((n++[a0.cq [(34,.ii 3)]]).set (a .host) (.bF 9 (c7 aG 71 (.ref n.length))))=ao at OL dA
 refine wants dA 4 λ ek cQ d0 ig g3=>?_
 have fN:=ig 0 (aE rfl)
 have kP:=ig 1 (aE rfl)
 have kQ:=ig 2 (aE rfl)
 have afR:=ig 3 (aE rfl)
 refine d0.Fp (r:=.want) (lU ek) (λ _=>a5 rfl) λ aY H dF SH sG f1=>?_
 have afO:lU aY=lU ek:=by unfold lU;rw[(f1 (.ei 0) (bo rfl)).1,(f1 (.ei 1) (bo rfl)).1,(f1 (.ei 2) (bo rfl)).1,(f1 (.ei 3) (bo rfl)).1]
 have aaY:bY (dB xF) cx aI cx (up aI .host (some (.bF 9 (c7 aG 71 (.ref n.length))))):=bY.kK (.tail _ (.head _))
 have pH:∀r,r∈(ck 4).map aN.ei→r∈xF:=λ r m=>.tail _ (.tail _ (.tail _ m))
 have bx:bY (dB xF) a h aY H:=(((mw.sub (gI (jj (.head _)))).trans aaY).trans (g3.sub (gI pH))).trans (f1.sub (gI (jj (.tail _ (.tail _ (.head _))))))
 have ab:∀{r:aN} {o:a0},(xF.all λ p=>!(p.ctorIdx==r.ctorIdx))=true→h r=some o→H r=some o:=λ k e=>(bx _ (bo k)).2 _ e
 have A:∀{r:aN},(xF.all λ p=>!(p.ctorIdx==r.ctorIdx))=true→aY r=a r:=λ k=>(bx _ (bo k)).1
 have kz:H .host=some (.bF 9 (c7 aG 71 (.ref n.length))):=(f1 .host (bo rfl)).2 _ ((g3 .host (bo rfl)).2 _ (cR _ _ _))
 have Xj:H .dx=some (.cq [(34,.ii 3)]):=(f1 .dx (bo rfl)).2 _ ((g3 .dx (bo rfl)).2 _ ((bP _ _ (a5 rfl)).trans dx))
 have SE:aY .dx=n.length:=(f1 .dx (bo rfl)).1.trans ((g3 .dx (bo rfl)).1.trans Vy)
 have Fe:dE aY t 8=dE a t 8:=(tx f1 rfl).trans ((tx g3 rfl).trans (tx mw rfl))
 have O2:ko aY H:=p.aM.bx (bx .store (bo rfl)).2 (A rfl) (A rfl) (A rfl)
 have PH:∀l,l<4→l6 aY H l (W.many l):=λ l hl=>(p.ty l hl).bx (bx.sub λ r k=>by rcases k with rfl|rfl|rfl|rfl<;>exact bo rfl)
 have PN:∃x,H .types=some (.li (dw 66 .nn++[.ref (aY (.ty 0)),.ref (aY (.ty 1)),.ref (aY (.ty 2)),.ref (aY (.ty 3)),x])):=let⟨x,e⟩:=p.types;⟨x,by rw[A (r:=.ty 0) rfl,A (r:=.ty 1) rfl,A (r:=.ty 2) rfl,A (r:=.ty 3) rfl];exact ab rfl e⟩
 have yh:c6 aY H T:=p.wl.bT.bx (bx.sub λ r k=>nT (p:=hS) rfl k)
 have adw:∀j,j<R.length→nN aY H j (af R j) (eC (af R j)) []:=λ j bt=>(p.row j _ (iM bt)).bx (bx.sub λ r k=>k.elim (λ e=>e▸bo rfl) λ e=>e▸bo rfl)
 have jn:dd (n++[a0.cq [(34,.ii 3)]]) (.ref (a .w)) (.ss [104,111,115,116])=some (.ref (a .host)):=(mw .w (bo rfl)).1▸CZ▸gx (dJ.at_ _ _ ((mw .w (bo rfl)).2 _ p.wl.w)) (by rw[←tx (t:=t) (k:=8) mw rfl];rfl)
 have Vz:a0.li [.ref ao.length,.ref (ao++[a0.li []]).length,.ref (ao++[a0.li []]++[a0.li []]).length,.ref (ao++[a0.li []]++[a0.li []]++[a0.li []]).length]=lU ek:=by unfold lU;rw[fN.1,kP.1,kQ.1,afR.1];rfl
 have st:bS ac (runN ac z) A9 (sY (a .w) bR bi aQ aW cm) n=some (.br (sY (a .w) bR bi aQ aW (some (.ref (aY .want)))),Bm ao 4++[lU ek]):=by
  rw[SH,←Vz]
  exact(dk z A9 (sY (a aN.w) bR bi aQ aW cm) n _ jn _ OL)
 have afZ:∀l,l<4→H (.ei l)=some (.li []):=λ l hl=>(f1 _ (bo rfl)).2 _ (ig l hl).2
 exact f _ H aY st dF
  {iR:=p.wl.lw.ok,lH:=p.lH,eW:=p.eW,inv:=b9,da:=da,aM:=O2,bT:=yh,ty:=PH,types:=PN
   meths:=(ab rfl p.meths).trans (an (λ l=>some (a0.li (.nn::l))) (pS λ j _=>an D.ref (A (r:=.bl j) rfl).symm))
   dv:=λ l hl=>ab rfl (p.dv l hl)
   be:=⟨_,kz,(nk (tV rfl)).trans (us.trans (an (λ x=>some (D.ref x)) (A rfl).symm)),(nk (tV rfl)).trans (sC.trans (an (λ x=>some (D.ref x)) (A rfl).symm)),qy.trans (an (λ x=>some (D.ref x)) SE.symm),(nk (tV rfl)).trans wS,(nk (tV rfl)).trans nZ⟩
   az:=ab rfl p.wl.az,hs:=Xj,o7:=p.wl.ok,kr:=p.kr
   bl:=λ j bt=>(p.bl j _ (iM bt)).bx (λ o e=>ab rfl e) (λ g o e=>ab rfl e) λ q=>q}
  {c':=
    {lw:=p.wl.lw.bx (bx.sub λ r k=>nT (p:=sW) rfl k),bT:=yh,w:=Fe.symm▸ab rfl p.wl.w
     rows:=(ab rfl p.rows).trans (an (λ l=>some (a0.li l)) (pS λ j _=>an D.ref (A (r:=.row j) rfl).symm))
     row:=adw,eW:=p.eW,da:=da,lR:=λ j bt x aA=>(nomatch aA),mG:=λ j bt=>fs _}
   dR:=ab rfl p.dR,aM:=O2,ty:=PH,types:=PN
   im:=λ l hl=>⟨[],[],ab rfl (p.cM l hl),trivial,afZ l hl,trivial⟩
   want:=sG.trans (an some afO.symm),each:=λ l e b3=>(nomatch b3),len:=λ l=>cJ _} (A rfl) (A rfl)
end
end Mine
end
section
namespace Mine
section
variable{a:bH}{h:aT}{n:St}{T:B aP}{z:C}{W:cw}{R:B b5}{c5 F:C→C}{S:C→B (ap×C)}{I:C→B (C×ap×C)}{al:B (am×D)}{aU:C→ap}{X:Prop}
theorem Good.za{b m:C}{r:aN}{o:a0}(M:Good a h n)(lt:∀r,(h r).isSome=true→a r<b)(hm:b≤m)(e:n[m]? =some o)(ho:∀m,r≠ .a6 m)(f:∀aY H,Good aY H n→(∀r,(H r).isSome=true→aY r<m+1)→aY r=m→H r=some o→bY (dB [r]) a h aY H→X):X:=
 have L:=M.adopt lt hm e ho;f _ _ L.1 L.2 (cR _ _ _) (cR _ _ _) (bY.mx (.head _))
noncomputable def Fo:B aN:=[.ih,.ju,.eH,.h8]
noncomputable def A':bk:=.cons (.asg 6 (.new 7 (.cons (.new 6 (.cons (.v 2) (.cons (.ii 1) .nil))) (.cons (.aq (.v 1) (.ss [104,111,115,116])) (.cons (.ii 1) .nil))))) (.cons (.asg 7 (.new 8 (.cons (.at (.v 6) 55) (.cons (.v 6) .nil)))) .nil)
noncomputable def tr(N:C)(s:D):B a0:=[.bF 6 (PP N s (.ii 1)),.li [.nn],.li [.nn],.cq [],.bF 5 [(0,.ref (N+5))],.li [],.cq [],.cq [],.cq []]
noncomputable def oE(N:C)(u s k be:D):B a0:=[.bF 7 (Hp N u s k be (.ii 1)),.cq [],.cq [],.li [],.cq []]
noncomputable def wN(N:C)(u nX s k:D):B a0:=[.bF 8 (KE N u nX s k),.li [],.li [],.cq [],.li [],.li [],.li [],.cq [],.cq []]
structure kS(a:bH)(h:aT)(T:B aP)(W:cw)(al:B (am×D))(aU:C→ap)(R:B b5)(F:C→C)(I:C→B (C×ap×C))(xs:B C)(t:C):Prop where
 ds:lW a h T W al aU R F I 0
 c':ff a h T W R F (λ _=>[]) t
 dR:h .dR=some (.li (xs.map E))
 want:h .want=some (lU a)
 wl:∀l,l<4→∃bf,h (.ei l)=some (.li bf)∧es T bf (I l)
 ju:h .ju=some (.li [])
 each:∀l,∀e∈I l,e.2.1= .b2 34∧e.2.2=900
 len:∀l,(I l).length≤16
noncomputable def qq(w s:C)(bR:B (Y D))(bi aW bp bq bh bj:Y D):aX:=bi::some (.ref w)::some (.ref s)::aW::bp::bq::bh::bj::bR
theorem aaT{xs:B C}{t:C}{bR:B (Y D)}{bi aW bp bq bN bm:Y D}(ag:wg a h T W al aU R F)(P:nE a h T W R F (λ _=>[]) xs t I R.length)(M:Good a h n)(hx:qO R F)
  (f:∀(J:St) (H:aT) (aY:bH),bS ac (runN ac (z+2)) A' (qq (a .w) (a .store) bR bi aW bp bq bN bm) n=some (.br (qq (a .w) (a .store) bR bi aW bp bq (some (.ref (aY .ih))) (some (.ref (aY .eH)))),J)→Good aY H J→kS aY H T W al aU R F I xs t→H .h8=some (.li [])→aY .w=a .w→aY .store=a .store→aY .want=a .want→X):X:=by
 have Zk:=(P.aM.at_ M).2.2
 have iU:Good a h (n++tr n.length (.ref (a .store))):=M.mm
 have aw:runN ac (z+2) 8 [.ref n.length,.ref (a .store),.ii 1] (n++[.bF 6 []])=some (.nn,n++tr n.length (.ref (a .store))):=afI
 have GS:d7 (n++tr n.length (.ref (a .store))) (.ref n.length) 47=some (.ref (a .store)):=(fj (l' (i:=0))).trans rfl
 have jn:dd (n++tr n.length (.ref (a .store))) (.ref (a .w)) (.ss [104,111,115,116])=some (.ref (a .host)):=gx (iU.at_ _ _ P.c'.w) rfl
 have EK:=p7 (l:=tr n.length (.ref (a .store))) Zk
 have dy:n.length≤(n++tr n.length (.ref (a .store))).length:=fg (as:=n)▸d2 ..
 generalize(n++tr n.length (.ref (a .store)))=aa at iU aw GS jn EK dy
 have aB:runN ac (z+2) 9 [.ref aa.length,.ref n.length,.ref (a .host),.ii 1] (aa++[.bF 7 []])=some (.nn,aa++oE aa.length (.ref n.length) (.ref (a .store)) (.ref (a .kt)) (.ref (a .host))):=agi GS EK
 have P':d7 (aa++oE aa.length (.ref n.length) (.ref (a .store)) (.ref (a .kt)) (.ref (a .host))) (.ref aa.length) 55=some (.ref n.length):=(fj (l' (i:=0))).trans rfl
 have jh:Good a h (aa++oE aa.length (.ref n.length) (.ref (a .store)) (.ref (a .kt)) (.ref (a .host))):=iU.mm
 have eD:(aa++oE aa.length (.ref n.length) (.ref (a .store)) (.ref (a .kt)) (.ref (a .host))).length=aa.length+5:=fg
 have N6:∀{i:C} {b9:B a0},(aa++oE aa.length (.ref n.length) (.ref (a .store)) (.ref (a .kt)) (.ref (a .host))++b9)[aa.length+i]? =(oE aa.length (.ref n.length) (.ref (a .store)) (.ref (a .kt)) (.ref (a .host))++b9)[i]? :=λ{i b9}=>(an (·[aa.length+i]?) (jx ..)).trans l'
 have PO:=p7 (l:=oE aa.length (.ref n.length) (.ref (a .store)) (.ref (a .kt)) (.ref (a .host))) GS
 have Mt:=p7 (l:=oE aa.length (.ref n.length) (.ref (a .store)) (.ref (a .kt)) (.ref (a .host))) EK
 have Ec:=(N6 (i:=0)).trans (rfl:(oE aa.length (.ref n.length) (.ref (a .store)) (.ref (a .kt)) (.ref (a .host))++wN (aa.length+5) (.ref n.length) (.ref aa.length) (.ref (a .store)) (.ref (a .kt)))[0]? =some (.bF 7 (Hp aa.length (.ref n.length) (.ref (a .store)) (.ref (a .kt)) (.ref (a .host)) (.ii 1))))
 have Ed:=(N6 (i:=3)).trans (rfl:(oE aa.length (.ref n.length) (.ref (a .store)) (.ref (a .kt)) (.ref (a .host))++wN (aa.length+5) (.ref n.length) (.ref aa.length) (.ref (a .store)) (.ref (a .kt)))[3]? =some (.li []))
 generalize(aa++oE aa.length (.ref n.length) (.ref (a .store)) (.ref (a .kt)) (.ref (a .host)))=ao at aB P' jh eD PO Mt Ec Ed
 rw[←eD]at Ec Ed
 have bZ:runN ac (z+2) 10 [.ref ao.length,.ref n.length,.ref aa.length] (ao++[.bF 8 []])=some (.nn,ao++wN ao.length (.ref n.length) (.ref aa.length) (.ref (a .store)) (.ref (a .kt))):=Vg PO Mt
 have pO:Good a h (ao++wN ao.length (.ref n.length) (.ref aa.length) (.ref (a .store)) (.ref (a .kt))):=jh.mm
 refine pO.za (r:=.ih) (m:=aa.length+0) (b:=n.length) M.E1 dy Ec (λ _=>a5 rfl) λ cx aI Qk sU SI Xm dN=>?_
 refine Qk.za (r:=.ju) (m:=aa.length+3) sU (fA (aE rfl:1≤3) _) Ed (λ _=>a5 rfl) λ ed bJ Ql aap t' fY dH=>?_
 refine Ql.za (r:=.eH) (m:=ao.length+0) aap (eD▸h5 _) (l'.trans rfl) (λ _=>a5 rfl) λ ek cQ BV aaq Sz j5 eh=>?_
 refine BV.za (r:=.h8) (m:=ao.length+4) aaq (fA (aE rfl:1≤4) _) (l'.trans rfl) (λ _=>a5 rfl) λ aY H Qm _ SD ee oh=>?_
 have bx:bY (dB Fo) a h aY H:=(((dN.sub (gI (jj (.head _)))).trans (dH.sub (gI (jj (.tail _ (.head _)))))).trans (eh.sub (gI (jj (.tail _ (.tail _ (.head _))))))).trans (oh.sub (gI (jj (.tail _ (.tail _ (.tail _ (.head _)))))))
 have ab:∀{r:aN} {o:a0},(Fo.all λ p=>!(p.ctorIdx==r.ctorIdx))=true→h r=some o→H r=some o:=λ k e=>(bx _ (bo k)).2 _ e
 have A:∀{r:aN},(Fo.all λ p=>!(p.ctorIdx==r.ctorIdx))=true→aY r=a r:=λ k=>(bx _ (bo k)).1
 have SA:aY .eH=ao.length:=(oh .eH (bo rfl)).1.trans Sz
 have Jo:aY .ih=aa.length:=(oh .ih (bo rfl)).1.trans ((eh .ih (bo rfl)).1.trans ((dH .ih (bo rfl)).1.trans SI))
 have SF:aY .ju=aa.length+3:=(oh .ju (bo rfl)).1.trans ((eh .ju (bo rfl)).1.trans t')
 have Xn:=(oh .ih (bo rfl)).2 _ ((eh .ih (bo rfl)).2 _ ((dH .ih (bo rfl)).2 _ Xm))
 have Xl:=(oh .ju (bo rfl)).2 _ ((eh .ju (bo rfl)).2 _ fY)
 have Eb:=(oh .eH (bo rfl)).2 _ j5
 have K0:∀l m,(I l).filter (λ e=>e.1==m&&e.2.2 != 900)=[]:=λ l m=>tO.mpr λ e b3 y=>p8.mp (dI.mp y).2 (P.each l e b3).2.1
 have MR:∀l,(I l).length≤16:=λ l=>a' (P.len l) ag.da
 have yh:c6 aY H T:=ag.bT.bx (bx.sub λ r k=>nT (p:=hS) rfl k)
 have st:bS ac (runN ac (z+2)) A' (qq (a .w) (a .store) bR bi aW bp bq bN bm) n=some (.br (qq (a .w) (a .store) bR bi aW bp bq (some (.ref (aY .ih))) (some (.ref (aY .eH)))),ao++wN ao.length (.ref n.length) (.ref aa.length) (.ref (a .store)) (.ref (a .kt))):=by
  rw[Jo,SA]
  exact(dk (z+2) A' (qq (a aN.w) (a aN.store) bR bi aW bp bq bN bm) n _ rfl _ rfl _ aw _ jn _ aB _ rfl _ P' _ bZ)
 have mE:∀{x y:C},x=y→some (D.ref y)=some (D.ref x):=λ e=>an (λ x=>some (D.ref x)) e.symm
 exact f _ H aY st Qm
  {ds:=
    {fR:=
      {toHB:=ag.toHB,aM:=ag.aM.bx (bx .store (bo rfl)).2 (A rfl) (A rfl) (A rfl),bT:=yh
       ty:=λ l hl=>(ag.ty l hl).bx (bx.sub λ r k=>by rcases k with rfl|rfl|rfl|rfl<;>exact bo rfl)
       types:=let⟨x,e⟩:=ag.types;⟨x,by rw[A (r:=.ty 0) rfl,A (r:=.ty 1) rfl,A (r:=.ty 2) rfl,A (r:=.ty 3) rfl];exact ab rfl e⟩
       meths:=(ab rfl ag.meths).trans (an (λ l=>some (a0.li (.nn::l))) (pS λ j _=>an D.ref (A (r:=.bl j) rfl).symm))
       dv:=λ l hl=>ab rfl (ag.dv l hl)
       be:=let⟨en,g1,g2,gL,mg,wY⟩:=ag.be;⟨en,ab rfl g1,g2.trans (mE (A rfl)),gL.trans (mE (A rfl)),mg.trans (mE (A rfl)),wY⟩
       az:=ab rfl ag.az,hs:=ab rfl ag.hs,o7:=ag.o7,kr:=ag.kr
       qb:=⟨_,_,Eb,Xn,mE (A rfl),mE (A rfl),mE Jo,mE SD,mE (A rfl),mE SF⟩}
     bl:=λ j bt=>(ag.bl j bt).bx (λ o e=>ab rfl e) (λ g o e=>ab rfl e) λ q=>q
     hx:=hx
     im:=λ l hl=>let⟨bf,_,hf,iq,_⟩:=P.im l hl;⟨bf,ab rfl hf,iq⟩
     io:=⟨λ l hl e b3=>.inl ⟨(P.each l e b3).1,(P.each l e b3).2.1⟩,λ l hl m=>by rw[K0];exact Cd,λ l hl m=>by rw[K0];exact fs _,λ l hl=>a' (MR l) (aE rfl)⟩}
   c':=
    {lw:=P.c'.lw.bx (bx.sub λ r k=>nT (p:=sW) rfl k),bT:=yh,w:=(tx bx rfl).symm▸ab rfl P.c'.w
     rows:=(ab rfl P.c'.rows).trans (an (λ l=>some (a0.li l)) (pS λ j _=>an D.ref (A (r:=.row j) rfl).symm))
     row:=λ j bt=>(P.c'.row j bt).bx (bx.sub λ r k=>k.elim (λ e=>e▸bo rfl) λ e=>e▸bo rfl),eW:=P.c'.eW,da:=P.c'.da,lR:=P.c'.lR,mG:=P.c'.mG}
   dR:=ab rfl P.dR
   want:=(ab rfl P.want).trans (by unfold lU;rw[A (r:=.ei 0) rfl,A (r:=.ei 1) rfl,A (r:=.ei 2) rfl,A (r:=.ei 3) rfl])
   wl:=λ l hl=>let⟨_,bR,_,_,k2,nS⟩:=P.im l hl;⟨bR,ab rfl k2,nS⟩
   ju:=Xl,each:=λ l e b3=>⟨(P.each l e b3).1,(P.each l e b3).2.1⟩,len:=MR} ee (A rfl) (A rfl) (A rfl)
end
end Mine
end
section
namespace Mine
variable{xs:B C}{t:C}{H:aT}{bi aQ aW bp bh:Y D}
section
variable{a:bH}{h:aT}{n:St}{T:B aP}{z:C}{W:cw}{R:B b5}{F:C→C}{I:C→B (C×ap×C)}{al:B (am×D)}{aU:C→ap}{X:Prop}
theorem kS.keep{cB:C}(A:kS a h T W al aU R F I xs t)(f:∀r o,gZ r=false→r≠ .w→r≠ .h8→h r=some o→H r=some o)(bT:c6 a H T)(cS:H .w=some (.ds (dE a cB 8))):kS a H T W al aU R F I xs cB:=
 {ds:=⟨A.ds.fR.keep (λ r o k e=>f r o (Oc k) (λ L=>nomatch(L▸k:pC .w=true)) (λ L=>nomatch(L▸k:pC .h8=true)) e) bT λ q=>q,λ j bt=>(A.ds.bl j bt).bx (λ o e=>f _ _ rfl (a5 rfl) (a5 rfl) e) (λ g o e=>f _ _ rfl (a5 rfl) (a5 rfl) e) λ q=>q,A.ds.hx,λ l hl=>let⟨bf,e,im⟩:=A.ds.im l hl;⟨bf,f _ _ rfl (a5 rfl) (a5 rfl) e,im⟩,A.ds.io⟩
  c':=⟨⟨⟨_,cS,rfl,rfl,rfl⟩,let⟨aG,ir,gD⟩:=A.c'.lw.store;⟨aG,f _ _ rfl (a5 rfl) (a5 rfl) ir,gD⟩,f _ _ rfl (a5 rfl) (a5 rfl) A.c'.lw.many,f _ _ rfl (a5 rfl) (a5 rfl) A.c'.lw.up,A.c'.lw.ok⟩,bT,cS,f _ _ rfl (a5 rfl) (a5 rfl) A.c'.rows,λ j bt=>⟨f _ _ rfl (a5 rfl) (a5 rfl) (A.c'.row j bt).row,f _ _ rfl (a5 rfl) (a5 rfl) (A.c'.row j bt).st⟩,A.c'.eW,A.c'.da,A.c'.lR,A.c'.mG⟩
  dR:=f _ _ rfl (a5 rfl) (a5 rfl) A.dR,want:=f _ _ rfl (a5 rfl) (a5 rfl) A.want,wl:=λ l hl=>let⟨bf,e,im⟩:=A.wl l hl;⟨bf,f _ _ rfl (a5 rfl) (a5 rfl) e,im⟩
  ju:=f _ _ rfl (a5 rfl) (a5 rfl) A.ju,each:=A.each,len:=A.len}
theorem kS.go{b:C}{J:St}(A:kS a h T W al aU R F I xs t)(x:b0 a h T b J T H):kS a H T W al aU R F I xs t:=A.keep (λ r o k _ _ e=>x.off k e) x.bT (x.off rfl A.c'.w)
noncomputable def g5(R:B b5):B Nat:=(ck R.length).filter λ j=>(af R j).eL
noncomputable def AI:bk:=(.cons (.ex (.append (.at (.v 7) 65) (.tup (.cons (.bin .add (.ii 66) (.aq (.v 5) (.ss [108,101,118,101,108]))) (.cons (.aq (.v 5) (.ss [109,105,100])) (.cons (.new 4 (.cons (.gl [78,95,77,69,84,72,79,68] (.ii 91)) (.cons (.tup (.cons (.aq (.v 5) (.ss [110,97,109,101])) (.cons (.ii 0) .nil))) (.cons (.lst .nil) (.cons (.ii 128) (.cons (.aq (.v 5) (.ss [109,105,100])) .nil)))))) .nil)))))) .nil)
noncomputable def xD(a:bH)(bR:B (Y D))(bi aV aQ aW bp bq bh:Y D):aX:=bi::aV::aQ::aW::bp::bq::bh::some (.ref (a .eH))::bR
theorem aa9{dX:C}{lst:B D}{bR:B (Y D)}{aV:Y D}(is:B C):∀{done:B C} {nd:C→D} {n:St} {h:aT} {o5:Y D},(∀i∈is,i<R.length)→(done++is).Nodup→kS a h T W al aU R F I xs t→Good a h n→h .h8=some (.li (py R nd done))→h (.a6 dX)=some (.li lst)→done.length+is.length<100→
  (∀(J:St) (H:aT) (om:C→D) (gz:Y D),@fD (live (.ref dX) lst) (e0 (.ref dX) lst) (λ x aF J=>(dh false [5] x aF).bind λ dG=>bS ac (runN ac (z+1)) AI dG J) (is.map λ j=>.ref (a (.row j))) (xD a bR bi aV aQ aW bp o5 bh) n=some (.br (xD a bR bi aV aQ aW bp gz bh),J)→Good a H J→kS a H T W al aU R F I xs t→H .h8=some (.li (py R om (done++is)))→H (.a6 dX)=some (.li lst)→X)→X:=by
 induction is with
 |nil=>exact λ{done nd n h o5} ay Fi A M a1 hm hl f=>f n h nd o5 (hg (de M hm)) M A ((eX done).symm▸a1) hm
 |cons i is aZ=>
  intro done nd n h o5 ay Fi A M a1 hm hl f
  have rf:=ay i (.head _)
  have q:=(A.c'.row i rf).at_ M
  have iU:=M.kE (.li [])
  have r:=(A.c'.row i rf).at_ iU
  have dL:=abx (z:=z) (n:=n++[a0.li []]) (k:=.ii 91) (aV:=.tup [.ss [(af R i).nm],.ii 0]) (aQ:=.ref n.length) (aW:=.ii 128) (bp:=E (i+1))
  have gf:fG .add (.ii 66) (E (af R i).ah)=some (E (66+(af R i).ah)):=rfl
  have abk:i∉done:=λ q=>(Cc.mp Fi).2.2 i q i (.head _) rfl
  have aa':py R (λ x=>if x=i then .ref (n++[a0.li []]).length else nd x) (done++[i])=py R nd done++[.tup [E (66+(af R i).ah),E (i+1),.ref (n++[a0.li []]).length]]:=nF.trans (congr (an HAppend.hAppend (pS λ j bt=>an (λ x=>D.tup [E (66+(af R j).ah),E (j+1),x]) (if_neg λ(L:j=i)=>abk (L▸bt)))) (an (λ x=>[D.tup [E (66+(af R i).ah),E (i+1),x]]) (if_pos rfl)))
  refine(iU.kE (.bF 4 [(41,.ii 91),(42,.tup [.ss [(af R i).nm],.ii 0]),(43,.ref n.length),(44,.ii 128),(45,E (i+1)),(46,.ii 0)])).l9 (v:=.tup [E (66+(af R i).ah),E (i+1),.ref (n++[a0.li []]).length]) a1 ((cG (as:=done) _).symm▸fh (cn (d2 ..) hl) (aE rfl)) λ bW ez d0=>?_
  have fq:∀r,r≠ .h8→(up h .h8 (some (.li (py R nd done++[.tup [E (66+(af R i).ah),E (i+1),.ref (n++[a0.li []]).length]])))) r=h r:=λ r L=>bP _ _ L
  have BV:kS a _ T W al aU R F I xs t:=A.keep (λ r o _ _ k e=>(fq r k).trans e) (A.c'.bT.off λ r o k e=>(fq r λ L=>nomatch(L▸k:hS .h8=true)).trans e) ((fq _ (a5 rfl)).trans A.c'.w)
  have st:bS ac (runN ac (z+1)) AI (xD a bR bi aV aQ aW bp (some (.ref (a (.row i)))) bh) n=some (.br (xD a bR bi aV aQ aW bp (some (.ref (a (.row i)))) bh),bW):=(dk (z+1) AI (xD a bR bi aV aQ aW bp (some (D.ref (a (aN.row i)))) bh) n _ (A.ds.fR.zB M) (hQ (M.at_ _ _ a1)) _ q.1 _ gf _ q.2.2.2.1 _ rfl _ q.2.1 _ r.2.2.2.1 _ dL _ ez)
  exact aZ (done:=done++[i]) (o5:=some (.ref (a (.row i)))) (λ i m=>ay i (.tail _ m)) (mP done i is▸Fi) BV d0 ((cR _ _ _).trans (an (λ l=>some (a0.li l)) aa'.symm)) ((fq _ (a5 rfl)).trans hm) (cn (dg (by rw[fg];exact jA ..)) hl) λ J H om gz aB dF nz gw ia=>
   f J H om gz (fc (de M hm) st aB) dF nz (mP done i is▸gw) ia
noncomputable def FP:ab:=(.comp (.v 13) [13] false (.aq (.v 1) (.ss [114,111,119,115])) (.cons (.e (.aq (.v 13) (.ss [111,118,101,114]))) .nil))
noncomputable def OG:bk:=.cons (.asg 8 FP) (.cons (.b4 (.cmp .eq (.call 52 (.cons (.v 1) (.cons (.ii 2) .nil))) (.ii 1)) (.cons (.asg 8 (.rev (.v 8))) .nil) (.nil)) (.cons (.dc [5] false (.v 8) AI) .nil))
noncomputable def kG(a:bH)(bi aQ aW bp bq bh bK bB cE dZ e7 fn fo e8 e9:Y D):aX:=[bi,some (.ref (a .w)),aQ,aW,bp,bq,bh,some (.ref (a .eH)),bK,bB,cE,dZ,e7,fn,fo,e8,e9]
theorem aaU{bq bK bB cE dZ e7 fn fo e8 e9:Y D}(A:kS a h T W al aU R F I xs t)(M:Good a h n)(a1:h .h8=some (.li []))(bD:t<90000)
  (f:∀(J:St) (H:aT) (nd:C→D) (dX:C) (os:B C) (gz:Y D) (cB:C),bS ac (runN ac (z+1)) OG (kG a bi aQ aW bp bq bh bK bB cE dZ e7 fn fo e8 e9) n=some (.br (kG a bi aQ aW bp gz bh (some (.ref dX)) bB cE dZ e7 fn fo e8 e9),J)→Good a H J→kS a H T W al aU R F I xs cB→H .h8=some (.li (py R nd os))→H (.a6 dX)=some (.li (os.map λ j=>.ref (a (.row j))))→os.Nodup→os.length≤16→(∀i∈os,i<R.length)→(os=g5 R∨os=(g5 R).reverse)→X):X:=by
 have gN:=sz (V:=runN ac (z+1)) (x:=13) (env:=kG a bi aQ aW bp bq bh bK bB cE dZ e7 fn fo e8 e9) (acc:=[]) (eR:=ck R.length) (f:=λ j=>.ref (a (.row j))) (b7:=.v 13) (eo:=.cons (.e (.aq (.v 13) (.ss [111,118,101,114]))) .nil) (M.at_ _ _ A.c'.rows) (p:=λ j=>(af R j).eL) (g:=λ j=>.ref (a (.row j))) λ j bt=>by
  have acZ:=((A.c'.row j (ga.mp bt)).at_ M).2.2.2.2.2.2
  have er:fr ac (runN ac (z+1)) (.e (.aq (.v 13) (.ss [111,118,101,114]))) (kG a bi aQ aW bp bq bh bK bB cE dZ e7 (some (.ref (a (.row j)))) fo e8 e9) n=some ((af R j).eL,n):=(jd (z+1) (Mine.T.e ((ab.v 13).aq (ab.ss [111,118,101,114]))) (kG a bi aQ aW bp bq bh bK bB cE dZ e7 (some (D.ref (a (aN.row j)))) fo e8 e9) n _ acZ _ ((rfl:ie n (.cj (af R j).eL)=some (af R j).eL)))
  exact⟨(qH er rfl).trans (by rw[vY]),qz rfl⟩
 have hl:((ck R.length).map λ j=>D.ref (a (.row j))).length≤100000:=by rw[cG,gB];exact a' A.c'.da (aE rfl)
 have q':ci ac (runN ac (z+1)) FP (kG a bi aQ aW bp bq bh bK bB cE dZ e7 fn fo e8 e9) n=some (.ref n.length,n++[.li ((g5 R).map λ j=>.ref (a (.row j)))]):=(hI (z+1) FP (kG a bi aQ aW bp bq bh bK bB cE dZ e7 fn fo e8 e9) n _ (gx (M.at_ _ _ A.c'.w) rfl) _ (ix (M.at_ _ _ A.c'.rows)) hl _ _ gN)
 have g1:=b0.start A.c'.bT M (.li ((g5 R).map λ j=>.ref (a (.row j))))
 have ys:=A.go g1.1
 refine yg (z:=z) (k:=6) (m:=2) g1.1.good ys.c'.w ys.dR (fh bD (aE rfl)) (aE rfl) λ x ao bJ LX aB dA aga sZ=>?_
 have uy:∀r o,r≠ .w→_=some o→bJ r=some o:=λ r o k e=>(sZ r (xG k)).2 o e
 have BR:kS a bJ T W al aU R F I xs (t+1):=ys.keep (λ r o _ k _ e=>uy r o k e) (ys.c'.bT.off λ r o k e=>uy r o (λ L=>nomatch(L▸k:hS .w=true)) e) aga
 have iv:=uy _ _ (a5 rfl) g1.2
 have LH:=uy .h8 _ (a5 rfl) (g1.1.off rfl a1)
 have Nn:(g5 R).Nodup:=wc.filter _
 have NZ:(g5 R).length≤16:=a' (HZ ..) (gB.symm▸A.c'.da)
 have mem:∀i∈g5 R,i<R.length:=λ i ay=>ga.mp (oP.mp ay).1
 have cD:cY .eq (E x) (.ii 1) ao=some (decide (x=1)):=qd (y:=1)
 have tt:fr ac (runN ac (z+1)) (.cmp .eq (.call 52 (.cons (.v 1) (.cons (.ii 2) .nil))) (.ii 1)) (kG a bi aQ aW bp bq bh (some (.ref n.length)) bB cE dZ e7 fn fo e8 e9) (n++[.li ((g5 R).map λ j=>.ref (a (.row j)))])=some (decide (x=1),ao):=(jd (z+1) (Mine.T.cmp jf.eq (ab.call 52 (d6.cons (ab.v 1) (d6.cons (ab.ii 2) d6.nil))) (ab.ii 1)) (kG a bi aQ aW bp bq bh (some (D.ref (f' n))) bB cE dZ e7 fn fo e8 e9) (n++[a0.li (eA (λ j=>D.ref (a (aN.row j))) (g5 R))]) _ _ aB _ cD)
 have hM:∀(bW:St) (cQ:aT) (dX:C) (os:B C),jT ac (runN ac (z+1)) (.b4 (.cmp .eq (.call 52 (.cons (.v 1) (.cons (.ii 2) .nil))) (.ii 1)) (.cons (.asg 8 (.rev (.v 8))) .nil) (.nil)) (kG a bi aQ aW bp bq bh (some (.ref n.length)) bB cE dZ e7 fn fo e8 e9) (n++[.li ((g5 R).map λ j=>.ref (a (.row j)))])=some (.br (kG a bi aQ aW bp bq bh (some (.ref dX)) bB cE dZ e7 fn fo e8 e9),bW)→kS a cQ T W al aU R F I xs (t+1)→Good a cQ bW→cQ .h8=some (.li [])→cQ (.a6 dX)=some (.li (os.map λ j=>.ref (a (.row j))))→os.Nodup→os.length≤16→(∀i∈os,i<R.length)→(os=g5 R∨os=(g5 R).reverse)→X:=λ bW cQ dX os O Qf d0 XC ph vb ET sX mh=>
  aa9 (z:=z) (dX:=dX) (lst:=os.map λ j=>.ref (a (.row j))) (bR:=[some (.ref dX),bB,cE,dZ,e7,fn,fo,e8,e9]) (bi:=bi) (aV:=some (.ref (a .w))) (aQ:=aQ) (aW:=aW) (bp:=bp) (bh:=bh) os (done:=[]) (nd:=λ _=>.nn) (o5:=bq) sX vb Qf d0 XC ph (cn (dg (ji _)) (cn ET (aE rfl))) λ J H om gz fH dF nz gw ia=>
   f J H om dX os gz (t+1) (aR (aR q' rfl) (aR O (aR (vt (v:=.ref dX) (qz rfl) (ix (de d0 ph)) ((cG (as:=os) λ j=>D.ref (a (.row j))).symm▸a' ET (aE rfl)) fH) rfl))) dF nz gw ia vb ET sX mh
 refine(f9 (x=1)).elim (λ L=>?_) λ L=>?_
 ·rw[iL L]at tt
  have gL:=b0.start BR.c'.bT dA (.li (((g5 R).map λ j=>D.ref (a (.row j))).reverse))
  have EO:uZ ao (.ref n.length)=some ((g5 R).map λ j=>.ref (a (.row j))):=an (sT λ xs=>some xs) (de dA iv)
  have ul:bS ac (runN ac (z+1)) (.cons (.asg 8 (.rev (.v 8))) .nil) (kG a bi aQ aW bp bq bh (some (.ref n.length)) bB cE dZ e7 fn fo e8 e9) ao=some (.br (kG a bi aQ aW bp bq bh (some (.ref ao.length)) bB cE dZ e7 fn fo e8 e9),ao++[.li (((g5 R).map λ j=>D.ref (a (.row j))).reverse)]):=(dk (z+1) (bk.cons (S.asg 8 (ab.v 8).rev) bk.nil) (kG a bi aQ aW bp bq bh (some (D.ref (f' n))) bB cE dZ e7 fn fo e8 e9) ao _ EO)
  exact hM _ _ ao.length (g5 R).reverse (aR tt ((if_pos rfl).trans ul)) (BR.go gL.1) gL.1.good (gL.1.off rfl LH) (gL.2.trans (an (λ l=>some (a0.li l)) Q7.symm)) (List.pairwise_reverse.mpr (Nn.imp λ q e=>q e.symm)) (List.length_reverse.symm▸NZ) (λ i ay=>mem i (Q9.mp ay)) (.inr rfl)
 ·rw[j3 L]at tt
  exact hM ao bJ n.length (g5 R) (aR tt (if_neg mM)) BR dA LH iv Nn NZ mem (.inl rfl)
end
end Mine
end
section
namespace Mine
variable{k:C}{bf:B D}{l:B C}{m c0:C}{y:D}
theorem aek{X:Prop}(l:B C):l.Pairwise (λ x y=>x≤y)→(∀x∈l,1≤x∧x≤3)→(∀cz cD dn,l=dw cz 1++dw cD 2++dw dn 3→X)→X:=by
 induction l with
 |nil=>exact λ _ _ f=>f 0 0 0 rfl
 |cons x l aZ=>
  intro bM az f
  have bM:=List.pairwise_cons.mp bM
  have aA:=az x (.head _)
  refine aZ bM.2 (λ y m=>az y (.tail _ m)) λ cz cD dn e=>?_
  have NA:1<x→cz=0:=λ h=>match cz,e with
   |0,_=>rfl
   |c+1,e=>absurd (bM.1 1 (e▸.head _)) (Co h)
  refine nb (P:=λ y=>x=y→1≤y→X) x aA.2 (λ _ h=>nomatch h) (λ L _=>f (cz+1) cD dn ?_) (λ L _=>f 0 (cD+1) dn ?_) (λ L _=>f 0 0 (dn+1) ?_) rfl aA.1
  ·rw[L,e];rfl
  ·rw[NA (L▸cJ 2)]at e;rw[L,e];rfl
  ·rw[NA (L▸h5 2)]at e
   have d5:cD=0:=match cD,e with
    |0,_=>rfl
    |c+1,e=>absurd (bM.1 2 (e▸.head _)) (Co (L▸cJ 3))
   rw[d5]at e
   rw[L,e];rfl
theorem F8{c:C}{A al:B C}:c≤((A++dw c k++al).filter λ x=>x==k).length:=by
 rw[r3,r3,fg,fg,List.filter_replicate_of_pos (p:=λ x=>x==k) (lE k),Cb]
 exact a' (iF ..) (d2 ..)
section
variable{a:bH}{h:aT}{n:St}{T:B aP}{z:C}{W:cw}{R:B b5}{F:C→C}{I:C→B (C×ap×C)}{al:B (am×D)}{aU:C→ap}{X:Prop}
theorem Om:(ck R.length).map (af R)=R:=HO (by rw[cG,gB]) λ i ax aH=>by
 rw[HX,HY]
 exact ej ((iM aH).symm.trans (h2 aH))
theorem acg(b9:il R 8)(eW:∀r∈R,r.ah≤3∧(r.nm=109∨r.nm=110)∧r.aM≤1)(f:∀cz cD dn,cz≤4→cD≤4→dn≤4→fw R (g5 R)=gX false cz cD dn→fw R (g5 R).reverse=gX true cz cD dn→X):X:=by
 have acX:(fw R (g5 R)).Pairwise λ x y=>x≤y:=tR.mpr ((tR.mp ((Om (R:=R)).symm▸b9.sorted:((ck R.length).map (af R)).Pairwise λ x y=>x.ah≤y.ah)).filter _)
 have q3:∀x∈fw R (g5 R),1≤x∧x≤3:=λ x aA=>(hu.mp aA).elim λ j L=>L.2▸by
  have p:=oP.mp L.1
  have mem:=h3 (iM (ga.mp p.1))
  exact(b9.C2 _ mem p.2).elim λ q v=>⟨cn (fs _) v.2.1,(eW _ mem).1⟩
 have cnt:∀c,((fw R (g5 R)).filter λ x=>x==c).length≤4:=λ c=>by
  refine a' (agq (agp (λ x=>x==c) (agr (λ j=>(af R j).ah) (List.filter_sublist (p:=λ j=>(af R j).eL) (l:=ck R.length))))) ?_
  have e:(ck R.length).map (λ j=>(af R j).ah)=R.map λ r=>r.ah:=tQ.symm.trans (an (eA λ r:b5=>r.ah) Om)
  rw[e,QZ,cG]
  exact(b9.cnt c).1
 refine aek _ acX q3 λ cz cD dn e=>?_
 rw[e]at cnt
 refine f cz cD dn (a' (F8 (A:=[]) (al:=dw cD 2++dw dn 3)) (jx (dw cz 1) _ _▸cnt 1)) (a' F8 (cnt 2)) (a' (F8 (A:=dw cz 1++dw cD 2) (al:=[])) (a' (dg (by rw[eX])) (cnt 3))) e ?_
 have cH:fw R (g5 R).reverse=(fw R (g5 R)).reverse:=Q7
 rw[cH,e,Ra,Ra,H6,H6,H6,←jx]
 rfl
theorem YT{e:C×ap×C}:fI n 2 (iN e k) (iN e k)=true:=dI.mpr ⟨iL rfl,dI.mpr ⟨iL rfl,dI.mpr ⟨iL rfl,rfl⟩⟩⟩
theorem es.same(cy:T.Nodup){O:B (C×ap×C)}(I:es T bf O):∀{bR:B D},es T bR O→k5 (fI n 2) bf bR=true:=
 I.b7 (ak:=λ bf O=>∀{bR:B D},es T bR O→k5 (fI n 2) bf bR=true) (λ{bR} I=>by rw[I.AK];rfl) λ k e xs O q _ r {bR} I=>I.sA λ ct Qc Wm ep ey=>by
  rw[Wm,ba.inj cy ep q]
  exact dI.mpr ⟨YT,r ey⟩
theorem Mg:(l.map E).all (eK n 3)=true:=g'.mpr λ x aA=>(hu.mp aA).elim λ y L=>L.2▸rfl
theorem Y0:k5 (fI n 3) (l.map E) (l.map E)=true:=by
 induction l with
 |nil=>exact rfl
 |cons x l aZ=>exact dI.mpr ⟨iL rfl,aZ⟩
theorem C3{p q r s:av}(ax:p=true)(aH:q=true)(cI:r=true)(gh:s=true):(p&&(q&&(r&&(s&&true))))=true:=by rw[ax,aH,cI,gh];rfl
theorem abq{l cf:B D}(e:n[m]? =some (.li l))(bC:n[c0]? =some (.li (y::cf))):s1 n (.ref m) (.ref c0)=none:=
 (an (λ o:Y a0=>match o,n[c0]? with|some (.li xs),some (.li [])=>some (!xs.isEmpty)|_,_=>none) e).trans (an (λ o:Y a0=>match some (a0.li l),o with|some (.li xs),some (.li [])=>some (!xs.isEmpty)|_,_=>none) bC)
theorem abd{xs:B D}(e:n[m]? =some (.li xs))(bC:n[c0]? =some (.li (y::bf)))(o:xs.all (eK n 3)=true)(c3:(y::bf).all (eK n 3)=true):cY .ne (.ref m) (.ref c0) n=some (!k5 (fI n 3) xs (y::bf)):=
 (an (λ o:Y av=>match o with|some r=>some r|none=>(m5 4 n (.ref m) (.ref c0)).map (!·)) (abq e bC)).trans (an (qV (!·)) (DF e bC o c3))
noncomputable def Ba:bk:=.cons (.b4 (.or (.cons (.cmp .ne (.at (.v 6) 59) (.lst .nil)) (.cons (.cmp .ne (.comp (.at (.aq (.at (.v 2) 36) (.bin .add (.ii 66) (.v 14))) 19) [14] false (.gQ (.ii 4)) (.nil)) (.v 4)) .nil))) (.cons (.ret (.cj false)) .nil) (.nil)) (.cons (.ret (.cmp .eq (.comp (.at (.v 15) 8) [15] false (.lj (.at (.v 2) 15) (.ii 1)) (.nil)) (.comp (.aq (.v 16) (.ss [102,108,97,103,115])) [16] false (.aq (.v 1) (.ss [114,111,119,115])) (.nil)))) .nil)
noncomputable def kd(a:bH)(bi aW bq bj bK bB cE dZ e7 fn fo e8 e9:Y D):aX:=[bi,some (.ref (a .w)),some (.ref (a .store)),aW,some (.ref (a .want)),bq,some (.ref (a .ih)),bj,bK,bB,cE,dZ,e7,fn,fo,e8,e9]
theorem ZG{S:C→B (ap×C)}{t:C}{bi aW bq bj bK bB cE dZ e7 fn fo e8 e9:Y D}(M:Good a h n)(bT:c6 a h T)(aM:ko a h)(types:∃x,h .types=some (.li (dw 66 .nn++[.ref (a (.ty 0)),.ref (a (.ty 1)),.ref (a (.ty 2)),.ref (a (.ty 3)),x])))(ty:∀l,l<4→l6 a h l (W.many l))(meths:h .meths=some (.li (.nn::(ck R.length).map λ j=>.ref (a (.bl j)))))(agh:∃aG,h .ih=some (.bF 7 aG)∧aG.lookup 59=some (.ref (a .ju)))(ju:h .ju=some (.li []))(im:∀l,l<4→∃bf,h (.cM l)=some (.li bf)∧es T bf (I l))(wl:∀l,l<4→∃bf,h (.ei l)=some (.li bf)∧es T bf (I l))(want:h .want=some (lU a))(bl:j0 a h T W aU R F)(c':ff a h T W R F S t):
  ∃J,bS ac (runN ac z) Ba (kd a bi aW bq bj bK bB cE dZ e7 fn fo e8 e9) n=some (.f5 (.cj true),J):=by
 refine bT.b7 λ _ _ _ _ Su=>?_
 have⟨bf,oD,tE⟩:=agh
 have⟨x,tq⟩:=types
 have iU:=M.kE (.li [])
 have iz:=Fk (iU.at_ _ _ ju) (iZ (l:=n) (x:=a0.li []) rfl)
 have jh:=iU.kE (.li [.ref (a (.cM 0)),.ref (a (.cM 1)),.ref (a (.cM 2)),.ref (a (.cM 3))])
 have Bj:=aM.at_ iU
 have b7:∀l,l<4→ci ac (runN ac z) (.at (.aq (.at (.v 2) 36) (.bin .add (.ii 66) (.v 14))) 19) (kd a bi aW bq bj bK bB cE dZ e7 fn (some (E l)) e8 e9) (n++[.li []])=some (.ref (a (.cM l)),n++[.li []]):=λ l hl=>
  let⟨⟨vG,er,eN,hr,kM,lS⟩,_⟩:=ty l hl
  have Ta:fG .add (.ii 66) (E l)=some (E (66+l)):=rfl;
  have ae5:=(fj (iU.at_ _ _ er)).trans lS;
  (hI z ((((ab.v 2).at 36).aq (ab.bin iS.add (ab.ii 66) (ab.v 14))).at 19) (kd a bi aW bq bj bK bB cE dZ e7 fn (some (E l)) e8 e9) (n++[a0.li []]) _ Bj.2.1 _ Ta _ (GP hl iU tq) _ ae5)
 have kH:cY .ne (.ref (n++[a0.li []]).length) (.ref (a .want)) (n++[.li []]++[.li [.ref (a (.cM 0)),.ref (a (.cM 1)),.ref (a (.cM 2)),.ref (a (.cM 3))]])=some false:=by
  have u1:∀l,l<4→eK (n++[.li []]++[.li [.ref (a (.cM 0)),.ref (a (.cM 1)),.ref (a (.cM 2)),.ref (a (.cM 3))]]) 3 (.ref (a (.cM l)))=true∧eK (n++[.li []]++[.li [.ref (a (.cM 0)),.ref (a (.cM 1)),.ref (a (.cM 2)),.ref (a (.cM 3))]]) 3 (.ref (a (.ei l)))=true∧fI (n++[.li []]++[.li [.ref (a (.cM 0)),.ref (a (.cM 1)),.ref (a (.cM 2)),.ref (a (.cM 3))]]) 3 (.ref (a (.cM l))) (.ref (a (.ei l)))=true:=λ l hl=>
   let⟨p,sm,b⟩:=im l hl;let⟨q,p9,d⟩:=wl l hl
   have L:=jh.at_ _ _ sm;have w:=jh.at_ _ _ p9;
   ⟨(AN L).trans b.eK,(AN w).trans d.eK,(KU L w).trans (b.same Su.nodup d)⟩
  have eU:=u1 0 (aE rfl);have c2:=u1 1 (aE rfl);have dW:=u1 2 (aE rfl);have ob:=u1 3 (aE rfl)
  exact(abd (iZ rfl) (jh.at_ _ _ want) (C3 eU.1 c2.1 dW.1 ob.1) (C3 eU.2.1 c2.2.1 dW.2.1 ob.2.1)).trans (an (λ b=>some (!b)) (C3 eU.2.2 c2.2.2 dW.2.2 ob.2.2))
 have UV: @lF (live (.ew 0 4) [E 0,E 1,E 2,E 3]) (e0 (.ew 0 4) [E 0,E 1,E 2,E 3]) (λ x ao=>(dh false [14] x (kd a bi aW bq bj bK bB cE dZ e7 fn fo e8 e9)).bind λ aF=>(hp ac (runN ac z) .nil aF ao).bind λ q=>if q.1=true then(ci ac (runN ac z) (.at (.aq (.at (.v 2) 36) (.bin .add (.ii 66) (.v 14))) 19) aF q.2).bind λ r=>some ([r.1],r.2)else some ([],q.2)) [E 0,E 1,E 2,E 3] [] (n++[.li []])=some ([.ref (a (.cM 0)),.ref (a (.cM 1)),.ref (a (.cM 2)),.ref (a (.cM 3))],n++[.li []]):=
  h7 trivial (j2 rfl (b7 0 (aE rfl))) (h7 trivial (j2 rfl (b7 1 (aE rfl))) (h7 trivial (j2 rfl (b7 2 (aE rfl))) (h7 trivial (j2 rfl (b7 3 (aE rfl))) (jF trivial))))
 generalize YC:n++[a0.li []]++[a0.li [.ref (a (.cM 0)),.ref (a (.cM 1)),.ref (a (.cM 2)),.ref (a (.cM 3))]]=ao at kH jh
 have aw:bS ac (runN ac z) (.cons (.b4 (.or (.cons (.cmp .ne (.at (.v 6) 59) (.lst .nil)) (.cons (.cmp .ne (.comp (.at (.aq (.at (.v 2) 36) (.bin .add (.ii 66) (.v 14))) 19) [14] false (.gQ (.ii 4)) (.nil)) (.v 4)) .nil))) (.cons (.ret (.cj false)) .nil) (.nil)) .nil) (kd a bi aW bq bj bK bB cE dZ e7 fn fo e8 e9) n=some (.br (kd a bi aW bq bj bK bB cE dZ e7 fn fo e8 e9),ao):=by
  subst YC
  exact(dk z (bk.cons (Mine.S.b4 (Mine.T.or (fb.cons (Mine.T.cmp jf.ne ((ab.v 6).at 59) (ab.lst d6.nil)) (fb.cons (Mine.T.cmp jf.ne (((((ab.v 2).at 36).aq (ab.bin iS.add (ab.ii 66) (ab.v 14))).at 19).comp [14] false (ab.ii 4).gQ fb.nil) (ab.v 4)) fb.nil))) (bk.cons (Mine.S.ret (ab.cj false)) bk.nil) bk.nil) bk.nil) (kd a bi aW bq bj bK bB cE dZ e7 fn fo e8 e9) n _ ((fj (M.at_ _ _ oD)).trans tE) _ iz _ rfl _ rfl (aE rfl) _ _ UV _ kH)
 have zT:=DT (jh.at_ _ _ meths)
 have pO:=jh.kE (.li ((ck R.length).map λ j=>.ref (a (.bl j))))
 have pP:=pO.kE (.li ((ck R.length).map λ j=>E (F j)))
 have d4:∀{α:Type} {g:C→α},((ck R.length).map g).length≤100000:=by
  intro α g
  rw[cG,gB];exact a' c'.da (aE rfl)
 have Kg:=sz (V:=runN ac z) (x:=15) (env:=kd a bi aW bq bj bK bB cE dZ e7 fn fo e8 e9) (acc:=[]) (eR:=ck R.length) (f:=λ j=>.ref (a (.bl j))) (b7:=.at (.v 15) 8) (eo:=.nil) (iZ (l:=ao) (x:=a0.li ((ck R.length).map λ j=>.ref (a (.bl j)))) rfl) (p:=λ _=>true) (g:=λ j=>E (F j)) λ j bt=>⟨rfl,aR rfl ((bl j (ga.mp bt)).at_ pO λ _ _ _ m _ at_=>aR (at_ m.f8) rfl)⟩
 have Kx:=sz (V:=runN ac z) (x:=16) (env:=kd a bi aW bq bj bK bB cE dZ e7 fn fo e8 e9) (acc:=[]) (eR:=ck R.length) (f:=λ j=>.ref (a (.row j))) (b7:=.aq (.v 16) (.ss [102,108,97,103,115])) (eo:=.nil) (pP.at_ _ _ c'.rows) (p:=λ _=>true) (g:=λ j=>E (F j)) λ j bt=>⟨rfl,aR rfl (aR rfl (aR ((c'.row j (ga.mp bt)).at_ pP).2.2.2.2.1 rfl))⟩
 rw[B8.mpr (λ _ _=>rfl)]at Kg Kx
 have Fc:(ck R.length).map (λ j=>E (F j))=((ck R.length).map F).map E:=(tQ (f:=F) (g:=E)).symm
 have EO:=(an (·[(ao++[a0.li ((ck R.length).map λ j=>.ref (a (.bl j)))]).length]?) (jx (ao++[a0.li ((ck R.length).map λ j=>.ref (a (.bl j)))]) [a0.li ((ck R.length).map λ j=>E (F j))] [a0.li ((ck R.length).map λ j=>E (F j))])).trans (l' (i:=0))
 have ol:=DF (EO.trans (an (λ l=>some (a0.li l)) Fc)) ((iZ rfl).trans (an (λ l=>some (a0.li l)) Fc)) Mg Mg
 rw[Y0]at ol
 have aB:bS ac (runN ac z) (.cons (.ret (.cmp .eq (.comp (.at (.v 15) 8) [15] false (.lj (.at (.v 2) 15) (.ii 1)) (.nil)) (.comp (.aq (.v 16) (.ss [102,108,97,103,115])) [16] false (.aq (.v 1) (.ss [114,111,119,115])) (.nil)))) .nil) (kd a bi aW bq bj bK bB cE dZ e7 fn fo e8 e9) ao=some (.f5 (.cj true),ao++[a0.li ((ck R.length).map λ j=>.ref (a (.bl j)))]++[a0.li ((ck R.length).map λ j=>E (F j))]++[a0.li ((ck R.length).map λ j=>E (F j))]):=by
  exact(dk z (bk.cons (Mine.S.ret (ab.cmp jf.eq (((ab.v 15).at 8).comp [15] false (((ab.v 2).at 15).lj (ab.ii 1)) fb.nil) (((ab.v 16).aq (ab.ss [102,108,97,103,115])).comp [16] false ((ab.v 1).aq (ab.ss [114,111,119,115])) fb.nil))) bk.nil) (kd a bi aW bq bj bK bB cE dZ e7 fn fo e8 e9) ao _ ((aM.at_ jh).1) _ zT _ (ix (iZ (l:=ao) (x:=a0.li ((ck R.length).map λ j=>.ref (a (.bl j)))) rfl)) d4 _ _ Kg _ (gx (pP.at_ _ _ c'.w) rfl) _ (ix (pP.at_ _ _ c'.rows)) d4 _ _ Kx _ ol)
 exact⟨_,(j9 aw).trans aB⟩
end
end Mine
end
section
namespace Mine
variable{t:C}
section
variable{a:bH}{h:aT}{n:St}{T:B aP}{z:C}{W:cw}{R:B b5}{F:C→C}{I:C→B (C×ap×C)}{al:B (am×D)}{aU:C→ap}{X:Prop}
theorem ff.abT{H:aT}{aC:B aP}{S:C→B (ap×C)}(ae:ff a h T W R F S t)(f:∀r o,rl r=true→h r=some o→H r=some o)(bT:c6 a H aC):ff a H aC W R F S t:=
 ⟨⟨let⟨O,e,k⟩:=ae.lw.w;⟨O,f _ _ rfl e,k⟩,let⟨aG,e,k⟩:=ae.lw.store;⟨aG,f _ _ rfl e,k⟩,f _ _ rfl ae.lw.many,f _ _ rfl ae.lw.up,ae.lw.ok⟩,bT,f _ _ rfl ae.w,f _ _ rfl ae.rows,λ j bt=>⟨f _ _ rfl (ae.row j bt).row,f _ _ rfl (ae.row j bt).st⟩,ae.eW,ae.da,ae.lR,ae.mG⟩
theorem VG{xs:B C}{dX:C}{nd:C→D}{os:B C}{bi aW bq bB cE dZ e7 fn fo e8 e9:Y D}(A:kS a h T W al aU R (λ j=>eC (af R j)) I xs t)(M:Good a h n)(a1:h .h8=some (.li (py R nd os)))(hm:h (.a6 dX)=some (.li (os.map λ j=>.ref (a (.row j)))))(vb:os.Nodup)(oq:os.length≤16)(mh:os=g5 R∨os=(g5 R).reverse)(a3:T.length<5000):
  ∃J,bS ac (runN ac (z+39+1)) (.cons (.ex (.call 44 (.cons (.v 7) .nil))) (.cons (.dc [9] false (.gQ (.ii 4)) sV) Ba)) (kd a bi aW bq (some (.ref (a .eH))) (some (.ref dX)) bB cE dZ e7 fn fo e8 e9) n=some (.f5 (.cj true),J):=by
 have ag:=A.ds.fR
 have b9:=ag.inv
 refine acg b9 ag.eW λ cz cD dn gf i0 iJ dy eD=>?_
 have sX:∀i∈os,i<R.length∧(af R i).eL=true:=λ i ay=>
  have q:=oP.mp (mh.elim (λ e=>e▸ay) λ e=>Q9.mp (e▸ay):i∈g5 R);⟨ga.mp q.1,q.2⟩
 have iy:∀{rev:av},fw R os=gX rev cz cD dn→∃J,bS ac (runN ac (z+39+1)) (.cons (.ex (.call 44 (.cons (.v 7) .nil))) (.cons (.dc [9] false (.gQ (.ii 4)) sV) Ba)) (kd a bi aW bq (some (.ref (a .eH))) (some (.ref dX)) bB cE dZ e7 fn fo e8 e9) n=some (.f5 (.cj true),J):=λ{rev} e5=>by
  have Ot:∀i∈os,nO R (λ j=>eC (af R j)) I i:=λ i ay=>⟨(sX i ay).1,(sX i ay).2,by show eC (af R i)=_;unfold eC;rw[(sX i ay).2];rfl,λ e b3 _=>(A.each _ e b3).2⟩
  refine acf (z:=z+1) (nd:=nd) A.ds M Ot vb e5 gf i0 iJ a1 (fh a3 (aE rfl)) λ aa bX aI aw dJ bU jH pn qv=>?_
  have h6:kg a aI bX W R ((λ j=>eC (af R j)),(λ _=>[]),I) t os dX 16:=⟨A.c'.abT qv bU.fR.bT,qv _ _ rfl A.want,λ l hl=>let⟨bf,oD,tE⟩:=A.wl l hl;⟨bf,qv _ _ rfl oD,tE.more λ q=>let⟨_,jH⟩:=jH;jH▸q.more⟩,A.len,qv _ _ rfl hm,a' pn (h4 (e' (nI a3 _) (aE rfl)))⟩
  refine aau (z:=z+8) (bR:=[e7,fn,fo,e8,e9]) (bi:=bi) (aQ:=some (.ref (a .store))) (aW:=aW) (bh:=some (.ref (a .ih))) (bj:=some (.ref (a .eH))) (o5:=bq) (hC:=bB) (em:=cE) (fF:=dZ) b9 sX vb oq (λ i ay=>rfl) h6 dJ (aE rfl) λ ao bJ cL gz tb iB iC aB dA mX qc gD=>?_
  have vS:∀x∈hD (fw R os),x<os.length:=λ x aA=>(cG (as:=os) λ j=>(af R j).ah)▸(FL.mp aA).1
  have agd:∀i∈mB R os,i∈os:=λ i ay=>(hu.mp ay).elim λ x L=>L.2▸mem_getD (vS x L.1)
  have adf:wq R ((λ j=>eC (af R j)),I) ((λ j=>eC (af R j)),(λ _=>[]),I):=⟨rfl,rfl,λ j bt=>(an (eA λ e:C×ap×C=>(e.2.1,e.2.2)) (N2 (i:=j) λ e b3 _=>(A.each (af R j).ah e b3).2)).symm⟩
  have vw:=adg (W:=W) ag.iR b9 ag.eW ag.da (mB R os) (Nf vb NX vS) (λ i ay=>Ot i (agd i ay)) adf A.ds.io
  have d9:∀{k:C} {t:ap},ba bX k t→ba cL k t:=λ q=>let⟨_,qc⟩:=qc;qc▸q.more
  have aal:ff a bJ cL W R ((mB R os).foldl (ka W R) ((λ j=>eC (af R j)),I)).1 ((mB R os).foldl (kL W R) ((λ j=>eC (af R j)),(λ _=>[]),I)).2.1 t:=vw.f▸mX.c'
  have⟨bW,bZ⟩:=ZG (z:=z+39+1) (bi:=bi) (aW:=aW) (bq:=gz) (bj:=some (.ref (a .eH))) (bK:=some (.ref dX)) (bB:=tb) (cE:=iB) (dZ:=iC) (e7:=e7) (fn:=fn) (fo:=fo) (e8:=e8) (e9:=e9) (I:=((mB R os).foldl (ka W R) ((λ j=>eC (af R j)),I)).2) (F:=((mB R os).foldl (ka W R) ((λ j=>eC (af R j)),I)).1) (aU:=aU) dA mX.c'.bT
   (let⟨aG,eE,s⟩:=bU.fR.aM.bF;⟨aG,gD _ _ rfl eE,s⟩) (let⟨x,tq⟩:=bU.fR.types;⟨x,gD _ _ rfl tq⟩) (λ l hl=>let⟨⟨vG,er,eN⟩,⟨cp,d',cO⟩⟩:=bU.fR.ty l hl;⟨⟨vG,gD _ _ rfl er,eN⟩,⟨cp,gD _ _ rfl d',cO⟩⟩) (gD _ _ rfl bU.fR.meths) (let⟨_,bf,_,oD,d⟩:=bU.fR.qb;⟨bf,gD _ _ rfl oD,d.2.2.2.2.2⟩) (gD _ _ rfl (qv _ _ rfl A.ju))
   (λ l hl=>let⟨bR,d4,d5⟩:=bU.im l hl;⟨bR,gD _ _ rfl d4,d5.more d9⟩) (λ l hl=>let⟨bR,d4,d5⟩:=mX.wl l hl;⟨bR,d4,vw.i.symm▸d5⟩) mX.want (λ j bt=>(bU.bl j bt).bx (λ o e=>gD _ _ rfl e) (λ g o e=>gD _ _ rfl e) d9) aal
  have Vr:ci ac (runN ac (z+39+1)) (.call 44 (.cons (.v 7) .nil)) (kd a bi aW bq (some (.ref (a .eH))) (some (.ref dX)) bB cE dZ e7 fn fo e8 e9) n=some (.nn,aa):=(hI (z+39+1) (ab.call 44 (d6.cons (ab.v 7) d6.nil)) (kd a bi aW bq (some (D.ref (a aN.eH))) (some (D.ref dX)) bB cE dZ e7 fn fo e8 e9) n _ _ aw)
  exact⟨bW,aR (aR Vr rfl) (aR aB bZ)⟩
 exact mh.elim (λ e=>iy (rev:=false) (e▸dy)) λ e=>iy (rev:=true) (e▸eD)
theorem Wy:qO R λ j=>eC (af R j):=λ j _=>by
 show eC (af R j)=_∨eC (af R j)=_
 unfold eC
 cases(af R j).eL with
 |true=>exact .inl rfl
 |false=>exact .inr rfl
noncomputable def adI:bk:=.cons (.ex (.call 44 (.cons (.v 7) .nil))) (.cons (.dc [9] false (.gQ (.ii 4)) sV) Ba)
noncomputable def Gj:bk:=.cons (.ex (.call 58 (.cons (.v 1) .nil))) .nil
noncomputable def Gg:bk:=.cons (.ex (.call 60 (.cons (.v 1) .nil))) .nil
noncomputable def Gf:bk:=.cons (.dc [5] false (.aq (.v 1) (.ss [114,111,119,115])) uU) .nil
noncomputable def nn(k:C):B (Y D):=dw k none
theorem ZK{ns:B am}(hl:ns.length≤63):∃J,bS ac (runN ac 100) zk (ra ns) []=some (.f5 (.cj true),J):=by
 have start:=aeR (z:=95) hl (r:=Gj.app (OE.app (Gg.app (A9.app (Gf.app (A'.app (OG.app adI)))))))
 refine ZP (z:=68) (xs:=rK ns) (t:=0) (aG:=O9) (W7 (A:=ns.map .ii) (al:=(rK ns).map E)) ae7 (aE rfl) rfl rfl (aE rfl) rfl (aE rfl) rfl rfl ⟨LO,rfl,aE rfl,rfl,rfl,rfl,rfl⟩ rfl λ W aa bX aI cx al jV x aw dJ Ha sU aem afF afE BQ hB Uf Dc C8=>?_
 have Dc:cx .w=15:=Dc
 have C8:cx .store=3:=C8
 have BQ:bX.length≤416:=BQ
 have sU:jV≤10:=sU
 refine W3 (z:=98) (bR:=nn 13) (bi:=some (.fv ns)) (aQ:=some (.ref 3)) (aW:=none) dJ Ha ((hB .dR (vc rfl rfl)).2 _ rfl) aem afF afE ((hB .meths (vc rfl rfl)).2 _ rfl) ((hB .gA (vc rfl rfl)).2 _ rfl) (cn sU (aE rfl)) Uf λ jc kN ao bJ ed eM aB dA acN JM JF=>?_
 rw[Dc]at aB JM
 rw[C8]at JF
 refine ZJ (z:=67) (N:=bX.length) (ic:=jV+2) (fN:=15) (kJ:=3) ⟨acN,dA,il.nil,JM,JF,cJ _,cJ _,cJ _⟩ (cn BQ (aE rfl)) (cn (hb sU 2) (aE rfl)) λ bW ek cQ lB R qJ bZ oj=>?_
 have da:R.length≤16:=oj.da
 have lp:lB.length≤416+48*8:=a' oj.lp (hb BQ _)
 have tt:qJ≤10+2+8:=a' oj.tt (hb (hb sU 2) 8)
 refine aaS (z:=100) (bR:=nn 12) (bi:=some (.fv ns)) (aQ:=some (.ref 3)) (aW:=eM) (cm:=none) oj.cp oj.good oj.inv da λ eO hP kq dL hZ QA CS wD ze=>?_
 rw[oj.w]at dL wD
 rw[oj.s]at ze
 refine YM (z:=69) (bR:=nn 5) (bi:=some (.fv ns)) (aW:=eM) (o5:=none) (bh:=none) (bj:=none) (bK:=none) (bB:=none) (cE:=none) (dZ:=none) R.length (c:=0) (ji _) CS hZ (cn (hv tt da) (aE rfl)) (cn (hv lp (gU 48 da)) (aE rfl)) λ jW i4 CU GQ I gz fH h0 Jf aar jH ZX abU=>?_
 have lS:GQ≤36:=a' aar (hv tt da)
 have agj:CU.length<5000:=cn (a' ZX (hv lp (gU 48 da))) (aE rfl)
 have QB:=QA.off abU Jf.c'.bT λ q=>let⟨_,jH⟩:=jH;jH▸q.more
 refine aaT (z:=98) (bR:=nn 9) (bi:=some (.fv ns)) (aW:=eM) (bp:=some (.ref (kq .want))) (bq:=gz) (bN:=none) (bm:=none) QB Jf h0 Wy λ qK xb o6 j4 pQ Qn Vp S' S4 S9=>?_
 refine aaU (z:=99) (bi:=some (.fv ns)) (aQ:=some (.ref 3)) (aW:=eM) (bp:=some (.ref (kq .want))) (bq:=gz) (bh:=some (.ref (o6 .ih))) (bK:=none) (bB:=none) (cE:=none) (dZ:=none) (e7:=none) (fn:=none) (fo:=none) (e8:=none) (e9:=none) Qn pQ Vp (cn lS (aE rfl)) λ vV L1 nd dX os gF aho wP v6 Qo Vq X8 aba ab2 _ mh=>?_
 have⟨σ₈,ul⟩:=VG (z:=60) (bi:=some (.fv ns)) (aW:=eM) (bq:=gF) (bB:=none) (cE:=none) (dZ:=none) (e7:=none) (fn:=none) (fo:=none) (e8:=none) (e9:=none) Qo v6 Vq X8 aba ab2 mh agj
 have jn:=hZ.at_ _ _ CS.c'.w
 rw[wD]at jn
 rw[wD,ze]at j4
 have zh:=S'.trans wD
 have pe:∀p,hz kq (nn 5) (some (.fv ns)) (some (.ref (kq .store))) eM p none none none none none none=qq 15 3 (nn 9) (some (.fv ns)) eM (some (.ref (kq .want))) p none none:=λ p=>by unfold hz;rw[wD,ze];rfl
 have Lz:∀p Ho,kG o6 (some (.fv ns)) (some (.ref 3)) eM (some (.ref (kq .want))) p (some (.ref (o6 .ih))) Ho none none none none none none none none=qq 15 3 (Ho::nn 8) (some (.fv ns)) eM (some (.ref (kq .want))) p (some (.ref (o6 .ih))) (some (.ref (o6 .eH))):=λ p Ho=>by unfold kG;rw[zh];rfl
 have Xo:kd o6 (some (.fv ns)) eM gF (some (.ref (o6 .eH))) (some (.ref dX)) none none none none none none none none=qq 15 3 (some (.ref dX)::nn 8) (some (.fv ns)) eM (some (.ref (kq .want))) gF (some (.ref (o6 .ih))) (some (.ref (o6 .eH))):=by unfold kd;rw[zh,S4.trans ze,S9];rfl
 rw[pe,pe]at fH
 rw[Lz,Lz]at wP
 rw[Xo]at ul
 have tF:((ck R.length).map λ j=>D.ref (kq (.row j))).length≤100000:=by rw[cG,gB];exact a' da (aE rfl)
 rw[←Ce]at fH
 have cz:bS ac (runN ac (99+1)) Gj (sB ns) (vU (ns.map .ii) ((rK ns).map E))=some (.br (sB ns),aa):=(dk (99+1) Gj (sB ns) (vU (eA D.ii ns) (eA E (rK ns))) _ _ aw)
 have dn:bS ac (runN ac (99+1)) Gg (m7 15 (nn 13) (some (.fv ns)) (some (.ref 3)) eM) ao=some (.br (m7 15 (nn 13) (some (.fv ns)) (some (.ref 3)) eM),bW):=(dk (99+1) Gg (m7 15 (nn 13) (some (D.fv ns)) (some (D.ref 3)) eM) ao _ _ bZ)
 have UD:bS ac (runN ac (99+1)) Gf (sY 15 (nn 12) (some (.fv ns)) (some (.ref 3)) eM (some (.ref (kq .want)))) eO=some (.br (qq 15 3 (nn 9) (some (.fv ns)) eM (some (.ref (kq .want))) gz none none),jW):=(dk (99+1) Gf (sY 15 (nn 12) (some (D.fv ns)) (some (D.ref 3)) eM (some (D.ref (kq aN.want)))) eO _ (gx jn rfl) _ (ix (hZ.at_ _ _ CS.c'.rows)) tF _ _ fH)
 exact⟨σ₈,start.trans ((j9 cz).trans ((j9 aB).trans ((j9 dn).trans ((j9 dL).trans ((j9 UD).trans ((j9 j4).trans ((j9 wP).trans ul)))))))⟩
theorem ag9:∀ns:B am,ns.length≤63→nu ac (sw ac 100) zk (some (.fv ns)::dw 16 none) (λ _ _=>False) (λ v _=>v= .cj true) []:=λ ns hl=>
 let⟨_,e⟩:=ZK hl
 tg (Ou 100) zk e rfl
end
end Mine
end
end
theorem PySem.Challenge.cw_hb0001_01_holds : PySem.Challenge.rw_hb0001_01.Holds :=
  Mine.hM Mine.ag9
