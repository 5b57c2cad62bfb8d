import PyProof.Rows.All
import KE.KSortAsk
import Wide.All
import OpenK.AllK
import Wide.FinOn
import PyProof.FactsAll.tuple
import PyProof.FactsAll.tuple_2
import PyProof.StrLoop
import PyProof.Cells
import PyProof.WalksPairs
import PyProof.WalksMore
import PyProof.StrWalks
import PyProof.CompFree
import PyProof.DictDisplay
import PyProof.DictStraight
import PyProof.LetGo
import PyProof.SliceSyntax
import PyProof.Rows.Chain
import Lean
import PySem.Challenge.RW_hb0001_01
set_option Elab.async false
set_option autoImplicit false
set_option maxRecDepth 1000000
set_option maxHeartbeats 0
set_option linter.all false
noncomputable section
open Array renaming any_toList→Qd,find?_toList→Qe,forIn_toList→Qf,getElem?_toList→vW,length_toList→yt,mem_toList_iff→Qg,toList_inj→BS,toList_push→Hp
open Bool renaming and_eq_true→jW,and_eq_true_iff→dI,and_false→Qm,and_true→vY,eq_false_iff→rW,false_eq_true→Hr,false_ne_true→mL,false_or→Qn,noConfusion→ju,not_eq_true'→tH,not_inj→Qo,or_eq_false_iff→Qp,or_eq_true_iff→BW,rec→Qq
open Classical renaming byCases→r1,em→f7
open Eq renaming symm→BY,trans→v2
open False renaming elim→HB
open ForInStep renaming yield→kU
open Int renaming add_sub_cancel→QH,eq_ofNat_of_zero_le→B0,lt_of_lt_of_le→QI,natCast_nonneg→yw,natCast_pos→QJ,ne_of_gt→QK,ofNat_le→QL,ofNat_lt→B1,toNat→HG
open Int.ofNat renaming inj→tJ
open List renaming all_eq_true→g9,all_toArray→QO,any_eq_false→QP,append_assoc→jw,append_cons→mO,append_nil→eX,cons→QQ,drop_eq_nil_iff→QS,eq_nil_of_length_eq_zero→HK,ext_getElem→HL,filter→QT,filterMap→QU,filter_append→r2,filter_congr→HM,filter_cons→QV,filter_cons_of_neg→B5,filter_cons_of_pos→B6,filter_eq_nil_iff→tN,filter_eq_self→B7,filter_map→QW,find?_cons_of_neg→HN,find?_cons_of_pos→HO,foldl→HP,forIn_cons→HQ,forall_mem_cons→yz,getD_eq_getElem?_getD→jx,getElem?_append_left→qQ,getElem?_append_right→yA,getElem?_concat_length→HR,getElem?_cons_succ→QX,getElem?_cons_zero→yB,getElem?_eq_getElem→h1,getElem?_eq_none→B8,getElem?_eq_none_iff→yC,getElem?_eq_some_iff→jY,getElem?_inj→B9,getElem?_map→qR,getElem?_range→yD,getElem?_replicate→HS,getElem?_set→QY,getElem?_set_ne→tO,getElem?_set_self→yE,getElem?_toArray→HT,getElem_map→HU,getElem_mem→yF,getElem_range→HV,isEmpty_iff→B',isEmpty_map→QZ,length→f9,length_append→fg,length_filter_le→HW,length_map→cG,length_range→gA,length_range'→Q0,length_replicate→Ca,length_set→HX,length_singleton→Q1,length_take→HY,length_zip→Q2,lookup→yG,lookup_append→yH,lookup_cons→l0,lookup_cons_self→HZ,map→eA,map_append→nD,map_congr_left→pR,map_cons→oL,map_id→Q3,map_map→tP,map_reverse→Q4,map_take→Q5,mem_append→nE,mem_append_left→oM,mem_append_right→wb,mem_cons→kg,mem_filter→oN,mem_iff_getElem→H0,mem_map→ht,mem_of_getElem?→h2,mem_range→f',mem_reverse→Q6,mem_singleton→jy,nil_append→H1,nodup_append→Cb,nodup_cons→nF,nodup_nil→Cc,nodup_range→wc,of_mem_zip→H2,pairwise_map→tQ,range→ck,range'→pS,range_eq_range'→Cd,range_succ→Ce,replicate→dw,replicate_succ→Q7,reverse_append→Q8,reverse_cons→Q9,reverse_replicate→H3,set→yI,set_append_right→H4,size_toArray→yJ,take_length→Q',take_of_length_le→Ra,zipIdx_cons→Rb,zip_cons_cons→yK
open List.Pairwise renaming imp→agk,nil→agl
open List.Sublist renaming filter→agm,length_le→agn,map→ago
open List.cons renaming inj→B4,injEq→QR
open Nat renaming add_assoc→mP,add_comm→qS,add_le_add→hu,add_le_add_left→fz,add_le_add_right→ha,add_left_cancel→H5,add_lt_add_of_lt_of_le→r5,add_lt_add_right→nG,add_right_comm→pU,add_sub_cancel→Rf,add_sub_cancel_left→wd,add_sub_of_le→Rg,add_zero→Rh,beq→ki,ble→kj,blt→H6,casesOn→Ri,decEq→Rj,le_add_left→iE,le_add_left_of_le→H7,le_add_right→d2,le_antisymm→Rk,le_of_ble_eq_true→aE,le_of_eq→dg,le_of_lt→h3,le_of_lt_succ→lq,le_of_not_lt→Rl,le_of_succ_le→yL,le_of_succ_le_succ→H8,le_refl→cJ,le_succ→h4,le_succ_of_le→lr,le_trans→a',lt_irrefl→oP,lt_of_le_of_lt→cn,lt_of_lt_of_eq→Rm,lt_of_lt_of_le→e',lt_of_succ_lt→mQ,lt_of_succ_lt_succ→Rn,lt_or_ge→Ck,lt_succ_iff_lt_or_eq→Ro,lt_succ_of_le→pV,lt_succ_of_lt→pW,lt_succ_self→qT,lt_trans→fh,mod_lt→tT,mul_le_mul_left→gT,ne_of_beq_eq_false→tU,ne_of_gt→Cm,ne_of_lt→mR,not_le_of_lt→Cn,not_lt→r6,not_lt_of_le→Rp,not_lt_zero→yM,one_ne_zero→Rq,sub_add_cancel→Co,sub_add_sub_cancel→Rr,sub_le→nH,sub_lt→Cp,sub_self→r7,sub_sub→H9,sub_sub_self→r8,sub_succ_lt_self→Rs,succ→l1,succ_add→Rt,succ_add_eq_add_succ→jz,succ_le_succ→gp,succ_lt_succ→Ru,succ_ne_zero→Rv,zero_add→jh,zero_le→fs,zero_lt_succ→Rw,zero_ne_one→Cq
open Nat.succ renaming inj→oQ
open Ne renaming symm→H'
open Option renaming bind_eq_some_iff→yN,eq_none_iff_forall_ne_some→we,getD→Ct,getD_some→Rx,isNone→Ry,isNone_iff_eq_none→Cu,isSome→pX,isSome_iff_exists→oR,map→qU,map_eq_some_iff→l2,or_none→Rz
open Option.some renaming inj→ej,injEq→yO
open Prod renaming fst→Ia
open PyProof.Rows renaming IntsAre→Cv,envOfC→Cw,get?_update_seq→RC,len_list→agp,len_tuple→agq,listUpdate_at→Ib,seqEpoch_at→Ic,seqObj→iW
open PySem renaming Addr→a8,Around→eB,BoolOp→Cx,Comprehension→RE,Const→l4,DictEntry→mS,Env→eg,Expr→bn,FuncData→Iz,Heap→dD,IsPart→wh,IsTupleKey→ID,NameKind→oS,Obj→fO,Operator→yQ,OsState→jB,Params→gq,Pos→hb,Program→lu,PyData→yR,Reads→tZ,ReadsAll→yS,Result→yT,Scope→gb,Sem→ij,Shared→a2,Stmt→ft,Str→aL,SubscriptOn→wj,Tok→iX,Value→aw,World→eY,arm_eval_BoolOp→R0,assignEach→t2,assignInOrder→R1,attributeBase→IW,backTo→kW,behindInMarks→IX,binaryOp→IY,bindArgs→IZ,bindC→wm,bindL→t3,boolOp→yV,builtinsNs→CH,cLine→kX,callEnvC→nK,callWith→yW,call_meets→CI,cellsFrom→yX,codeAny→t4,compareOp→t5,eqIsQuiet→yY,evalEach→I0,findBy→CJ,foldedSetIterable→CK,getItem→t6,getMethod→yZ,getMethod_builtin→R2,importedModules→I1,intKind→gr,intKind_is→p3,letOwnedTupleGo→CL,mainGlobals→lx,methodCallPos→R3,model→bc,notedBy→wn,recursionLimit→CM,reduceHash→I2,relabel→wo,seqIndex?→wp,seqSlot_of→R4,sizeLine_eq→ly,slicePick→sb,slicePicked→I3,spliced→sc,standAt→CN,starEach→j0,stored→CO,strKind_is→I4,swapsWith→y0,sysModules→kY,treeTable→t7,truthy→y1,typeIs_int→CP,wpAny→bg,wpAny_BinOp→I5,wpAny_Call_Name_kw→sd,wpAny_Constant_int→I6,wpAny_Constant_str→R5,wpAny_Slice→I7,wpAny_UnaryOp→R6,wpAny_assign_Name→R7,wpAny_binaryOp_repeat_ref→R8,wpAny_bind→cK,wpAny_call→I8,wpAny_call_entry→R9,wpAny_eqBool_int→R',wpAny_execs_nil→I9,wpAny_forIn_list→Sa,wpAny_getItem_list_slice→Sb,wpAny_getItem_of→I',wpAny_holding→se,wpAny_isTrue_BoolOp→Sc,wpAny_items_cons→Ja,wpAny_items_nil→Sd,wpAny_letTemporaryGo→Se,wpAny_loadPart→Sf,wpAny_mono→fa,wpAny_newList→Jb,wpAny_pure→eG,wpAny_setItem_pairs→Sg,wpAny_specialOf→CQ,wpAny_standAt→sf,wpAny_truthy_bool→Sh
open PySem.Calls renaming Name_function_global→RD
open PySem.Challenge renaming pw_hb0001_01→agr,rw_hb0001_01→qV
open PySem.Const.bool renaming elim→Ie
open PySem.Const.int renaming elim→If
open PySem.Const.str renaming elim→Ig
open PySem.Data.dict renaming elim→Ih
open PySem.Expr renaming ListComp→RF
open PySem.Expr.Attribute renaming elim→Ii
open PySem.Expr.BinOp renaming elim→Ij
open PySem.Expr.BoolOp renaming elim→Ik
open PySem.Expr.Call renaming elim→Il
open PySem.Expr.Compare renaming elim→Im
open PySem.Expr.Constant renaming elim→Io
open PySem.Expr.Dict renaming elim→Ip
open PySem.Expr.IfExp renaming elim→Iq
open PySem.Expr.List renaming elim→Ir
open PySem.Expr.ListComp renaming elim→Is
open PySem.Expr.Name renaming elim→Cy
open PySem.Expr.Slice renaming elim→It
open PySem.Expr.Subscript renaming elim→Iu
open PySem.Expr.Tuple renaming elim→Cz
open PySem.Expr.UnaryOp renaming elim→Iv
open PySem.F renaming args_dict_get_3→RG,args_int_rmul_2→RH,entry_dict_get→RI,entry_int_rmul→RJ,fills_int_mul→RK,slot_dict_get→Iw,slot_int_index→RL,slot_int_rmul→CA,slot_list_getitem→Ix,slot_str_getitem→RM,slot_tuple_mul→Iy,slot_tuple_rmul→RN
open PySem.Heap renaming SameBut→tX,get?_push_of_some→ls,get?_push_size→nI,get?_update_self→IC,lt_size→mT,size_push→RO
open PySem.Heap.IsSliceOf renaming new→IA
open PySem.Heap.SameBut renaming update→IB
open PySem.IsRange renaming new→RP
open PySem.NameKind renaming free→tY
open PySem.Obj renaming data→IE,mapSeq→mU,putName→IF,putNameByArray→CB,putName_eq→CC
open PySem.PyData renaming canLayAll0→RQ,eqv→iG,eqvAll→IG,keyHash→wi,strOk→RR,tuple→RS
open PySem.ReadsAll renaming cons→RT
open PySem.SeqAt.RcNeAt renaming lists→ags,lists_lengths→agt
open PySem.Stmt.Assign renaming elim→IH
open PySem.Stmt.AugAssign renaming elim→II
open PySem.Stmt.Expr renaming elim→IJ
open PySem.Stmt.For renaming elim→IK
open PySem.Stmt.If renaming elim→IL
open PySem.Stmt.Return renaming elim→IM
open PySem.Stmt.While renaming elim→IN
open PySem.Str renaming append→RU,ofString→IP
open PySem.StrLaws renaming sliceIdx_none_lo→RV,strSliceIndices_plain→RW
open PySem.Value renaming int→qW,type→CD
open PySem.Value.int renaming elim→IQ
open PySem.Value.ref renaming elim→IR,inj→IS
open PySem.W renaming Frag→kk,KasT→IT,boot_heap→t0,cellsFrom_some→IU,dictOf→p1,emptyDict→lv,findIn→oT,instObj→nJ,kas_sort→CF,keepIn→yU,looks_pair→p2,looseW→CG,nsIn→qX,piece_app→r',plainGet_of→IV,segRun_of→sa,topFrame→t1,typeIn→wk
open PySem.W.Fast renaming te10110043849684766642→agu,te10880121769531294198→agv,te10994771534591457954→agw,te11698064438423848299→agx,te11892475500146522536→agy,te13664370479719496447→agz,te14082659384304107361→agA,te14364793385576792824→CE,te14374325043358763698→agB,te14722251495701143533→agC,te15667345088766844465→agD,te16090120013241838585→agE,te2386780881361962483→agF,te3247288618530077131→agG,te3399658132070893891→RX,te479339242167458305→agH,te5160383126252970620→agI,te5923862056798008813→RY,te5991557255702980513→agJ,te7317090234206586261→agK,te7369524293546568484→agL,te7409074990110511671→agM,te821141287760084731→RZ,te9446332074065402090→agN,tw10110043849684766642→agO,tw14364793385576792824→agP
open _root_ renaming Array→gR,BEq→ny,Bool→av,Decidable→v1,DecidableEq→jv,DecidablePred→qL,Int→am,LawfulBEq→oK,List→B,Nat→C,Option→Y,String→ws,Unit→p5,beq_eq_false_iff_ne→l',beq_iff_eq→jj,beq_self_eq_true→lD,bne_iff_ne→p7,bne_self_eq_false→JY,congrArg→an,decide_eq_decide→q8,decide_eq_false→j2,decide_eq_true→iK,decide_eq_true_eq→zB,decide_eq_true_iff→Vc,if_false→Ex,of_decide_eq_true→gh
section
namespace Mine
inductive D where
 |nn
 |cj (b:av)
 |ii (i:am)
 |ss (s:B C)
 |tup (l:B D)
 |ew (lo ay:am)
 |cd (O:B (am×am))
 |ref (z:C)
 |fu (l:B am)
noncomputable abbrev gS:=B (am ⊕ B am)
inductive a0 where
 |li (xs:B D)
 |cq (O:B (am×D))
 |ds (O:B (B C×D))
 |h8 (O:B (gS×D))
 |bF (c:C) (aG:B (C×D))
noncomputable abbrev St:=B a0
noncomputable abbrev aX:=B (Y D)
noncomputable abbrev dC:=D→St→Prop
noncomputable abbrev iU:=aX→St→Prop
inductive iR where|add|sub|mul|mod|band|bor|bxor
inductive je where|eq|ne|lt|le|gt|ge|is|pj|mx
inductive Hz where|i|s|t
set_option genSizeOf false
set_option genInjectivity false
mutual
inductive ab where
 |nn|cj (b:av)|ii (i:am)|ss (s:B C)
 |v (x:C)
 |gl (name:B C) (val:D)
 |bin (op:iR) (a b:ab)
 |qz (a b:ab)|pD (a b:ab)
 |neg (a:ab)
 |and (O:d6)|or (O:d6)
 |cmp (op:je) (a b:ab)
 |ite (t:T) (a b:ab)
 |tup (O:d6)|lst (O:d6)
 |m2 (ks:B (B C)) (ar:d6)
 |o' (ks:B am) (ar:d6)
 |eP (k:Hz)
 |at(a:ab) (f:C)
 |aq (a i:ab)
 |lh (a lo:ab)|mE (a ay:ab)|rev (a:ab)
 |comp (b7:ab) (xs:B C) (many:av) (bb:ab) (eo:fb)
 |call (f:C) (b6:d6)
 |new (c:C) (b6:d6)
 |hi (o:ab) (m:C) (b6:d6)
 |len (a:ab)|ja (a:ab)|sorted (a:ab)|strOf (a:ab)
 |gP (a:ab)|pE (a b:ab)
 |append (o x:ab)
 |m1 (o k d:ab)
 |bad
inductive d6 where
 |nil
 |cons (e:ab) (r:d6)
inductive T where
 |e (a:ab)
 |g4 (t:T)
 |and (bE:fb)|or (bE:fb)
 |cmp (op:je) (a b:ab)
inductive fb where
 |nil
 |cons (t:T) (r:fb)
end
mutual
inductive S where
 |asg (x:C) (e:ab)
 |oZ (xs:B C) (e:ab)
 |cc (o:ab) (f:C) (e:ab)
 |gI (o i:ab) (e:ab)
 |aug (x:C) (op:iR) (e:ab)
 |o2 (o:ab) (f:C) (op:iR) (e:ab)
 |o3 (o i:ab) (op:iR) (e:ab)
 |ex (e:ab)
 |ret (e:ab)
 |mC
 |b4 (t:T) (a b:bk)
 |pK (t:T) (b:bk)
 |dc (xs:B C) (many:av) (bb:ab) (b:bk)
 |bad
inductive bk where
 |nil
 |cons (s:S) (r:bk)
end
set_option genSizeOf true
set_option genInjectivity true
structure oJ where
 np:C
 nl:C
 names:B (B C)
 body:bk
structure iV where
 fns:C→Y oJ
 ps:C→C→Y C
 i4:C→Y C
 fld:C→C→av
noncomputable def et{α:Type}:Y α→(α→Prop)→Prop
 |some a,k=>k a
 |none,_=>False
noncomputable def small(i:am):Bool:=decide (-(2:am)^62<i)&&decide (i< (2:am)^62)
noncomputable def sr(f:C→C→am)(a b:am):Y Int:=if 0≤a∧0≤b then some (f a.toNat b.toNat)else none
noncomputable def jN{α:Type}(f:am→Y α):D→Y α
 | .ii i=>f i
 |_=>none
noncomputable def ya{α:Type}(f:B C→Y α):D→Y α
 | .ss i=>f i
 |_=>none
noncomputable def Jm(a:D):D→Y D
 | .ii j=>jN (λ i=>some (.ii (i+j))) a
 | .ss t=>ya (λ s=>if s.length+t.length≤100000 then some (.ss (s++t))else none) a
 |_=>none
noncomputable def kB{α:Type}(f:am→am→Y α)(a b:D):Y α:=jN (λ i=>jN (f i) b) a
noncomputable def AE(i j:am):Y D:=if small i&&small j then some (.ii (i*j))else none
noncomputable def fF(op:iR)(a b:D):Y D:=match op with
 | .add=>Jm a b
 | .sub=>kB (λ i j=>some (.ii (i-j))) a b
 | .mul=>kB AE a b
 | .mod=>kB (λ i j=>if j=0 then none else some (.ii (i.fmod j))) a b
 | .band=>kB (λ i j=>(sr (λ x y=>((x&&& y:C):am)) i j).map .ii) a b
 | .bor=>kB (λ i j=>(sr (λ x y=>((x|||y:C):am)) i j).map .ii) a b
 | .bxor=>kB (λ i j=>(sr (λ x y=>((x|||y:C):am)- ((x&&& y:C):am)) i j).map .ii) a b
noncomputable def vf(s:B C):Bool:=decide (s.length≤100)&&s.all (decide<|· <128)
noncomputable def eK(n:St):C→D→av
 |_,.ii _=>true
 |_,.ss s=>vf s
 |z+1,.tup l=>l.all (eK n z)
 |z+1,.ref a=>match n[a]? with
  |some (.li xs)=>xs.all (eK n z)
  |_=>false
 |_,_=>false
noncomputable def k4(f:D→D→av):B D→B D→av
 | [],[]=>true
 |x::xs,y::bf=>f x y&&k4 f xs bf
 |_,_=>false
noncomputable def fH(n:St):C→D→D→av
 |_,.ii a,.ii b=>decide (a=b)
 |_,.ss a,.ss b=>decide (a=b)
 |z+1,.tup a,.tup b=>k4 (fH n z) a b
 |z+1,.ref a,.ref b=>match n[a]?,n[b]? with
  |some (.li xs),some (.li bf)=>k4 (fH n z) xs bf
  |_,_=>false
 |_,_,_=>false
noncomputable def m3(z:C)(n:St)(a b:D):Y Bool:=if eK n z a&&eK n z b then some (fH n z a b)else none
noncomputable def xe(n:St)(k:D)(l:B D):Y Bool:=if l.all (eK n 2)&&eK n 2 k then some (l.any λ x=>fH n 2 x k)else none
noncomputable def Ai(n:St)(k:D):D→Y av
 | .tup l=>xe n k l
 | .ref z=>match n[z]? with
  |some (.li xs)=>xe n k xs
  |some (.cq O)=>jN (λ i=>some (O.lookup i).isSome) k
  |_=>none
 | .cd O=>jN (λ i=>some (O.lookup i).isSome) k
 |_=>none
noncomputable def kC(op:iR)(a b:D):Y D:=match op with
 | .add=>kB (λ i j=>some (.ii (i+j))) a b
 | .sub=>kB (λ i j=>some (.ii (i-j))) a b
 | .bor=>kB (λ i j=>(sr (λ x y=>((x|||y:C):am)) i j).map .ii) a b
 |_=>none
noncomputable def s0(n:St):D→D→Y av
 | .ref m,.ref z=>match n[m]?,n[z]? with
  |some (.li xs),some (.li [])=>some (!xs.isEmpty)
  |_,_=>none
 |_,_=>none
noncomputable def aa9(n:St)(a b:D):Y Bool:=match s0 n a b with
 |some r=>some r
 |none=>(m3 4 n a b).map (!·)
noncomputable def Y3:D→Y av
 | .nn=>some true
 | .tup _=>some false
 | .ref _=>some false
 |_=>none
noncomputable def Me(a:D):D→Y av
 | .nn=>Y3 a
 |_=>none
noncomputable def cY(op:je)(a b:D)(n:St):Y Bool:=
 match op with
 | .eq=>m3 4 n a b
 | .ne=>aa9 n a b
 | .lt=>kB (λ i j=>some (decide (i<j))) a b
 | .le=>kB (λ i j=>some (decide (i≤j))) a b
 | .gt=>kB (λ i j=>some (decide (j<i))) a b
 | .ge=>kB (λ i j=>some (decide (j≤i))) a b
 | .is=>Me a b
 | .pj=>Ai n a b
 | .mx=>(Ai n a b).map (!·)
noncomputable def ic(n:St):D→Y av
 | .cj b=>some b
 | .ii i=>some (decide (i≠0))
 | .ref z=>match n[z]? with
  |some (.li xs)=>some (!xs.isEmpty)
  |_=>none
 |_=>none
noncomputable def room:Nat:=1000000
noncomputable def n2{α:Type}(l:B α)(i:am):Y α:=
 if 0≤i then l[i.toNat]? else if 0≤i+l.length then l[(i+l.length).toNat]? else none
noncomputable def ri(k:D):Y a0→Y D
 |some (.li xs)=>jN (n2 xs) k
 |some (.ds O)=>ya (λ s=>O.lookup s) k
 |some (.cq O)=>jN (λ i=>O.lookup i) k
 |_=>none
noncomputable def dd(n:St)(a k:D):Y D:=
 match a with
 | .tup l=>jN (λ i=>if l.length≤room then n2 l i else none) k
 | .ss s=>jN (λ i=>if s.length≤room∧0≤i then(n2 s i).map λ c=>.ss [c]else none) k
 | .cd O=>jN (λ i=>(O.lookup i).map .ii) k
 | .ref z=>ri k n[z]?
 |_=>none
noncomputable def c7{dm:Type}[ny dm](O:B (dm×D))(k:dm)(v:D):B (dm×D):=
 if(O.lookup k).isSome then O.map λ e=>if e.1==k then(e.1,v)else e else O++[(k,v)]
noncomputable def vJ:B D→Y (B am)
 | []=>some []
 | .ii i::r=>(vJ r).map (i::·)
 |_::_=>none
noncomputable def vK:B D→Y gS
 | []=>some []
 | .ii i::r=>(vK r).map (.inl i::·)
 | .tup l::r=>(vJ l).bind λ is=>(vK r).map (.inr is::·)
 |_::_=>none
noncomputable def Bt:D→Y gS
 | .tup l=>vK l
 |_=>none
noncomputable def rK(n:St)(z:C)(k v:D):Y a0→Y St
 |some (.ds O)=>ya (λ s=>if O.length<room then some (n.set z (.ds (c7 O s v)))else none) k
 |some (.cq O)=>jN (λ i=>if O.length<room then some (n.set z (.cq (c7 O i v)))else none) k
 |some (.h8 O)=>(Bt k).bind λ k=>if O.length<room then some (n.set z (.h8 (c7 O k v)))else none
 |_=>none
noncomputable def Gk(n:St)(z:C)(k v:D):Y St:=rK n z k v n[z]?
noncomputable def w0(k d:D):Y a0→Y D
 |some (.cq O)=>jN (λ i=>some ((O.lookup i).getD d)) k
 |some (.h8 O)=>(Bt k).bind λ k=>some ((O.lookup k).getD d)
 |_=>none
noncomputable def uD(n:St)(a k d:D):Y D:=
 match a with
 | .cd O=>jN (λ i=>some (((O.lookup i).map .ii).getD d)) k
 | .ref z=>w0 k d n[z]?
 |_=>none
noncomputable def Al(n:St)(z:C):Bool:=match n[z]? with
 |some (.li _)=>true
 |_=>false
noncomputable def rg(n:St):D→av
 | .cd _=>true
 | .ref z=>match n[z]? with
  |some (.cq _)|some (.h8 _)=>true
  |_=>false
 |_=>false
noncomputable def so(f:C):Y a0→Y D
 |some (.bF _ aG)=>aG.lookup f
 |_=>none
noncomputable def d7(n:St)(v:D)(f:C):Y D:=
 match v with
 | .ref z=>so f n[z]?
 |_=>none
noncomputable def lg(P:iV)(n:St)(v:D)(f:C)(x:D):Y St:=
 match v with
 | .ref z=>match n[z]? with
  |some (.bF c aG)=>if P.fld c f=true∧aG.length<200 then some (n.set z (.bF c (c7 aG f x)))else none
  |_=>none
 |_=>none
noncomputable def zC(i:am):Y (B C):=if 0≤i∧i<10 then some [48+i.toNat]else none
noncomputable def k'(n:St):D→Y am
 | .tup l=>if l.length≤room then some l.length else none
 | .ref z=>match n[z]? with
  |some (.li xs)=>some xs.length
  |_=>none
 |_=>none
noncomputable def upTo(lo:am):C→B D
 |0=>[]
 |z+1=>.ii lo::upTo (lo+1) z
noncomputable def hQ(n:St):D→Y (B D)
 | .tup l=>some l
 | .ss s=>if s.all (decide<|· <128)then some (s.map λ c=>.ss [c])else none
 | .ew lo ay=>if small lo&&small ay then some (upTo lo (ay-lo).toNat)else none
 | .ref z=>match n[z]? with
  |some (.li xs)=>some xs
  |_=>none
 |_=>none
noncomputable def live(a:D)(l:B D)(n:St):Prop:=
 match a with
 | .ref z=>n[z]? =some (.li l)
 |_=>True
noncomputable def iO(env:aX)(x:C)(v:D):aX:=env.set x (some v)
noncomputable def th(env:aX):B C→B D→Y aX
 | [],[]=>some env
 |x::xs,v::ar=>th (iO env x v) xs ar
 |_,_=>none
noncomputable def dh(many:av)(xs:B C)(v:D)(env:aX):Y aX:=
 match many,xs,v with
 |false,[x],v=>some (iO env x v)
 |true,xs,.tup l=>th env xs l
 |_,_,_=>none
noncomputable def EZ:D→D→av
 | .tup [.ii a,.ii b],.tup [.ii c,.ii d]=>decide (a<c)||(decide (a=c)&&decide (b<d))
 |_,_=>false
noncomputable def m8:D→av
 | .tup [.ii _,.ii _]=>true
 |_=>false
noncomputable def oa{α:Type}(f:C→C→av)(z:C):IT α→Y α
 | .ret a=>some a
 | .ask i j k=>if i<z∧j<z then oa f z (k (f i j))else none
noncomputable def pI(xs:B D):Y (B D):=
 if xs.length<2 then some xs else(oa (λ i j=>EZ (xs.getD i .nn) (xs.getD j .nn)) xs.length (CF xs.length)).map λ p=>p.toList.map λ i=>xs.getD i .nn
noncomputable def xZ:D→D→Y D
 | .tup [x],.ii z=>if z=1 then some (.tup [x])else none
 |_,_=>none
noncomputable def vs(n:St):D→D→Y (B D)
 | .ref m,.ii z=>match n[m]? with
  |some (.li [x])=>if 0≤z∧z<1000 then some (dw z.toNat x)else none
  |_=>none
 |_,_=>none
noncomputable def xE:D→Y D
 | .ii i=>some (.ii (-i))
 |_=>none
noncomputable def uZ(n:St):D→Y (B D)
 | .ref m=>match n[m]? with
  |some (.li xs)=>some xs
  |_=>none
 |_=>none
noncomputable def uw(n:St):D→D→Y (B D)
 | .ref m,.ii z=>match n[m]? with
  |some (.li xs)=>if 0≤z∧z<1000 then some (xs.drop z.toNat)else none
  |_=>none
 |_,_=>none
noncomputable def rQ(n:St):D→D→Y (D ⊕ B D)
 | .ref m,.ii z=>match n[m]? with
  |some (.li xs)=>if 0≤z∧z<1000 then some (.inr (xs.take z.toNat))else none
  |_=>none
 | .ss s,.ii z=>if 0≤z∧z<1000∧s.length≤1000 then some (.inl (.ss (s.take z.toNat)))else none
 | .fu l,.ii z=>if 0≤z∧z<1000∧l.length≤1000 then some (.inr ((l.take z.toNat).map .ii))else none
 |_,_=>none
noncomputable def sZ(n:St):D ⊕ B D→D×St
 | .inl v=>(v,n)
 | .inr l=>(.ref n.length,n++[.li l])
noncomputable def ms(P:iV)(n:St)(m:C):D→Y C
 | .ref z=>match n[z]? with
  |some (.bF c aG)=>if(aG.lookup m).isNone then P.ps c m else none
  |_=>none
 |_=>none
noncomputable def rN(n:St):D→Y D
 | .ref m=>match n[m]? with
  |some (.li xs)=>some (.tup xs)
  |_=>none
 | .tup l=>some (.tup l)
 |_=>none
noncomputable def vD(n:St):D→Y (B D)
 | .ref m=>match n[m]? with
  |some (.li xs)=>if xs.length<64∧xs.all m8=true then(pI xs).bind λ bf=>if bf.length<64 then some bf else none else none
  |_=>none
 |_=>none
noncomputable def ye:D→Y D
 | .ii i=>(zC i).map .ss
 |_=>none
noncomputable def ot:D→Y D
 | .ii z=>if small z=true then some (.ew 0 z)else none
 |_=>none
noncomputable def vx:D→D→Y D
 | .ii lo,.ii ay=>if small lo=true∧small ay=true then some (.ew lo ay)else none
 |_,_=>none
noncomputable def l7(n:St):D→D→Y St
 | .ref z,v=>match n[z]? with
  |some (.li xs)=>if xs.length<room then some (n.set z (.li (xs++[v])))else none
  |_=>none
 |_,_=>none
noncomputable def mk(n:St):D→av
 | .ref z=>Al n z
 |_=>false
noncomputable def j9(n:St):D→D→D→Y St
 | .ref z,k,v=>Gk n z k v
 |_,_,_=>none
noncomputable def vv(n:St):D→D→Y D
 | .ref z,k=>dd n (.ref z) k
 |_,_=>none
section
variable(P:iV)(V:C→B D→dC→St→Prop)
noncomputable def o9(dq:St→Prop)(step:D→(B D→St→Prop)→St→Prop):B D→B D→(B D→St→Prop)→St→Prop
 | [],acc,Q,n=>dq n∧Q acc n
 |x::r,acc,Q,n=>dq n∧step x (λ out J=>o9 dq step r (acc++out) Q J) n
mutual
noncomputable def di:ab→aX→dC→St→Prop
 | .nn,_,Q,n=>Q .nn n
 | .cj b,_,Q,n=>Q (.cj b) n
 | .ii i,_,Q,n=>Q (.ii i) n
 | .ss s,_,Q,n=>Q (.ss s) n
 | .v x,env,Q,n=>et (env[x]?.join) λ a=>Q a n
 | .gl _ val,_,Q,n=>Q val n
 | .bin op a b,env,Q,n=>di a env (λ db aa=>di b env (λ gG ao=>et (fF op db gG) λ r=>Q r ao) aa) n
 | .qz a b,env,Q,n=>di a env (λ db aa=>di b env (λ gG ao=>et (xZ db gG) λ r=>Q r ao) aa) n
 | .pD a b,env,Q,n=>di a env (λ db aa=>di b env (λ gG ao=>et (vs ao db gG) λ r=>Q (.ref ao.length) (ao++[.li r])) aa) n
 | .neg a,env,Q,n=>di a env (λ db aa=>et (xE db) λ r=>Q r aa) n
 | .and O,env,Q,n=>wz O env Q n
 | .or O,env,Q,n=>xM O env Q n
 | .cmp op a b,env,Q,n=>di a env (λ db aa=>di b env (λ gG ao=>et (cY op db gG ao) λ r=>Q (.cj r) ao) aa) n
 | .ite t a b,env,Q,n=>qH t env (λ r aa=>if r=true then di a env Q aa else di b env Q aa) n
 | .tup O,env,Q,n=>m4 O env (λ ar aa=>ar.length≤1000∧Q (.tup ar) aa) n
 | .lst O,env,Q,n=>m4 O env (λ ar aa=>ar.length≤1000∧Q (.ref aa.length) (aa++[.li ar])) n
 | .m2 ks ar,env,Q,n=>m4 ar env (λ l aa=>ks.length=l.length∧Q (.ref aa.length) (aa++[.ds (ks.zip l)])) n
 | .o' ks ar,env,Q,n=>m4 ar env (λ l aa=>ks.length=l.length∧Q (.ref aa.length) (aa++[.cq (ks.zip l)])) n
 | .eP .i,_,Q,n=>Q (.ref n.length) (n++[.cq []])
 | .eP .s,_,Q,n=>Q (.ref n.length) (n++[.ds []])
 | .eP .t,_,Q,n=>Q (.ref n.length) (n++[.h8 []])
 | .at a f,env,Q,n=>di a env (λ db aa=>et (d7 aa db f) λ r=>Q r aa) n
 | .aq a i,env,Q,n=>di a env (λ db aa=>di i env (λ fL ao=>et (dd ao db fL) λ r=>Q r ao) aa) n
 | .lh a lo,env,Q,n=>di a env (λ db aa=>di lo env (λ rS ao=>et (uw ao db rS) λ r=>Q (.ref ao.length) (ao++[.li r])) aa) n
 | .mE a ay,env,Q,n=>di a env (λ db aa=>di ay env (λ afN ao=>et (rQ ao db afN) λ r=>Q (sZ ao r).1 (sZ ao r).2) aa) n
 | .rev a,env,Q,n=>di a env (λ db aa=>et (uZ aa db) λ l=>Q (.ref aa.length) (aa++[.li l.reverse])) n
 | .comp b7 xs many bb eo,env,Q,n=>di bb env (λ fL aa=>et (hQ aa fL) λ l=>l.length≤100000∧
   o9 (live fL l) (λ x K ao=>et (dh many xs x env) λ aF=>rM eo aF (λ b bW=>if b=true then di b7 aF (λ r eO=>K [r] eO) bW else K [] bW) ao)
    l [] (λ acc ao=>Q (.ref ao.length) (ao++[.li acc])) aa) n
 | .call f b6,env,Q,n=>m4 b6 env (λ ar aa=>V f ar Q aa) n
 | .new c b6,env,Q,n=>et (P.i4 c) λ f=>m4 b6 env (λ ar aa=>V f (.ref aa.length::ar) (λ r ao=>r= .nn∧Q (.ref aa.length) ao) (aa++[.bF c []])) n
 | .hi o m b6,env,Q,n=>di o env (λ fx aa=>et (ms P aa m fx) λ f=>m4 b6 env (λ ar ao=>V f (fx::ar) Q ao) aa) n
 | .len a,env,Q,n=>di a env (λ db aa=>et (k' aa db) λ z=>Q (.ii z) aa) n
 | .ja a,env,Q,n=>di a env (λ db aa=>et (rN aa db) λ r=>Q r aa) n
 | .sorted a,env,Q,n=>di a env (λ db aa=>et (vD aa db) λ r=>Q (.ref aa.length) (aa++[.li r])) n
 | .strOf a,env,Q,n=>di a env (λ db aa=>et (ye db) λ r=>Q r aa) n
 | .gP a,env,Q,n=>di a env (λ db aa=>et (ot db) λ r=>Q r aa) n
 | .pE a b,env,Q,n=>di a env (λ db aa=>di b env (λ gG ao=>et (vx db gG) λ r=>Q r ao) aa) n
 | .append o x,env,Q,n=>di o env (λ fx aa=>mk aa fx=true∧di x env (λ yn ao=>et (l7 ao fx yn) λ bW=>Q .nn bW) aa) n
 | .m1 o k d,env,Q,n=>di o env (λ fx aa=>rg aa fx=true∧di k env (λ G4 ao=>di d env (λ G3 bW=>et (uD bW fx G4 G3) λ r=>Q r bW) ao) aa) n
 | .bad,_,_,_=>False
noncomputable def m4:d6→aX→(B D→St→Prop)→St→Prop
 | .nil,_,Q,n=>Q [] n
 | .cons e r,env,Q,n=>di e env (λ v aa=>m4 r env (λ ar ao=>Q (v::ar) ao) aa) n
noncomputable def wz:d6→aX→dC→St→Prop
 | .nil,_,_,_=>False
 | .cons e .nil,env,Q,n=>di e env Q n
 | .cons e (.cons bC r),env,Q,n=>di e env (λ v aa=>et (ic aa v) λ b=>if b=true then wz (.cons bC r) env Q aa else Q v aa) n
noncomputable def xM:d6→aX→dC→St→Prop
 | .nil,_,_,_=>False
 | .cons e .nil,env,Q,n=>di e env Q n
 | .cons e (.cons bC r),env,Q,n=>di e env (λ v aa=>et (ic aa v) λ b=>if b=true then Q v aa else xM (.cons bC r) env Q aa) n
noncomputable def qH:T→aX→(av→St→Prop)→St→Prop
 | .e a,env,Q,n=>di a env (λ v aa=>et (ic aa v) λ b=>Q b aa) n
 | .g4 t,env,Q,n=>qH t env (λ b aa=>Q (!b) aa) n
 | .and bE,env,Q,n=>rM bE env Q n
 | .or bE,env,Q,n=>Bu bE env Q n
 | .cmp op a b,env,Q,n=>di a env (λ db aa=>di b env (λ gG ao=>et (cY op db gG ao) λ r=>Q r ao) aa) n
noncomputable def rM:fb→aX→(av→St→Prop)→St→Prop
 | .nil,_,Q,n=>Q true n
 | .cons t r,env,Q,n=>qH t env (λ b aa=>if b=true then rM r env Q aa else Q false aa) n
noncomputable def Bu:fb→aX→(av→St→Prop)→St→Prop
 | .nil,_,Q,n=>Q false n
 | .cons t r,env,Q,n=>qH t env (λ b aa=>if b=true then Q true aa else Bu r env Q aa) n
end
noncomputable def zQ(dq:St→Prop)(step:D→aX→iU→St→Prop):B D→aX→iU→St→Prop
 | [],env,cb,n=>dq n∧cb env n
 |x::r,env,cb,n=>dq n∧step x env (λ aF J=>zQ dq step r aF cb J) n
noncomputable def BD(lS:aX→(av→St→Prop)→St→Prop)(body:aX→iU→St→Prop):C→aX→iU→St→Prop
 |0,_,_,_=>False
 |z+1,env,cb,n=>lS env (λ b aa=>if b=true then body env (λ aF ao=>BD lS body z aF cb ao) aa else cb env aa) n
mutual
noncomputable def Gy:S→aX→iU→dC→St→Prop
 | .asg x e,env,cb,_,n=>di P V e env (λ v aa=>cb (iO env x v) aa) n
 | .oZ xs e,env,cb,_,n=>di P V e env (λ v aa=>et (dh true xs v env) λ aF=>cb aF aa) n
 | .cc o f e,env,cb,_,n=>di P V e env (λ v aa=>di P V o env (λ fx ao=>et (lg P ao fx f v) λ bW=>cb env bW) aa) n
 | .gI o i e,env,cb,_,n=>di P V e env (λ v aa=>di P V o env (λ fx ao=>di P V i env (λ fL bW=>et (j9 bW fx fL v) λ eO=>cb env eO) ao) aa) n
 | .aug x op e,env,cb,_,n=>et (env[x]?.join) λ a=>di P V e env (λ v aa=>et (kC op a v) λ r=>cb (iO env x r) aa) n
 | .o2 o f op e,env,cb,_,n=>di P V o env (λ fx aa=>et (d7 aa fx f) λ a=>di P V e env (λ v ao=>et (kC op a v) λ r=>et (lg P ao fx f r) λ bW=>cb env bW) aa) n
 | .o3 o i op e,env,cb,_,n=>di P V o env (λ fx aa=>di P V i env (λ fL ao=>et (vv ao fx fL) λ a=>di P V e env (λ v bW=>et (kC op a v) λ r=>et (j9 bW fx fL r) λ eO=>cb env eO) ao) aa) n
 | .ex e,env,cb,_,n=>di P V e env (λ _ aa=>cb env aa) n
 | .ret e,env,_,cF,n=>di P V e env cF n
 | .mC,_,_,cF,n=>cF .nn n
 | .b4 t a b,env,cb,cF,n=>qH P V t env (λ r aa=>if r=true then nr a env cb cF aa else nr b env cb cF aa) n
 | .pK t b,env,cb,cF,n=>BD (qH P V t) (λ aF kl J=>nr b aF kl cF J) 60 env cb n
 | .dc xs many bb b,env,cb,cF,n=>di P V bb env (λ fL aa=>et (hQ aa fL) λ l=>l.length≤100000∧
   zQ (live fL l) (λ x aF kl J=>et (dh many xs x aF) λ dG=>nr b dG kl cF J) l env cb aa) n
 | .bad,_,_,_,_=>False
noncomputable def nr:bk→aX→iU→dC→St→Prop
 | .nil,env,cb,_,n=>cb env n
 | .cons s r,env,cb,cF,n=>Gy s env (λ aF aa=>nr r aF cb cF aa) cF n
end
end
noncomputable def sv(P:iV):C→C→B D→dC→St→Prop
 |0,_,_,_,_=>False
 |z+1,f,b6,Q,n=>et (P.fns f) λ d=>b6.length=d.np∧
   nr P (sv P z) d.body (b6.map some++dw (d.nl-d.np) none) (λ _ J=>Q .nn J) (λ v J=>Q v J) n
theorem ZE:oK (am ⊕ B am) where
 eq_of_beq {a b} h:=by
  cases a<;>cases b
  ·exact an _ (eq_of_beq (α:=am) h)
  ·cases h
  ·cases h
  ·exact an _ (eq_of_beq (α:=B am) h)
 rfl {a}:=by
  cases a
  ·exact lD (α:=am) _
  ·exact lD (α:=B am) _
theorem At:oK gS:=have:=ZE;inferInstance
theorem ag'{α:Type}{a:α}{P:Prop}(h:none=some a):P:=nomatch h
theorem ahg{α:Type}{a:α}{P:Prop}(h:some a=none):P:=nomatch h
theorem KY{P:Prop}(h:false=true):P:=nomatch h
theorem ahj{P:Prop}(h:true=false):P:=nomatch h
theorem ag9{α:Type}{a:α}{l:B α}{P:Prop}(h: []=a::l):P:=nomatch h
theorem agT{α:Type}{a:α}{l:B α}{P:Prop}(h:a::l=[]):P:=nomatch h
theorem k7{α:Type}{a:α}{P:Prop}(h:a∈ []):P:=nomatch h
theorem agU{P:Prop}(h:False):P:=h.elim
end Mine
end
local macro_rules |`(nomatch $x:term)=>`((by first|exact Mine.ag' $x|exact Mine.ahg $x|exact Mine.KY $x|exact Mine.ahj $x|exact Mine.ag9 $x|exact Mine.agT $x|exact Mine.k7 $x|exact Mine.agU $x|(have hh:= $x;cases hh)))
section
open PySem PySem.W PyProof.Rows
namespace Mine
variable{f:aL→av}{ak:bn→Prop}{x:bn}{a b:av}
noncomputable def gi(z m:C)(f:z=m→av):Bool:=match Rj z m with
 | .isTrue h=>f h
 | .isFalse _=>false
theorem gD{z m:C}{f:z=m→av}{M:Prop}(h:gi z m f=true)(k:∀e,f e=true→M):M:=by
 unfold gi at h
 split at h
 ·exact k _ h
 ·cases h
noncomputable def J8:l4→av
 | .none=>true
 |_=>false
@[elab_as_elim] theorem UG{ak:l4→Prop}{x:l4}(h:J8 x=true)(k:ak .none):ak x:=by
 cases x<;>first|exact k|exact ju h
noncomputable def rU(f:l4→av)(x:bn):Bool:=gi x.ctorIdx 19 λ h=>Io (motive_1:=λ _=>av) x h λ c _ _=>f c
@[elab_as_elim] theorem tA{f:l4→av}(h:rU f x=true)(k:∀c z p,f c=true→ak (.Constant c z p)):ak x:=
 gD h λ e q=>Io (motive_1:=λ x=>∀e,Io (motive_1:=λ _=>av) x e (λ c _ _=>f c)=true→ak x) x e (λ c z p _ q=>k c z p q) e q
noncomputable def nv(f:aL→av)(x:bn):Bool:=gi x.ctorIdx 23 λ h=>Cy (motive_1:=λ _=>av) x h λ y _=>f y
@[elab_as_elim] theorem mK(h:nv f x=true)(k:∀y p,f y=true→ak (.Name y p)):ak x:=
 gD h λ e q=>Cy (motive_1:=λ x=>∀e,Cy (motive_1:=λ _=>av) x e (λ y _=>f y)=true→ak x) x e (λ y p _ q=>k y p q) e q
noncomputable def BI(f:bn→yQ→bn→av)(x:bn):Bool:=gi x.ctorIdx 2 λ h=>Ij (motive_1:=λ _=>av) x h λ l o r _=>f l o r
@[elab_as_elim] theorem He{f:bn→yQ→bn→av}(h:BI f x=true)(k:∀l o r p,f l o r=true→ak (.BinOp l o r p)):ak x:=
 gD h λ e q=>Ij (motive_1:=λ x=>∀e,Ij (motive_1:=λ _=>av) x e (λ l o r _=>f l o r)=true→ak x) x e (λ l o r p _ q=>k l o r p q) e q
noncomputable def BM(f:UnaryOp→bn→av)(x:bn):Bool:=gi x.ctorIdx 3 λ h=>Iv (motive_1:=λ _=>av) x h λ o y _=>f o y
@[elab_as_elim] theorem Hj{f:UnaryOp→bn→av}(h:BM f x=true)(k:∀o y p,f o y=true→ak (.UnaryOp o y p)):ak x:=
 gD h λ e q=>Iv (motive_1:=λ x=>∀e,Iv (motive_1:=λ _=>av) x e (λ o y _=>f o y)=true→ak x) x e (λ o y p _ q=>k o y p q) e q
noncomputable def yq(f:Cx→B bn→av)(x:bn):Bool:=gi x.ctorIdx 0 λ h=>Ik (motive_1:=λ _=>av) x h λ o y _=>f o y
@[elab_as_elim] theorem BJ{f:Cx→B bn→av}(h:yq f x=true)(k:∀o y p,f o y=true→ak (.BoolOp o y p)):ak x:=
 gD h λ e q=>Ik (motive_1:=λ x=>∀e,Ik (motive_1:=λ _=>av) x e (λ o y _=>f o y)=true→ak x) x e (λ o y p _ q=>k o y p q) e q
noncomputable def Hf(f:bn→B CmpOp→B bn→av)(x:bn):Bool:=gi x.ctorIdx 15 λ h=>Im (motive_1:=λ _=>av) x h λ l o r _=>f l o r
@[elab_as_elim] theorem P0{f:bn→B CmpOp→B bn→av}(h:Hf f x=true)(k:∀l o r p,f l o r=true→ak (.Compare l o r p)):ak x:=
 gD h λ e q=>Im (motive_1:=λ x=>∀e,Im (motive_1:=λ _=>av) x e (λ l o r _=>f l o r)=true→ak x) x e (λ l o r p _ q=>k l o r p q) e q
noncomputable def P1(f:bn→bn→bn→av)(x:bn):Bool:=gi x.ctorIdx 5 λ h=>Iq (motive_1:=λ _=>av) x h λ l o r _=>f l o r
@[elab_as_elim] theorem af9{f:bn→bn→bn→av}(h:P1 f x=true)(k:∀l o r p,f l o r=true→ak (.IfExp l o r p)):ak x:=
 gD h λ e q=>Iq (motive_1:=λ x=>∀e,Iq (motive_1:=λ _=>av) x e (λ l o r _=>f l o r)=true→ak x) x e (λ l o r p _ q=>k l o r p q) e q
noncomputable def yr(f:B bn→av)(x:bn):Bool:=gi x.ctorIdx 25 λ h=>Cz (motive_1:=λ _=>av) x h λ l _ _=>f l
@[elab_as_elim] theorem Hi{f:B bn→av}(h:yr f x=true)(k:∀l z p,f l=true→ak (.Tuple l z p)):ak x:=
 gD h λ e q=>Cz (motive_1:=λ x=>∀e,Cz (motive_1:=λ _=>av) x e (λ l _ _=>f l)=true→ak x) x e (λ l z p _ q=>k l z p q) e q
noncomputable def P5(f:B bn→av)(x:bn):Bool:=gi x.ctorIdx 24 λ h=>Ir (motive_1:=λ _=>av) x h λ l _=>f l
@[elab_as_elim] theorem af'{f:B bn→av}(h:P5 f x=true)(k:∀l p,f l=true→ak (.List l p)):ak x:=
 gD h λ e q=>Ir (motive_1:=λ x=>∀e,Ir (motive_1:=λ _=>av) x e (λ l _=>f l)=true→ak x) x e (λ l p _ q=>k l p q) e q
noncomputable def BK(f:B (Y bn)→B bn→av)(x:bn):Bool:=gi x.ctorIdx 6 λ h=>Ip (motive_1:=λ _=>av) x h λ l r _=>f l r
@[elab_as_elim] theorem Hg{f:B (Y bn)→B bn→av}(h:BK f x=true)(k:∀l r p,f l r=true→ak (.Dict l r p)):ak x:=
 gD h λ e q=>Ip (motive_1:=λ x=>∀e,Ip (motive_1:=λ _=>av) x e (λ l r _=>f l r)=true→ak x) x e (λ l r p _ q=>k l r p q) e q
noncomputable def rT(f:bn→aL→hb→av)(x:bn):Bool:=gi x.ctorIdx 20 λ h=>Ii (motive_1:=λ _=>av) x h λ y a p=>f y a p
@[elab_as_elim] theorem tz{f:bn→aL→hb→av}(h:rT f x=true)(k:∀y a p,f y a p=true→ak (.Attribute y a p)):ak x:=
 gD h λ e q=>Ii (motive_1:=λ x=>∀e,Ii (motive_1:=λ _=>av) x e (λ y a p=>f y a p)=true→ak x) x e (λ y a p _ q=>k y a p q) e q
noncomputable def rV(f:bn→bn→av)(x:bn):Bool:=gi x.ctorIdx 21 λ h=>Iu (motive_1:=λ _=>av) x h λ y a _=>f y a
@[elab_as_elim] theorem tB{f:bn→bn→av}(h:rV f x=true)(k:∀y a p,f y a=true→ak (.Subscript y a p)):ak x:=
 gD h λ e q=>Iu (motive_1:=λ x=>∀e,Iu (motive_1:=λ _=>av) x e (λ y a _=>f y a)=true→ak x) x e (λ y a p _ q=>k y a p q) e q
noncomputable def BL(f:Y bn→Y bn→Y bn→av)(x:bn):Bool:=gi x.ctorIdx 26 λ h=>It (motive_1:=λ _=>av) x h λ a b c _=>f a b c
@[elab_as_elim] theorem Hh{f:Y bn→Y bn→Y bn→av}(h:BL f x=true)(k:∀a b c p,f a b c=true→ak (.Slice a b c p)):ak x:=
 gD h λ e q=>It (motive_1:=λ x=>∀e,It (motive_1:=λ _=>av) x e (λ a b c _=>f a b c)=true→ak x) x e (λ a b c p _ q=>k a b c p q) e q
noncomputable def mJ(f:bn→B bn→B Keyword→hb→av)(x:bn):Bool:=gi x.ctorIdx 16 λ h=>Il (motive_1:=λ _=>av) x h λ a b c p=>f a b c p
@[elab_as_elim] theorem nu{f:bn→B bn→B Keyword→hb→av}(h:mJ f x=true)(k:∀a b c p,f a b c p=true→ak (.Call a b c p)):ak x:=
 gD h λ e q=>Il (motive_1:=λ x=>∀e,Il (motive_1:=λ _=>av) x e (λ a b c p=>f a b c p)=true→ak x) x e (λ a b c p _ q=>k a b c p q) e q
noncomputable def P2(f:bn→B RE→gb→av)(x:bn):Bool:=gi x.ctorIdx 8 λ h=>Is (motive_1:=λ _=>av) x h λ a b c _=>f a b c
@[elab_as_elim] theorem P4{f:bn→B RE→gb→av}(h:P2 f x=true)(k:∀a b c p,f a b c=true→ak (.ListComp a b c p)):ak x:=
 gD h λ e q=>Is (motive_1:=λ x=>∀e,Is (motive_1:=λ _=>av) x e (λ a b c _=>f a b c)=true→ak x) x e (λ a b c p _ q=>k a b c p q) e q
noncomputable def J4(f:av→av)(x:l4):Bool:=gi x.ctorIdx 1 λ h=>Ie (motive:=λ _=>av) x h λ b=>f b
@[elab_as_elim] theorem UC{ak:l4→Prop}{x:l4}{f:av→av}(h:J4 f x=true)(k:∀b,f b=true→ak (.bool b)):ak x:=
 gD h λ e q=>Ie (motive:=λ x=>∀e,Ie (motive:=λ _=>av) x e (λ b=>f b)=true→ak x) x e (λ b _ q=>k b q) e q
noncomputable def zp(f:am→av)(x:l4):Bool:=gi x.ctorIdx 2 λ h=>If (motive:=λ _=>av) x h λ b=>f b
@[elab_as_elim] theorem Dg{ak:l4→Prop}{x:l4}{f:am→av}(h:zp f x=true)(k:∀b,f b=true→ak (.int b)):ak x:=
 gD h λ e q=>If (motive:=λ x=>∀e,If (motive:=λ _=>av) x e (λ b=>f b)=true→ak x) x e (λ b _ q=>k b q) e q
noncomputable def Dh(f:aL→av)(x:l4):Bool:=gi x.ctorIdx 5 λ h=>Ig (motive:=λ _=>av) x h λ b=>f b
@[elab_as_elim] theorem J9{ak:l4→Prop}{x:l4}(h:Dh f x=true)(k:∀b,f b=true→ak (.str b)):ak x:=
 gD h λ e q=>Ig (motive:=λ x=>∀e,Ig (motive:=λ _=>av) x e (λ b=>f b)=true→ak x) x e (λ b _ q=>k b q) e q
noncomputable def hg{α:Type}:B α→av
 | []=>true
 |_::_=>false
noncomputable def dy{α:Type}(f:α→av):B α→av
 |x::r=>hg r&&f x
 | []=>false
noncomputable def oc{α:Type}(f:α→B α→av):B α→av
 |x::r=>f x r
 | []=>false
noncomputable def ol{α:Type}:Y α→av
 |none=>true
 |some _=>false
noncomputable def cT{α:Type}(f:α→av):Y α→av
 |some x=>f x
 |none=>false
theorem a7(h:(a&&b)=true):a=true:=(dI.mp h).1
theorem aD(h:(a&&b)=true):b=true:=(dI.mp h).2
@[elab_as_elim] theorem gZ{α:Type}{ak:B α→Prop}:∀{l:B α},hg l=true→ak []→ak l
 | [],_,k=>k
@[elab_as_elim] theorem jo{α:Type}{f:α→av}{ak:B α→Prop}:∀{l:B α},dy f l=true→(∀x,f x=true→ak [x])→ak l
 | [x],h,k=>k x h
@[elab_as_elim] theorem jp{α:Type}{f:α→B α→av}{ak:B α→Prop}:∀{l:B α},oc f l=true→(∀x r,f x r=true→ak (x::r))→ak l
 |x::r,h,k=>k x r h
@[elab_as_elim] theorem rz{α:Type}{ak:Y α→Prop}:∀{l:Y α},ol l=true→ak none→ak l
 |none,_,k=>k
@[elab_as_elim] theorem qs{α:Type}{f:α→av}{ak:Y α→Prop}:∀{l:Y α},cT f l=true→(∀x,f x=true→ak (some x))→ak l
 |some x,h,k=>k x h
@[elab_as_elim] theorem jH{α:Type}[jv α]{a b:α}{ak:α→Prop}(h:(a==b)=true)(k:ak b):ak a:=(jj.mp h).symm▸k
noncomputable def vInt(f:am→av)(x:aw):Bool:=gi x.ctorIdx 4 λ h=>IQ (motive:=λ _=>av) x h λ i _=>f i
@[elab_as_elim] theorem afK{ak:aw→Prop}{x:aw}{f:am→av}(h:vInt f x=true)(k:∀i t,f i=true→ak (.int i t)):ak x:=
 gD h λ e q=>IQ (motive:=λ x=>∀e,IQ (motive:=λ _=>av) x e (λ i _=>f i)=true→ak x) x e (λ i t _ q=>k i t q) e q
end Mine
end
section
namespace Mine
noncomputable def UI:B (am×am):=[(0,20),(1,9),(2,10),(3,11),(4,12),(5,13),(6,14),(7,15),(8,16),(9,17),(10,18),(11,19),(12,1),(13,4)]
noncomputable def o7:B (am×am):=[(20,0),(9,1),(10,2),(11,3),(12,4),(13,5),(14,6),(15,7),(16,8),(17,9),(18,10),(19,11),(1,12),(4,13)]
noncomputable def Te:bk:=
 .cons (.cc (.v 0) 0 (.lst .nil)) (.cons (.cc (.v 0) 1 (.eP .t)) (.cons (.cc (.v 0) 2 (.lst .nil)) (.cons (.cc (.v 0) 3 (.lst .nil)) (.cons (.cc (.v 0) 4 (.lst .nil)) (.cons (.dc [1] false (.gP (.gl [80,82,73,77,95,69,78,68] (.ii 16))) (.cons (.asg 2 (.tup (.cons (.gl [82,95,80,82,73,77] (.ii 1)) (.cons (.v 1) .nil)))) (.cons (.ex (.append (.at (.v 0) 0) (.v 2))) (.cons (.gI (.at (.v 0) 1) (.v 2) (.v 1)) (.cons (.ex (.append (.at (.v 0) 2) (.ii 1))) (.cons (.ex (.append (.at (.v 0) 3) (.ii 1))) (.cons (.ex (.append (.at (.v 0) 4) (.ii 0))) .nil))))))) .nil)))))
noncomputable def Tg:bk:=
 .cons (.b4 (.or (.cons (.cmp .lt (.v 1) (.ii 0)) (.cons (.cmp .ge (.v 1) (.len (.at (.v 0) 0))) .nil))) (.cons (.bad) .nil) (.nil)) (.cons (.ret (.aq (.at (.v 0) 0) (.v 1))) .nil)
noncomputable def Tf:bk:=
 .cons (.asg 2 (.m1 (.at (.v 0) 1) (.v 1) (.neg (.ii 1)))) (.cons (.b4 (.cmp .ge (.v 2) (.ii 0)) (.cons (.ret (.v 2)) .nil) (.nil)) (.cons (.ex (.call 17 (.cons (.v 0) (.cons (.v 1) .nil)))) (.cons (.asg 3 (.ii 1)) (.cons (.asg 4 (.ii 1)) (.cons (.asg 5 (.ii 0)) (.cons (.b4 (.or (.cons (.cmp .eq (.aq (.v 1) (.ii 0)) (.gl [82,95,86,65,82] (.ii 6))) (.cons (.cmp .eq (.aq (.v 1) (.ii 0)) (.gl [82,95,77,86,65,82] (.ii 7))) .nil))) (.cons (.asg 5 (.ii 1)) .nil) (.nil)) (.cons (.asg 6 (.call 15 (.cons (.aq (.v 1) (.ii 0)) .nil))) (.cons (.dc [7] false (.call 14 (.cons (.v 1) .nil)) (.cons (.b4 (.cmp .gt (.bin .add (.aq (.at (.v 0) 2) (.v 7)) (.v 6)) (.v 3)) (.cons (.asg 3 (.bin .add (.aq (.at (.v 0) 2) (.v 7)) (.v 6))) .nil) (.nil)) (.cons (.aug 4 .add (.aq (.at (.v 0) 3) (.v 7))) (.cons (.b4 (.cmp .eq (.aq (.at (.v 0) 4) (.v 7)) (.ii 1)) (.cons (.asg 5 (.ii 1)) .nil) (.nil)) .nil)))) (.cons (.b4 (.cmp .gt (.v 3) (.gl [68,69,69,80,69,83,84,95,75,73,78,68] (.ii 24))) (.cons (.bad) .nil) (.nil)) (.cons (.b4 (.cmp .gt (.v 4) (.gl [72,69,65,86,73,69,83,84,95,75,73,78,68] (.ii 4096))) (.cons (.bad) .nil) (.nil)) (.cons (.asg 8 (.len (.at (.v 0) 0))) (.cons (.ex (.append (.at (.v 0) 0) (.v 1))) (.cons (.gI (.at (.v 0) 1) (.v 1) (.v 8)) (.cons (.ex (.append (.at (.v 0) 2) (.v 3))) (.cons (.ex (.append (.at (.v 0) 3) (.v 4))) (.cons (.ex (.append (.at (.v 0) 4) (.v 5))) (.cons (.ret (.v 8)) .nil)))))))))))))))))
noncomputable def Tk:bk:=
 .cons (.cc (.v 0) 5 (.v 1)) (.cons (.cc (.v 0) 6 (.v 2)) (.cons (.cc (.v 0) 7 (.v 3)) (.cons (.cc (.v 0) 8 (.v 4)) (.cons (.cc (.v 0) 9 (.v 5)) (.cons (.cc (.v 0) 10 (.lst .nil)) (.cons (.cc (.v 0) 11 (.lst .nil)) (.cons (.cc (.v 0) 12 (.lst .nil)) (.cons (.cc (.v 0) 13 (.lst .nil)) (.cons (.dc [8] false (.v 6) (.cons (.ex (.append (.at (.v 0) 11) (.v 8))) (.cons (.ex (.append (.at (.v 0) 12) (.gl [86,65,95,78,79,78,69] (.ii 0)))) (.cons (.ex (.append (.at (.v 0) 13) (.tup (.cons (.ii 0) (.cons (.tup .nil) .nil))))) .nil)))) (.cons (.cc (.v 0) 14 (.lst .nil)) (.cons (.cc (.v 0) 15 (.lst .nil)) (.cons (.cc (.v 0) 16 (.v 7)) (.cons (.cc (.v 0) 17 (.ii 0)) (.cons (.cc (.v 0) 18 (.neg (.ii 1))) (.cons (.cc (.v 0) 19 (.lst .nil)) (.cons (.cc (.v 0) 20 (.lst .nil)) (.cons (.cc (.v 0) 21 (.lst .nil)) (.cons (.cc (.v 0) 22 (.ii 0)) (.cons (.cc (.v 0) 23 (.ii 0)) .nil)))))))))))))))))))
noncomputable def Th:bk:=
 .cons (.cc (.v 0) 24 (.v 1)) (.cons (.cc (.v 0) 25 (.v 2)) (.cons (.cc (.v 0) 6 (.v 3)) (.cons (.cc (.v 0) 26 (.v 4)) (.cons (.cc (.v 0) 8 (.v 5)) (.cons (.cc (.v 0) 27 (.ii 0)) (.cons (.cc (.v 0) 28 (.lst .nil)) (.cons (.cc (.v 0) 29 (.lst .nil)) (.cons (.cc (.v 0) 30 (.v 6)) (.cons (.cc (.v 0) 11 (.ja (.v 7))) (.cons (.cc (.v 0) 31 (.call 31 (.cons (.len (.v 7)) .nil))) (.cons (.cc (.v 0) 32 (.qz (.tup (.cons (.ii 0) .nil)) (.len (.v 7)))) (.cons (.cc (.v 0) 33 .nn) (.cons (.cc (.v 0) 34 (.ii 0)) .nil)))))))))))))
noncomputable def Tj:bk:=
 .cons (.cc (.v 0) 35 (.new 0 .nil)) (.cons (.cc (.v 0) 36 (.lst (.cons (.nn) .nil))) (.cons (.cc (.v 0) 37 (.lst (.cons (.nn) .nil))) (.cons (.cc (.v 0) 15 (.lst (.cons (.nn) .nil))) (.cons (.cc (.v 0) 38 (.eP .i)) (.cons (.cc (.v 0) 39 (.lst .nil)) (.cons (.cc (.v 0) 40 (.ii 0)) .nil))))))
noncomputable def Ti:bk:=
 .cons (.cc (.v 0) 41 (.v 1)) (.cons (.cc (.v 0) 42 (.v 2)) (.cons (.cc (.v 0) 43 (.v 3)) (.cons (.cc (.v 0) 44 (.v 4)) (.cons (.cc (.v 0) 45 (.v 5)) (.cons (.cc (.v 0) 46 (.ii 0)) .nil)))))
noncomputable def Td:bk:=
 .cons (.cc (.v 0) 0 (.lst .nil)) .nil
noncomputable def Tl:bk:=
 .cons (.cc (.v 0) 47 (.v 1)) (.cons (.cc (.v 0) 16 (.v 2)) (.cons (.cc (.v 0) 48 (.lst (.cons (.nn) .nil))) (.cons (.cc (.v 0) 49 (.lst (.cons (.nn) .nil))) (.cons (.cc (.v 0) 50 (.eP .i)) (.cons (.cc (.v 0) 51 (.new 5 .nil)) (.cons (.cc (.v 0) 52 (.eP .i)) (.cons (.cc (.v 0) 53 (.eP .i)) (.cons (.cc (.v 0) 54 (.eP .i)) .nil))))))))
noncomputable def Tm:bk:=
 .cons (.cc (.v 0) 55 (.v 1)) (.cons (.cc (.v 0) 47 (.at (.v 1) 47)) (.cons (.cc (.v 0) 35 (.at (.at (.v 1) 47) 35)) (.cons (.cc (.v 0) 56 (.v 2)) (.cons (.cc (.v 0) 16 (.v 3)) (.cons (.cc (.v 0) 57 (.eP .i)) (.cons (.cc (.v 0) 58 (.eP .i)) (.cons (.cc (.v 0) 59 (.lst .nil)) (.cons (.cc (.v 0) 60 (.eP .i)) (.cons (.cc (.v 0) 25 (.ii 0)) (.cons (.cc (.v 0) 24 (.ii 0)) (.cons (.cc (.v 0) 61 (.ii 0)) (.cons (.cc (.v 0) 62 (.ii 0)) .nil))))))))))))
noncomputable def Tc:bk:=
 .cons (.cc (.v 0) 55 (.v 1)) (.cons (.cc (.v 0) 63 (.v 2)) (.cons (.cc (.v 0) 47 (.at (.v 1) 47)) (.cons (.cc (.v 0) 35 (.at (.at (.v 1) 47) 35)) (.cons (.cc (.v 0) 36 (.lst .nil)) (.cons (.cc (.v 0) 64 (.lst .nil)) (.cons (.cc (.v 0) 54 (.eP .i)) (.cons (.cc (.v 0) 65 (.lst .nil)) (.cons (.cc (.v 0) 66 (.lst .nil)) (.cons (.cc (.v 0) 67 (.lst .nil)) (.cons (.cc (.v 0) 68 (.eP .i)) (.cons (.cc (.v 0) 69 (.eP .i)) (.cons (.cc (.v 0) 53 (.ii 0)) .nil))))))))))))
noncomputable def Ta:bk:=
 .cons (.cc (.v 0) 35 (.v 1)) (.cons (.cc (.v 0) 70 (.eP .i)) (.cons (.cc (.v 0) 10 (.eP .i)) (.cons (.cc (.v 0) 71 (.eP .i)) (.cons (.cc (.v 0) 12 (.eP .i)) (.cons (.cc (.v 0) 72 (.eP .i)) (.cons (.cc (.v 0) 13 (.eP .i)) (.cons (.cc (.v 0) 73 (.eP .i)) (.cons (.cc (.v 0) 74 (.eP .i)) .nil))))))))
noncomputable def S':bk:=
 .cons (.ret (.m1 (.at (.v 0) 70) (.v 1) (.neg (.ii 1)))) .nil
noncomputable def Tb:bk:=
 .cons (.ret (.m1 (.at (.v 0) 71) (.call 24 (.cons (.at (.v 0) 35) (.cons (.v 1) .nil))) (.ii 0))) .nil
noncomputable def TJ:bk:=
 .cons (.asg 1 (.aq (.v 0) (.ii 0))) (.cons (.b4 (.or (.cons (.cmp .eq (.v 1) (.gl [82,95,67,76,65,83,83] (.ii 2))) (.cons (.cmp .eq (.v 1) (.gl [82,95,86,65,76,85,69] (.ii 3))) .nil))) (.cons (.ret (.aq (.v 0) (.ii 2))) .nil) (.nil)) (.cons (.b4 (.or (.cons (.cmp .eq (.v 1) (.gl [82,95,65,82,82,65,89] (.ii 4))) (.cons (.cmp .eq (.v 1) (.gl [82,95,66,89,82,69,70] (.ii 5))) (.cons (.cmp .eq (.v 1) (.gl [82,95,66,79,88,69,68] (.ii 8))) (.cons (.cmp .eq (.v 1) (.gl [82,95,82,79,82,69,70] (.ii 9))) (.cons (.cmp .eq (.v 1) (.gl [82,95,82,65,87] (.ii 11))) .nil)))))) (.cons (.ret (.tup (.cons (.aq (.v 0) (.ii 1)) .nil))) .nil) (.nil)) (.cons (.b4 (.cmp .eq (.v 1) (.gl [82,95,70,84,78] (.ii 10))) (.cons (.ret (.bin .add (.tup (.cons (.aq (.v 0) (.ii 1)) .nil)) (.aq (.v 0) (.ii 3)))) .nil) (.nil)) (.cons (.ret (.tup .nil)) .nil))))
noncomputable def T7:bk:=
 .cons (.b4 (.or (.cons (.cmp .eq (.v 0) (.gl [82,95,67,76,65,83,83] (.ii 2))) (.cons (.cmp .eq (.v 0) (.gl [82,95,86,65,76,85,69] (.ii 3))) (.cons (.cmp .eq (.v 0) (.gl [82,95,65,82,82,65,89] (.ii 4))) .nil)))) (.cons (.ret (.ii 1)) .nil) (.nil)) (.cons (.ret (.ii 0)) .nil)
noncomputable def T6:bk:=
 .cons (.b4 (.or (.cons (.cmp .eq (.v 0) (.gl [82,95,67,76,65,83,83] (.ii 2))) (.cons (.cmp .eq (.v 0) (.gl [82,95,86,65,76,85,69] (.ii 3))) .nil))) (.cons (.ret (.ii 3)) .nil) (.nil)) (.cons (.b4 (.cmp .eq (.v 0) (.gl [82,95,70,84,78] (.ii 10))) (.cons (.ret (.ii 4)) .nil) (.nil)) (.cons (.ret (.ii 2)) .nil))
noncomputable def Ts:bk:=
 .cons (.b4 (.or (.cons (.cmp .eq (.len (.v 1)) (.ii 0)) (.cons (.cmp .le (.aq (.v 1) (.ii 0)) (.gl [82,95,80,82,73,77] (.ii 1))) (.cons (.cmp .gt (.aq (.v 1) (.ii 0)) (.gl [82,95,82,65,87] (.ii 11))) .nil)))) (.cons (.bad) .nil) (.nil)) (.cons (.asg 2 (.aq (.v 1) (.ii 0))) (.cons (.b4 (.cmp .ne (.len (.v 1)) (.call 16 (.cons (.v 2) .nil))) (.cons (.bad) .nil) (.nil)) (.cons (.dc [3] false (.call 14 (.cons (.v 1) .nil)) (.cons (.ex (.hi (.v 0) 75 (.cons (.v 3) .nil))) .nil)) (.cons (.b4 (.or (.cons (.cmp .eq (.v 2) (.gl [82,95,67,76,65,83,83] (.ii 2))) (.cons (.cmp .eq (.v 2) (.gl [82,95,86,65,76,85,69] (.ii 3))) .nil))) (.cons (.ex (.call 18 (.cons (.v 0) (.cons (.v 1) .nil)))) .nil) (.cons (.b4 (.or (.cons (.cmp .eq (.v 2) (.gl [82,95,86,65,82] (.ii 6))) (.cons (.cmp .eq (.v 2) (.gl [82,95,77,86,65,82] (.ii 7))) .nil))) (.cons (.b4 (.cmp .lt (.aq (.v 1) (.ii 1)) (.ii 0)) (.cons (.bad) .nil) (.nil)) .nil) (.cons (.b4 (.cmp .eq (.v 2) (.gl [82,95,70,84,78] (.ii 10))) (.cons (.b4 (.or (.cons (.g4 (.e (.call 20 (.cons (.v 0) (.cons (.aq (.v 1) (.ii 1)) .nil))))) (.cons (.cmp .lt (.aq (.v 1) (.ii 2)) (.ii 0)) .nil))) (.cons (.bad) .nil) (.nil)) (.cons (.ex (.call 19 (.cons (.v 0) (.cons (.aq (.v 1) (.ii 3)) .nil)))) .nil)) (.cons (.b4 (.cmp .eq (.v 2) (.gl [82,95,66,79,88,69,68] (.ii 8))) (.cons (.b4 (.g4 (.or (.cons (.e .bad) (.cons (.e .bad) .nil)))) (.cons (.bad) .nil) (.nil)) .nil) (.cons (.b4 (.g4 (.e (.call 20 (.cons (.v 0) (.cons (.aq (.v 1) (.ii 1)) .nil))))) (.cons (.bad) .nil) (.nil)) .nil)) .nil)) .nil)) .nil)) .nil))))
noncomputable def Tt:bk:=
 .cons (.b4 (.or (.cons (.cmp .le (.aq (.v 1) (.ii 1)) (.ii 0)) (.cons (.cmp .pj (.aq (.v 1) (.ii 1)) (.gl [84,73,68,95,80,82,73,77] (.cd o7))) .nil))) (.cons (.bad) .nil) (.nil)) (.cons (.ex (.call 19 (.cons (.v 0) (.cons (.aq (.v 1) (.ii 2)) .nil)))) .nil)
noncomputable def Tr:bk:=
 .cons (.dc [2] false (.v 1) (.cons (.b4 (.g4 (.e (.call 20 (.cons (.v 0) (.cons (.v 2) .nil))))) (.cons (.bad) .nil) (.nil)) .nil)) .nil
noncomputable def TZ:bk:=
 .cons (.b4 (.or (.cons (.cmp .eq (.v 1) (.gl [86,79,73,68] (.ii 0))) (.cons (.cmp .eq (.v 1) (.gl [78,85,76,76,75] (.ii 14))) .nil))) (.cons (.ret (.cj false)) .nil) (.nil)) (.cons (.asg 2 (.aq (.hi (.v 0) 75 (.cons (.v 1) .nil)) (.ii 0))) (.cons (.ret (.or (.cons (.cmp .le (.v 2) (.gl [82,95,65,82,82,65,89] (.ii 4))) (.cons (.cmp .eq (.v 2) (.gl [82,95,86,65,82] (.ii 6))) (.cons (.cmp .eq (.v 2) (.gl [82,95,77,86,65,82] (.ii 7))) .nil))))) .nil))
noncomputable def Tu:bk:=
 .cons (.b4 (.cmp .pj (.v 1) (.gl [84,73,68,95,80,82,73,77] (.cd o7))) (.cons (.ret .bad) .nil) (.nil)) (.cons (.ret (.hi (.v 0) 76 (.cons (.tup (.cons (.gl [82,95,67,76,65,83,83] (.ii 2)) (.cons (.v 1) (.cons (.v 2) .nil)))) .nil))) .nil)
noncomputable def Ua:bk:=
 .cons (.ret (.hi (.v 0) 76 (.cons (.tup (.cons (.gl [82,95,86,65,82] (.ii 6)) (.cons (.v 1) .nil))) .nil))) .nil
noncomputable def TM:bk:=
 .cons (.ret (.aq (.hi (.v 0) 75 (.cons (.v 1) .nil)) (.ii 0))) .nil
noncomputable def T9:bk:=
 .cons (.asg 2 (.hi (.v 0) 75 (.cons (.v 1) .nil))) (.cons (.b4 (.or (.cons (.cmp .eq (.aq (.v 2) (.ii 0)) (.gl [82,95,67,76,65,83,83] (.ii 2))) (.cons (.cmp .eq (.aq (.v 2) (.ii 0)) (.gl [82,95,86,65,76,85,69] (.ii 3))) .nil))) (.cons (.ret (.aq (.v 2) (.ii 1))) .nil) (.nil)) (.cons (.b4 (.cmp .eq (.aq (.v 2) (.ii 0)) (.gl [82,95,80,82,73,77] (.ii 1))) (.cons (.ret (.m1 (.gl [80,82,73,77,95,84,73,68] (.cd UI)) (.v 1) (.ii 0))) .nil) (.nil)) (.cons (.b4 (.cmp .eq (.aq (.v 2) (.ii 0)) (.gl [82,95,65,82,82,65,89] (.ii 4))) (.cons (.ret (.gl [65,82,82,65,89,95,84,73,68] (.ii 5))) .nil) (.nil)) (.cons (.ret (.ii 0)) .nil))))
noncomputable def Tp:bk:=
 .cons (.asg 2 (.hi (.v 0) 75 (.cons (.v 1) .nil))) (.cons (.b4 (.or (.cons (.cmp .eq (.aq (.v 2) (.ii 0)) (.gl [82,95,67,76,65,83,83] (.ii 2))) (.cons (.cmp .eq (.aq (.v 2) (.ii 0)) (.gl [82,95,86,65,76,85,69] (.ii 3))) .nil))) (.cons (.ret (.aq (.v 2) (.ii 2))) .nil) (.nil)) (.cons (.ret (.tup .nil)) .nil))
noncomputable def Tv:bk:=
 .cons (.ex (.hi (.v 0) 75 (.cons (.v 1) .nil))) (.cons (.b4 (.cmp .eq (.aq (.at (.v 0) 4) (.v 1)) (.ii 0)) (.cons (.ret (.v 1)) .nil) (.nil)) (.cons (.ret (.call 27 (.cons (.v 0) (.cons (.v 1) (.cons (.v 2) (.cons (.v 3) (.cons (.eP .i) .nil))))))) .nil))
noncomputable def Tx:bk:=
 .cons (.b4 (.cmp .eq (.aq (.at (.v 0) 4) (.v 1)) (.ii 0)) (.cons (.ret (.v 1)) .nil) (.nil)) (.cons (.b4 (.cmp .pj (.v 1) (.v 4)) (.cons (.ret (.aq (.v 4) (.v 1))) .nil) (.nil)) (.cons (.asg 5 (.aq (.at (.v 0) 0) (.v 1))) (.cons (.b4 (.cmp .eq (.aq (.v 5) (.ii 0)) (.gl [82,95,86,65,82] (.ii 6))) (.cons (.ret (.call 29 (.cons (.v 2) (.cons (.aq (.v 5) (.ii 1)) (.cons (.v 1) .nil))))) .nil) (.nil)) (.cons (.b4 (.cmp .eq (.aq (.v 5) (.ii 0)) (.gl [82,95,77,86,65,82] (.ii 7))) (.cons (.ret (.call 29 (.cons (.v 3) (.cons (.aq (.v 5) (.ii 1)) (.cons (.v 1) .nil))))) .nil) (.nil)) (.cons (.asg 6 (.lst .nil)) (.cons (.dc [7] false (.call 14 (.cons (.v 5) .nil)) (.cons (.ex (.append (.v 6) (.call 27 (.cons (.v 0) (.cons (.v 7) (.cons (.v 2) (.cons (.v 3) (.cons (.v 4) .nil)))))))) .nil)) (.cons (.gI (.v 4) (.v 1) (.call 28 (.cons (.v 0) (.cons (.v 5) (.cons (.ja (.v 6)) .nil))))) (.cons (.ret (.aq (.v 4) (.v 1))) .nil))))))))
noncomputable def Ub:bk:=
 .cons (.asg 3 (.aq (.v 1) (.ii 0))) (.cons (.b4 (.or (.cons (.cmp .eq (.v 3) (.gl [82,95,67,76,65,83,83] (.ii 2))) (.cons (.cmp .eq (.v 3) (.gl [82,95,86,65,76,85,69] (.ii 3))) .nil))) (.cons (.ret (.hi (.v 0) 76 (.cons (.tup (.cons (.v 3) (.cons (.aq (.v 1) (.ii 1)) (.cons (.v 2) .nil)))) .nil))) .nil) (.nil)) (.cons (.b4 (.cmp .eq (.v 3) (.gl [82,95,70,84,78] (.ii 10))) (.cons (.ret (.hi (.v 0) 76 (.cons (.tup (.cons (.v 3) (.cons (.aq (.v 2) (.ii 0)) (.cons (.aq (.v 1) (.ii 2)) (.cons (.lh (.v 2) (.ii 1)) .nil))))) .nil))) .nil) (.nil)) (.cons (.b4 (.cmp .eq (.v 3) (.gl [82,95,66,79,88,69,68] (.ii 8))) (.cons (.ret .bad) .nil) (.nil)) (.cons (.ret (.hi (.v 0) 76 (.cons (.tup (.cons (.v 3) (.cons (.aq (.v 2) (.ii 0)) .nil))) .nil))) .nil))))
noncomputable def T3:bk:=
 .cons (.b4 (.cmp .lt (.v 1) (.len (.v 0))) (.cons (.ret (.aq (.v 0) (.v 1))) .nil) (.nil)) (.cons (.ret (.v 2)) .nil)
noncomputable def Tw:bk:=
 .cons (.asg 4 (.lst .nil)) (.cons (.dc [5] false (.v 1) (.cons (.ex (.append (.v 4) (.call 26 (.cons (.v 0) (.cons (.v 5) (.cons (.v 2) (.cons (.v 3) .nil))))))) .nil)) (.cons (.ret (.ja (.v 4))) .nil))
noncomputable def T4:bk:=
 .cons (.asg 1 (.lst .nil)) (.cons (.dc [2] false (.gP (.v 0)) (.cons (.ex (.append (.v 1) (.bin .add (.ss [112]) (.strOf (.v 2))))) .nil)) (.cons (.ret (.ja (.v 1))) .nil))
noncomputable def TL:bk:=
 .cons (.b4 (.and (.cons (.cmp .ne (.bin .band (.v 0) (.bin .add (.gl [77,70,95,67,84,79,82] (.ii 32)) (.gl [77,70,95,67,67,84,79,82] (.ii 64)))) (.ii 0)) (.cons (.cmp .ne (.bin .band (.v 0) (.gl [77,70,95,83,80,69,67,73,65,76] (.ii 128))) (.ii 0)) .nil))) (.cons (.ret (.bin .sub (.v 0) (.gl [77,70,95,83,80,69,67,73,65,76] (.ii 128)))) .nil) (.nil)) (.cons (.ret (.v 0)) .nil)
noncomputable def To:bk:=
 .cons (.asg 7 (.aq (.at (.v 0) 36) (.v 1))) (.cons (.asg 8 (.len (.at (.v 0) 15))) (.cons (.ex (.append (.at (.v 0) 15) (.new 2 (.cons (.v 8) (.cons (.v 1) (.cons (.v 2) (.cons (.v 3) (.cons (.call 32 (.cons (.v 4) .nil)) (.cons (.v 5) (.cons (.v 6) .nil)))))))))) (.cons (.ex (.append (.at (.v 7) 15) (.v 8))) (.cons (.ex (.call 34 (.cons (.v 0) (.cons (.v 8) .nil)))) (.cons (.ret (.v 8)) .nil)))))
noncomputable def T2:bk:=
 .cons (.asg 2 (.aq (.at (.v 0) 15) (.v 1))) (.cons (.asg 3 (.aq (.at (.v 0) 36) (.at (.v 2) 25))) (.cons (.b4 (.cmp .ne (.bin .band (.at (.v 2) 8) (.gl [77,70,95,67,67,84,79,82] (.ii 64))) (.ii 0)) (.cons (.cc (.v 3) 17 (.v 1)) .nil) (.nil)) (.cons (.b4 (.and (.cons (.cmp .eq (.at (.v 2) 6) (.ss [70,105,110,97,108,105,122,101])) (.cons (.e .bad) (.cons (.cmp .eq (.len (.at (.v 2) 11)) (.ii 0)) (.cons (.cmp .eq (.at (.v 2) 30) (.gl [86,79,73,68] (.ii 0))) .nil))))) (.cons (.b4 (.or (.cons (.cmp .eq (.at (.v 2) 25) (.gl [84,95,79,66,74,69,67,84] (.ii 1))) (.cons (.cmp .eq (.bin .band (.at (.v 2) 8) (.gl [77,70,95,78,69,87,83,76,79,84] (.ii 4))) (.ii 0)) .nil))) (.cons (.cc (.v 3) 22 (.v 1)) .nil) (.nil)) .nil) (.nil)) .nil)))
noncomputable def T5:bk:=
 .cons (.b4 (.cmp .mx (.v 1) (.v 0)) (.cons (.ex (.append (.v 0) (.v 1))) .nil) (.nil)) .nil
noncomputable def Tn:bk:=
 .cons (.ex (.call 35 (.cons (.at (.aq (.at (.v 0) 36) (.v 1)) 19) (.cons (.tup (.cons (.v 2) (.cons (.v 3) (.cons (.v 4) .nil)))) .nil)))) .nil
noncomputable def T8:bk:=
 .cons (.b4 (.cmp .pj (.v 1) (.gl [84,73,68,95,80,82,73,77] (.cd o7))) (.cons (.ret (.aq (.gl [84,73,68,95,80,82,73,77] (.cd o7)) (.v 1))) .nil) (.nil)) (.cons (.asg 2 (.aq (.at (.v 0) 36) (.v 1))) (.cons (.asg 3 (.lst .nil)) (.cons (.dc [4] false (.gP (.len (.at (.v 2) 11))) (.cons (.ex (.append (.v 3) (.call 22 (.cons (.at (.v 0) 35) (.cons (.v 4) .nil))))) .nil)) (.cons (.ret (.call 38 (.cons (.v 0) (.cons (.v 1) (.cons (.ja (.v 3)) .nil))))) .nil))))
noncomputable def TN:bk:=
 .cons (.asg 3 (.at (.aq (.at (.v 0) 36) (.v 1)) 7)) (.cons (.b4 (.or (.cons (.cmp .eq (.v 3) (.gl [83,95,83,84,82,85,67,84] (.ii 2))) (.cons (.cmp .eq (.v 3) (.gl [83,95,69,78,85,77] (.ii 5))) .nil))) (.cons (.ret .bad) .nil) (.nil)) (.cons (.ret (.call 21 (.cons (.at (.v 0) 35) (.cons (.v 1) (.cons (.v 2) .nil))))) .nil))
noncomputable def T':bk:=
 .cons (.asg 2 (.call 24 (.cons (.at (.v 0) 35) (.cons (.v 1) .nil)))) (.cons (.b4 (.or (.cons (.cmp .le (.v 2) (.ii 0)) (.cons (.cmp .ge (.v 2) (.len (.at (.v 0) 36))) .nil))) (.cons (.ret .nn) .nil) (.nil)) (.cons (.ret (.aq (.at (.v 0) 36) (.v 2))) .nil))
noncomputable def TH:bk:=
 .cons (.asg 3 (.lst .nil)) (.cons (.dc [4] false (.at (.aq (.at (.v 0) 36) (.v 1)) 15) (.cons (.b4 (.cmp .eq (.at (.aq (.at (.v 0) 15) (.v 4)) 6) (.v 2)) (.cons (.ex (.append (.v 3) (.v 4))) .nil) (.nil)) .nil)) (.cons (.ret (.v 3)) .nil))
noncomputable def T0:bk:=
 .cons (.b4 (.cmp .eq (.aq (.v 1) (.ii 1)) (.ii 0)) (.cons (.ret (.tup (.cons (.gl [86,79,73,68] (.ii 0)) (.cons (.tup .nil) .nil)))) .nil) (.nil)) (.cons (.asg 2 (.aq (.at (.v 0) 15) (.aq (.v 1) (.ii 1)))) (.cons (.b4 (.cmp .is (.v 2) (.nn)) (.cons (.bad) .nil) (.nil)) (.cons (.asg 3 (.call 25 (.cons (.at (.v 0) 35) (.cons (.aq (.v 1) (.ii 0)) .nil)))) (.cons (.ret (.tup (.cons (.call 26 (.cons (.at (.v 0) 35) (.cons (.at (.v 2) 30) (.cons (.v 3) (.cons (.aq (.v 1) (.ii 2)) .nil))))) (.cons (.call 30 (.cons (.at (.v 0) 35) (.cons (.at (.v 2) 11) (.cons (.v 3) (.cons (.aq (.v 1) (.ii 2)) .nil))))) .nil)))) .nil))))
noncomputable def TK:bk:=
 .cons (.ret (.and (.cons (.cmp .eq (.call 23 (.cons (.at (.v 0) 35) (.cons (.v 1) .nil))) (.gl [82,95,67,76,65,83,83] (.ii 2))) (.cons (.cmp .eq (.hi (.v 0) 7 (.cons (.v 1) .nil)) (.gl [83,95,73,70,65,67,69] (.ii 3))) .nil)))) .nil
noncomputable def Tq:bk:=
 .cons (.asg 2 (.lst .nil)) (.cons (.asg 3 (.eP .i)) (.cons (.pK (.and (.cons (.cmp .ne (.v 1) (.neg (.ii 1))) (.cons (.cmp .mx (.v 1) (.v 3)) .nil))) (.cons (.gI (.v 3) (.v 1) (.ii 1)) (.cons (.ex (.append (.v 2) (.v 1))) (.cons (.asg 1 (.hi (.v 0) 9 (.cons (.v 1) .nil))) .nil)))) (.cons (.ret (.v 2)) .nil)))
noncomputable def TD:bk:=
 .cons (.asg 1 (.lst .nil)) (.cons (.dc [2] false (.gP (.len (.at (.v 0) 65))) (.cons (.asg 3 (.call 37 (.cons (.at (.v 0) 47) (.cons (.aq (.aq (.at (.v 0) 65) (.v 2)) (.ii 0)) .nil)))) (.cons (.ex (.append (.v 1) (.tup (.cons (.len (.call 43 (.cons (.at (.at (.v 0) 63) 56) (.cons (.v 3) .nil)))) (.cons (.v 2) .nil))))) .nil))) (.cons (.dc [4,2] true (.sorted (.v 1)) (.cons (.oZ [5,6,7] (.aq (.at (.v 0) 65) (.v 2))) (.cons (.ex (.call 45 (.cons (.v 0) (.cons (.v 5) (.cons (.v 6) (.cons (.v 7) .nil)))))) .nil))) .nil))
noncomputable def TB:bk:=
 .cons (.asg 4 (.call 48 (.cons (.v 0) (.cons (.v 1) (.cons (.v 2) .nil))))) (.cons (.b4 (.cmp .is (.v 4) (.nn)) (.cons (.ex .bad) (.cons (.mC) .nil)) (.nil)) (.cons (.asg 5 (.aq (.at (.at (.v 0) 47) 15) (.v 2))) (.cons (.asg 6 (.aq (.at (.at (.v 0) 47) 15) (.aq (.v 4) (.ii 1)))) (.cons (.asg 7 (.call 47 (.cons (.v 0) (.cons (.v 5) (.cons (.v 6) (.cons (.v 4) .nil)))))) (.cons (.b4 (.e (.v 7)) (.cons (.ex .bad) .nil) (.nil)) (.cons (.b4 (.cmp .eq (.v 7) (.ii 0)) (.cons (.ex (.call 46 (.cons (.v 0) (.cons (.v 1) (.cons (.v 2) (.cons (.v 4) (.cons (.v 3) .nil))))))) .nil) (.nil)) (.cons (.cc (.v 5) 29 (.lst .nil)) (.cons (.dc [8,9] true (.at (.v 6) 29) (.cons (.ex (.append (.at (.v 5) 29) (.tup (.cons (.v 8) (.cons (.call 30 (.cons (.at (.v 0) 35) (.cons (.v 9) (.cons (.call 25 (.cons (.at (.v 0) 35) (.cons (.aq (.v 4) (.ii 0)) .nil))) (.cons (.tup .nil) .nil))))) .nil))))) .nil)) .nil))))))))
noncomputable def TG:bk:=
 .cons (.asg 5 (.lst .nil)) (.cons (.b4 (.e (.aq (.v 3) (.ii 3))) (.cons (.ex (.append (.v 5) (.tup (.cons (.aq (.v 3) (.ii 0)) (.cons (.aq (.v 3) (.ii 1)) .nil))))) .nil) (.nil)) (.cons (.dc [6,7,8] true (.at (.call 39 (.cons (.at (.v 0) 47) (.cons (.aq (.v 3) (.ii 0)) .nil))) 19) (.cons (.b4 (.and (.cons (.cmp .eq (.v 6) (.aq (.v 3) (.ii 1))) (.cons (.g4 (.e (.call 42 (.cons (.at (.at (.v 0) 63) 56) (.cons (.v 7) .nil))))) .nil))) (.cons (.ex (.append (.v 5) (.tup (.cons (.call 26 (.cons (.at (.v 0) 35) (.cons (.v 7) (.cons (.call 25 (.cons (.at (.v 0) 35) (.cons (.aq (.v 3) (.ii 0)) .nil))) (.cons (.tup .nil) .nil))))) (.cons (.v 8) .nil))))) .nil) (.nil)) .nil)) (.cons (.asg 9 (.aq (.at (.at (.v 0) 47) 15) (.v 2))) (.cons (.b4 (.and (.cons (.e (.v 5)) (.cons (.e (.bin .band (.at (.v 9) 8) (.gl [77,70,95,65,66,83,84,82,65,67,84] (.ii 8)))) .nil))) (.cons (.bad) .nil) (.nil)) (.cons (.b4 (.e (.aq (.v 3) (.ii 3))) (.cons (.o2 (.v 9) 8 .bor (.gl [77,70,95,78,69,87,83,76,79,84] (.ii 4))) .nil) (.nil)) (.cons (.dc [7,8] true (.v 5) (.cons (.ex (.call 36 (.cons (.at (.v 0) 47) (.cons (.v 1) (.cons (.v 2) (.cons (.v 7) (.cons (.v 8) .nil))))))) .nil)) .nil))))))
noncomputable def TC:bk:=
 .cons (.b4 (.and (.cons (.cmp .eq (.at (.v 1) 6) (.ss [70,105,110,97,108,105,122,101])) (.cons (.g4 (.e (.at (.v 1) 11))) (.cons (.g4 (.e (.at (.v 1) 27))) .nil)))) (.cons (.ret (.ii 249)) .nil) (.nil)) (.cons (.b4 (.cmp .gt (.aq (.v 3) (.ii 2)) (.ii 1)) (.cons (.ret (.ii 462)) .nil) (.nil)) (.cons (.b4 (.or (.cons (.g4 (.e (.bin .band (.at (.v 2) 8) (.gl [77,70,95,86,73,82,84,85,65,76] (.ii 2))))) (.cons (.e (.bin .band (.at (.v 2) 8) (.gl [77,70,95,83,84,65,84,73,67] (.ii 1)))) .nil))) (.cons (.ret (.ii 506)) .nil) (.nil)) (.cons (.b4 (.e (.bin .band (.at (.v 2) 8) (.gl [77,70,95,70,73,78,65,76] (.ii 16)))) (.cons (.ret (.ii 239)) .nil) (.nil)) (.cons (.b4 (.cmp .ne (.aq (.call 41 (.cons (.at (.v 0) 47) (.cons (.tup (.cons (.aq (.v 3) (.ii 0)) (.cons (.aq (.v 3) (.ii 1)) (.cons (.tup .nil) .nil)))) .nil))) (.ii 0)) (.at (.v 1) 30)) (.cons (.ret (.ii 508)) .nil) (.nil)) (.cons (.asg 4 (.at (.v 2) 26)) (.cons (.b4 (.and (.cons (.cmp .eq (.v 4) (.gl [65,95,70,65,77,79,82,65,83,77] (.ii 5))) (.cons (.e .bad) .nil))) (.cons (.asg 4 (.gl [65,95,70,65,77,73,76,89] (.ii 4))) .nil) (.nil)) (.cons (.ret (.ite (.cmp .ne (.v 4) (.at (.v 1) 26)) (.ii 507) (.ii 0))) .nil)))))))
noncomputable def Tz:bk:=
 .cons (.asg 3 (.aq (.at (.at (.v 0) 47) 15) (.v 2))) (.cons (.asg 4 (.cj false)) (.cons (.dc [5] false (.lh (.call 43 (.cons (.at (.at (.v 0) 63) 56) (.cons (.call 37 (.cons (.at (.v 0) 47) (.cons (.v 1) .nil))) .nil))) (.ii 1)) (.cons (.asg 6 (.comp (.aq (.at (.at (.v 0) 47) 15) (.v 8)) [8] false (.call 51 (.cons (.v 0) (.cons (.v 5) (.cons (.at (.v 3) 6) (.cons (.at (.v 3) 27) (.cons (.at (.v 3) 11) .nil)))))) (.cons (.cmp .ne (.at (.aq (.at (.at (.v 0) 47) 15) (.v 8)) 26) (.gl [65,95,80,82,73,86,65,84,69] (.ii 1))) .nil))) (.cons (.asg 7 (.comp (.at (.v 9) 24) [9] false (.v 6) (.cons (.and (.cons (.e (.call 49 (.cons (.v 0) (.cons (.v 3) (.cons (.v 9) .nil))))) (.cons (.g4 (.e (.bin .band (.bin .bxor (.at (.v 9) 8) (.at (.v 3) 8)) (.gl [77,70,95,83,80,69,67,73,65,76] (.ii 128))))) (.cons (.e (.call 50 (.cons (.v 3) (.cons (.v 9) .nil)))) .nil)))) .nil))) (.cons (.b4 (.e (.v 7)) (.cons (.ret (.tup (.cons (.v 5) (.cons (.aq (.v 7) (.ii 0)) (.cons (.len (.v 7)) (.cons (.or (.cons (.v 4) (.cons (.cmp .gt (.len (.v 6)) (.len (.v 7))) .nil))) .nil)))))) .nil) (.nil)) (.cons (.asg 4 (.or (.cons (.v 4) (.cons (.cmp .gt (.len (.v 6)) (.ii 0)) .nil)))) .nil))))) (.cons (.ret .nn) .nil)))
noncomputable def TA:bk:=
 .cons (.b4 (.cmp .eq (.at (.v 2) 26) (.gl [65,95,80,82,73,86,65,84,69] (.ii 1))) (.cons (.ret (.cj false)) .nil) (.nil)) (.cons (.ret (.or (.cons (.cmp .mx (.at (.v 2) 26) (.tup (.cons (.gl [65,95,65,83,83,69,77,66,76,89] (.ii 3)) (.cons (.gl [65,95,70,65,77,65,78,68,65,83,77] (.ii 2)) .nil)))) (.cons (.bad) .nil)))) .nil)
noncomputable def TE:bk:=
 .cons (.ret (.cmp .eq (.comp (.bin .band (.v 2) (.gl [80,70,95,79,85,84] (.ii 1))) [2] false (.at (.v 0) 32) (.nil)) (.comp (.bin .band (.v 3) (.gl [80,70,95,79,85,84] (.ii 1))) [3] false (.at (.v 1) 32) (.nil)))) .nil
noncomputable def TF:bk:=
 .cons (.asg 5 (.lst .nil)) (.cons (.b4 (.e (.call 24 (.cons (.at (.v 0) 35) (.cons (.v 1) .nil)))) (.cons (.dc [6] false (.call 40 (.cons (.at (.v 0) 47) (.cons (.call 24 (.cons (.at (.v 0) 35) (.cons (.v 1) .nil))) (.cons (.v 2) .nil)))) (.cons (.b4 (.and (.cons (.cmp .eq (.at (.aq (.at (.at (.v 0) 47) 15) (.v 6)) 27) (.v 3)) (.cons (.cmp .eq (.aq (.call 41 (.cons (.at (.v 0) 47) (.cons (.tup (.cons (.v 1) (.cons (.v 6) (.cons (.tup .nil) .nil)))) .nil))) (.ii 1)) (.v 4)) .nil))) (.cons (.ex (.append (.v 5) (.v 6))) .nil) (.nil)) .nil)) .nil) (.nil)) (.cons (.ret (.v 5)) .nil))
noncomputable def TW:bk:=
 .cons (.asg 2 (.aq (.v 0) (.ss [97,116]))) (.cons (.gI (.v 0) (.ss [97,116]) (.bin .add (.v 2) (.ii 1))) (.cons (.asg 3 (.tup (.cons (.ii 0) (.cons (.ii 1) (.cons (.ii 1) (.cons (.ii 0) (.cons (.ii 0) (.cons (.ii 1) (.cons (.ii 3) (.cons (.ii 0) (.cons (.ii 0) (.cons (.ii 2) (.cons (.ii 0) (.cons (.ii 1) (.cons (.ii 0) (.cons (.ii 0) (.cons (.ii 1) (.cons (.ii 1) (.cons (.ii 0) (.cons (.ii 0) (.cons (.ii 0) (.cons (.ii 0) (.cons (.ii 2) (.cons (.ii 0) (.cons (.ii 0) .nil))))))))))))))))))))))))) (.cons (.b4 (.cmp .lt (.v 2) (.len (.aq (.v 0) (.ss [105,110])))) (.cons (.ret (.bin .mod (.aq (.aq (.v 0) (.ss [105,110])) (.v 2)) (.v 1))) .nil) (.nil)) (.cons (.ret (.ite (.cmp .lt (.v 2) (.len (.v 3))) (.bin .mod (.aq (.v 3) (.v 2)) (.v 1)) (.bin .mod (.bin .add (.bin .mul (.ii 5) (.v 2)) (.ii 3)) (.v 1)))) .nil))))
noncomputable def TU:bk:=
 .cons (.b4 (.cmp .eq (.aq (.v 0) (.ii 0)) (.ss [118])) (.cons (.ret (.aq (.v 1) (.aq (.v 0) (.ii 1)))) .nil) (.nil)) (.cons (.b4 (.cmp .eq (.aq (.v 0) (.ii 0)) (.ss [97])) (.cons (.ret (.tup (.cons (.ss [97]) (.cons (.call 53 (.cons (.aq (.v 0) (.ii 1)) (.cons (.v 1) .nil))) .nil)))) .nil) (.nil)) (.cons (.b4 (.cmp .eq (.aq (.v 0) (.ii 0)) (.ss [103])) (.cons (.ret (.tup (.cons (.ss [103]) (.cons (.aq (.v 0) (.ii 1)) (.cons (.ja (.comp (.call 53 (.cons (.v 2) (.cons (.v 1) .nil))) [2] false (.aq (.v 0) (.ii 2)) (.nil))) .nil))))) .nil) (.nil)) (.cons (.ret (.v 0)) .nil)))
noncomputable def TO:bk:=
 .cons (.asg 2 (.at (.aq (.v 0) (.ss [115,116,111,114,101])) 35)) (.cons (.b4 (.cmp .eq (.aq (.v 1) (.ii 0)) (.ss [118])) (.cons (.ret (.hi (.v 2) 76 (.cons (.tup (.cons (.gl [82,95,86,65,82] (.ii 6)) (.cons (.aq (.v 1) (.ii 1)) .nil))) .nil))) .nil) (.nil)) (.cons (.b4 (.cmp .eq (.aq (.v 1) (.ii 0)) (.ss [97])) (.cons (.ret (.hi (.v 2) 76 (.cons (.tup (.cons (.gl [82,95,65,82,82,65,89] (.ii 4)) (.cons (.call 54 (.cons (.v 0) (.cons (.aq (.v 1) (.ii 1)) .nil))) .nil))) .nil))) .nil) (.nil)) (.cons (.b4 (.cmp .eq (.aq (.v 1) (.ii 0)) (.ss [103])) (.cons (.ret (.hi (.v 2) 76 (.cons (.tup (.cons (.gl [82,95,67,76,65,83,83] (.ii 2)) (.cons (.aq (.v 1) (.ii 1)) (.cons (.ja (.comp (.call 54 (.cons (.v 0) (.cons (.v 3) .nil))) [3] false (.aq (.v 1) (.ii 2)) (.nil))) .nil)))) .nil))) .nil) (.nil)) (.cons (.ret (.aq (.v 1) (.ii 1))) .nil))))
noncomputable def TX:bk:=
 .cons (.asg 2 (.call 52 (.cons (.v 0) (.cons (.ii 6) .nil)))) (.cons (.asg 3 (.tup (.cons (.ss [107]) (.cons (.aq (.tup (.cons (.gl [73,52] (.ii 7)) (.cons (.gl [83,84,82,73,78,71] (.ii 13)) (.cons (.gl [79,66,74,69,67,84] (.ii 12)) .nil)))) (.bin .mod (.v 2) (.ii 3))) .nil)))) (.cons (.b4 (.and (.cons (.cmp .gt (.v 1) (.ii 0)) (.cons (.cmp .lt (.v 2) (.ii 4)) .nil))) (.cons (.asg 3 (.tup (.cons (.ss [118]) (.cons (.bin .mod (.v 2) (.v 1)) .nil)))) .nil) (.nil)) (.cons (.b4 (.cmp .eq (.v 2) (.ii 3)) (.cons (.ret (.tup (.cons (.ss [97]) (.cons (.v 3) .nil)))) .nil) (.nil)) (.cons (.ret (.ite (.cmp .eq (.v 2) (.ii 2)) (.tup (.cons (.ss [103]) (.cons (.ii 70) (.cons (.tup (.cons (.v 3) .nil)) .nil)))) (.v 3))) .nil))))
noncomputable def TR:bk:=
 .cons (.ret (.ja (.comp (.tup (.cons (.ss [118]) (.cons (.v 2) .nil))) [2] false (.gP (.aq (.aq (.v 0) (.ss [109,97,110,121])) (.v 1))) (.nil)))) .nil
noncomputable def TP:bk:=
 .cons (.asg 2 (.call 56 (.cons (.v 0) (.cons (.v 1) .nil)))) (.cons (.asg 3 (.lst (.cons (.tup (.cons (.v 1) (.cons (.v 2) .nil))) .nil))) (.cons (.pK (.cmp .gt (.v 1) (.ii 0)) (.cons (.asg 2 (.ja (.comp (.call 53 (.cons (.v 4) (.cons (.v 2) .nil))) [4] false (.aq (.aq (.v 0) (.ss [117,112])) (.v 1)) (.nil)))) (.cons (.aug 1 .sub (.ii 1)) (.cons (.ex (.append (.v 3) (.tup (.cons (.v 1) (.cons (.v 2) .nil))))) .nil)))) (.cons (.ret (.v 3)) .nil)))
noncomputable def TY:bk:=
 .cons (.asg 1 (.aq (.v 0) (.ss [115,116,111,114,101]))) (.cons (.gI (.v 0) (.ss [109,97,110,121]) (.lst (.cons (.bin .add (.ii 1) (.call 52 (.cons (.v 0) (.cons (.ii 2) .nil)))) .nil))) (.cons (.dc [2] false (.tup (.cons (.ii 1) (.cons (.ii 2) (.cons (.ii 3) .nil)))) (.cons (.ex (.append (.aq (.v 0) (.ss [109,97,110,121])) (.call 52 (.cons (.v 0) (.cons (.ii 3) .nil))))) .nil)) (.cons (.gI (.v 0) (.ss [117,112]) (.lst (.cons (.tup .nil) .nil))) (.cons (.dc [2] false (.tup (.cons (.ii 1) (.cons (.ii 2) (.cons (.ii 3) .nil)))) (.cons (.ex (.append (.aq (.v 0) (.ss [117,112])) (.ja (.comp (.call 55 (.cons (.v 0) (.cons (.aq (.aq (.v 0) (.ss [109,97,110,121])) (.v 2)) .nil))) [5] false (.gP (.aq (.aq (.v 0) (.ss [109,97,110,121])) (.bin .sub (.v 2) (.ii 1)))) (.nil))))) .nil)) (.cons (.cc (.v 1) 36 (.pD (.lst (.cons (.nn) .nil)) (.ii 66))) (.cons (.dc [2] false (.gP (.ii 4)) (.cons (.ex (.append (.at (.v 1) 36) (.new 1 (.cons (.bin .add (.ii 66) (.v 2)) (.cons (.aq (.ss [65,66,67,68]) (.v 2)) (.cons (.ii 1) (.cons (.ii 0) (.cons (.neg (.ii 1)) (.cons (.mE (.ss [84,85]) (.aq (.aq (.v 0) (.ss [109,97,110,121])) (.v 2))) (.cons (.ii 1) .nil)))))))))) .nil)) (.cons (.ex (.append (.at (.v 1) 36) (.new 1 (.cons (.ii 70) (.cons (.ss [71]) (.cons (.ii 1) (.cons (.ii 0) (.cons (.neg (.ii 1)) (.cons (.ss [84]) (.cons (.ii 1) .nil)))))))))) (.cons (.dc [2] false (.gP (.ii 4)) (.cons (.asg 3 (.comp (.call 54 (.cons (.v 0) (.cons (.tup (.cons (.ss [103]) (.cons (.bin .add (.ii 66) (.v 6)) (.cons (.v 7) .nil)))) .nil))) [6,7] true (.call 57 (.cons (.v 0) (.cons (.v 2) .nil))) (.nil))) (.cons (.dc [4] false (.pE (.ii 1) (.len (.v 3))) (.cons (.gI (.at (.aq (.v 0) (.ss [104,111,115,116])) 70) (.aq (.v 3) (.bin .sub (.v 4) (.ii 1))) (.aq (.v 3) (.v 4))) .nil)) .nil))) .nil))))))))
noncomputable def TS:bk:=
 .cons (.asg 5 (.call 57 (.cons (.v 0) (.cons (.v 1) .nil)))) (.cons (.asg 6 (.call 53 (.cons (.aq (.aq (.v 0) (.ss [103,105,118,101,110])) (.v 2)) (.cons (.aq (.aq (.v 5) (.neg (.ii 1))) (.ii 1)) .nil)))) (.cons (.asg 7 (.bin .add (.ite (.e (.v 4)) (.ii 2) (.ii 6)) (.bin .mul (.ii 128) (.v 3)))) (.cons (.asg 8 (.call 33 (.cons (.aq (.v 0) (.ss [115,116,111,114,101])) (.cons (.bin .add (.ii 66) (.v 1)) (.cons (.v 2) (.cons (.ii 6) (.cons (.v 7) (.cons (.gl [86,79,73,68] (.ii 0)) (.cons (.tup (.cons (.call 54 (.cons (.v 0) (.cons (.v 6) .nil))) .nil)) .nil))))))))) (.cons (.asg 9 (.m2 [[108,101,118,101,108],[110,97,109,101],[115,111,114,116],[109,105,100],[102,108,97,103,115],[115,116,97,110,100,115],[111,118,101,114]] (.cons (.v 1) (.cons (.v 2) (.cons (.v 3) (.cons (.v 8) (.cons (.v 7) (.cons (.lst .nil) (.cons (.v 4) .nil))))))))) (.cons (.ex (.append (.aq (.v 0) (.ss [114,111,119,115])) (.v 9))) .nil)))))
noncomputable def TQ:bk:=
 .cons (.dc [1] false (.ss [109,110]) (.cons (.asg 2 (.call 52 (.cons (.v 0) (.cons (.ii 4) .nil)))) (.cons (.dc [3] false (.aq (.tup (.cons (.tup (.cons (.ii 0) .nil)) (.cons (.tup (.cons (.ii 1) .nil)) (.cons (.tup (.cons (.ii 0) (.cons (.ii 1) .nil))) (.cons (.tup (.cons (.ii 1) (.cons (.ii 0) .nil))) .nil))))) (.v 2)) (.cons (.ex (.call 59 (.cons (.v 0) (.cons (.ii 0) (.cons (.v 1) (.cons (.v 3) (.cons (.cj false) .nil))))))) .nil)) .nil))) (.cons (.dc [4] false (.tup (.cons (.ii 1) (.cons (.ii 2) (.cons (.ii 3) .nil)))) (.cons (.dc [1] false (.ss [109,110]) (.cons (.asg 5 (.call 52 (.cons (.v 0) (.cons (.ii 8) .nil)))) (.cons (.dc [3] false (.aq (.tup (.cons (.tup .nil) (.cons (.tup (.cons (.ii 0) .nil)) (.cons (.tup (.cons (.ii 1) .nil)) (.cons (.tup (.cons (.ii 0) (.cons (.ii 1) .nil))) (.cons (.tup (.cons (.ii 0) .nil)) (.cons (.tup (.cons (.ii 1) .nil)) (.cons (.tup (.cons (.ii 1) (.cons (.ii 0) .nil))) (.cons (.tup (.cons (.ii 0) .nil)) .nil))))))))) (.v 5)) (.cons (.asg 6 (.comp (.v 7) [7] false (.aq (.v 0) (.ss [114,111,119,115])) (.cons (.and (.cons (.cmp .eq (.aq (.v 7) (.ss [110,97,109,101])) (.v 1)) (.cons (.cmp .eq (.aq (.v 7) (.ss [115,111,114,116])) (.v 3)) (.cons (.cmp .lt (.aq (.v 7) (.ss [108,101,118,101,108])) (.v 4)) .nil)))) .nil))) (.cons (.ex (.call 59 (.cons (.v 0) (.cons (.v 4) (.cons (.v 1) (.cons (.v 3) (.cons (.and (.cons (.cmp .ne (.v 6) (.lst .nil)) (.cons (.cmp .mx (.v 5) (.tup (.cons (.ii 4) (.cons (.ii 5) .nil)))) .nil))) .nil))))))) .nil))) .nil))) .nil)) .nil)
noncomputable def TV:bk:=
 .cons (.asg 2 (.cj false)) (.cons (.dc [3,4] true (.lh (.call 57 (.cons (.v 0) (.cons (.aq (.v 1) (.ss [108,101,118,101,108])) .nil))) (.ii 1)) (.cons (.asg 5 (.comp (.v 9) [9] false (.aq (.v 0) (.ss [114,111,119,115])) (.cons (.and (.cons (.cmp .eq (.aq (.v 9) (.ss [108,101,118,101,108])) (.v 3)) (.cons (.cmp .eq (.aq (.v 9) (.ss [110,97,109,101])) (.aq (.v 1) (.ss [110,97,109,101]))) .nil))) .nil))) (.cons (.asg 6 (.comp (.v 10) [10] false (.v 5) (.cons (.cmp .eq (.aq (.v 10) (.ss [115,111,114,116])) (.aq (.v 1) (.ss [115,111,114,116]))) .nil))) (.cons (.asg 2 (.or (.cons (.v 2) (.cons (.cmp .gt (.len (.v 5)) (.len (.v 6))) .nil)))) (.cons (.b4 (.cmp .ne (.v 6) (.lst .nil)) (.cons (.b4 (.e (.v 2)) (.cons (.o3 (.v 1) (.ss [102,108,97,103,115]) .add (.ii 4)) (.cons (.ex (.append (.aq (.v 1) (.ss [115,116,97,110,100,115])) (.tup (.cons (.tup (.cons (.ss [103]) (.cons (.bin .add (.ii 66) (.v 3)) (.cons (.v 4) .nil)))) (.cons (.aq (.aq (.v 6) (.ii 0)) (.ss [109,105,100])) .nil))))) .nil)) (.nil)) (.cons (.dc [7,8] true (.aq (.aq (.v 6) (.ii 0)) (.ss [115,116,97,110,100,115])) (.cons (.ex (.append (.aq (.v 1) (.ss [115,116,97,110,100,115])) (.tup (.cons (.call 53 (.cons (.v 7) (.cons (.v 4) .nil))) (.cons (.v 8) .nil))))) .nil)) (.cons (.mC) .nil))) (.nil)) .nil))))) .nil)
noncomputable def zj:bk:=
 .cons (.asg 1 (.m2 [[105,110],[97,116],[114,111,119,115],[115,116,111,114,101]] (.cons (.comp (.bin .mod (.v 12) (.ii 1000003)) [12] false (.mE (.v 0) (.ii 63)) (.nil)) (.cons (.ii 0) (.cons (.lst .nil) (.cons (.new 3 .nil) .nil)))))) (.cons (.asg 2 (.aq (.v 1) (.ss [115,116,111,114,101]))) (.cons (.gI (.v 1) (.ss [104,111,115,116]) (.new 9 (.cons (.at (.v 2) 35) .nil))) (.cons (.ex (.call 58 (.cons (.v 1) .nil))) (.cons (.gI (.v 1) (.ss [103,105,118,101,110]) (.eP .s)) (.cons (.dc [3] false (.ss [109,110]) (.cons (.gI (.aq (.v 1) (.ss [103,105,118,101,110])) (.v 3) (.call 55 (.cons (.v 1) (.cons (.aq (.aq (.v 1) (.ss [109,97,110,121])) (.ii 0)) .nil)))) .nil)) (.cons (.ex (.call 60 (.cons (.v 1) .nil))) (.cons (.cc (.aq (.v 1) (.ss [104,111,115,116])) 71 (.o' [34] (.cons (.ii 3) .nil))) (.cons (.asg 4 (.lst (.cons (.lst .nil) (.cons (.lst .nil) (.cons (.lst .nil) (.cons (.lst .nil) .nil)))))) (.cons (.dc [5] false (.aq (.v 1) (.ss [114,111,119,115])) (.cons (.b4 (.and (.cons (.cmp .lt (.aq (.v 5) (.ss [108,101,118,101,108])) (.ii 3)) (.cons (.cmp .eq (.call 52 (.cons (.v 1) (.cons (.ii 3) .nil))) (.ii 2)) .nil))) (.cons (.ex (.call 36 (.cons (.v 2) (.cons (.bin .add (.ii 66) (.aq (.v 5) (.ss [108,101,118,101,108]))) (.cons (.aq (.v 5) (.ss [109,105,100])) (.cons (.call 54 (.cons (.v 1) (.cons (.tup (.cons (.ss [103]) (.cons (.ii 34) (.cons (.tup .nil) .nil)))) .nil))) (.cons (.ii 900) .nil))))))) (.cons (.ex (.append (.aq (.v 4) (.aq (.v 5) (.ss [108,101,118,101,108]))) (.tup (.cons (.aq (.v 5) (.ss [109,105,100])) (.cons (.call 54 (.cons (.v 1) (.cons (.tup (.cons (.ss [103]) (.cons (.ii 34) (.cons (.tup .nil) .nil)))) .nil))) (.cons (.ii 900) .nil)))))) .nil)) (.nil)) .nil)) (.cons (.asg 6 (.new 7 (.cons (.new 6 (.cons (.v 2) (.cons (.ii 1) .nil))) (.cons (.aq (.v 1) (.ss [104,111,115,116])) (.cons (.ii 1) .nil))))) (.cons (.asg 7 (.new 8 (.cons (.at (.v 6) 55) (.cons (.v 6) .nil)))) (.cons (.asg 8 (.comp (.v 13) [13] false (.aq (.v 1) (.ss [114,111,119,115])) (.cons (.e (.aq (.v 13) (.ss [111,118,101,114]))) .nil))) (.cons (.b4 (.cmp .eq (.call 52 (.cons (.v 1) (.cons (.ii 2) .nil))) (.ii 1)) (.cons (.asg 8 (.rev (.v 8))) .nil) (.nil)) (.cons (.dc [5] false (.v 8) (.cons (.ex (.append (.at (.v 7) 65) (.tup (.cons (.bin .add (.ii 66) (.aq (.v 5) (.ss [108,101,118,101,108]))) (.cons (.aq (.v 5) (.ss [109,105,100])) (.cons (.new 4 (.cons (.gl [78,95,77,69,84,72,79,68] (.ii 91)) (.cons (.tup (.cons (.aq (.v 5) (.ss [110,97,109,101])) (.cons (.ii 0) .nil))) (.cons (.lst .nil) (.cons (.ii 128) (.cons (.aq (.v 5) (.ss [109,105,100])) .nil)))))) .nil)))))) .nil)) (.cons (.ex (.call 44 (.cons (.v 7) .nil))) (.cons (.dc [9] false (.gP (.ii 4)) (.cons (.dc [5] false (.v 8) (.cons (.b4 (.cmp .eq (.aq (.v 5) (.ss [108,101,118,101,108])) (.v 9)) (.cons (.ex (.call 61 (.cons (.v 1) (.cons (.v 5) .nil)))) (.cons (.dc [10,11] true (.aq (.v 5) (.ss [115,116,97,110,100,115])) (.cons (.ex (.append (.aq (.v 4) (.v 9)) (.tup (.cons (.aq (.v 5) (.ss [109,105,100])) (.cons (.call 54 (.cons (.v 1) (.cons (.v 10) .nil))) (.cons (.v 11) .nil)))))) .nil)) .nil)) (.nil)) .nil)) .nil)) (.cons (.b4 (.or (.cons (.cmp .ne (.at (.v 6) 59) (.lst .nil)) (.cons (.cmp .ne (.comp (.at (.aq (.at (.v 2) 36) (.bin .add (.ii 66) (.v 14))) 19) [14] false (.gP (.ii 4)) (.nil)) (.v 4)) .nil))) (.cons (.ret (.cj false)) .nil) (.nil)) (.cons (.ret (.cmp .eq (.comp (.at (.v 15) 8) [15] false (.lh (.at (.v 2) 15) (.ii 1)) (.nil)) (.comp (.aq (.v 16) (.ss [102,108,97,103,115])) [16] false (.aq (.v 1) (.ss [114,111,119,115])) (.nil)))) .nil))))))))))))))))))
noncomputable def jC:B (B C):=[[114,111,119,115],
 [105,110,100,101,120],
 [100,101,112,116,104,115],
 [119,101,105,103,104,116,115],
 [111,112,101,110,115],
 [116,105,100],
 [110,97,109,101],
 [115,111,114,116],
 [102,108,97,103,115],
 [98,97,115,101],
 [105,102,97,99,101,115],
 [112,97,114,97,109,115],
 [118,97,114,105,97,110,99,101,115],
 [98,111,117,110,100,115],
 [102,105,101,108,100,115],
 [109,101,116,104,111,100,115],
 [97,115,109],
 [99,99,116,111,114],
 [117,110,100,101,114],
 [105,109,112,108,115],
 [112,114,111,112,115],
 [101,118,101,110,116,115],
 [102,105,110,97,108,105,115,101,114],
 [104,111,109,101],
 [109,105,100],
 [111,119,110,101,114],
 [97,99,99,101,115,115],
 [110,103,101,110],
 [103,110,97,109,101,115],
 [103,98,111,117,110,100,115],
 [114,101,116],
 [112,110,97,109,101,115],
 [112,102,108,97,103,115],
 [98,111,100,121],
 [110,97,116,105,118,101],
 [107,116],
 [116,121,112,101,115],
 [102,105,101,108,100,115,95],
 [110,97,109,101,115],
 [97,115,109,115],
 [101,110,116,114,121],
 [107,105,110,100],
 [97],
 [107,105,100,115],
 [109,111,100,115],
 [97,116],
 [110,105,100],
 [115,116,111,114,101],
 [102,110,115],
 [118,97,114,115],
 [111,102,95,109,105,100],
 [100,105,97,103,115],
 [105,110,105,116,115],
 [115,105,110,105,116,115],
 [99,111,110,115,116,115],
 [117,110,105,116],
 [104,111,115,116],
 [107,105,110,100,115],
 [117,110,109,101,116],
 [116,111,108,100],
 [116,112,97,114,97,109,115],
 [101,97,114,108,121],
 [115,116,97,116,105,99],
 [99,120],
 [119,111,114,107],
 [111,118,101,114,114,105,100,101,115],
 [101,120,112,108,105,99,105,116,115],
 [108,97,116,101],
 [107,101,121,115],
 [111,112,101,114,115],
 [98,97,115,101,115],
 [115,111,114,116,115],
 [117,110,100,101,114,115],
 [103,102,108,97,103,115],
 [110,101,119,115],
 [114,111,119],
 [112,117,116]]
noncomputable def DK:C→Y oJ
 |0=>some ⟨1,3,[[115,101,108,102],[110,117,109,98,101,114],[114,111,119]],Te⟩
 |1=>some ⟨2,2,[[115,101,108,102],[107]],Tg⟩
 |2=>some ⟨2,9,[[115,101,108,102],[114,111,119],[102,111,117,110,100],[100,101,112,116,104],[119,101,105,103,104,116],[111,112,101,110,101,100],[108,101,118,101,108],[105,110,110,101,114],[107]],Tf⟩
 |3=>some ⟨8,9,[[115,101,108,102],[116,105,100],[110,97,109,101],[115,111,114,116],[102,108,97,103,115],[98,97,115,101],[112,97,114,97,109,115],[97,115,109],[119,111,114,100]],Tk⟩
 |4=>some ⟨8,8,[[115,101,108,102],[109,105,100],[111,119,110,101,114],[110,97,109,101],[97,99,99,101,115,115],[102,108,97,103,115],[114,101,116],[112,97,114,97,109,115]],Th⟩
 |5=>some ⟨1,1,[[115,101,108,102]],Tj⟩
 |6=>some ⟨6,6,[[115,101,108,102],[107,105,110,100],[97],[107,105,100,115],[109,111,100,115],[97,116]],Ti⟩
 |7=>some ⟨1,1,[[115,101,108,102]],Td⟩
 |8=>some ⟨3,3,[[115,101,108,102],[115,116,111,114,101],[97,115,109]],Tl⟩
 |9=>some ⟨4,4,[[115,101,108,102],[117,110,105,116],[104,111,115,116],[97,115,109]],Tm⟩
 |10=>some ⟨3,3,[[115,101,108,102],[117,110,105,116],[99,120]],Tc⟩
 |11=>some ⟨2,2,[[115,101,108,102],[107,116]],Ta⟩
 |12=>some ⟨2,2,[[115,101,108,102],[107]],S'⟩
 |13=>some ⟨2,2,[[115,101,108,102],[107]],Tb⟩
 |14=>some ⟨1,2,[[114,111,119],[115,111,114,116]],TJ⟩
 |15=>some ⟨1,1,[[115,111,114,116]],T7⟩
 |16=>some ⟨1,1,[[115,111,114,116]],T6⟩
 |17=>some ⟨2,4,[[107,116],[114,111,119],[115,111,114,116],[105,110,110,101,114]],Ts⟩
 |18=>some ⟨2,2,[[107,116],[114,111,119]],Tt⟩
 |19=>some ⟨2,3,[[107,116],[97,114,103,115],[97,114,103]],Tr⟩
 |20=>some ⟨2,3,[[107,116],[107],[115,111,114,116]],TZ⟩
 |21=>some ⟨3,3,[[107,116],[116,105,100],[97,114,103,115]],Tu⟩
 |22=>some ⟨2,2,[[107,116],[105]],Ua⟩
 |23=>some ⟨2,2,[[107,116],[107]],TM⟩
 |24=>some ⟨2,3,[[107,116],[107],[114,111,119]],T9⟩
 |25=>some ⟨2,3,[[107,116],[107],[114,111,119]],Tp⟩
 |26=>some ⟨4,4,[[107,116],[107],[116,97,114,103,115],[109,97,114,103,115]],Tv⟩
 |27=>some ⟨5,8,[[107,116],[107],[116,97,114,103,115],[109,97,114,103,115],[115,101,101,110],[114,111,119],[105,110,110,101,114],[112,97,114,116]],Tx⟩
 |28=>some ⟨3,4,[[107,116],[114,111,119],[105,110,110,101,114],[115,111,114,116]],Ub⟩
 |29=>some ⟨3,3,[[97,114,103,115],[112,108,97,99,101],[107]],T3⟩
 |30=>some ⟨4,6,[[107,116],[107,115],[116,97,114,103,115],[109,97,114,103,115],[111,117,116],[107]],Tw⟩
 |31=>some ⟨1,3,[[99,111,117,110,116],[111,117,116],[112,108,97,99,101]],T4⟩
 |32=>some ⟨1,1,[[102,108,97,103,115]],TL⟩
 |33=>some ⟨7,9,[[115,116,111,114,101],[116,105,100],[110,97,109,101],[97,99,99,101,115,115],[102,108,97,103,115],[114,101,116],[112,97,114,97,109,115],[116],[109,105,100]],To⟩
 |34=>some ⟨2,4,[[115,116,111,114,101],[109,105,100],[109],[116]],T2⟩
 |35=>some ⟨2,2,[[114,111,119,115],[114,111,119]],T5⟩
 |36=>some ⟨5,5,[[115,116,111,114,101],[116,105,100],[98,111,100,121,95,109,105,100],[100,101,99,108,95,111,119,110,101,114],[100,101,99,108,95,109,105,100]],Tn⟩
 |37=>some ⟨2,5,[[115,116,111,114,101],[116,105,100],[116],[97,114,103,115],[112,108,97,99,101]],T8⟩
 |38=>some ⟨3,4,[[115,116,111,114,101],[116,105,100],[97,114,103,115],[115,111,114,116]],TN⟩
 |39=>some ⟨2,3,[[115,116,111,114,101],[107],[116,105,100]],T'⟩
 |40=>some ⟨3,5,[[115,116,111,114,101],[116,105,100],[110,97,109,101],[111,117,116],[109,105,100]],TH⟩
 |41=>some ⟨2,4,[[115,116,111,114,101],[109,114,101,102],[109],[116,97,114,103,115]],T0⟩
 |42=>some ⟨2,2,[[104,111,115,116],[107]],TK⟩
 |43=>some ⟨2,4,[[104,111,115,116],[107],[111,117,116],[115,101,101,110]],Tq⟩
 |44=>some ⟨1,8,[[100],[114,111,119,115],[105],[111,119,110],[100,101,112,116,104],[116,105,100],[109,105,100],[110,111,100,101]],TD⟩
 |45=>some ⟨4,10,[[100],[116,105,100],[109,105,100],[110,111,100,101],[102,111,117,110,100],[109],[111,108,100],[110,117,109,98,101,114],[102,108,97,103,115],[107,105,110,100,115]],TB⟩
 |46=>some ⟨5,10,[[100],[116,105,100],[109,105,100],[102,111,117,110,100],[110,111,100,101],[114,111,119,115],[98,111,100,121],[111,119,110,101,114],[100,101,99,108],[109]],TG⟩
 |47=>some ⟨4,5,[[100],[109],[111,108,100],[102,111,117,110,100],[97,99,99,101,115,115]],TC⟩
 |48=>some ⟨3,10,[[100],[116,105,100],[109,105,100],[109],[110,101,97,114,101,114],[97,116],[108,105,107,101],[102,105,116]],Tz⟩
 |49=>some ⟨3,3,[[100],[109],[111,108,100]],TA⟩
 |50=>some ⟨2,4,[[109],[111,116,104,101,114]],TE⟩
 |51=>some ⟨5,7,[[100],[97,116],[110,97,109,101],[110,103,101,110],[112,97,114,97,109,115],[111,117,116],[109,105,100]],TF⟩
 |52=>some ⟨2,4,[[119],[110],[97,116],[102,105,108,108]],TW⟩
 |53=>some ⟨2,3,[[116,101,114,109],[97,114,103,115]],TU⟩
 |54=>some ⟨2,4,[[119],[116,101,114,109],[107,116]],TO⟩
 |55=>some ⟨2,4,[[119],[109,97,110,121],[110],[112,97,114,116]],TX⟩
 |56=>some ⟨2,3,[[119],[108,101,118,101,108]],TR⟩
 |57=>some ⟨2,5,[[119],[108,101,118,101,108],[97,114,103,115],[111,117,116]],TP⟩
 |58=>some ⟨1,8,[[119],[115,116,111,114,101],[108,101,118,101,108],[107,105,110,100,115],[112,108,97,99,101]],TY⟩
 |59=>some ⟨5,10,[[119],[108,101,118,101,108],[110,97,109,101],[115,111,114,116],[111,118,101,114],[108,105,110,101],[116,101,114,109],[102,108,97,103,115],[109,105,100],[114,111,119]],TS⟩
 |60=>some ⟨1,8,[[119],[110,97,109,101],[102,111,114,109],[115,111,114,116],[108,101,118,101,108],[100,101,101,100],[97,98,111,118,101]],TQ⟩
 |61=>some ⟨2,11,[[119],[114,111,119],[112,97,115,115,101,100],[97,116],[97,114,103,115],[108,105,107,101],[102,105,116],[111,119,110,101,114],[100,101,99,108]],TV⟩
 |62=>some ⟨1,17,[[115,99,114,105,112,116],[119],[115,116,111,114,101],[110,97,109,101],[119,97,110,116,101,100],[114,111,119],[121,97,114,100],[100],[111,118,101,114],[108,101,118,101,108],[111,119,110,101,114],[100,101,99,108]],zj⟩
 |_=>none
noncomputable def E8:C→C→Y C
 |0,75=>some 1
 |0,76=>some 2
 |9,9=>some 12
 |9,7=>some 13
 |_,_=>none
noncomputable def xg:C→Y C
 |0=>some 0
 |1=>some 3
 |2=>some 4
 |3=>some 5
 |4=>some 6
 |5=>some 7
 |6=>some 8
 |7=>some 9
 |8=>some 10
 |9=>some 11
 |_=>none
noncomputable def zN:B (B C):=[[0,1,2,3,4],[5,6,7,8,9,10,11,12,13,14,15,16,17,18,19,20,21,22,23],[24,25,6,26,8,27,28,29,30,11,31,32,33,34],[35,36,37,15,38,39,40],[41,42,43,44,45,46],[0],[47,16,48,49,50,51,52,53,54],[55,47,35,56,16,57,58,59,60,25,24,61,62],[55,63,47,35,36,64,54,65,66,67,68,69,53],[35,70,10,71,12,72,13,73,74]]
noncomputable def wT(c f:C):Bool:=(zN.getD c []).contains f
noncomputable def ac:iV:=⟨DK,E8,xg,wT⟩
end Mine
end
section
namespace Mine
noncomputable def Wk:B Nat:=[81,88,95,270,291,312,490,511,553,574,630,651,658,672,109,116,123,130,137,144,151,158,179,186,193,200,221,228,235,249,256,326,333,340,347,354,361,368,375,382,389,396,410,417,424,431,438,445,450,464,469,476,707,712,717,724,729,734,739,746,751,756,761]
noncomputable def UJ:B Nat:=[98,273,294,315,493,535,556,605,633,696]
noncomputable def nY(f:C):Nat:=Wk.getD f 0
noncomputable def su(f:C):Nat:=UJ.getD f 0
end Mine
end
section
open PySem PySem.W PyProof.Rows
namespace Mine
variable{a:D}{α:Type}{o:Y α}{oE:Type}{v:aw}{as:B D}{ar:B aw}
noncomputable def st(s:B C):Str:=⟨s.toArray⟩
theorem yc{a b:B C}(h:st a=st b):a=b:=by
 have h:=an (λ x:aL=>x.cps.toList) h
 exact h
noncomputable def ga{α c4:Type}(R:α→c4→Prop):Y α→Y c4→Prop
 |some a,w=>∃v,w=some v∧R a v
 |none,w=>w=none
theorem ga.at{c4:Type}{R:α→c4→Prop}{w:Y c4}{a:α}(h:ga R o w)(e:o=some a):∃v,w=some v∧R a v:=(an (ga R · w) e).mp h
theorem ga.no{c4:Type}{R:α→c4→Prop}{w:Y c4}(h:ga R o w)(e:o=none):w=none:=(an (ga R · w) e).mp h
theorem ga.mono{c4:Type}{R hI:α→c4→Prop}(m:∀a v,R a v→hI a v){w:Y c4}(h:ga R o w):ga hI o w:=by
 cases o with
 |none=>exact h
 |some a=>exact h.imp λ v h=>⟨h.1,m _ _ h.2⟩
theorem ga.xh{c4:Type}{R:α→c4→Prop}{w:Y c4}(h:ga R o w):w.isSome=o.isSome:=by
 cases o with
 |none=>exact an pX h
 |some a=>exact h.elim λ v h=>an pX h.1
theorem ga.getD{c4:Type}{R:α→c4→Prop}{w:Y c4}{a:α}{b:c4}(h:ga R o w)(d:R a b):R (o.getD a) (w.getD b):=by
 cases o with
 |none=>exact(show w=none from h)▸d
 |some a=>exact h.elim λ v h=>h.1▸h.2
theorem ga.map{c4:Type}{g:α→oE}{R:oE→c4→Prop}{w:Y c4}(h:ga (λ a v=>R (g a) v) o w):ga R (o.map g) w:=by
 cases o<;>exact h
theorem ga.mapR{c4:Type}{g:c4→oE}{R:α→oE→Prop}{w:Y c4}(h:ga (λ a v=>R a (g v)) o w):ga R o (w.map g):=by
 cases o with
 |none=>exact an (qU g) h
 |some a=>exact h.elim λ v h=>⟨g v,an (qU g) h.1,h.2⟩
theorem An{c4:Type}{P:α→c4→Prop}{b:av}{x y:α}{u v:c4}(h:P x u)(k:P y v):P (if b=true then x else y) (if b=true then u else v):=by
 cases b
 ·exact k
 ·exact h
structure cV where
 prog:lu
 w:eY
 h₀:dD
 os:jB
 K:kk
 ca:C→a8
 P:iV
noncomputable abbrev cA:=B (a8×a8)
noncomputable def Hu(c:cV)(O:B (am×am))(a:a8):Prop:=
 (a==kY)=false∧∃f,c.h₀.MapOf (gr c.prog c.w) a f∧∀k,ga (λ i v=>∃t,v= .int i t) (O.lookup k) (f k)
noncomputable def tK:B am→B aw→Prop
 | [],ar=>ar=[]
 |i::r,ar=>∃t G5,ar= .int i t::G5∧tK r G5
noncomputable def BV(c:cV)(l:B am)(a:a8):Prop:=∃items z,c.h₀.get? a=some {cls:=.type "list",data:=.seq items z}∧tK l items.toList
mutual
noncomputable def bA(c:cV)(G:cA)(h:dD):D→aw→Prop
 | .nn,v=>v= .none
 | .cj b,v=>v= .bool b
 | .ii i,v=>∃t,v= .int i t
 | .ss s,v=>∃t,v= .str (st s) t
 | .tup l,v=>∃a items,v= .ref a∧h.IsTuple a items∧cs c G h l items.toList
 | .ew lo ay,v=>∃a t u cB,v= .ref a∧IsRange h a lo ay 1 t u cB
 | .cd O,v=>∃a,v= .ref a∧Hu c O a
 | .ref z,v=>∃p,G[z]? =some p∧v= .ref p.1
 | .fu l,v=>∃a,v= .ref a∧BV c l a
noncomputable def cs(c:cV)(G:cA)(h:dD):B D→B aw→Prop
 | [],ar=>ar=[]
 |x::xs,ar=>∃v r,ar=v::r∧bA c G h x v∧cs c G h xs r
end
noncomputable def ih(o:fO):Prop:=(o.cls= .type "tuple"∧∃items z,o.data= .seq items z)∨(o.cls= .type "range"∧∃ar,o.data= .fields ar)
noncomputable def fV(h H:dD):Prop:=∀b o,h.get? b=some o→ih o→H.get? b=some o
noncomputable def g'(G bv:cA):Prop:=∀(z:C) p,G[z]? =some p→bv[z]? =some p
theorem Am{h H:dD}{a:a8}{items:gR aw}(k:fV h H)(x:h.IsTuple a items):H.IsTuple a items:=by
 obtain⟨o,be,hc,z,a1⟩:=x
 exact⟨o,k _ _ be (.inl ⟨hc,items,z,a1⟩),hc,z,a1⟩
mutual
theorem bA.keep{c:cV}{G bv:cA}{h H:dD}(l:g' G bv)(k:fV h H):∀{a:D} {v:aw},bA c G h a v→bA c bv H a v
 | .nn,_,x=>x
 | .cj _,_,x=>x
 | .ii _,_,x=>x
 | .ss _,_,x=>x
 | .tup _,_,x=>x.imp λ _ x=>x.imp λ _ x=>⟨x.1,Am k x.2.1,cs.keep l k x.2.2⟩
 | .ew _ _,_,x=>x.imp λ _ x=>x.imp λ _ x=>x.imp λ _ x=>x.imp λ _ x=>⟨x.1,k _ _ x.2 (.inr ⟨rfl,_,rfl⟩)⟩
 | .cd _,_,x=>x
 | .ref _,_,x=>x.imp λ p x=>⟨l _ p x.1,x.2⟩
 | .fu _,_,x=>x
theorem cs.keep{c:cV}{G bv:cA}{h H:dD}(l:g' G bv)(k:fV h H):∀{as:B D} {ar:B aw},cs c G h as ar→cs c bv H as ar
 | [],_,x=>x
 |_::_,_,x=>x.imp λ _ x=>x.imp λ _ x=>⟨x.1,bA.keep l k x.2.1,cs.keep l k x.2.2⟩
end
section
variable{c:cV}{G:cA}{h:dD}
theorem cs.length:∀{ar:B aw},cs c G h as ar→ar.length=as.length:=by
 induction as with
 |nil=>exact λ x=>an f9 x
 |cons a as aZ=>exact λ x=>x.elim λ v x=>x.elim λ r x=>(an f9 x.1).trans (an l1 (aZ x.2.2))
theorem cs.nil:cs c G h [] []:=rfl
theorem cs.cons(x:bA c G h a v)(y:cs c G h as ar):cs c G h (a::as) (v::ar):=⟨v,ar,rfl,x,y⟩
theorem cs.append{bs:B D}{BG:B aw}:∀{ar:B aw},cs c G h as ar→cs c G h bs BG→cs c G h (as++bs) (ar++BG):=by
 induction as with
 |nil=>exact λ x y=>(show _=[]from x)▸y
 |cons a as aZ=>exact λ x y=>x.imp λ v x=>x.elim λ r x=>⟨r++BG,an (· ++BG) x.1,x.2.1,aZ x.2.2 y⟩
theorem cs.get:∀{ar:B aw} {i:C},cs c G h as ar→as[i]? =some a→∃v,ar[i]? =some v∧bA c G h a v:=by
 induction as with
 |nil=>exact λ _ e=>nomatch e
 |cons b as aZ=>exact λ{ar i} x=>x.elim λ v x=>x.elim λ r x=>x.1▸Ri i (λ e=>⟨v,rfl,ej e▸x.2.1⟩) λ i e=>aZ (i:=i) x.2.2 e
theorem cs.none{i:C}(x:cs c G h as ar)(e:as[i]? = .none):ar[i]? = .none:=
 yC.mpr (x.length▸yC.mp e)
theorem cs.drop(z:C):∀{as:B D} {ar:B aw},cs c G h as ar→cs c G h (as.drop z) (ar.drop z):=by
 induction z with
 |zero=>exact id
 |succ z aZ=>
  intro as ar x
  cases as with
  |nil=>exact(show ar=[]from x)▸rfl
  |cons a as=>exact x.elim λ v x=>x.elim λ r x=>x.1▸aZ x.2.2
theorem cs.take(z:C):∀{as:B D} {ar:B aw},cs c G h as ar→cs c G h (as.take z) (ar.take z):=by
 induction z with
 |zero=>exact λ _=>rfl
 |succ z aZ=>
  intro as ar x
  cases as with
  |nil=>exact(show ar=[]from x)▸rfl
  |cons a as=>exact x.elim λ v x=>x.elim λ r x=>x.1▸⟨v,_,rfl,x.2.1,aZ x.2.2⟩
theorem cs.reverse:∀{ar:B aw},cs c G h as ar→cs c G h as.reverse ar.reverse:=by
 induction as with
 |nil=>exact λ x=>(show _=[]from x)▸rfl
 |cons a as aZ=>exact λ x=>x.elim λ v x=>x.elim λ r x=>(by rw[x.1,Q9,Q9];exact cs.append (aZ x.2.2) ⟨v,[],rfl,x.2.1,rfl⟩)
theorem cs.replicate(x:bA c G h a v)(z:C):cs c G h (dw z a) (dw z v):=by
 induction z with
 |zero=>exact rfl
 |succ z aZ=>exact⟨v,_,rfl,x,aZ⟩
end
noncomputable def fp{dm K c4:Type}(f:dm→K)(R:D→c4→Prop):B (dm×D)→B (K×c4)→Prop
 | [],cZ=>cZ=[]
 | (k,a)::r,cZ=>∃v rm,cZ=(f k,v)::rm∧R a v∧fp f R r rm
section
variable{dm K c4:Type}{f:dm→K}{R hI:D→c4→Prop}
theorem fp.mono(m:∀a v,R a v→hI a v){O:B (dm×D)}:∀{cZ:B (K×c4)},fp f R O cZ→fp f hI O cZ:=by
 induction O with
 |nil=>exact id
 |cons e r aZ=>exact λ h=>h.imp λ v h=>h.imp λ rm h=>⟨h.1,m _ _ h.2.1,aZ h.2.2⟩
theorem fp.length{O:B (dm×D)}:∀{cZ:B (K×c4)},fp f R O cZ→cZ.length=O.length:=by
 induction O with
 |nil=>exact λ h=>an f9 h
 |cons e r aZ=>exact λ h=>h.elim λ v h=>h.elim λ rm h=>(an f9 h.1).trans (an l1 (aZ h.2.2))
theorem fp.snoc{k:dm}{v:c4}(x:R a v){O:B (dm×D)}:∀{cZ:B (K×c4)},fp f R O cZ→fp f R (O++[(k,a)]) (cZ++[(f k,v)]):=by
 induction O with
 |nil=>exact λ{cZ} h=>by cases h;exact⟨v,[],rfl,x,rfl⟩
 |cons e r aZ=>exact λ h=>h.imp λ v h=>h.elim λ rm h=>⟨rm++[_],an (· ++[_]) h.1,h.2.1,aZ h.2.2⟩
theorem fp.find[ny dm][oK dm][jv K](inj:∀a b,f a=f b→a=b)(k:dm){O:B (dm×D)}:∀{cZ:B (K×c4)},fp f R O cZ→ga R (O.lookup k) ((cZ.find? λ e6=>decide (e6.1=f k)).map (·.2)):=by
 induction O with
 |nil=>exact λ{cZ} h=>(show cZ=[]from h)▸rfl
 |cons e r aZ=>
  refine λ h=>h.elim λ v h=>h.elim λ rm h=>h.1▸?_
  by_cases hk:k=e.1
  ·rw[HO (p:=λ e6:K×c4=>decide (e6.1=f k)) (iK (an f hk.symm)),hk]
   exact(HZ (k:=e.1)).symm▸⟨v,rfl,h.2.1⟩
  ·rw[HN (p:=λ e6:K×c4=>decide (e6.1=f k)) (λ q=>hk (inj _ _ (gh q)).symm),l0,l'.mpr hk]
   exact aZ h.2.2
theorem fp.upd[ny dm][oK dm][jv K](inj:∀a b,f a=f b→a=b)(k:dm){w:c4→c4}(x:∀b,R a (w b)){O:B (dm×D)}:∀{cZ:B (K×c4)},fp f R O cZ→
  fp f R (O.map λ e=>if e.1==k then(e.1,a)else e) (cZ.map λ e6=>if e6.1=f k then(e6.1,w e6.2)else e6):=by
 induction O with
 |nil=>exact λ{cZ} h=>(show cZ=[]from h)▸rfl
 |cons e r aZ=>
  refine λ h=>h.elim λ v h=>h.elim λ rm h=>h.1▸?_
  rw[oL,oL]
  by_cases hk:e.1=k
  ·rw[if_pos (jj.mpr hk),if_pos (an f hk)]
   exact⟨_,_,rfl,x v,aZ h.2.2⟩
  ·rw[if_neg λ q=>hk (eq_of_beq q),if_neg λ q=>hk (inj _ _ q)]
   exact⟨_,_,rfl,h.2.1,aZ h.2.2⟩
theorem SW{c4:Type}{p:α→av}(g:α→c4)(l:B α):l.any p=((l.find? p).map g).isSome:=by
 induction l with
 |nil=>rfl
 |cons x r aZ=>
  rw[List.any_cons,aZ]
  cases q:p x with
  |true=>rw[HO q];rfl
  |false=>rw[HN (rW.mp q)];rfl
theorem fp.has[ny dm][oK dm][jv K](inj:∀a b,f a=f b→a=b)(k:dm){O:B (dm×D)}{cZ:B (K×c4)}(h:fp f R O cZ):((cZ.find? λ e6=>decide (e6.1=f k)).map (·.2)).isSome=(O.lookup k).isSome:=(h.find inj k).xh
end
theorem fp.put{dm K:Type}{f:dm→K}{R:D→aw→Prop}[ny dm][oK dm][jv K](inj:∀a b,f a=f b→a=b)(k:dm)(x:R a v){O:B (dm×D)}{cZ:B (K×aw)}(h:fp f R O cZ):
  fp f R (c7 O k a) (CO cZ (f k) v):=by
 unfold c7 CO
 rw[SW (λ e6=>e6.2),h.has inj k]
 exact An (h.upd inj k λ _=>x) (h.snoc x)
end Mine
end
section
open PySem PySem.W PyProof.Rows
namespace Mine
variable{h:dD}{a:a8}{x y:gS}{p:am ⊕ B am}{v:aw}{H:dD}{k:gS}{Q:av→a2→Prop}{z:C}{α:Type}{g:α→yR}
section
variable{prog:lu}{w:eY}
noncomputable def pZ(prog:lu)(w:eY)(h:dD)(p:am ⊕ B am)(v:aw):Prop:=p.elim (λ i=>∃t,v= .int i t) λ l=>∃b,v= .ref b∧ID (gr prog w) h l b
noncomputable def l3(prog:lu)(w:eY)(h:dD):gS→B aw→Prop
 | [],ar=>ar=[]
 |p::k,ar=>∃v r,ar=v::r∧pZ prog w h p v∧l3 prog w h k r
noncomputable def FP(prog:lu)(w:eY):am ⊕ B am→am
 | .inl i=>hashInt i
 | .inr l=>tupleKeyHash (gr prog w) l
noncomputable def tb:am ⊕ B am→C
 | .inl _=>1
 | .inr l=>l.length+1
noncomputable def MH(prog:lu)(w:eY)(k:gS):Int:=I2 (Builtin.Tuple.tupleHashOf (k.map (FP prog w)))
noncomputable def MG(k:gS):Nat:=(k.map tb).sum+1
noncomputable def lW(prog:lu)(w:eY)(h:dD)(k:gS)(a:a8):Prop:=∃items,h.IsTuple a items∧l3 prog w h k items.toList
theorem Y5{x y:gR aw}(aA:h.IsTuple a x)(bI:h.IsTuple a y):x=y:=
 aA.elim λ o aA=>bI.elim λ c3 bI=>aA.2.2.elim λ z a1=>bI.2.2.elim λ qq gv=>(Data.seq.inj (a1.symm.trans ((an IE (ej (aA.1.symm.trans bI.1))).trans gv))).1
theorem pZ.inj{q:am ⊕ B am}(aA:pZ prog w h p v)(bI:pZ prog w h q v):p=q:=by
 cases p<;>cases q
 ·exact aA.elim λ t e=>bI.elim λ cB bC=>an _ (Value.int.inj (e.symm.trans bC)).1
 ·exact aA.elim λ t e=>bI.elim λ b bC=>nomatch e.symm.trans bC.1
 ·exact aA.elim λ t e=>bI.elim λ b bC=>nomatch e.1.symm.trans bC
 ·exact aA.elim λ b e=>bI.elim λ hv bC=>an _ (e.2.inj ((IS (bC.1.symm.trans e.1))▸bC.2))
theorem l3.inj:∀{y:gS} {ar:B aw},l3 prog w h x ar→l3 prog w h y ar→x=y:=by
 induction x with
 |nil=>
  intro y ar aA bI
  cases y with
  |nil=>rfl
  |cons q k=>exact bI.elim λ v bI=>bI.elim λ r bI=>nomatch aA.symm.trans bI.1
 |cons p x aZ=>
  refine λ{y ar} aA bI=>aA.elim λ v aA=>aA.elim λ r aA=>?_
  cases y with
  |nil=>exact nomatch bI.symm.trans aA.1
  |cons q k=>exact bI.elim λ ahm bI=>bI.elim λ bw bI=>have e:=B4 (bI.1.symm.trans aA.1);congr (an QQ (aA.2.1.inj (e.1▸bI.2.1))) (aZ aA.2.2 (e.2▸bI.2.2))
theorem l3.mono(m:∀l b,ID (gr prog w) h l b→ID (gr prog w) H l b):∀{ar:B aw},l3 prog w h k ar→l3 prog w H k ar:=by
 induction k with
 |nil=>exact id
 |cons p k aZ=>exact λ x=>x.imp λ v x=>x.imp λ r x=>⟨x.1,(by cases p<;>first|exact x.2.1|exact x.2.1.imp λ b y=>⟨y.1,m _ _ y.2⟩:pZ prog w H p v),aZ x.2.2⟩
theorem l3.mem:∀{ar:B aw},l3 prog w h k ar→v∈ar→∃p,pZ prog w h p v:=by
 induction k with
 |nil=>exact λ x y=>nomatch(show _=[]from x)▸y
 |cons p k aZ=>exact λ x y=>x.elim λ u x=>x.elim λ r x=>(kg.mp (x.1▸y)).elim (λ e=>⟨p,(show u=v from e.symm)▸x.2.1⟩) (aZ x.2.2)
theorem lW.inj(aA:lW prog w h x a)(bI:lW prog w h y a):x=y:=
 aA.elim λ i p=>bI.elim λ jM f2=>p.2.inj (Y5 f2.1 p.1▸f2.2)
theorem Y6{d:a8}{o:fO}{O hK}{items}(x:h.IsTuple a items)(be:h.get? d=some o)(a1:o.data= .dict O hK)(hs:tX d h H):H.IsTuple a items:=
 x.imp λ c3 x=>⟨(hs.2 a λ e=>x.2.2.elim λ z q=>nomatch a1.symm.trans ((an IE (ej (be.symm.trans (e▸x.1)))).trans q)).trans x.1,x.2⟩
theorem lW.m'(d8:fV h H)(x:lW prog w h k a):lW prog w H k a:=
 x.imp λ items x=>⟨Am d8 x.1,x.2.mono λ l b y=>y.imp λ o y=>y.imp λ items y=>y.imp λ z y=>⟨d8 _ _ y.1 (.inl ⟨y.2.1,items,z,y.2.2.1⟩),y.2⟩⟩
variable{A:eB}{ab:aw→a2→Prop}{s:a2}
theorem acn{Q:am→a2→Prop}(dS:A.units<kX)(x:pZ prog w s.heap p v)(h:Q (FP prog w p) {s with toks:=s.toks+tb p}):bg (bc prog w) A (pyHash v) Q ab s:=by
 cases p with
 |inl i=>exact x.elim λ t e=>e▸wpAny_pyHash_int h
 |inr l=>exact x.elim λ b e=>e.1▸wpAny_pyHash_tuple dS e.2 h
noncomputable def QG(prog:lu)(w:eY)(s:a2)(k:gS)(lP:B aw)(b:gR am)(a9:a2):Prop:=
 ∃done left,k=done++left∧l3 prog w s.heap left lP∧b.toList=done.map (FP prog w)∧a9={s with toks:=s.toks+(done.map tb).sum}
theorem Zn{Q:am→a2→Prop}(dS:A.units+1<kX)(hk:lW prog w s.heap k a)(h:Q (MH prog w k) {s with toks:=s.toks+MG k}):
  bg (bc prog w) A (pyHash (.ref a)) Q ab s:=by
 refine hk.elim λ items t=>?_
 have fX:=t.1.typeIs
 refine t.1.elim λ o a1=>a1.2.2.elim λ z gv=>?_
 unfold pyHash
 unfold pyHashByItsType
 refine cK (wpAny_cRoomFor_or (.inr (mQ dS)) (cK (CQ fX F.slot_tuple_hash.lookup ((if_neg (beq_builtin_none _▸mL)).symm▸
  cK (CQ fX F.slot_tuple_hash.lookup (cK (wpAny_callSpecialIfBoundUnlessNone?_slot fX F.slot_tuple_hash (R9 F.slot_tuple_hash fX F.entry_tuple_hash ?_ (F.args_tuple_hash_1 _)))))))))
 show bg _ _ (Builtin.Tuple.tupleItemsOf (.ref a)>>=_) _ _ s
 refine cK (wpAny_tupleItemsOf a1.1 gv (cK ?_))
 rw[←Qf]
 refine Sa _ (QG prog w s k) _ (λ x lP b a9 hl=>?_) (λ b a9 hl=>?_) _ _ ⟨[],k,rfl,t.2,rfl,rfl⟩
 ·refine hl.elim λ done hl=>hl.elim λ left hl=>hl.2.2.2▸?_
  cases left with
  |nil=>exact nomatch hl.2.1
  |cons p left=>
   refine hl.2.1.elim λ v q=>q.elim λ r q=>cK (acn (show A.in1.units<kX from dS) ((B4 q.1).1▸q.2.1) (eG ⟨done++[p],left,hl.1.trans (mO _ _ _),(B4 q.1).2▸q.2.2,Hp.trans ((an (· ++[_]) hl.2.2.1).trans (nD (l₂:=[p])).symm),?_⟩))
   exact an (λ t=>{s with toks:=t}) (show s.toks+(done.map tb).sum+tb p=s.toks+((done++[p]).map tb).sum from by rw[nD,List.sum_append,←mP];rfl)
 ·refine hl.elim λ done hl=>hl.elim λ left hl=>hl.2.2.2▸?_
  cases left with
  |cons p left=>exact hl.2.1.elim λ v q=>q.elim λ r q=>nomatch q.1
  |nil=>
   have h:Q (I2 (Builtin.Tuple.tupleHashOf b.toList)) {s with toks:=s.toks+(done.map tb).sum+1}:=by
    have e:=hl.1.trans (eX done)
    subst e
    exact hl.2.2.1▸h
   refine wpAny_ret_mkInt ?_
   unfold I2 at h
   show bg _ _ (if(decide (-(2:am)^63≤Builtin.Tuple.tupleHashOf b.toList)&&decide (Builtin.Tuple.tupleHashOf b.toList<2^63))=true then _ else _) Q ab _
   by_cases a4:(decide (-(2:am)^63≤Builtin.Tuple.tupleHashOf b.toList)&&decide (Builtin.Tuple.tupleHashOf b.toList<2^63))=true
   ·rw[if_pos a4]at h
    exact(if_pos a4).symm▸eG h
   ·rw[if_neg a4]at h
    exact(if_neg a4).symm▸cK (wpAny_rule (eG h))
theorem PB{items:gR aw}(t:s.heap.IsTuple a items)(Xn:∀v∈items.toList,∀kl:av→a2→Prop,kl true s→bg (bc prog w) A (yY z v) kl ab s)(h:Q true s):bg (bc prog w) A (yY (z+1) (.ref a)) Q ab s:=by
 have fX:=t.typeIs
 refine t.elim λ o a1=>a1.2.2.elim λ m gv=>?_
 unfold yY
 refine cK (CQ fX F.slot_tuple_eq.lookup (cK (wpAny_isInstance fX isSubtype_tuple_tuple (cK (wpAny_seqItems a1.1 gv (cK ?_))))))
 show bg _ _ (forIn items _ _) _ _ s
 rw[←Qf]
 refine Sa _ (λ lP r a9=>r=(none,())∧a9=s∧∀v∈lP,v∈items.toList) _ (λ v lP r a9 q=>?_) (λ r a9 q=>q.1▸q.2.1▸eG h) _ _ ⟨rfl,rfl,λ _=>id⟩
 obtain⟨rfl,rfl,q⟩:=q
 exact cK (Xn v (q v (.head _)) _ (eG ⟨rfl,rfl,λ u dS=>q u (.tail _ dS)⟩))
theorem acr(x:pZ prog w s.heap p v)(h:Q true s):bg (bc prog w) A (yY (z+1) v) Q ab s:=by
 cases p with
 |inl i=>exact x.elim λ t e=>e▸eG h
 |inr l=>exact x.elim λ b e=>e.1▸e.2.elim λ o y=>y.elim λ items y=>y.elim λ m y=>PB ⟨o,y.1,y.2.1,m,y.2.2.1⟩ (λ v cP kl du=>eqIsQuiet_byValue _ (y.2.2.2.byValue v cP)▸eG du) h
theorem Zo(hk:lW prog w s.heap k a)(h:Q true s):bg (bc prog w) A (yY 8 (.ref a)) Q ab s:=
 hk.elim λ items t=>PB t.1 (λ v cP kl du=>(t.2.mem cP).elim λ p y=>acr y du) h
noncomputable def py:am ⊕ B am→yR
 | .inl i=>.int i
 | .inr l=>.tuple (l.map .int)
theorem Y9{l:B am}{ar:B aw}(x:ItemsAre (gr prog w) l ar):yS h ar (l.map .int) []:=by
 induction x with
 |nil=>exact .nil
 |cons ax _ aZ=>exact(Value.isInt_shape ax).elim λ t e=>e▸RT (as:=[]) (.int _ t) aZ
theorem aco(x:pZ prog w h p v):tZ h v (py p) []:=by
 cases p with
 |inl i=>exact x.elim λ t e=>e▸.int _ _
 |inr l=>exact x.elim λ b e=>e.1▸e.2.elim λ o y=>y.elim λ items y=>y.elim λ m y=>.tuple y.1 y.2.1 y.2.2.1 (Y9 y.2.2.2)
theorem acs:∀{ar:B aw},l3 prog w h k ar→yS h ar (k.map py) []:=by
 induction k with
 |nil=>exact λ x=>(show _=[]from x)▸.nil
 |cons p k aZ=>exact λ x=>x.elim λ v x=>x.elim λ r x=>x.1▸RT (as:=[]) (aco x.2.1) (aZ x.2.2)
theorem wH(l:B α):(∀a∈l,(g a).canLay0=true∧(g a).depth≤z)→RQ (l.map g)=true∧PyData.depthAll (l.map g)≤z:=by
 induction l with
 |nil=>exact λ _=>⟨rfl,fs _⟩
 |cons x r ihl=>exact λ h=>have ax:=h x (.head _);have aH:=ihl λ y bI=>h y (.tail _ bI);⟨dI.mpr ⟨ax.1,aH.1⟩,Nat.max_le.mpr ⟨ax.2,aH.2⟩⟩
theorem acp(p:am ⊕ B am):(py p).canLay0=true∧(py p).depth≤1:=by
 cases p with
 |inl i=>exact⟨rfl,fs _⟩
 |inr l=>have L:=wH (g:=PyData.int) (z:=0) l λ a _=>⟨rfl,cJ _⟩;exact⟨L.1,gp L.2⟩
theorem KR[jv α](e:∀a b,iG (g a) (g b)=decide (a=b))(l:B α):∀cf:B α,IG (l.map g) (cf.map g)=decide (l=cf):=by
 induction l with
 |nil=>exact λ cf=>by cases cf<;>rfl
 |cons a r aZ=>
  intro cf
  cases cf with
  |nil=>rfl
  |cons b t=>exact(congr (an and (e a b)) (aZ t)).trans ((Bool.decide_and _ _).symm.trans (q8.mpr List.cons_eq_cons.symm))
theorem acq(p q:am ⊕ B am):iG (py p) (py q)=decide (p=q):=by
 cases p<;>cases q
 ·exact q8.mpr ⟨an _,Sum.inl.inj⟩
 ·rfl
 ·rfl
 ·exact(KR (λ a b=>rfl) _ _).trans (q8.mpr ⟨an _,Sum.inr.inj⟩)
theorem Zm{b:a8}(dS:A.units+8<kX)(aA:lW prog w s.heap x a)(bI:lW prog w s.heap y b)(h:Q (decide (x=y)) s):
  bg (bc prog w) A (eqBool (.ref a) (.ref b)) Q ab s:=by
 have r:∀{k a},lW prog w s.heap k a→tZ s.heap (.ref a) (.tuple (k.map py)) []:=λ L=>L.elim λ items L=>L.1.elim λ o t=>t.2.2.elim λ z d=>.tuple t.1 t.2.1 d (acs L.2)
 have L:∀k:gS,(RS (k.map py)).canLay0=true∧(RS (k.map py)).depth≤2:=λ k=>have L:=wH (g:=py) k λ p _=>acp p;⟨L.1,gp L.2⟩
 refine SeqAt.eqBoolOverData prog w A ab s _ _ _ _ _ _ Q (r aA) (r bI) (L x).1 (L y).1 ?_ (show Q (IG _ _) s from(KR acq x y).symm▸h)
 have:=(L x).2
 have:=(L y).2
 omega
noncomputable def Aq(prog:lu)(w:eY):HeapKind prog w gS where
 is:=lW prog w
 hash:=MH prog w
 draws:=MG
 room:=λ A=>A.units+8<kX
 inj:=λ aA bI=>aA.inj bI
 keeps:=λ x be a1 hs=>x.imp λ items x=>⟨Y6 x.1 be a1 hs,x.2.mono λ _ _ y=>y.keeps be a1 hs⟩
 pyHash:=λ dS hk h=>Zn (by omega) hk h
 eqBool:=λ dS aA bI h=>Zm dS aA bI h
 quiet:=λ hk h=>Zo hk h
end
variable{c:cV}
noncomputable def gJ(names:B (B C))(f:C):Str:=st (names.getD f [])
noncomputable def l6(_:cV)(R:D→aw→Prop)(O:B (gS×D))(xs:B (gS×a8×aw)):Prop:=fp id (λ a (v:a8×aw)=>R a v.2) O xs
noncomputable def v3(names:B (B C))(R:D→aw→Prop)(aG:B (C×D))(m:aL→Y aw):Prop:=
 ∀f,f<names.length→ga R (aG.lookup f) (m (gJ names f))
noncomputable def gB(c:cV)(names:B (B C))(G:cA)(h:dD)(p:a8×a8):a0→Prop
 | .li xs=>p.2=p.1∧xs.length≤room∧∃items z,h.get? p.1=some {cls:=.type "list",data:=.seq items z}∧cs c G h xs items.toList
 | .cq O=>p.2=p.1∧∃cZ,h.DictOf (gr c.prog c.w) p.1 cZ∧fp id (bA c G h) O cZ
 | .ds O=>p.2=p.1∧∃cZ,h.DictOf (strKind c.prog c.w) p.1 cZ∧fp st (bA c G h) O cZ
 | .h8 O=>p.2=p.1∧∃xs,h.DictOfH (Aq c.prog c.w) p.1 xs∧l6 c (bA c G h) O xs
 | .bF V aG=>h.get? p.1=some (nJ (c.ca V) p.2)∧(c.P.i4 V).isSome=true∧(∀f a,aG.lookup f=some a→c.P.fld V f=true)∧
   ∃O z m,h.get? p.2=some (p1 O z)∧O.length≤aG.length∧h.Ns p.2 m∧v3 names (bA c G h) aG m
end Mine
end
section
open PySem PySem.W PyProof.Rows
namespace Mine
variable{X:a8→Prop}{a:a8}{z:C}{p:a8×a8}{b:a8}{R hI:D→aw→Prop}{o:a0}{t:C}{c3:a0}{q:a8}
noncomputable def eF(G:cA)(b:a8):Prop:=∃p∈G,b=p.1∨b=p.2
noncomputable def cu(X:a8→Prop)(h H:dD):Prop:=∀b o,h.get? b=some o→¬X b→H.get? b=some o
noncomputable def yv(G bv:cA)(h:dD):Prop:=g' G bv∧∀b,eF bv b→eF G b∨h.get? b=none
theorem g'.refl(G:cA):g' G G:=λ _ _ e=>e
theorem g'.trans{G bv Qb:cA}(x:g' G bv)(y:g' bv Qb):g' G Qb:=λ z p e=>y z p (x z p e)
theorem g'.snoc(G:cA)(p:a8×a8):g' G (G++[p]):=λ z q e=>by
 have h:=(jY.mp e).1
 rw[qQ h];exact e
theorem cu.refl(X:a8→Prop)(h:dD):cu X h h:=λ _ _ e _=>e
theorem cu.mono{hd:a8→Prop}{h H:dD}(x:cu X h H)(m:∀b,X b→hd b):cu hd h H:=λ b o e z=>x b o e λ q=>z (m b q)
theorem cu.trans{h H pb:dD}(x:cu X h H)(y:cu X H pb):cu X h pb:=λ b o e z=>y b o (x b o e z) z
theorem cu.push(h:dD)(o:fO):cu X h (h.push o):=λ _ _ e _=>ls o e
theorem cu.same{h H:dD}(s:tX a h H)(x:X a):cu X h H:=λ b o e z=>(s.2 b λ q=>z (q▸x)).trans e
theorem cu.all{h H:dD}(x:cu (λ _=>False) h H):cu X h H:=x.mono λ _=>HB
theorem lF{G:cA}(e:(G:B (a8×a8))[z]? =some p):eF G p.1∧eF G p.2:=
 ⟨⟨p,h2 e,.inl rfl⟩,⟨p,h2 e,.inr rfl⟩⟩
theorem DM{G:cA}(x:eF G b):∃(z:C) (p:a8×a8),G[z]? =some p∧(b=p.1∨b=p.2):=by
 obtain⟨p,bM,h⟩:=x
 obtain⟨z,e⟩:=List.mem_iff_getElem?.mp bM
 exact⟨z,p,e,h⟩
theorem uv{G:cA}(x:eF (G++[p]) b):eF G b∨b=p.1∨b=p.2:=by
 obtain⟨q,du,h⟩:=x
 rcases nE.mp du with du|du
 ·exact .inl ⟨q,du,h⟩
 ·rw[jy]at du;subst du;exact .inr h
theorem g'.foot{G bv:cA}(l:g' G bv)(x:eF G b):eF bv b:=by
 obtain⟨z,p,e,h⟩:=DM x
 exact⟨p,h2 (l z p e),h⟩
theorem yv.refl(G:cA)(h:dD):yv G G h:=⟨.refl _,λ _=>.inl⟩
structure Step(G:cA)(s:a2)(bv:cA)(a9:a2):Prop where
 ext:yv G bv s.heap
 ch:cu (eF G) s.heap a9.heap
theorem Step.refl(G:cA)(s:a2):Step G s G s:=⟨.refl _ _,.refl _ _⟩
theorem Nz{h:dD}{X:Prop}(f:h.get? b=none→X)(g:∀o,h.get? b=some o→X):X:=by
 cases e:h.get? b with
 |none=>exact f e
 |some o=>exact g o e
theorem Step.trans{G bQ dz:cA}{s aJ b':a2}(x:Step G s bQ aJ)(y:Step bQ aJ dz b'):Step G s dz b' where
 ext:=⟨x.ext.1.trans y.ext.1,λ b az=>(y.ext.2 b az).elim (x.ext.2 b) λ h=>r1 .inl λ f=>Nz .inr λ o e=>nomatch h.symm.trans (x.ch b o e f)⟩
 ch:=λ b o e z=>y.ch b o (x.ch b o e z) λ f=>(x.ext.2 b f).elim z λ h=>nomatch h.symm.trans e
theorem Step.ng{G:cA}{s a9:a2}(x:cu (eF G) s.heap a9.heap):Step G s G a9:=⟨.refl _ _,x⟩
structure Inv(c:cV)(nm:B (B C))(G:cA)(n:St)(s:a2):Prop where
 base:∀b o,c.h₀.get? b=some o→s.heap.get? b=some o
 out:∀b,eF G b→c.h₀.get? b=none
 len:G.length=n.length
 apart:∀(i j:C) (p q:a8×a8),G[i]? =some p→G[j]? =some q→i≠j→p.1≠q.1∧p.1≠q.2∧p.2≠q.1∧p.2≠q.2
 obj:∀(i:C) (p:a8×a8) o,G[i]? =some p→n[i]? =some o→gB c nm G s.heap p o
 gens:s.gens= #[]
 os:s.os=c.os
 low:∀b,eF G b→kY<b
 two:∃b o,kY<b∧c.h₀.get? b=some o
section
variable{c:cV}{nm:B (B C)}{G bv:cA}{n:St}{s a9:a2}{h H:dD}
theorem v3.mono(m:∀a v,R a v→hI a v){aG:B (C×D)}{f:aL→Y aw}(x:v3 nm R aG f):v3 nm hI aG f:=λ i ay=>(x i ay).mono m
theorem l6.mono(m:∀a v,R a v→hI a v){O:B (gS×D)}{xs:B (gS×a8×aw)}(x:l6 c R O xs):l6 c hI O xs:=fp.mono (λ _ _=>m _ _) x
theorem gB.keep(l:g' G bv)(k:fV h H)(ax:∀b,h.get? p.1=some b→H.get? p.1=some b)(aH:∀b,h.get? p.2=some b→H.get? p.2=some b)(x:gB c nm G h p o):gB c nm bv H p o:=by
 have m:∀a v,bA c G h a v→bA c bv H a v:=λ a v=>bA.keep l k
 cases o with
 |li xs=>exact⟨x.1,x.2.1,x.2.2.imp λ items y=>y.imp λ z y=>⟨ax _ y.1,y.2.keep l k⟩⟩
 |cq O=>exact⟨x.1,x.2.imp λ cZ y=>⟨y.1.at ax,y.2.mono m⟩⟩
 |ds O=>exact⟨x.1,x.2.imp λ cZ y=>⟨y.1.at ax,y.2.mono m⟩⟩
 |h8 O=>exact⟨x.1,x.2.imp λ cZ y=>⟨y.1.imp λ o L=>L.imp λ jI L=>L.imp λ hK L=>⟨ax _ L.1,L.2.1,L.2.2.1,L.2.2.2.1,λ x aA=>(L.2.2.2.2.1 x aA).m' k,L.2.2.2.2.2⟩,l6.mono m y.2⟩⟩
 |bF V aG=>exact⟨ax _ x.1,x.2.1,x.2.2.1,x.2.2.2.imp λ O y=>y.imp λ z y=>y.imp λ E' y=>⟨aH _ y.1,y.2.1,y.2.2.1.imp λ c3 L=>L.imp λ jI L=>L.imp λ qq L=>⟨aH _ L.1,L.2⟩,y.2.2.2.mono m⟩⟩
theorem AL{b:fO}(h:(∀i z,b.data≠ .seq i z∨b.cls≠ .type "tuple")∧((∀i,b.data≠ .fields i)∨b.cls≠ .type "range")):¬ih b
 | .inl ⟨c,i,z,f⟩=>(h.1 i z).elim (λ x=>x f) λ x=>x c
 | .inr ⟨c,i,f⟩=>h.2.elim (λ x=>x i f) λ x=>x c
theorem pv{b:fO}{O z}(e:b.data= .dict O z):¬ih b:=AL ⟨λ _ _=>.inl λ f=>(nomatch e.symm.trans f),.inl λ _ f=>(nomatch e.symm.trans f)⟩
theorem aby{b:fO}{v}(e:b.data= .cell v):¬ih b:=AL ⟨λ _ _=>.inl λ f=>(nomatch e.symm.trans f),.inl λ _ f=>(nomatch e.symm.trans f)⟩
theorem abA{i z}:¬ih {cls:=.type "list",data:=.seq i z}:=AL ⟨λ _ _=>.inr λ f=>absurd (Value.type.inj f) (by decide),.inl λ _ f=>(nomatch f)⟩
theorem abz{a d}:¬ih (nJ a d):=AL ⟨λ _ _=>.inr λ f=>(nomatch f),.inr λ f=>(nomatch f)⟩
theorem gB.objs{X:Prop}(x:gB c nm G h p o)(k:∀gd iZ,h.get? p.1=some gd→¬ih gd→h.get? p.2=some iZ→¬ih iZ→X):X:=by
 have one:p.2=p.1→∀b,h.get? p.1=some b→¬ih b→X:=λ q b e f=>k b b e f (q.symm▸e) f
 cases o with
 |li xs=>exact x.2.2.elim λ items hr=>hr.elim λ z hr=>one x.1 _ hr.1 abA
 |cq O=>exact x.2.elim λ cZ d=>d.1.elim λ o d=>d.elim λ jI d=>d.elim λ hK d=>one x.1 o d.1 (pv d.2.2.1)
 |ds O=>exact x.2.elim λ cZ d=>d.1.elim λ o d=>d.elim λ jI d=>d.elim λ hK d=>one x.1 o d.1 (pv d.2.2.1)
 |h8 O=>exact x.2.elim λ cZ d=>d.1.elim λ o d=>d.elim λ jI d=>d.elim λ hK d=>one x.1 o d.1 (pv d.2.2.1)
 |bF V aG=>exact x.2.2.2.elim λ O y=>y.elim λ z y=>y.elim λ m y=>k _ _ x.1 abz y.1 (pv rfl)
theorem gB.abv(x:gB c nm G h p o)(a:a8)(b:fO)(bO:a=p.1∨a=p.2)(e:h.get? a=some b):¬ih b:=
 x.objs λ _ _ au iq aB gC=>bO.elim (λ q=>ej (au.symm.trans (q▸e))▸iq) λ q=>ej (aB.symm.trans (q▸e))▸gC
theorem Inv.xJ(I:Inv c nm G n s)(e:(G:B (a8×a8))[z]? =some p):∃o,n[z]? =some o∧gB c nm G s.heap p o:=by
 have ax:=(jY.mp e).1
 have aH:z<n.length:=I.len▸ax
 exact⟨_,h1 aH,I.obj z p _ e (h1 aH)⟩
theorem Inv.K6(I:Inv c nm G n s){b:fO}(f:eF G a)(e:s.heap.get? a=some b):¬ih b:=by
 obtain⟨z,p,bM,bO⟩:=DM f
 obtain⟨o,_,x⟩:=I.xJ bM
 exact x.abv a b bO e
theorem gB.live(x:gB c nm G h p o):(∃b,h.get? p.1=some b)∧∃b,h.get? p.2=some b:=
 x.objs λ _ _ au _ aB _=>⟨⟨_,au⟩,⟨_,aB⟩⟩
theorem Inv.wV(I:Inv c nm G n s)(f:eF G a):∃b,s.heap.get? a=some b:=by
 obtain⟨z,p,bM,bO⟩:=DM f
 obtain⟨o,_,x⟩:=I.xJ bM
 rcases bO with rfl|rfl
 ·exact x.live.1
 ·exact x.live.2
theorem Inv.m'(I:Inv c nm G n s){H:dD}(x:cu (eF G) s.heap H):fV s.heap H:=λ b o e f=>x b o e λ q=>I.K6 q e f
theorem Inv.Ud(I:Inv c nm G n s){o:fO}(e:c.h₀.get? b=some o):¬eF G b:=λ f=>by rw[I.out b f]at e;cases e
theorem Inv.K(I:Inv c nm G n s)(k:c.K.In c.h₀):c.K.In s.heap:=k.keeps I.base
theorem Inv.change(I:Inv c nm G n s){H:dD}(x:cu X s.heap H)(iy:∀b,X b→¬eF G b)(kG:∀b,X b→c.h₀.get? b=none)
  (oi:∀b o,X b→s.heap.get? b=some o→¬ih o):Inv c nm G n {s with heap:=H,toks:=t} where
 base:=λ b o e=>x b o (I.base b o e) λ q=>by rw[kG b q]at e;cases e
 out:=I.out
 len:=I.len
 apart:=I.apart
 obj:=λ i p o au aB=>(I.obj i p o au aB).keep (.refl G) (λ b o e f=>x b o e λ q=>oi b o q e f)
  (λ b e=>x _ b e λ q=>iy _ q (lF au).1) (λ b e=>x _ b e λ q=>iy _ q (lF au).2)
 gens:=I.gens
 os:=I.os
 low:=I.low
 two:=I.two
theorem Inv.tok(I:Inv c nm G n s)(t:C):Inv c nm G n {s with toks:=t}:=⟨I.base,I.out,I.len,I.apart,I.obj,I.gens,I.os,I.low,I.two⟩
theorem Inv.more(I:Inv c nm G n s){H:dD}(x:cu (λ _=>False) s.heap H):Inv c nm G n {s with heap:=H,toks:=t}:=
 I.change x (λ _=>HB) (λ _=>HB) λ _ _ q=>q.elim
theorem Inv.store(I:Inv c nm G n s){H:dD}(bM:(G:B (a8×a8))[z]? =some p)(x:cu (λ b=>b=p.1∨b=p.2) s.heap H)(r:gB c nm G H p c3):
  Inv c nm G (n.set z c3) {s with heap:=H,toks:=t}:=by
 have P6:cu (eF G) s.heap H:=x.mono λ b az=>az.elim (λ e=>e▸(lF bM).1) λ e=>e▸(lF bM).2
 refine⟨λ b o e=>P6 b o (I.base b o e) (I.Ud e),I.out,I.len.trans (HX ..).symm,I.apart,λ i q o au aB=>?_,I.gens,I.os,I.low,I.two⟩
 by_cases ay:z=i
 ·have aB:=(an (λ k=>(n.set z c3)[k]?) ay).trans aB
  exact ej (bM.symm.trans (ay▸au))▸ej ((yE (jY.mp bM |>.1 |> λ h=>I.len▸h)).symm.trans aB)▸r
 ·have a:=I.apart i z q p au bM (H' ay)
  exact(I.obj i q o au ((tO ay).symm.trans aB)).keep (.refl G) (I.m' P6) (λ b e=>x _ b e λ L=>L.elim a.1 a.2.1) (λ b e=>x _ b e λ L=>L.elim a.2.2.1 a.2.2.2)
theorem Inv.ql(I:Inv c nm G n s){H:dD}(k:∀b o,s.heap.get? b=some o→H.get? b=some o):kY<H.objs.size:=by
 obtain⟨b,o,h,e⟩:=I.two
 exact fh h (mT (k _ _ (I.base _ _ e)))
theorem vC{α:Type}{l:B α}{p x:α}{k:C}{X:Prop}(h:(l++[p])[k]? =some x)(f:l[k]? =some x→X)(g:k=l.length→p=x→X):X:=
 (Ck k l.length).elim (λ q=>f ((qQ q).symm.trans h)) λ q=>by
  have e:=(yA q).symm.trans h
  have L:=(jY.mp e).1
  have L:k-l.length=0:=Nat.lt_one_iff.mp L
  exact g (Rk (Nat.sub_eq_zero_iff_le.mp L) q) (ej ((an (λ k=>[p][k]?) L).symm.trans e))
theorem Inv.adopt(I:Inv c nm G n s)(d':kY<p.1)(cO:kY<p.2)(gj:¬eF G p.1∧c.h₀.get? p.1=none)(fS:¬eF G p.2∧c.h₀.get? p.2=none)
  (r:gB c nm (G++[p]) s.heap p c3):Inv c nm (G++[p]) (n++[c3]) s:=by
 have old:∀{k:C} {w:a8×a8},G[k]? =some w→∀a,¬eF G a→w.1≠a∧w.2≠a:=λ e a bO=>⟨λ L=>bO (L▸(lF e).1),λ L=>bO (L▸(lF e).2)⟩
 refine⟨I.base,λ b f=>(uv f).elim (I.out b) λ e=>e.elim (λ e=>e▸gj.2) λ e=>e▸fS.2,(fg).trans ((an (· +1) I.len).trans (fg (as:=n) (bs:=[c3])).symm),λ i j u v au aB LI=>?_,λ i q o au aB=>?_,I.gens,I.os,
  λ b f=>(uv f).elim (I.low b) λ e=>e.elim (λ e=>e▸d') λ e=>e▸cO,I.two⟩
 ·exact vC au (λ g1=>vC aB (λ g2=>I.apart i j u v g1 g2 LI) λ _ w=>have a:=old g1 _ gj.1;have b:=old g1 _ fS.1;w▸⟨a.1,b.1,a.2,b.2⟩)
   λ c2 w=>vC aB (λ g2=>have a:=old g2 _ gj.1;have b:=old g2 _ fS.1;w▸⟨a.1.symm,a.2.symm,b.1.symm,b.2.symm⟩) λ dW _=>absurd (c2.trans dW.symm) LI
 ·exact vC au (λ g1=>vC aB (λ g2=>(I.obj i q o g1 g2).keep (g'.snoc G p) (λ _ _ e _=>e) (λ _ e=>e) (λ _ e=>e)) λ k _=>absurd (jY.mp g1).1 (r6.mpr (dg (I.len.trans k.symm))))
   λ c2 w=>vC aB (λ g2=>absurd (jY.mp g2).1 (r6.mpr (dg (I.len.symm.trans c2.symm)))) λ _ kP=>w▸kP▸r
theorem Inv.vd(I:Inv c nm G n s)(h:s.heap.get? a=none):¬eF G a∧c.h₀.get? a=none:=
 ⟨λ q=>(I.wV q).elim λ o e=>(nomatch h.symm.trans e),we.mpr λ o e=>nomatch h.symm.trans (I.base _ _ e)⟩
theorem Inv.alloc(I:Inv c nm G n s){H:dD}(x:cu (λ _=>False) s.heap H)(d':kY<p.1)(cO:kY<p.2)(gj:s.heap.get? p.1=none)(fS:s.heap.get? p.2=none)
  (r:gB c nm (G++[p]) H p c3):Inv c nm (G++[p]) (n++[c3]) {s with heap:=H,toks:=t}:=
 (I.more x).adopt d' cO (I.vd gj) (I.vd fS) r
theorem Step.alloc{H:dD}(x:cu (λ _=>False) s.heap H)(gj:s.heap.get? p.1=none)(fS:s.heap.get? p.2=none):Step G s (G++[p]) {s with heap:=H,toks:=t} where
 ext:=⟨g'.snoc G p,λ b f=>(uv f).imp id λ e=>e.elim (λ e=>e▸gj) λ e=>e▸fS⟩
 ch:=x.all
theorem Step.store{H:dD}(bM:(G:B (a8×a8))[z]? =some p)(x:cu (λ b=>b=p.1∨b=p.2) s.heap H):Step G s G {s with heap:=H,toks:=t}:=
 .ng (x.mono λ b az=>az.elim (λ e=>e▸(lF bM).1) λ e=>e▸(lF bM).2)
theorem Step.more{H:dD}(x:cu (λ _=>False) s.heap H):Step G s G {s with heap:=H,toks:=t}:=.ng x.all
theorem Step.f5(S:Step G s bv a9)(I:Inv c nm G n s){a:D}{v:aw}(x:bA c G s.heap a v):bA c bv a9.heap a v:=x.keep S.ext.1 (I.m' S.ch)
theorem Step.vO(S:Step G s bv a9)(I:Inv c nm G n s){a:B D}{v:B aw}(x:cs c G s.heap a v):cs c bv a9.heap a v:=x.keep S.ext.1 (I.m' S.ch)
end
noncomputable def sj(c:cV)(G:cA)(h:dD)(ai:eg)(m:aL→Y aw)(x:aL)(a:D):Prop:=
 ∃v,bA c G h a v∧(ai.kindOf x=some .local∧m x=some v∨(ai.kindOf x=some .cell∨ai.kindOf x=some .free)∧∃q,ai.cells.lookup x=some q∧h.IsCell q (some v))
noncomputable def e2(ai:eg)(b:a8):Prop:=b=ai.locals∨∃x,ai.cells.lookup x=some b
structure c9(c:cV)(aj:B (Y aL))(G:cA)(env:aX)(ai:eg)(h:dD)(m:aL→Y aw):Prop where
 kind:ai.scope.kind= .function
 rb:ai.globals=lx
 blt:ai.builtins=CH
 len:env.length=aj.length
 ns:h.Ns ai.locals m
 cells:∀x q,ai.cells.lookup x=some q→∃v,h.IsCell q v
 apart:∀x y q,ai.cells.lookup x=some q→ai.cells.lookup y=some q→x=y
 foot:∀b,e2 ai b→¬eF G b
 out:∀b,e2 ai b→c.h₀.get? b=none
 uniq:∀(i j:C) x,(aj:B (Y aL))[i]? =some (some x)→(aj:B (Y aL))[j]? =some (some x)→i=j
 has:∀x,ai.kindOf x=some .cell→(ai.cells.lookup x).isSome=true
 vars:∀(i:C) x a,(aj:B (Y aL))[i]? =some (some x)→(env:B (Y D))[i]? =some (some a)→sj c G h ai m x a
section
variable{c:cV}{nm:B (B C)}{G bv:cA}{n:St}{s a9:a2}{h H:dD}{aj:B (Y aL)}{env:aX}{ai:eg}{m:aL→Y aw}
theorem sj.keep{c0:aL→Y aw}{x:aL}{a:D}(v:sj c G h ai m x a)(l:g' G bv)(k:fV h H)(hm:∀v,m x=some v→c0 x=some v)(hc:∀q v,ai.cells.lookup x=some q→h.IsCell q v→H.IsCell q v):sj c bv H ai c0 x a:=
 v.imp λ u v=>⟨v.1.keep l k,v.2.imp (λ w=>⟨w.1,hm u w.2⟩) λ w=>⟨w.1,w.2.imp λ q w=>⟨w.1,hc q _ w.1 w.2⟩⟩⟩
theorem tL.ch(x:cu X h H)(z:¬X q){v:Y aw}(y:h.IsCell q v):H.IsCell q v:=y.imp λ _ d=>⟨x _ _ d.1 z,d.2⟩
theorem tV.ch(x:cu X h H)(z:¬X q){m:aL→Y aw}(y:h.Ns q m):H.Ns q m:=y.imp λ _ y=>y.imp λ _ y=>y.imp λ _ d=>⟨x _ _ d.1 z,d.2⟩
theorem e2.old(F:c9 c aj G env ai h m)(o:e2 ai b):∃x,h.get? b=some x∧¬ih x:=by
 exact o.elim (λ q=>F.ns.imp λ o y=>y.elim λ O y=>y.elim λ hK d=>⟨q▸d.1,pv d.2.1⟩) λ y=>y.elim λ x e=>(F.cells x b e).elim λ v y=>y.imp λ o d=>⟨d.1,aby d.2⟩
theorem c9.step(F:c9 c aj G env ai s.heap m)(I:Inv c nm G n s)(S:Step G s bv a9):c9 c aj bv env ai a9.heap m where
 kind:=F.kind
 rb:=F.rb
 blt:=F.blt
 len:=F.len
 ns:=tV.ch S.ch (F.foot _ (.inl rfl)) F.ns
 cells:=λ x q e=>(F.cells x q e).imp λ _=>tL.ch S.ch (F.foot _ (.inr ⟨x,e⟩))
 apart:=F.apart
 foot:=λ b o f=>(S.ext.2 b f).elim (F.foot b o) λ g=>(e2.old F o).elim λ _ e=>nomatch e.1.symm.trans g
 out:=F.out
 uniq:=F.uniq
 has:=F.has
 vars:=λ i x a ax aH=>(F.vars i x a ax aH).keep S.ext.1 (I.m' S.ch) (λ _=>id) λ q v e cP=>tL.ch S.ch (F.foot _ (.inr ⟨x,e⟩)) cP
end
end Mine
end
section
open PySem PySem.W PyProof.Rows
namespace Mine
variable{Q:dC}{a:D}{v:aw}{a9:a2}{i:am}{f:C→C→am}{b:am}{α:Type}{r:α}{ak:D→Prop}{u:aw}{op:iR}{z m:C}{xs:B D}
noncomputable def Back(c:cV)(nm:B (B C))(G:cA)(s:a2)(Q:dC)(v:aw)(a9:a2):Prop:=
 ∃a bv J,Q a J∧bA c bv a9.heap a v∧Inv c nm bv J a9∧Step G s bv a9
noncomputable def kS(c:cV)(nm:B (B C))(G:cA)(s:a2)(Q:av→St→Prop)(b:av)(a9:a2):Prop:=
 ∃bv J,Q b J∧Inv c nm bv J a9∧Step G s bv a9
noncomputable def vX(c:cV)(nm:B (B C))(G:cA)(s:a2)(Q:St→Prop)(_:p5)(a9:a2):Prop:=
 ∃bv J,Q J∧Inv c nm bv J a9∧Step G s bv a9
section
variable{c:cV}{nm:B (B C)}{G bQ:cA}{n:St}{s aJ:a2}
theorem Back.here(h:Q a n)(x:bA c G s.heap a v)(I:Inv c nm G n s)(t:C):Back c nm G s Q v {s with toks:=t}:=
 ⟨a,G,n,h,x,I.tok t,.ng (.refl _ _)⟩
theorem Back.after(S:Step G s bQ aJ)(b:Back c nm bQ aJ Q v a9):Back c nm G s Q v a9:=
 let⟨a,bv,J,h,x,I,fA⟩:=b;⟨a,bv,J,h,x,I,S.trans fA⟩
theorem kS.after{Q:av→St→Prop}{v:av}(S:Step G s bQ aJ)(b:kS c nm bQ aJ Q v a9):kS c nm G s Q v a9:=
 let⟨bv,J,h,I,fA⟩:=b;⟨bv,J,h,I,S.trans fA⟩
theorem Back.more{H:dD}{t:C}(h:Q a n)(I:Inv c nm G n s)(x:cu (λ _=>False) s.heap H)(r:bA c G H a v):Back c nm G s Q v {s with heap:=H,toks:=t}:=
 ⟨a,G,n,h,r,I.more x,.more x⟩
theorem aew(a b:B C):st a++st b=st (a++b):=by
 show RU _ _=_
 simp[RU,st]
theorem yd(a:B C):(st a).length=a.length:=by simp[st,PySem.Str.length]
theorem x1:room=1000000:=rfl
end
noncomputable def s':iR→yQ
 | .add=>.Add| .sub=>.Sub| .mul=>.Mult| .mod=>.Mod| .band=>.BitAnd| .bor=>.BitOr| .bxor=>.BitXor
theorem Go:small i=true↔ -(2:am)^62<i∧i< (2:am)^62:=by simp[small]
theorem Uo{a r:am}(h:sr f a b=some r):0≤a∧0≤b∧r=f a.toNat b.toNat:=by
 unfold sr at h
 split at h
 ·rename_i q;cases h;exact⟨q.1,q.2,rfl⟩
 ·cases h
theorem bitAnd_nn{a:am}(bO:0≤a)(az:0≤b):Builtin.bitAnd a b=((a.toNat&&& b.toNat:C):am):=by
 unfold Builtin.bitAnd;rw[iK bO,iK az]
theorem De(a:am):Builtin.bitNot a= -a-1:=by unfold Builtin.bitNot;omega
theorem Df{a:am}(bO:0≤a)(az:0≤b):Builtin.bitOr a b=((a.toNat|||b.toNat:C):am):=by
 unfold Builtin.bitOr Builtin.bitAnd
 have ax:¬0≤Builtin.bitNot a:=by rw[De];omega
 have aH:¬0≤Builtin.bitNot b:=by rw[De];omega
 rw[j2 ax,j2 aH]
 simp only[De]
 have e:∀x:am,- (-x-1)-1=x:=by intro x;omega
 rw[e,e,e]
theorem Up{a:am}(bO:0≤a)(az:0≤b):Builtin.bitXor a b=((a.toNat|||b.toNat:C):am)- ((a.toNat&&& b.toNat:C):am):=by
 unfold Builtin.bitXor;rw[Df bO az,bitAnd_nn bO az]
theorem aaT{a:am}(bO:small a=true):IntMulOk a b:=by
 rw[Go]at bO
 exact IntMulOk.of_left (intBits_le_64 (by omega) (by omega))
section
variable{c:cV}{nm:B (B C)}{G:cA}{n:St}{s:a2}{A:eB}{ab:aw→a2→Prop}
@[elab_as_elim] theorem Ez{f:am→Y α}(h:jN f a=some r)(k:∀i,f i=some r→ak (.ii i)):ak a:=by
 cases a<;>first|exact k _ h|exact nomatch h
@[elab_as_elim] theorem aem{f:B C→Y α}(h:ya f a=some r)(k:∀i,f i=some r→ak (.ss i)):ak a:=by
 cases a<;>first|exact k _ h|exact nomatch h
@[elab_as_elim] theorem mi{f:am→am→Y α}{b:D}{h:dD}{M:aw→aw→Prop}(e:kB f a b=some r)(x:bA c G h a v)(y:bA c G h b u)(k:∀i j t cB,f i j=some r→M (.int i t) (.int j cB)):M v u:=by
 revert x y
 exact Ez e λ i e=>Ez e λ j e ⟨t,x⟩ ⟨cB,y⟩=>x▸y▸k i j t cB e
theorem zn{j:am}{r:D}{M:Prop}(e:(sr f i j).map D.ii=some r)(k:0≤i→0≤j→r= .ii (f i.toNat j.toNat)→M):M:=by
 obtain⟨x,bC,rfl⟩:=l2.mp e
 obtain⟨ax,aH,rfl⟩:=Uo bC
 exact k ax aH rfl
theorem Uk{b r:D}(h:fF op a b=some r)(x:bA c G s.heap a v)(y:bA c G s.heap b u)(bz:Q r n)(I:Inv c nm G n s):
  bg (bc c.prog c.w) A (IY (s' op) v u) (Back c nm G s Q) ab s:=by
 cases op with
 |add=>
  have h:Jm a b=some r:=h
  cases b with
  |ii j=>
   obtain⟨cB,rfl⟩:=y
   revert x
   exact Ez h λ i h ⟨t,x⟩=>by cases x;cases h;exact add_int (Back.here bz ⟨_,rfl⟩ I _)
  |ss l=>
   obtain⟨cB,rfl⟩:=y
   revert x
   refine aem h λ i h ⟨t,x⟩=>x▸?_
   split at h
   ·rename_i q
    cases h
    refine add_str (λ cB ow=>?_) (by simp only[yd];rw[ly];omega)
    rw[aew]
    exact Back.here bz ⟨_,rfl⟩ I _
   ·cases h
  |_=>exact nomatch h
 |sub=>exact mi h x y λ i j t cB e=>by cases e;exact sub_int (Back.here bz ⟨_,rfl⟩ I _)
 |mul=>
  refine mi h x y λ i j t cB e=>?_
  unfold AE at e
  split at e
  ·rename_i q
   cases e
   rw[jW]at q
   exact mul_int (Back.here bz ⟨_,rfl⟩ I _) (aaT q.1)
  ·cases e
 |mod=>
  refine mi h x y λ i j t cB e=>?_
  split at e
  ·cases e
  ·rename_i q
   cases e
   exact mod_int q (Back.here bz ⟨_,rfl⟩ I _)
 |band=>exact mi h x y λ i j t cB e=>zn e λ ax aH e=>by cases e;exact and_int (Back.here bz ⟨_,an (qW · _) (bitAnd_nn ax aH)⟩ I _)
 |bor=>exact mi h x y λ i j t cB e=>zn e λ ax aH e=>by cases e;exact or_int (Back.here bz ⟨_,an (qW · _) (Df ax aH)⟩ I _)
 |bxor=>exact mi h x y λ i j t cB e=>zn e λ ax aH e=>by cases e;exact xor_int (Back.here bz ⟨_,an (qW · _) (Up ax aH)⟩ I _)
theorem Y0{b r:D}(h:kC op a b=some r)(x:bA c G s.heap a v)(y:bA c G s.heap b u)(bz:Q r n)(I:Inv c nm G n s):
  bg (bc c.prog c.w) A (inplaceOp (s' op) v u) (Back c nm G s Q) ab s:=by
 cases op with
 |add=>exact mi h x y λ i j t cB e=>by cases e;exact iadd_int (Back.here bz ⟨_,rfl⟩ I _)
 |sub=>exact mi h x y λ i j t cB e=>by cases e;exact isub_int (Back.here bz ⟨_,rfl⟩ I _)
 |bor=>exact mi h x y λ i j t cB e=>zn e λ ax aH e=>by cases e;exact ior_int (Back.here bz ⟨_,an (qW · _) (Df ax aH)⟩ I _)
 |_=>exact nomatch h
theorem Np(x:bA c G s.heap (.ii i) v)(bz:Q (.ii (-i)) n)(I:Inv c nm G n s):
  bg (bc c.prog c.w) A (unaryOp .USub v) (Back c nm G s Q) ab s:=by
 obtain⟨t,rfl⟩:=x
 exact neg_int (Back.here bz (by first|exact⟨_,rfl⟩|exact rfl|simp[bA]) I _)
noncomputable def eu(n:St):C→D→yR
 |_,.ii i=>.int i
 |_,.ss s=>.str (st s)
 |z+1,.tup l=>.tuple (l.map (eu n z))
 |z+1,.ref a=>match n[a]? with
  |some (.li xs)=>.list (xs.map (eu n z))
  |_=>.none
 |_,_=>.none
theorem NP{s:B C}(h:vf s=true):RR (st s)=true:=by
 unfold vf at h
 simp only[jW,g9,zB]at h
 unfold RR st
 rw[QO,g9]
 intro x aA
 have:=h.2 x aA
 exact iK (by omega)
theorem xL(h:eK n 0 a=true)(ay:∀i,ak (.ii i))(hs:∀s,vf s=true→ak (.ss s)):ak a:=by
 cases a<;>first|exact ay _|exact hs _ h|exact ju h
theorem NN{z m:C}{o:Y a0}(e:n[m]? =o):eK n (z+1) (.ref m)=(λ o:Y a0=>match o with|some (.li xs)=>xs.all (eK n z)|_=>false) o:=an (λ o:Y a0=>match o with|some (.li xs)=>xs.all (eK n z)|_=>false) e
theorem abU(h:eK n (z+1) (.ref m)=true):∃xs,n[m]? =some (.li xs)∧∀x∈xs,eK n z x=true:=by
 cases e:n[m]? with
 |none=>exact ju ((NN e).symm.trans h)
 |some o=>
  have h:=(NN e).symm.trans h
  cases o<;>first|exact⟨_,rfl,g9.mp h⟩|exact ju h
theorem s7(h:eK n (z+1) a=true)(ay:∀i,ak (.ii i))(hs:∀s,vf s=true→ak (.ss s))(bD:∀l,(∀x∈l,eK n z x=true)→ak (.tup l))(a4:∀m xs,n[m]? =some (.li xs)→(∀x∈xs,eK n z x=true)→ak (.ref m)):ak a:=by
 cases a<;>first|exact ay _|exact hs _ h|exact bD _ (g9.mp h)|exact(abU h).elim λ xs q=>a4 _ xs q.1 q.2|exact ju h
theorem AX(e:n[m]? =some (.li xs)):eu n (z+1) (.ref m)= .list (xs.map (eu n z)):=an (λ o:Y a0=>match o with|some (.li xs)=>PyData.list (xs.map (eu n z))|_=>.none) e
theorem vp(n:St)(z:C):∀a:D,eK n z a=true→(eu n z a).canLay0=true∧(eu n z a).depth≤z:=by
 induction z with
 |zero=>exact λ a h=>xL (ak:=λ a=>(eu n 0 a).canLay0=true∧(eu n 0 a).depth≤0) h (λ i=>⟨rfl,cJ _⟩) λ s h=>⟨NP h,cJ _⟩
 |succ z aZ=>
  exact λ a h=>s7 (ak:=λ a=>(eu n (z+1) a).canLay0=true∧(eu n (z+1) a).depth≤z+1) h (λ i=>⟨rfl,fs _⟩) (λ s h=>⟨NP h,fs _⟩) (λ l h=>have L:=wH l λ x aA=>aZ x (h x aA);⟨L.1,gp L.2⟩)
   λ m xs e h=>(an (λ p:yR=>p.canLay0=true∧p.depth≤z+1) (AX e)).mpr (have L:=wH xs λ x aA=>aZ x (h x aA);⟨L.1,gp L.2⟩)
theorem F3(aZ:∀(a:D) (v:aw),eK n z a=true→bA c G s.heap a v→∃as,tZ s.heap v (eu n z a) as)(l:B D):∀ar:B aw,(∀x∈l,eK n z x=true)→cs c G s.heap l ar→∃as,yS s.heap ar (l.map (eu n z)) as:=by
 induction l with
 |nil=>exact λ ar _ x=>x▸⟨_,.nil⟩
 |cons a r ihl=>exact λ ar h x=>x.elim λ v x=>x.elim λ f5 x=>(aZ a v (h a (.head _)) x.2.1).elim λ as fT=>(ihl f5 (λ y bI=>h y (.tail _ bI)) x.2.2).elim λ bs gO=>x.1▸⟨_,.cons fT gO⟩
theorem vu(I:Inv c nm G n s)(z:C):∀(a:D) (v:aw),eK n z a=true→bA c G s.heap a v→∃as,tZ s.heap v (eu n z a) as:=by
 induction z with
 |zero=>exact λ a v h=>xL (ak:=λ a=>bA c G s.heap a v→∃as,tZ s.heap v (eu n 0 a) as) h (λ i x=>x.elim λ t e=>e▸⟨_,.int _ _⟩) λ s _ x=>x.elim λ t e=>e▸⟨_,.str _ _⟩
 |succ z aZ=>
  refine λ a v h=>s7 (ak:=λ a=>bA c G s.heap a v→∃as,tZ s.heap v (eu n (z+1) a) as) h (λ i x=>x.elim λ t e=>e▸⟨_,.int _ _⟩) (λ s _ x=>x.elim λ t e=>e▸⟨_,.str _ _⟩) (λ l h x=>?_) λ m xs e h x=>?_
  ·obtain⟨a,items,rfl,⟨o,be,hc,k,a1⟩,a4⟩:=x
   exact(F3 aZ l _ h a4).elim λ as r=>⟨_,.tuple be hc a1 r⟩
  ·obtain⟨p,bM,rfl⟩:=x
   obtain⟨o,be,ee⟩:=I.xJ bM
   cases ej (e.symm.trans be)
   obtain⟨_,_,items,k,bC,a4⟩:=ee
   exact(F3 aZ xs _ h a4).elim λ as r=>AX e▸⟨_,.list bC rfl rfl r⟩
theorem O3(i j:B C):iG (.str (st i)) (.str (st j))=decide (i=j):=by
 rw[iG]
 by_cases q:i=j
 ·rw[q];simp
 ·have:st i≠st j:=λ e=>q (yc e)
  simp[q,this]
theorem L4(i j:am):iG (.int i) (.int j)=decide (i=j):=by
 rw[iG]
 by_cases q:i=j<;>simp[q]
theorem KS(aZ:∀(a b:D),eK n z a=true→eK n z b=true→iG (eu n z a) (eu n z b)=fH n z a b)(l:B D):
  ∀cf:B D,(∀x∈l,eK n z x=true)→(∀x∈cf,eK n z x=true)→IG (l.map (eu n z)) (cf.map (eu n z))=k4 (fH n z) l cf:=by
 induction l with
 |nil=>exact λ cf _ _=>match cf with
  | []=>rfl
  |_::_=>rfl
 |cons a r ihl=>exact λ cf h k=>match cf,k with
  | [],_=>rfl
  |b::t,k=>congr (an and (aZ a b (h a (.head _)) (k b (.head _)))) (ihl t (λ y bI=>h y (.tail _ bI)) λ y bI=>k y (.tail _ bI))
theorem VH{c0:C}{bf:B D}(e:n[m]? =some (.li xs))(bC:n[c0]? =some (.li bf)):fH n (z+1) (.ref m) (.ref c0)=k4 (fH n z) xs bf:=
 (an (λ o:Y a0=>match o,n[c0]? with|some (.li xs),some (.li bf)=>k4 (fH n z) xs bf|_,_=>false) e).trans (an (λ o:Y a0=>match some (a0.li xs),o with|some (.li xs),some (.li bf)=>k4 (fH n z) xs bf|_,_=>false) bC)
theorem FX(z:C):∀(a b:D),eK n z a=true→eK n z b=true→iG (eu n z a) (eu n z b)=fH n z a b:=by
 induction z with
 |zero=>exact λ a b h k=>xL (ak:=λ a=>iG (eu n 0 a) (eu n 0 b)=fH n 0 a b) h (λ i=>xL (ak:=λ b=>iG (.int i) (eu n 0 b)=fH n 0 (.ii i) b) k (λ j=>L4 i j) λ j _=>rfl) λ i _=>xL (ak:=λ b=>iG (.str (st i)) (eu n 0 b)=fH n 0 (.ss i) b) k (λ j=>rfl) λ j _=>O3 i j
 |succ z aZ=>
  have r:∀{x:yR} {m:C} {xs:B D} {b:av},n[m]? =some (.li xs)→iG x (.list (xs.map (eu n z)))=b→iG x (eu n (z+1) (.ref m))=b:=λ e h=>(an (iG _) (AX e)).trans h
  exact λ a b h k=>s7 (ak:=λ a=>iG (eu n (z+1) a) (eu n (z+1) b)=fH n (z+1) a b) h
   (λ i=>s7 (ak:=λ b=>iG (.int i) (eu n (z+1) b)=fH n (z+1) (.ii i) b) k (λ j=>L4 i j) (λ j _=>rfl) (λ l _=>rfl) λ m xs e _=>r e rfl)
   (λ i _=>s7 (ak:=λ b=>iG (.str (st i)) (eu n (z+1) b)=fH n (z+1) (.ss i) b) k (λ j=>rfl) (λ j _=>O3 i j) (λ l _=>rfl) λ m xs e _=>r e rfl)
   (λ l hl=>s7 (ak:=λ b=>iG (.tuple (l.map (eu n z))) (eu n (z+1) b)=fH n (z+1) (.tup l) b) k (λ j=>rfl) (λ j _=>rfl) (λ cf uI=>KS aZ l cf hl uI) λ m xs e _=>r e rfl)
   λ m xs e aA=>(an (iG · (eu n (z+1) b)) (AX e)).trans (s7 (ak:=λ b=>iG (.list (xs.map (eu n z))) (eu n (z+1) b)=fH n (z+1) (.ref m) b) k (λ j=>rfl) (λ j _=>rfl) (λ cf uI=>rfl) λ c0 bf bC bI=>r (x:=.list (xs.map (eu n z))) bC ((KS aZ xs bf aA bI).trans (VH e bC).symm))
theorem VG{b:D}{r:av}(cy:z≤20)(dS:A.units+100<kX)(h:m3 z n a b=some r)(x:bA c G s.heap a v)(y:bA c G s.heap b u)(bz:Q (.cj r) n)(I:Inv c nm G n s):
  bg (bc c.prog c.w) A (t5 .Eq v u) (Back c nm G s Q) ab s:=by
 unfold m3 at h
 split at h
 ·rename_i q
  cases h
  rw[jW]at q
  obtain⟨as,lO⟩:=vu I z a v q.1 x
  obtain⟨bs,F0⟩:=vu I z b u q.2 y
  have bO:=vp n z a q.1
  have az:=vp n z b q.2
  refine SeqAt.compareEq_reads lO F0 bO.1 az.1 (by omega) ?_
  rw[FX z a b q.1 q.2]
  exact⟨_,G,n,bz,by simp[bA],I,.refl _ _⟩
 ·cases h
theorem aa'{b:D}{r:av}(cy:z≤20)(dS:A.units+100<kX)(h:m3 z n a b=some r)(x:bA c G s.heap a v)(y:bA c G s.heap b u)(bz:Q (.cj (!r)) n)(I:Inv c nm G n s):
  bg (bc c.prog c.w) A (t5 .NotEq v u) (Back c nm G s Q) ab s:=by
 unfold m3 at h
 split at h
 ·rename_i q
  cases h
  rw[jW]at q
  obtain⟨as,lO⟩:=vu I z a v q.1 x
  obtain⟨bs,F0⟩:=vu I z b u q.2 y
  have bO:=vp n z a q.1
  have az:=vp n z b q.2
  refine SeqAt.compareNe_reads lO F0 bO.1 az.1 (by omega) ?_
  rw[FX z a b q.1 q.2]
  exact⟨_,G,n,bz,by simp[bA],I,.refl _ _⟩
 ·cases h
end
end Mine
end
section
open PySem PySem.W PyProof.Rows
namespace Mine
variable{b:D}{Q:dC}{a:D}{v:aw}{h:dD}{ak:aw→Prop}{z:C}{l:B D}{i:am}{α:Type}{f:am→Y aw}{r:av}{X:Prop}{k:D}{ar:B aw}{M:Prop}{u:aw}
noncomputable def Dr(K:kk)(V:a8):Bool:=
 plainGet K V (PySem.Str.mk #[])&&hasDictIn K V&&plainOver K V&&makesIn K V&&(oT K (.ref V) "__setattr__"==some (some (.builtin "object.__setattr__")))
structure jA(c:cV)(nm:B (B C)):Prop where
 K:c.K.In c.h₀
 lim:c.h₀.NoLimit
 cls:∀V,(c.P.i4 V).isSome=true→Dr c.K (c.ca V)=true
 fld:∀V f,c.P.fld V f=true→f<nm.length∧oT c.K (.ref (c.ca V)) (gJ nm f)=some none
 names:∀f g,f<nm.length→g<nm.length→gJ nm f=gJ nm g→f=g
section
variable{c:cV}{nm:B (B C)}{G:cA}{n:St}{s:a2}{A:eB}{ab:aw→a2→Prop}
theorem Inv.NB(I:Inv c nm G n s)(bL:jA c nm){b:a8}(f:eF G b):(b==kY)=false:=
 l'.mpr λ e=>absurd (I.low b f) (by rw[e];exact oP _)
theorem Back.now(h:Q a n)(x:bA c G s.heap a v)(I:Inv c nm G n s):Back c nm G s Q v s:=⟨a,G,n,h,x,I,.refl _ _⟩
theorem lm{b:av}:bA c G h (.cj b) (.bool b):=rfl
@[elab_as_elim] theorem lf(x:bA c G s.heap (.ref z) v)(I:Inv c nm G n s)(k:∀p o,(G:B (a8×a8))[z]? =some p→n[z]? =some o→gB c nm G s.heap p o→ak (.ref p.1)):ak v:=
 x.elim λ p x=>(I.xJ x.1).elim λ o y=>x.2▸k p o x.1 y.1 y.2
@[elab_as_elim] theorem to(x:bA c G h (.tup l) v)(k:∀a items,h.IsTuple a items→cs c G h l items.toList→items.size=l.length→ak (.ref a)):ak v:=
 x.elim λ a x=>x.elim λ items x=>x.1▸k a items x.2.1 x.2.2 (yt.symm.trans x.2.2.length)
@[elab_as_elim] theorem YN(x:bA c G h (.ii i) v)(k:∀t,ak (.int i t)):ak v:=x.elim λ t e=>e▸k t
@[elab_as_elim] theorem aeo{i:B C}(x:bA c G h (.ss i) v)(k:∀t,ak (.str (st i) t)):ak v:=x.elim λ t e=>e▸k t
@[elab_as_elim] theorem pi{f:am→Y α}{r:α}{ak:D→aw→Prop}(e:jN f a=some r)(x:bA c G h a v)(k:∀i t,f i=some r→ak (.ii i) (.int i t)):ak a v:=by
 cases a<;>first|exact x.elim λ t q=>q▸k _ t e|exact nomatch e
@[elab_as_elim] theorem O2{f:B C→Y α}{r:α}{ak:D→aw→Prop}(e:ya f a=some r)(x:bA c G h a v)(k:∀i t,f i=some r→ak (.ss i) (.str (st i) t)):ak a v:=by
 cases a<;>first|exact x.elim λ t q=>q▸k _ t e|exact nomatch e
theorem pn{p:a8×a8}{xs:B D}(x:gB c nm G h p (.li xs))(k:∀items z,h.get? p.1=some {cls:=.type "list",data:=.seq items z}→h.IsList p.1 items→cs c G h xs items.toList→items.size=xs.length→X):X:=
 x.2.2.elim λ items y=>y.elim λ z y=>k items z y.1 ⟨_,y.1,rfl,z,rfl⟩ y.2 (yt.symm.trans y.2.length)
theorem Na{a:a8}(I:Inv c nm G n s)(h:c.h₀.MapOf (gr c.prog c.w) a f):s.heap.MapOf (gr c.prog c.w) a f:=h.imp λ o h=>h.imp λ O h=>h.imp λ hK h=>⟨I.base _ _ h.1,h.2⟩
@[elab_as_elim] theorem Dm{O:B (am×am)}(x:bA c G s.heap (.cd O) v)(I:Inv c nm G n s)(k:∀a f,(a==kY)=false→s.heap.MapOf (gr c.prog c.w) a f→(∀k,ga (λ i v=>∃t,v= .int i t) (O.lookup k) (f k))→ak (.ref a)):ak v:=
 x.elim λ a x=>x.2.2.elim λ f y=>x.1▸k a f x.2.1 (Na I y.1) y.2
theorem Bo{a b:C}(h:a=b)(q:b≤room):(a:am)<2^63:=by
 have q:b≤1000000:=q
 omega
theorem Gz{a b:C}(h:a=b)(q:b≤room):a≤sizeLine:=by
 have q:b≤1000000:=q
 rw[ly];omega
theorem SV(n:St)(hk:eK n z k=true)(l:B D):l.all (eK n z)=true→((l.map (eu n z)).any λ y=>iG y (eu n z k))=l.any λ x=>fH n z x k:=by
 induction l with
 |nil=>exact λ _=>rfl
 |cons a r aZ=>exact λ h=>have h:=dI.mp h;congr (an or (FX z a k h.1 hk)) (aZ h.2)
theorem ac'(I:Inv c nm G n s)(h:l.all (eK n z)=true)(x:cs c G s.heap l ar):∃as,yS s.heap ar (l.map (eu n z)) as:=F3 (vu I z) l ar (g9.mp h) x
theorem lJ{p:Prop}{d:v1 p}{x r:α}(h:(if p then some x else none)=some r)(k:p→x=r→M):M:=
 r1 (λ q:p=>k q (ej ((if_pos q).symm.trans h))) λ q=>nomatch(if_neg q).symm.trans h
theorem L8(I:Inv c nm G n s)(h:xe n k l=some r)(x:bA c G s.heap k v)(a4:cs c G s.heap l ar)
  (g:∀as bs,yS s.heap ar (l.map (eu n 2)) as→tZ s.heap v (eu n 2 k) bs→RQ (l.map (eu n 2))=true→(eu n 2 k).canLay0=true→(eu n 2 k).depth≤2→((l.map (eu n 2)).any λ y=>iG y (eu n 2 k))=r→M):M:=
 lJ h λ q e=>have q:=dI.mp q;(ac' I q.1 a4).elim λ as fT=>(vu I 2 k v q.2 x).elim λ bs gO=>have L:=vp n 2 k q.2
  g as bs fT gO (wH (z:=2) l λ a bO=>vp n 2 a (g9.mp q.1 a bO)).1 L.1 L.2 ((SV n q.2 l q.1).trans e)
noncomputable def HF(c:cV)(nm:B (B C))(G:cA)(n:St)(s:a2)(A:eB)(ab:aw→a2→Prop)(Q:dC)(r:av)(v u:aw):Prop:=
 (Q (.cj r) n→bg (bc c.prog c.w) A (t5 .In v u) (Back c nm G s Q) ab s)∧(Q (.cj (!r)) n→bg (bc c.prog c.w) A (t5 .NotIn v u) (Back c nm G s Q) ab s)
theorem L7{a:a8}{t:iX}{b:av}(I:Inv c nm G n s)(hs:(a==kY)=false)(hm:s.heap.MapOf (gr c.prog c.w) a f)(e:(f i).isSome=b):HF c nm G n s A ab Q b (.int i t) (.ref a):=by
 subst e
 exact⟨λ bz=>wpAny_in_of (knd:=gr c.prog c.w) (k:=i) (p3 _ _ _ _) hs hm (Back.here bz lm I _),λ bz=>wpAny_notIn_of (knd:=gr c.prog c.w) (k:=i) (p3 _ _ _ _) hs hm (Back.here bz lm I _)⟩
noncomputable def L9(n:St)(k:D):Y a0→Y av
 |some (.li xs)=>xe n k xs
 |some (.cq O)=>jN (λ i=>some (O.lookup i).isSome) k
 |_=>none
theorem L'(bL:jA c nm)(dS:A.units+100<kX)(h:Ai n k a=some r)(x:bA c G s.heap k v)(y:bA c G s.heap a u)(I:Inv c nm G n s):HF c nm G n s A ab Q r v u:=by
 have b:∀{z:C},z≤2→A.units+z+20<cLine:=λ q=>cn (fz (ha (a' q (aE rfl)) 20 |> λ L=>a' L (aE rfl:2+20≤100)) A.units |> λ L=>(mP A.units _ 20).symm▸L) dS
 cases a with
 |tup l=>exact to y λ a items bD a4 _=>L8 I h x a4 λ as bs fT gO cz cD hk e=>bD.elim λ o t=>t.2.2.elim λ z a1=>e▸⟨λ bz=>SeqAt.in_tuple_reads (.tuple t.1 t.2.1 a1 fT) gO cz cD (by omega) (Back.now bz lm I),λ bz=>SeqAt.notIn_tuple_reads (.tuple t.1 t.2.1 a1 fT) gO cz cD (by omega) (Back.now bz lm I)⟩
 |cd O=>exact Dm y I λ a f hs hm hl=>pi h x λ i t h=>L7 I hs hm ((hl i).xh.trans (ej h))
 |ref z=>
  refine lf y I λ p o bM be ee=>?_
  have h:L9 n k (some o)=some r:=be▸(show L9 n k n[z]? =some r from h)
  cases o with
  |li xs=>exact pn ee λ items z au _ a4 _=>L8 I h x a4 λ as bs fT gO cz cD hk e=>e▸⟨λ bz=>SeqAt.in_list_reads (.list au rfl rfl fT) gO cz cD (by omega) (Back.now bz lm I),λ bz=>SeqAt.notIn_list_reads (.list au rfl rfl fT) gO cz cD (by omega) (Back.now bz lm I)⟩
  |cq O=>exact ee.2.elim λ cZ d=>pi h x λ i t h=>L7 I (I.NB bL (lF bM).1) d.1.mapOf (((fp.find (λ a b e=>e) i d.2).xh).trans (ej h))
  |_=>exact nomatch h
 |_=>exact nomatch h
noncomputable def Nr:Y a0→Y a0→Y av
 |some (.li xs),some (.li [])=>some (!xs.isEmpty)
 |_,_=>none
theorem abl{o c3:a0}(h:Nr (some o) (some c3)=some r)(k:∀xs,o= .li xs→c3= .li []→(!xs.isEmpty)=r→X):X:=by
 cases o with
 |li xs=>cases c3 with
  |li bf=>cases bf with
   |nil=>exact k _ rfl rfl (ej h)
   |cons _ _=>exact nomatch h
  |_=>exact nomatch h
 |_=>exact nomatch h
@[elab_as_elim] theorem abj{ak:D→D→Prop}(h:s0 n a b=some r)(k:∀m z,Nr n[m]? n[z]? =some r→ak (.ref m) (.ref z)):ak a b:=by
 cases a with
 |ref m=>cases b<;>first|exact k _ _ h|exact nomatch h
 |_=>exact nomatch h
theorem abk(dS:A.units+100<kX)(h:s0 n a b=some r)(x:bA c G s.heap a v)(y:bA c G s.heap b u)(bz:Q (.cj r) n)(I:Inv c nm G n s):
  bg (bc c.prog c.w) A (t5 .NotEq v u) (Back c nm G s Q) ab s:=by
 revert x y
 refine abj h λ m z h x y=>lf x I λ p o bM be ee=>lf y I λ f2 c3 rf lI Xf=>abl (be▸lI▸h) λ xs e bC g=>?_
 have ag1:A.units+10<cLine:=cn (fz (aE rfl) _) dS
 refine pn (e▸ee) λ items k _ dy _ eE=>pn (bC▸Xf) λ Ml ct _ eD _ jT=>?_
 have kG:Ml.size=0:=jT
 have hL:Back c nm G s Q (.bool r) s:=Back.now bz lm I
 cases xs with
 |nil=>
  have iy:items.size=0:=eE
  have ac8:=ags (A:=A) (e:=λ _=>true) dy eD (iy.trans kG.symm) (by omega) (λ j Zd=>absurd (iy▸Zd) (yM _))
  have gL:(!(ck items.size).all λ _=>true)=false:=iy▸rfl
  exact(gL▸ac8) c.prog c.w ab _ ((show r=false from g.symm)▸hL)
 |cons L bR=>
  have iy:items.size≠Ml.size:=λ q=>Nat.noConfusion (eE.symm.trans (q.trans kG))
  exact agt (A:=A) dy eD (p7.mpr iy) (by omega) c.prog c.w ab _ ((show r=true from g.symm)▸hL)
noncomputable def Dt:je→CmpOp
 | .eq=>.Eq| .ne=>.NotEq| .lt=>.Lt| .le=>.LtE| .gt=>.Gt| .ge=>.GtE| .is=>.Is| .pj=>.In| .mx=>.NotIn
noncomputable def Fg(o e:Y av):Y Bool:=match o with
 |some r=>some r
 |none=>e.map (!·)
theorem Ko{op:je}(bL:jA c nm)(dS:A.units+200<kX)(h:cY op a b n=some r)(x:bA c G s.heap a v)(y:bA c G s.heap b u)(bz:Q (.cj r) n)(I:Inv c nm G n s):
  bg (bc c.prog c.w) A (t5 (Dt op) v u) (Back c nm G s Q) ab s:=by
 cases op with
 |eq=>exact VG (by decide:4≤20) (by omega) h x y bz I
 |ne=>
  have h:Fg (s0 n a b) (m3 4 n a b)=some r:=h
  cases q:s0 n a b with
  |none=>exact(l2.mp (show(m3 4 n a b).map (!·)=some r from(an (λ o=>Fg o (m3 4 n a b)) q).symm.trans h)).elim λ bw e=>aa' (by decide:4≤20) (by omega) e.1 x y (e.2.symm▸bz) I
  |some bw=>exact abk (by omega) q x y ((ej ((an (λ o=>Fg o (m3 4 n a b)) q).symm.trans h):bw=r)▸bz) I
 |pj=>exact(L' bL (by omega) h x y I).1 bz
 |mx=>exact(l2.mp h).elim λ bw e=>(L' bL (by omega) e.1 x y I).2 (e.2.symm▸bz)
 |is=>
  have h:Me a b=some r:=h
  cases b with
  |nn=>
   have e:u= .none:=y
   subst e
   cases a with
   |nn=>cases x;cases h;exact is_none (Back.now bz lm I)
   |tup l=>exact to x λ a items _ _ _=>by cases h;exact is_none (Back.now bz lm I)
   |ref z=>exact lf x I λ p o _ _ _=>by cases h;exact is_none (Back.now bz lm I)
   |_=>exact nomatch h
  |_=>exact nomatch h
 |lt=>exact mi h x y λ i j t cB e=>by cases e;exact lt_int (Back.now bz lm I)
 |le=>exact mi h x y λ i j t cB e=>by cases e;exact le_int (Back.now bz lm I)
 |gt=>exact mi h x y λ i j t cB e=>by cases e;exact gt_int (Back.now bz lm I)
 |ge=>exact mi h x y λ i j t cB e=>by cases e;exact ge_int (Back.now bz lm I)
noncomputable def Px:Y a0→Y av
 |some (.li xs)=>some (!xs.isEmpty)
 |_=>none
theorem GH{Q:av→St→Prop}(h:ic n a=some r)(x:bA c G s.heap a v)(bz:Q r n)(I:Inv c nm G n s):
  bg (bc c.prog c.w) A (y1 v) (kS c nm G s Q) ab s:=by
 cases a with
 |cj b=>exact(show v= .bool b from x)▸Sh ⟨G,n,(ej h:b=r)▸bz,I,.refl _ _⟩
 |ii i=>exact YN x λ t=>truthy_int ⟨G,n,(show(i != 0)=r from(decide_not (p:=i=0)).symm.trans (ej h))▸bz,I,.refl _ _⟩
 |ref z=>
  refine lf x I λ p o bM be ee=>?_
  have h:Px (some o)=some r:=be▸(show Px n[z]? =some r from h)
  cases o with
  |li xs=>exact pn ee λ items k _ hl _ hs=>wpAny_truthy_list hl (Bo hs ee.2.1) ⟨G,n,(show(!items.isEmpty)=r from(an (λ z=>!decide (z=0)) hs).trans ((by cases xs<;>rfl:(!decide (xs.length=0))= !xs.isEmpty).trans (ej h)))▸bz,I.tok _,.ng (.refl _ _)⟩
  |_=>exact nomatch h
 |_=>exact nomatch h
end
end Mine
end
section
open PySem PySem.W PyProof.Rows
namespace Mine
variable{h H:dD}{i:am}{z:C}{xs:B D}{r:D}{l:B D}{a:D}{items:gR aw}{t:C}{Q:dC}{k:C}{v:aw}{ar:B aw}{aI:dD}{dQ:a8}{gn:iX}
theorem cu.of_keep(k:∀b o,h.get? b=some o→H.get? b=some o):cu (λ _=>False) h H:=λ b o e _=>k b o e
theorem OQ(ec:0≤i)(ax:i<z):wp i z=some i.toNat:=by
 unfold wp
 simp only[show¬i<0 from by omega,Ex]
 rw[if_pos (by simp only[jW,zB];omega)]
theorem adT(ec:i<0)(ax:0≤i+z):wp i z=some (i+z).toNat:=by
 unfold wp
 simp only[ec,if_true]
 rw[if_pos (by simp only[jW,zB];omega)]
section
variable{c:cV}{nm:B (B C)}{G:cA}{n:St}{s:a2}{A:eB}{ab:aw→a2→Prop}
theorem rp(I:Inv c nm G n s){p:a8×a8}(bM:(G:B (a8×a8))[z]? =some p)(e:n[z]? =some (.li xs)):
  xs.length≤1000000∧p.2=p.1∧∃items k,s.heap.get? p.1=some {cls:=.type "list",data:=.seq items k}∧s.heap.IsList p.1 items∧cs c G s.heap xs items.toList∧items.size=xs.length:=
 have x:=I.obj z p _ bM e
 ⟨x.2.1,x.1,pn x λ items k a b d g=>⟨items,k,a,b,d,g⟩⟩
theorem zx{p:Prop}{d:v1 p}{α:Type}{x:Y α}{r:α}{M:Prop}(h:(if p then x else none)=some r)(k:p→x=some r→M):M:=
 r1 (λ q:p=>k q ((if_pos q).symm.trans h)) λ q=>nomatch(if_neg q).symm.trans h
theorem zV(h:n2 l i=some a):(-(l.length:am)≤i∧i<l.length)∧∃j,wp i l.length=some j∧l[j]? =some a∧j=(if i<0 then i+l.length else i).toNat:=by
 unfold n2 at h
 by_cases q:0≤i
 ·have h:=(if_pos q).symm.trans h
  have n5:=(jY.mp h).1
  exact⟨⟨by omega,by omega⟩,i.toNat,OQ q (by omega),h,by rw[if_neg (by omega)]⟩
 ·refine zx ((if_neg q).symm.trans h) λ cO h=>?_
  have n5:=(jY.mp h).1
  exact⟨⟨by omega,by omega⟩,(i+l.length).toNat,adT (by omega) cO,h,by rw[if_pos (by omega)]⟩
theorem aag{O:B (am×D)}{cZ:B (am×aw)}{R:D→aw→Prop}(r:fp id R O cZ)(e:O.lookup i=some a):∃v,valueAt cZ i=some v∧R a v:=(r.find (λ _ _=>id) i).at e
theorem ahh{m:C}(h:z=m)(q:m≤room):(z:am)<2^63:=Bo h q
theorem YF{a:a8}{t:iX}(I:Inv c nm G n s)(hl:s.heap.IsList a items)(a4:cs c G s.heap l items.toList)(hs:items.size=l.length)(a3:l.length≤room)(h:n2 l i=some r)(bz:Q r n):
  bg (bc c.prog c.w) A (t6 (.ref a) (.int i t)) (Back c nm G s Q) ab s:=by
 have a3:l.length≤1000000:=a3
 refine(zV h).2.elim λ j g=>(a4.get g.2.1).elim λ w cS=>?_
 have b:=(zV h).1
 have w':items[j]? =some w:=vW.symm.trans cS.1
 have zG:=g.2.2
 by_cases ec:i<0
 ·rw[if_pos ec]at zG
  exact wpAny_getItem_list_neg hl ec (by omega) (by omega) (x:=w) (hs.symm▸zG▸w') (Back.now bz cS.2 I)
 ·rw[if_neg ec]at zG
  exact wpAny_getItem_list hl (by omega) (by omega) (x:=w) (zG▸w') (Back.now bz cS.2 I)
theorem L2{k:D}{u:aw}(h:dd n a k=some r)(x:bA c G s.heap a v)(y:bA c G s.heap k u)(bz:Q r n)(I:Inv c nm G n s):
  bg (bc c.prog c.w) A (t6 v u) (Back c nm G s Q) ab s:=by
 cases a with
 |tup l=>
  refine to x λ a items bD a4 hs=>pi h y λ i t h=>zx h λ a3 h=>(zV h).2.elim λ j g=>(a4.get g.2.1).elim λ w cS=>?_
  have b:=(zV h).1
  have a3:l.length≤1000000:=a3
  exact getItem_tuple (t:=a) (items:=items) (j:=j) bD (by omega) (by omega) (hs.symm▸g.1) (vW.symm.trans cS.1) (Back.now bz cS.2 I)
 |ss l=>
  refine aeo x λ t=>pi h y λ i cB h=>zx h λ a3 h=>(l2.mp h).elim λ Du hc=>?_
  have Lz:l[i.toNat]? =some Du:=(if_pos a3.2).symm.trans hc.1
  have n5:=(jY.mp Lz).1
  have uO:l.length≤1000000:=a3.1
  have uP:=a3.2
  refine PySem.P.getItem_str (c:=Du) ?_ ((an (λ o=>o.bind λ j=>(st l).cps[j]?) (OQ a3.2 (by rw[yd];omega):wp i (st l).length=some i.toNat)).trans (HT.trans Lz)) (Back.here (a:=.ss [Du]) (hc.2.symm▸bz) ⟨_,rfl⟩ I _)
  simp only[Qp,decide_eq_false_iff_not];omega
 |cd O=>exact Dm x I λ a f _ hm hl=>pi h y λ i t h=>(l2.mp h).elim λ j bt=>((hl i).at bt.1).elim λ v cP=>cP.2.elim λ cB e=>I' (knd:=gr c.prog c.w) (k:=i) (p3 _ _ _ _) hm (cP.1.trans (an some e)) (Back.here (a:=.ii j) (bt.2.symm▸bz) ⟨_,rfl⟩ I _)
 |ref z=>
  refine lf x I λ p o bM be ee=>?_
  have h:ri k (some o)=some r:=be▸(show ri k n[z]? =some r from h)
  cases o with
  |li xs=>exact pn ee λ items z _ hl a4 hs=>pi h y λ i t h=>YF I hl a4 hs ee.2.1 h bz
  |ds O=>exact ee.2.elim λ cZ d=>O2 h y λ i t h=>((d.2.find (λ _ _=>yc) i).at h).elim λ w cS=>I' (knd:=strKind c.prog c.w) (k:=st i) (I4 c.prog c.w _ _) d.1.mapOf cS.1 (Back.here bz cS.2 I _)
  |cq O=>exact ee.2.elim λ cZ d=>pi h y λ i t h=>(aag d.2 h).elim λ w cS=>I' (knd:=gr c.prog c.w) (k:=i) (p3 _ _ _ _) d.1.mapOf cS.1 (Back.here bz cS.2 I _)
  |_=>exact nomatch h
 |_=>exact nomatch h
noncomputable def MT:Y a0→Y am
 |some (.li xs)=>some xs.length
 |_=>none
theorem ZQ{z:am}(h:k' n a=some z)(x:bA c G s.heap a v)(bz:Q (.ii z) n)(I:Inv c nm G n s):
  bg (bc c.prog c.w) A (call (.builtin "len") [v]) (Back c nm G s Q) ab s:=by
 have b:∀{k l:C} {t u:C},k=l→(l:am)=z→Back c nm G s Q (.int (k:am) t) {s with toks:=u}:=λ e q=>Back.here bz ⟨_,an (qW · _) ((an Int.ofNat e).trans q)⟩ I _
 cases a with
 |tup l=>exact zx h λ a3 h=>to x λ a items bD _ hs=>agq bD (Bo hs a3) (b hs (ej h))
 |ref m=>
  refine lf x I λ p o bM be ee=>?_
  have h:MT (some o)=some z:=be▸(show MT n[m]? =some z from h)
  cases o with
  |li xs=>exact pn ee λ items k _ hl _ hs=>agp hl (Bo hs ee.2.1) (b hs (ej h))
  |_=>exact nomatch h
 |_=>exact nomatch h
theorem Nq(I:Inv c nm G n s)(x:cu (λ _=>False) s.heap H)(r:cs c G s.heap l ar)(bz:Q (.tup l) n):
  Back c nm G s Q (.ref H.objs.size) {s with heap:=H.push {cls:=.type "tuple",data:=.seq ar.toArray k},toks:=t}:=
 have hr:cu (λ _=>False) s.heap (H.push {cls:=.type "tuple",data:=.seq ar.toArray k}):=x.trans (cu.push _ _)
 Back.more bz I hr ⟨_,_,rfl,⟨_,nI _ rfl,rfl,k,rfl⟩,r.keep (.refl G) λ b o e _=>hr b o e id⟩
theorem afn(h:n[z]? =some (.li xs))(x:bA c G s.heap (.ref z) v)(bz:Q (.tup xs) n)(I:Inv c nm G n s):
  bg (bc c.prog c.w) A (call (.type "tuple") [v]) (Back c nm G s Q) ab s:=
 lf x I λ p o bM be ee=>pn (ej (be.symm.trans h)▸ee) λ items d9 _ hl a4 hs=>call_tuple_list hl (λ H k=>Nq (ar:=items.toList) I (cu.of_keep k) a4 bz) (Gz hs (ej (be.symm.trans h)▸ee).2.1)
theorem afo(x:bA c G s.heap (.tup l) v)(bz:Q (.tup l) n)(I:Inv c nm G n s):
  bg (bc c.prog c.w) A (call (.type "tuple") [v]) (Back c nm G s Q) ab s:=
 to (ak:=λ v=>bA c G s.heap (.tup l) v→bg (bc c.prog c.w) A (call (.type "tuple") [v]) (Back c nm G s Q) ab s) x (λ a items bD _ _ x=>call_tuple_same bD (Back.now bz x I)) x
theorem AI(I:Inv c nm G n s)(x:cu (λ _=>False) s.heap H)(r:cs c G s.heap l ar)(L:l.length≤room)(bz:Q (.ref n.length) (n++[.li l]))
  (cl:s.heap.get? H.objs.size=none):Back c nm G s Q (.ref H.objs.size) {s with heap:=H.push {cls:=.type "list",data:=.seq ar.toArray k},toks:=t}:=
 have hr:cu (λ _=>False) s.heap (H.push {cls:=.type "list",data:=.seq ar.toArray k}):=x.trans (cu.push _ _)
 have w:=I.ql λ b o e=>x b o e id
 ⟨.ref n.length,G++[(H.objs.size,H.objs.size)],n++[.li l],bz,⟨(H.objs.size,H.objs.size),I.len▸HR,rfl⟩,
  I.alloc hr w w cl cl (show gB c nm _ _ _ (.li l)from⟨rfl,L,_,k,nI _ rfl,r.keep (g'.snoc _ _) λ b o e _=>hr b o e id⟩),.alloc hr cl cl⟩
theorem nZ(k:∀b o,h.get? b=some o→H.get? b=some o):h.get? H.objs.size=none:=
 we.mpr λ o e=>absurd (mT (k _ _ e)) (oP _)
theorem aea{rS vP ar:aw}{lo ay ea:Y am}{bf:B D}(h:n[z]? =some (.li xs))(x:bA c G s.heap (.ref z) v)(lN:wh rS lo)(FW:wh vP ay)(cp:wh ar ea)(ec:ea≠some 0)
  (bI:∀items:gR aw,cs c G s.heap xs items.toList→cs c G s.heap bf (sb items lo ay ea).toList)(a3:bf.length≤xs.length)
  (bz:Q (.ref n.length) (n++[.li bf]))(I:Inv c nm G n s)(hs:aI.IsSliceOf dQ rS vP ar)(k:∀b o,s.heap.get? b=some o→aI.get? b=some o):
  bg (bc c.prog c.w) A (t6 v (.ref dQ)) (Back c nm G s Q) ab {s with heap:=aI,toks:=t}:=by
 exact lf x I λ p o bM be ee=>have ee:=ej (be.symm.trans h)▸ee;pn ee λ items d9 au hl a4 jL=>Sb (s:={s with heap:=aI,toks:=t}) (hl:=⟨_,k _ _ au,rfl,d9,rfl⟩) hs lN FW cp ec
  (AI (H:=aI) (ar:=(sb items lo ay ea).toList) I (cu.of_keep k) (bI items a4) (a' a3 ee.2.1) bz (nZ k)) (Gz jL ee.2.1)
theorem pick_from{z:am}(cy:0≤z)(r:cs c G s.heap xs items.toList):cs c G s.heap (xs.drop z.toNat) (sb items (some z) none none).toList:=by
 obtain⟨k,rfl⟩:=B0 cy
 rw[slicePick_from']
 simpa using r.drop k
theorem N0{z:am}(cy:0≤z)(r:cs c G s.heap xs items.toList):cs c G s.heap (xs.take z.toNat) (sb items none (some z) none).toList:=by
 obtain⟨k,rfl⟩:=B0 cy
 rw[slicePick_upto']
 simpa using r.take k
theorem acD(r:cs c G s.heap xs items.toList):cs c G s.heap xs.reverse (sb items none none (some (-1))).toList:=by
 rw[krv_pick]
 simpa using r.reverse
theorem acE{l:B C}{z:am}(cy:0≤z):∃m,I3 (st l) none (some (z,gn)) none=(ck m).map (0+·)∧l.take m=l.take z.toNat:=by
 obtain⟨k,rfl⟩:=B0 cy
 have e:(st l).length=l.length:=yd l
 rcases Nat.le_total k l.length with q|q
 ·exact⟨k,(RV _ _).trans (RW (a:=0) (fs _) (e.symm▸q)),rfl⟩
 ·exact⟨l.length,((sliceIdx_hi_beyond _ (QL.mpr (e.symm▸q))).trans (RV _ _)).trans ((RW (a:=0) (fs _) (cJ _)).trans (e▸rfl)),(Q').trans (Ra q).symm⟩
theorem aeV{l:B C}{t:iX}{z:am}(cy:0≤z)(hl:l.length≤1000)(bz:Q (.ss (l.take z.toNat)) n)(I:Inv c nm G n s)(hs:aI.IsSliceOf dQ .none (.int z gn) .none)
  (k:∀b o,s.heap.get? b=some o→aI.get? b=some o){cB:C}:bg (bc c.prog c.w) A (t6 (.str (st l) t) (.ref dQ)) (Back c nm G s Q) ab {s with heap:=aI,toks:=cB}:=by
 refine wpAny_getItem_str_slice (s:={s with heap:=aI,toks:=cB}) (l:=none) (u:=some (z,gn)) (st:=none) hs rfl ?_
 obtain⟨m,dj,hm⟩:=acE (l:=l) (gn:=gn) cy
 have hL:∀(x:aL) (eN:iX) (dW:C),x=st (l.take z.toNat)→Back c nm G s Q (.str x eN) {s with heap:=aI,toks:=dW}:=λ x eN dW e=>Back.more bz I (cu.of_keep k) ⟨_,an (Value.str · _) e⟩
 have cl:(⟨((I3 (st l) none (some (z,gn)) none).filterMap ((st l).cps[·]?)).toArray⟩:aL)=st (l.take z.toNat):=an (λ l:B C=>(⟨l.toArray⟩:aL)) ((an (QU _) dj).trans ((pick_run l.toArray 0 m).trans hm))
 unfold sliceMade
 by_cases q:(((none:Y (am×iX)).map (·.1)).getD 1==1&&(I3 (st l) none (some (z,gn)) none).length==(st l).length)=true
 ·rw[if_pos q]
  have e:m=l.length:=(by rw[dj,cG,gA,yd]at q;exact eq_of_beq (dI.mp q).2)
  exact hL _ _ _ (an st ((Q').symm.trans (e▸hm)))
 ·rw[if_neg q]
  exact⟨by rw[cl,yd,ly,HY];omega,hL _ _ _ cl⟩
end
end Mine
end
section
open PySem PySem.W PyProof.Rows
namespace Mine
variable{a:D}{v:aw}{h:dD}{O:B mS}{z:C}{m:aL→Y aw}{x:aL}{p:a8×a8}{V:C}{aG:B (C×D)}{r:D}{f:C}{Q:dC}{R:D→aw→Prop}{dm:Type}{ct q k:dm}{H:dD}{u:aw}{J:St}{xs:B (gS×a8×aw)}{w:aw}
section
variable{c:cV}{nm:B (B C)}{G:cA}{n:St}{s:a2}{A:eB}{ab:aw→a2→Prop}
theorem bA.handed(x:bA c G h a v):handedIn v=true:=by
 cases a with
 |nn=>exact(show v=_ from x)▸rfl
 |cj b=>exact(show v=_ from x)▸rfl
 |ii _=>exact x.elim λ _ e=>e▸rfl
 |ss _=>exact x.elim λ _ e=>e▸rfl
 |tup _=>exact x.elim λ _ x=>x.elim λ _ e=>e.1▸rfl
 |ew _ _=>exact x.elim λ _ x=>x.elim λ _ x=>x.elim λ _ x=>x.elim λ _ e=>e.1▸rfl
 |cd _=>exact x.elim λ _ e=>e.1▸rfl
 |ref _=>exact x.elim λ _ e=>e.2▸rfl
 |fu _=>exact x.elim λ _ e=>e.1▸rfl
theorem Ny(g:∀e∈O,∃k t,e.key= .str k t):O.any (·.refKey)=false:=
 QP.mpr λ e b3=>(g e b3).elim λ k q=>q.elim λ t q=>by rw[DictEntry.refKey,q];exact mL
theorem Fv{a:a8}(be:h.get? a=some (p1 O z))(N:h.Ns a m):getL x O=some (m x)∧∀e∈O,∃k t,e.key= .str k t:=by
 obtain⟨o,jI,hK,lI,a1,hk,hm⟩:=N
 cases ej (be.symm.trans lI)
 cases a1
 have g:∀e∈O,∃k t,e.key= .str k t:=λ e b3=>hk e (Qg.mp b3)
 refine⟨?_,g⟩
 rw[←hm x]
 unfold getL nsFind CJ
 rw[←Qe]
 cases cl:O.find? (·.key.isStr x)with
 |some e=>rfl
 |none=>exact(an (λ b:av=>if b=true then(none:Y (Y aw))else some none) (Ny g)).trans rfl
structure Cs(c:cV)(nm:B (B C))(G:cA)(h:dD)(p:a8×a8)(V:C)(aG:B (C×D))(O:B mS)(z:C)(m:aL→Y aw):Prop where
 inst:InstAt h p.1 (nJ (c.ca V) p.2) (c.ca V) (some (p1 O z))
 i4:(c.P.i4 V).isSome=true
 fld:∀f a,aG.lookup f=some a→c.P.fld V f=true
 at2:h.get? p.2=some (p1 O z)
 size:O.length≤aG.length
 ns:h.Ns p.2 m
 wX:v3 nm (bA c G h) aG m
theorem FD{X:Prop}(x:gB c nm G h p (.bF V aG))(k:∀O z m,Cs c nm G h p V aG O z m→X):X:=
 x.2.2.2.elim λ O y=>y.elim λ z y=>y.elim λ m y=>k O z m ⟨⟨x.1,rfl,rfl,y.1⟩,x.2.1,x.2.2.1,y.1,y.2.1,y.2.2.1,y.2.2.2⟩
theorem wL{K:kk}{V:a8}(h:Dr K V=true):(∀x,plainGet K V x=true)∧hasDictIn K V=true∧plainOver K V=true∧makesIn K V=true∧oT K (.ref V) "__setattr__"=some (some (.builtin "object.__setattr__")):=
 have h:=dI.mp h;have gg:=dI.mp h.1;have cI:=dI.mp gg.1;have aH:=dI.mp cI.1
 ⟨λ _=>aH.1,aH.2,cI.2,gg.2,eq_of_beq h.2⟩
theorem JH{b:av}(bL:jA c nm)(h:d7 n a f=some r)(x:bA c G s.heap a v)(bz:Q r n)(I:Inv c nm G n s):
  bg (bc c.prog c.w) A (getAttr v (gJ nm f) b) (Back c nm G s Q) ab s:=by
 cases a with
 |ref z=>
  refine lf x I λ p o bM be ee=>?_
  have h:so f (some o)=some r:=be▸(show so f n[z]? =some r from h)
  cases o with
  |bF V aG=>
   refine FD ee λ O k m al=>?_
   have cl:=bL.fld V f (al.fld f r h)
   have e4:=wL (bL.cls V al.i4)
   exact((al.wX f cl.1).at h).elim λ v cP=>get_value (I.K bL.K) al.inst (IV (e4.1 (gJ nm f))).1 (findObj_own e4.2.1 cl.2 rfl ((lookIn_dict _ _ _).trans ((Fv al.at2 al.ns).1.trans (an some cP.1)))) cP.2.handed (Back.here bz cP.2 I _)
  |_=>exact nomatch h
 |_=>exact nomatch h
theorem acO(name:aL)(w8:am)(ix v:aw)(O:B mS):(putL name w8 ix v O).length≤O.length+1∧(O.any (·.key.isStr name)=true→(putL name w8 ix v O).length=O.length):=by
 induction O with
 |nil=>exact⟨cJ _,λ h=>nomatch h⟩
 |cons e r aZ=>
  unfold putL
  by_cases q:e.key.isStr name=true
  ·rw[if_pos q];exact⟨h4 _,λ _=>rfl⟩
  ·rw[if_neg q];exact⟨gp aZ.1,λ h=>an l1 (aZ.2 ((BW.mp h).resolve_left q))⟩
theorem acP{a:a8}{w8:am}{t:iX}(be:h.get? a=some (p1 O z))(N:h.Ns a m):
  (h.update a (IF x w8 (.str x t) v)).Ns a (λ y=>if y=x then some v else m y):=by
 obtain⟨o,jI,hK,lI,a1,hk,hm⟩:=N
 rw[be]at lI;cases lI
 cases a1
 cases ay:O.toArray.findIdx? (·.key.isStr x)with
 |some i=>
  refine⟨_,_,z,IC _ be (by simp only[CC,CB,ay];rfl),by simp only[CC,CB,ay];rfl,hk.modify _ _,λ y=>?_⟩
  show _=if y=x then some v else m y
  rw[←hm];exact findBy_modify (λ z v=>v.isStr z) Value.isStr_inj O.toArray x y v i ay
 |none=>
  refine⟨_,_,z+1,IC _ be (by simp only[CC,CB,ay];rfl),by simp only[CC,CB,ay];rfl,hk.push _ _ _ _,λ y=>?_⟩
  show _=if y=x then some v else m y
  rw[←hm]
  exact findBy_push (λ z v=>v.isStr z) O.toArray x y _ _ v (λ L=>by
   show(x==L)=decide (L=x)
   by_cases h:L=x
   ·subst h;simp
   ·have:¬x=L:=λ e=>h e.symm
    simp[h,this]) ay
theorem ab5{ow:iX}{R:yT→a2→Prop}(bL:jA c nm)(X:c.K.In s.heap)(al:Cs c nm G s.heap p V aG O z m)
  (aA:oT c.K (.ref (c.ca V)) x=some none)(a3:O.length≤1000)
  (h:∀H jI qq,tX p.2 s.heap H→H.get? p.2=some (p1 jI qq)→H.Ns p.2 (λ y=>if y=x then some v else m y)→jI.length≤O.length+1→((m x).isSome=true→jI.length=O.length)→
   R (.ok (.ret .none)) {s with heap:=H,toks:=s.toks+1}):
  t4 (bc c.prog c.w) A (.call (.builtin "object.__setattr__") ⟨[.ref p.1,.str x ow,v],[]⟩) R s:=by
 have e4:=wL (bL.cls V al.i4)
 refine osa_open X al.inst e4.2.2.1 (r:=none) (by unfold takerIn;rw[aA];rfl) λ b=>?_
 obtain⟨cd,hc,gv⟩:=any_some e4.2.1
 have ag:=al.at2
 obtain⟨sO,agX,cy,-⟩:=al.inst
 obtain⟨g1,g2⟩:=Fv (x:=x) ag al.ns
 have Sr:=IB s.heap p.2 (IF x (wi c.w.params x) (.str x s.toks) v)
 have Jj:(s.heap.update p.2 (IF x (wi c.w.params x) (.str x s.toks) v)).get? p.2=some (p1 (putL x (wi c.w.params x) (.str x s.toks) v O) (putN x O z)):=by
  rw[←putName_dict]
  exact IC _ ag (by rw[putName_dict];rfl)
 have Ss:=acP (x:=x) (w8:=wi c.w.params x) (t:=s.toks) (v:=v) ag al.ns
 have ae:=acO x (wi c.w.params x) (.str x s.toks) v O
 refine cK (eG (cK (cK (Sf sO (cK ((looks_clsIn X hc).here ?_))))))
 rw[gv]
 refine eG (a:=some p.2) (cK (eG (cK ?_)))
 unfold nsSet
 refine cK (cK (wpAny_askSetting (eG (cK (wpAny_mkText (cK (Sf ag ?_)))))))
 dsimp only
 have Lx:O.any (·.refKey)=false:=Ny g2
 have ui:(!O.toArray.any (·.key.isStr x)&&O.toArray.any (·.refKey))=false:=by
  rw[←Qd,←Qd,Lx,Qm]
 rw[aRefKeyMayBeTheName_at,ui]
 refine wpAny_updatePart ag ?_
 refine cK (wpAny_lookBehind Jj (pastItsLine_dict (by rw[yJ,ly];omega)) ?_)
 refine eG (h _ _ _ Sr Jj Ss ae.1 λ hm=>ae.2 (Bool.not_eq_false _▸λ q=>?_))
 have L:getL x O=some none:=by
  unfold getL
  rw[List.find?_eq_none.mpr (QP.mp q),Lx];rfl
 exact nomatch(an pX (ej (g1.symm.trans L))).symm.trans hm
theorem rq[ny dm][oK dm]{r:B (dm×D)}(h:ct≠q):((q,a)::r).lookup ct=r.lookup ct:=by rw[l0,l'.mpr h]
theorem u2[ny dm][oK dm]{r:B (dm×D)}(h:ct=q):((q,a)::r).lookup ct=some a:=h▸HZ
theorem acM[ny dm][oK dm][jv dm]{O:B (dm×D)}{v:D}:(c7 O k v).lookup k=some v:=by
 have map:(O.lookup k).isSome=true→(O.map λ e=>if e.1==k then(e.1,v)else e).lookup k=some v:=by
  induction O with
  |nil=>exact λ h=>nomatch h
  |cons e r aZ=>
   intro h
   rw[oL]
   by_cases q:k=e.1
   ·rw[if_pos (jj.mpr q.symm)];exact u2 q
   ·rw[if_neg λ L=>q (eq_of_beq L).symm];exact(rq q).trans (aZ ((an pX (rq (a:=e.2) q)).symm.trans h))
 unfold c7
 by_cases h:(O.lookup k).isSome=true
 ·rw[if_pos h];exact map h
 ·rw[if_neg h,yH,Option.not_isSome_iff_eq_none.mp h];exact u2 rfl
theorem N7[ny dm][oK dm][jv dm]{O:B (dm×D)}{v:D}(hk:ct≠k):(c7 O k v).lookup ct=O.lookup ct:=by
 have map:(O.map λ e=>if e.1==k then(e.1,v)else e).lookup ct=O.lookup ct:=by
  induction O with
  |nil=>rfl
  |cons e r aZ=>
   rw[oL]
   by_cases q:ct=e.1
   ·rw[if_neg λ L=>hk (q.trans (eq_of_beq L))];exact(u2 (a:=e.2) q).trans (u2 q).symm
   ·exact(An (P:=λ x (_:p5)=>(x::r.map λ e=>if e.1==k then(e.1,v)else e).lookup ct=(r.map λ e=>if e.1==k then(e.1,v)else e).lookup ct) (u:=()) (v:=()) (rq q) (rq (a:=e.2) q)).trans (aZ.trans (rq (a:=e.2) q).symm)
 unfold c7
 by_cases h:(O.lookup k).isSome=true
 ·rw[if_pos h];exact map
 ·rw[if_neg h,yH];exact(an (Option.or _) (rq (r:=[]) hk)).trans Rz
theorem acN[ny dm](O:B (dm×D))(k:dm)(v:D):(c7 O k v).length=if(O.lookup k).isSome=true then O.length else O.length+1:=by
 unfold c7
 exact An (P:=λ(l:B (dm×D)) z=>l.length=z) (cG _) (fg)
noncomputable def OJ(P:iV)(n:St)(z f:C)(x:D):Y a0→Y St
 |some (.bF c aG)=>if P.fld c f=true∧aG.length<200 then some (n.set z (.bF c (c7 aG f x)))else none
 |_=>none
theorem abO{jI:B mS}{qq:C}{x:D}(bL:jA c nm)(al:Cs c nm G h p V aG O z m)(cr:c.P.fld V f=true)(qB:bA c G h x u)(d8:fV h H)(au:H.get? p.1=some (nJ (c.ca V) p.2))
  (j5:H.get? p.2=some (p1 jI qq))(uL:H.Ns p.2 (λ y=>if y=gJ nm f then some u else m y))(dy:jI.length≤O.length+1)(eD:(m (gJ nm f)).isSome=true→jI.length=O.length):gB c nm G H p (.bF V (c7 aG f x)):=by
 refine⟨au,al.i4,λ g b i0=>r1 (λ q:g=f=>q▸cr) λ q=>al.fld g b ((N7 q).symm.trans i0),jI,qq,_,j5,?_,uL,λ g i0=>r1 (λ q:g=f=>?_) λ q=>?_⟩
 ·rw[acN]
  by_cases q:(aG.lookup f).isSome=true
  ·rw[if_pos q,eD ((al.wX f (bL.fld V f cr).1).xh.trans q)];exact al.size
  ·rw[if_neg q];exact a' dy (gp al.size)
 ·subst q
  exact acM (O:=aG)▸⟨u,if_pos rfl,qB.keep (.refl G) d8⟩
 ·rw[N7 q,if_neg λ e=>q (bL.names g f i0 (bL.fld V f cr).1 e)]
  exact(al.wX g i0).mono λ _ _ y=>y.keep (.refl G) d8
theorem xT{c3:a0}{t:C}{Q:St→Prop}(I:Inv c nm G n s)(bM:(G:B (a8×a8))[z]? =some p)(nw:cu (λ b=>b=p.1∨b=p.2) s.heap H)(r:fV s.heap H→gB c nm G H p c3)(bz:Q (n.set z c3)):vX c nm G s Q () {s with heap:=H,toks:=t}:=
 ⟨G,_,bz,I.store bM nw (r (I.m' (nw.mono λ b az=>az.elim (λ e=>e▸(lF bM).1) λ e=>e▸(lF bM).2))),.store bM nw⟩
theorem OS{x:D}{Q:St→Prop}(bL:jA c nm)(h:lg c.P n a f x=some J)(lO:bA c G s.heap a v)(qB:bA c G s.heap x u)(bz:Q J)(I:Inv c nm G n s):
  bg (bc c.prog c.w) A (setAttr v (gJ nm f) u) (vX c nm G s Q) ab s:=by
 cases a with
 |ref z=>
  refine lf lO I λ p o bM be ee=>?_
  have h:OJ c.P n z f x (some o)=some J:=be▸(show OJ c.P n z f x n[z]? =some J from h)
  cases o with
  |bF V aG=>
   refine lJ h λ a3 e=>FD ee λ O k m al=>?_
   have X:=I.K bL.K
   refine set_plain X al.inst (wL (bL.cls V al.i4)).2.2.2.2 (ab5 (s:={s with toks:=s.toks+1}) (G:=G) (aG:=aG) (O:=O) (z:=k) (m:=m) bL X ⟨al.inst,al.i4,al.fld,al.at2,al.size,al.ns,al.wX⟩ (bL.fld V f a3.1).2 (a' al.size (a' (h3 a3.2) (aE rfl))) λ H jI qq hs j5 uL XT XU=>?_)
   have X8:p.1≠p.2:=λ q=>nomatch an (λ o:Y fO=>o.map (·.cls)) ((q▸al.inst.at_).symm.trans al.at2)
   exact xT I bM (λ b o e z=>(hs.2 b λ q=>z (.inr q)).trans e) (λ d8=>abO bL al a3.1 qB d8 ((hs.2 _ X8).trans al.inst.at_) j5 uL XT XU) (e.symm▸bz)
  |_=>exact nomatch h
 |_=>exact nomatch h
theorem Be(I:Inv c nm G n s)(bM:(G:B (a8×a8))[z]? =some p)(hs:tX p.1 s.heap H):cu (λ b=>b=p.1∨b=p.2) s.heap H∧fV s.heap H:=by
 have nw:cu (λ b=>b=p.1∨b=p.2) s.heap H:=λ b o e z=>(hs.2 b λ q=>z (.inl q)).trans e
 exact⟨nw,I.m' (nw.mono λ b az=>az.elim (λ e=>e▸(lF bM).1) λ e=>e▸(lF bM).2)⟩
theorem l6.find(k:gS){O:B (gS×D)}(h:l6 c R O xs):ga (λ a (v:a8×aw)=>R a v.2) (O.lookup k) (atKey xs k):=have:=At;fp.find (λ _ _=>id) k h
theorem aeQ{O:B (gS×D)}{k:gS}{b:a8}(x:R a v)(h:l6 c R O xs):l6 c R (c7 O k a) (storedH xs k b v):=by
 have:=At
 unfold c7 storedH
 rw[(h.find k).xh]
 exact An (P:=λ a b=>l6 c R a b) (fp.upd (f:=id) (λ _ _=>id) k (w:=λ b=>(b.1,v)) (λ _=>x) h) (fp.snoc (f:=id) (R:=λ a (v:a8×aw)=>R a v.2) x h)
theorem l6.length{O:B (gS×D)}(h:l6 c R O xs):xs.length=O.length:=fp.length h
theorem afd(l:B D):∀{is:B am} {ar:B aw},vJ l=some is→cs c G s.heap l ar→ItemsAre (gr c.prog c.w) is ar:=by
 induction l with
 |nil=>exact λ h x=>(show _=[]from x)▸ej h▸.nil
 |cons a r aZ=>
  refine λ h x=>x.elim λ v x=>x.elim λ f5 x=>?_
  cases a with
  |ii i=>exact(l2.mp h).elim λ is e=>x.2.1.elim λ t q=>x.1▸e.2▸q▸.cons (p3 _ _ _ _) (aZ e.1 x.2.2)
  |_=>exact nomatch h
theorem afe(l:B D):∀{k:gS} {ar:B aw},vK l=some k→cs c G s.heap l ar→l3 c.prog c.w s.heap k ar:=by
 induction l with
 |nil=>exact λ h x=>ej h▸x
 |cons a r aZ=>
  refine λ h x=>x.elim λ v x=>x.elim λ f5 x=>?_
  cases a with
  |ii i=>exact(l2.mp h).elim λ is e=>e.2▸⟨v,f5,x.1,x.2.1,aZ e.1 x.2.2⟩
  |tup l=>exact(yN.mp h).elim λ is g=>(l2.mp g.2).elim λ k e=>e.2▸⟨v,f5,x.1,to x.2.1 λ a items t a4 _=>⟨a,rfl,t.imp λ o t=>⟨items,t.2.2.imp λ z d=>⟨t.1,t.2.1,d,afd l g.1 a4⟩⟩⟩,aZ e.1 x.2.2⟩
  |_=>exact nomatch h
@[elab_as_elim] theorem MI{ak:aw→Prop}{k:gS}(h:Bt a=some k)(x:bA c G s.heap a v)(g:∀b,lW c.prog c.w s.heap k b→ak (.ref b)):ak v:=by
 cases a with
 |tup l=>exact to x λ a items bD a4 _=>g a ⟨items,bD,afe l h a4⟩
 |_=>exact nomatch h
theorem Bp{m:C}(h:z=m)(q:m<room):z≤sizeLine:=Gz h (h3 q)
theorem OR{k:D}{Q:St→Prop}(dS:A.units+200<kX)(h:Gk n z k a=some J)(F7:bA c G s.heap (.ref z) v)(hV:bA c G s.heap k u)(lO:bA c G s.heap a w)(bz:Q J)(I:Inv c nm G n s):
  bg (bc c.prog c.w) A (setItem v u w) (vX c nm G s Q) ab s:=by
 refine lf F7 I λ p o bM be ee=>?_
 have h:rK n z k a (some o)=some J:=be▸(show rK n z k a n[z]? =some J from h)
 have m:∀{H},fV s.heap H→∀a v,bA c G s.heap a v→bA c G H a v:=λ d8 a v=>bA.keep (.refl G) d8
 cases o with
 |ds O=>exact ee.2.elim λ cZ d=>O2 h hV λ ss t h=>lJ h λ a3 e=>Sg (knd:=strKind c.prog c.w) (k:=st ss) (I4 c.prog c.w _ _) d.1 (λ H gv hs=>xT I bM (Be I bM hs).1 (λ d8=>(show gB c nm G H p (.ds (c7 O ss a))from⟨ee.1,_,gv,fp.mono (m d8) (fp.put (λ _ _=>yc) ss lO d.2)⟩)) (e.symm▸bz)) (Bp d.2.length a3)
 |cq O=>exact ee.2.elim λ cZ d=>pi h hV λ i t h=>lJ h λ a3 e=>Sg (knd:=gr c.prog c.w) (k:=i) (p3 _ _ _ _) d.1 (λ H gv hs=>xT I bM (Be I bM hs).1 (λ d8=>(show gB c nm G H p (.cq (c7 O i a))from⟨ee.1,_,gv,fp.mono (m d8) (fp.put (f:=id) (λ _ _=>id) i lO d.2)⟩)) (e.symm▸bz)) (Bp d.2.length a3)
 |h8 O=>exact ee.2.elim λ xs d=>(yN.mp h).elim λ d9 g=>lJ g.2 λ a3 e=>MI g.1 hV λ b az=>wpAny_setItem_heap (knd:=Aq c.prog c.w) (k:=d9) (show A.units+1+8<kX from cn (fz (aE rfl:9≤200) _) dS) az d.1 (λ H gv hs=>xT I bM (Be I bM hs).1 (λ d8=>(show gB c nm G H p (.h8 (c7 O d9 a))from⟨ee.1,_,gv,l6.mono (m d8) (aeQ lO d.2)⟩)) (e.symm▸bz)) (Bp d.2.length a3)
 |_=>exact nomatch h
theorem WT{k d:D}(bL:jA c nm)(dS:A.units+200<kX)(h:uD n a k d=some r)(lO:bA c G s.heap a v)(hV:bA c G s.heap k u)(F1:bA c G s.heap d w)(bz:Q r n)(I:Inv c nm G n s):
  bg (bc c.prog c.w) A (call (.builtin "dict.get") [v,u,w]) (Back c nm G s Q) ab s:=by
 have hL:∀{b:a8} {i:am} {t:iX} {f:am→Y aw},(b==kY)=false→s.heap.MapOf (gr c.prog c.w) b f→bA c G s.heap r ((f i).getD w)→bg (bc c.prog c.w) A (call (.builtin "dict.get") [.ref b,.int i t,w]) (Back c nm G s Q) ab s:=λ hs hm a4=>
  call_meetsIn Iw hm.typeIs RI (RG _ _ _) (meets_dict_get_default (gr c.prog c.w) _ (p3 _ _ _ _) hs w) ⟨_,hm,Back.here bz a4 I _⟩
 cases a with
 |cd O=>exact Dm lO I λ a f hs hm hl=>pi h hV λ i t h=>hL hs hm (ej h▸ga.getD (ga.map (R:=bA c G s.heap) (hl i)) F1)
 |ref z=>
  refine lf lO I λ p o bM be ee=>?_
  have h:w0 k d (some o)=some r:=be▸(show w0 k d n[z]? =some r from h)
  have ns:=I.NB bL (lF bM).1
  cases o with
  |cq O=>exact ee.2.elim λ cZ g=>pi h hV λ i t h=>hL ns g.1.mapOf (ej h▸ga.getD (fp.find (λ _ _=>id) i g.2) F1)
  |h8 O=>exact ee.2.elim λ xs g=>(yN.mp h).elim λ d9 q=>MI q.1 hV λ b az=>call_meetsIn Iw g.1.typeIs RI (RG _ _ _) (meetsH_dict_get_default (Aq c.prog c.w) p.1 b ns w) ⟨cn (fz (aE rfl:9≤200) A.units) dS,d9,xs,az,g.1,Back.here bz (ej q.2▸ga.getD (ga.mapR (g:=λ v:a8×aw=>v.2) (g.2.find d9)) F1) I _⟩
  |_=>exact nomatch h
 |_=>exact nomatch h
theorem SY{xs:B D}(h:n[z]? =some (.li xs))(a3:xs.length<room)(F7:bA c G s.heap (.ref z) v)(lO:bA c G s.heap a u)(bz:Q .nn (n.set z (.li (xs++[a]))))(I:Inv c nm G n s):
  bg (bc c.prog c.w) A (call (.builtin "list.append") [v,u]) (Back c nm G s Q) ab s:=by
 refine lf F7 I λ p o bM be ee=>?_
 have ee:gB c nm G s.heap p (.li xs):=ej (be.symm.trans h)▸ee
 refine pn ee λ items k au _ a4 hs=>append_at au (λ H z9 j5=>?_) (Bp hs a3)
 have b:vX c nm G s (λ J=>Q .nn J) () {s with heap:=H,toks:=s.toks}:=xT I bM (Be I bM z9).1 (λ d8=>(show gB c nm G H p (.li (xs++[a]))from⟨ee.1,fg▸a3,_,k+1,j5,Hp.symm▸cs.append (a4.keep (.refl G) d8) (cs.cons (lO.keep (.refl G) d8) cs.nil)⟩)) bz
 exact b.elim λ bv b=>b.elim λ J b=>⟨.nn,bv,J,b.1,rfl,b.2⟩
end
end Mine
end
section
open PySem PySem.W PyProof.Rows
namespace Mine
variable{h:dD}{a:D}{v:aw}{z:C}{ar:B aw}{xs:B D}
section
variable{c:cV}{nm:B (B C)}{G:cA}{n:St}{s:a2}{A:eB}{ab:aw→a2→Prop}
theorem ME{α:Type}{cmp:C→C→(av→a2→Prop)→a2→Prop}{f:C→C→av}{z:C}{Q:α→a2→Prop}(hc:∀i j V,i<z→j<z→V (f i j) s→cmp i j V s):
  ∀{t:IT α} {p:α},oa f z t=some p→Q p s→t.kasWp cmp Q s
 | .ret a,p,h,q=>by
  simp only[oa]at h
  cases h;exact q
 | .ask i j k,p,h,q=>by
  simp only[oa]at h
  split at h
  ·rename_i az
   exact hc i j _ az.1 az.2 (ME hc h q)
  ·cases h
noncomputable def r9(h:dD)(v:aw)(a b:am):Prop:=∃x t u,v= .ref x∧h.IsTuple x #[.int a t,.int b u]
theorem Y4(bO:m8 a=true)(x:bA c G h a v):∃m z,a= .tup [.ii m,.ii z]∧r9 h v m z:=by
 unfold m8 at bO
 split at bO
 ·rename_i m z
  simp only[bA,cs]at x
  obtain⟨y,items,rfl,bD,PQ,fT,au,⟨t,rfl⟩,PR,gO,rfl,⟨u,rfl⟩,rfl⟩:=x
  refine⟨m,z,rfl,y,t,u,rfl,?_⟩
  have:items= #[.int m t,.int z u]:=by
   apply BS.mp
   rw[au]
  rw[←this];exact bD
 ·cases bO
theorem ack{u:aw}{a b x y:am}{Q:av→a2→Prop}(p:r9 s.heap v a b)(q:r9 s.heap u x y)(h:Q (decide (a<x)||(decide (a=x)&&decide (b<y))) s):
  bg (bc c.prog c.w) A (keyLt' (tuples' true) v u) Q ab s:=by
 obtain⟨i,t,cB,rfl,o,be,_,z,a1⟩:=p
 obtain⟨j,w,vQ,rfl,c3,lI,_,qq,gv⟩:=q
 refine kat_lt be a1 lI gv ?_
 show KatLex _ _ _ _ _ _ [(.int a t,.int x w),(.int b cB,.int y vQ)] 0 s
 refine kat_cons (R' ?_)
 by_cases e:a=x
 ·subst e
  rw[lD]
  refine kat_yes (kat_cons (R' ?_))
  simp only[Int.lt_irrefl,decide_false,Qn,decide_true,Bool.true_and]at h
  by_cases e:b=y
  ·subst e
   rw[lD]
   refine kat_yes (kat_nil ?_)
   simpa using h
  ·rw[l'.mpr e]
   refine kat_no (kat_one _ _ (lt_int ?_))
   exact h
 ·rw[l'.mpr e]
  refine kat_no ?_
  simp only[j2 e,Bool.false_and,Bool.or_false]at h
  exact oneLt_int h
theorem aec{ak:Model}(rc:ak=bc c.prog c.w){a:a8}{cp:B (am×am)}{p:gR C}{P:Fin→a2→Prop}(be:s.heap.get? a=some (iW "list" ar.toArray z))(Lr:ar.length<64)
  (bM:∀(i:C),i<ar.length→r9 s.heap (ar.getD i .none) (cp.getD i (0,0)).1 (cp.getD i (0,0)).2)
  (a4:ar.length<2∧p=(ck ar.length).toArray∨oa (λ i j=>let x:=cp.getD i (0,0);let y:=cp.getD j (0,0);decide (x.1<y.1)||(decide (x.1=y.1)&&decide (x.2<y.2))) ar.length (CF ar.length)=some p∧2≤ar.length)
  (h:∀H k,(∀b o,b≠a→s.heap.get? b=some o→H.get? b=some o)→H.get? a=some (iW "list" (p.toList.map λ i=>ar.getD i .none).toArray k)→P (.done (.ret .none)) {s with heap:=H}):
  bg ak A (Builtin.«list.sort» ⟨[.ref a],[]⟩) P ab s:=by
 subst rc
 have bO:a<s.heap.objs.size:=mT be
 have eE:=IB s.heap a (mU λ _=>(#[]:gR aw))
 obtain⟨au,w5⟩:∃au,(s.heap.update a (mU λ _=>(#[]:gR aw))).get? a=some (iW "list" #[] au):=⟨_,RC be λ _=>#[]⟩
 rw[list_sort_plain]
 refine cK (listItems_at be rfl ?_)
 refine cK (Ib be rfl ?_ (by rw[yJ,ly];omega) (fs _))
 refine cK (Ic w5 rfl ?_)
 refine cK (wpAny_newTuple ?_ (by show ar.length≤_;rw[ly];omega))
 refine cK (Jb ?_ (fs _))
 refine se ?_
 have keep:∀b o,b≠a→s.heap.get? b=some o→(((s.heap.update a (mU λ _=>(#[]:gR aw))).push (iW "tuple" ar.toArray 0)).push (iW "list" #[] 0)).get? b=some o:=λ b o az e=>
  ls _ (ls _ ((eE.2 b az).trans e))
 have uc:(((s.heap.update a (mU λ _=>(#[]:gR aw))).push (iW "tuple" ar.toArray 0)).push (iW "list" #[] 0)).get? a=some (iW "list" #[] au):=ls _ (ls _ w5)
 show bg (bc c.prog c.w) A _ P ab {s with heap:=((s.heap.update a (mU λ _=>(#[]:gR aw))).push (iW "tuple" ar.toArray 0)).push (iW "list" #[] 0)}
 dsimp only
 generalize((s.heap.update a (mU λ _=>(#[]:gR aw))).push (iW "tuple" ar.toArray 0)).push (iW "list" #[] 0)=ax at keep uc
 have hL:∀out:gR aw,out=(p.toList.map λ i=>ar.getD i .none).toArray→P (.done (.ret .none)) {s with heap:=ax.update a (mU λ _=>out)}:=λ out uq=>by
  have jT:=IB ax a (mU λ _=>out)
  obtain⟨cD,Xw⟩:∃cD,(ax.update a (mU λ _=>out)).get? a=some (iW "list" out cD):=⟨_,RC uc λ _=>out⟩
  exact h _ cD (λ b o az e=>(jT.2 b az).trans (keep b o az e)) (by rw[←uq];exact Xw)
 have FO:∀(i:C),i<ar.length→r9 ax (ar.getD i .none) (cp.getD i (0,0)).1 (cp.getD i (0,0)).2:=λ i ay=>by
  obtain⟨x,t,u,e,o,lI,hc,a1⟩:=bM i ay
  refine⟨x,t,u,e,o,keep x o (λ q=>?_) lI,hc,a1⟩
  rw[q,be]at lI
  cases lI
  exact absurd (show CD "list"=CD "tuple" from hc) (by decide)
 rcases a4 with⟨aH,hpe⟩| ⟨sK,aH⟩
 ·have w4:ar.toArray.size<2:=by rw[yJ];omega
  rw[if_pos w4,if_pos w4]
  refine cK (eG ?_)
  rw[StateT.run_pure]
  refine cK (eG ?_)
  dsimp only
  refine cK (Ic uc rfl ?_)
  refine cK (Ib uc rfl ?_ (hsz2:=by rw[Array.size_map];show(pairsOf ar).size≤_;rw[pairsOf_size,ly];omega))
  simp only[JY,Hr,Ex]
  refine eG (hL _ ?_)
  refine kat_snds rfl (st:=SortSt.mk' general' (ar.toArray.zip ar.toArray) #[] 7 none) ?_
  have e:=kas_range (ar.toArray.zip ar.toArray)
  rw[show(ar.toArray.zip ar.toArray).size=ar.length by simp]at e
  rw[hpe,e]
 ·have w4:¬ar.toArray.size<2:=by rw[yJ];omega
  rw[if_neg w4,if_neg w4]
  have Wr:∃aG,KatTups ax ar aG∧0<aG.length∧∀v∈aG,∃i t,v= .int i t:=by
   have:∀(df:B aw),(∀u∈df,∃i j,r9 ax u i j)→∃aG,KatTups ax df aG∧aG.length=df.length∧∀v∈aG,∃i t,v= .int i t:=by
    intro df
    induction df with
    |nil=>intro _;exact⟨[],.nil,rfl,λ _ h=>by cases h⟩
    |cons u df aZ=>
     intro dS
     obtain⟨aG,er,eN,hq⟩:=aZ λ v cP=>dS v (.tail _ cP)
     obtain⟨i,j,x,t,GO,rfl,o,lI,hc,qq,a1⟩:=dS u (.head _)
     refine⟨.int i t::aG,KatTups.cons lI hc a1 rfl er,by simp[eN],λ v cP=>?_⟩
     rcases kg.mp cP with rfl|cP
     ·exact⟨_,_,rfl⟩
     ·exact hq v cP
   obtain⟨aG,er,eN,hq⟩:=this ar λ u dS=>by
    obtain⟨i,ay,e⟩:=H0.mp dS
    have:=FO i ay
    rw[show ar.getD i .none=u by simp[ay,e]]at this
    exact⟨_,_,this⟩
   exact⟨aG,er,by omega,hq⟩
  obtain⟨aG,er,eN,hq⟩:=Wr
  refine cK (kat_kind (s:={s with heap:=ax}) (T:=.type "int") er eN (λ v cP=>?_) (by decide) ?_)
  ·obtain⟨i,t,rfl⟩:=hq v cP
   exact .now
  rw[show(CD "int" != CD "tuple")=true by decide]
  refine cK (fa (kat_run (ks:=ar) (Q:=λ Bj a9=>∃f2:gR C,f2.size=ar.length∧arrOf Bj=f2.map (kas_item (ar.toArray.zip ar.toArray))∧failedOf Bj=none∧(f2=p∧a9={s with heap:=ax}))
   rfl aH Lr (λ f2 Bj a9 he ip k1 nQ=>⟨f2,he,ip,k1,nQ⟩) (ME (s:={s with heap:=ax}) (λ i j V ay bt bV=>?_) sK ⟨rfl,rfl⟩)) ?_ λ _ _ e=>e)
  ·exact ack (s:={s with heap:=ax}) (FO i ay) (FO j bt) bV
  rintro⟨⟨⟩,Bj⟩ a9 ⟨f2,rf,Xp,cl,rfl,rfl⟩
  dsimp only
  have LN:=kat_snds rfl Xp
  refine cK (Ic uc rfl ?_)
  refine cK (Ib uc rfl ?_ (fs _) ?_)
  ·rw[cl]
   simp only[JY,Hr,Ex]
   exact eG (hL _ LN)
  ·rw[LN,yJ,cG,yt,rf,ly];omega
noncomputable def mj:D→am×am
 | .tup [.ii a,.ii b]=>(a,b)
 |_=>(0,0)
theorem pairs_at(aA:xs.all m8=true)(r:cs c G h xs ar):∀(i:C),i<ar.length→r9 h (ar.getD i .none) ((xs.map mj).getD i (0,0)).1 ((xs.map mj).getD i (0,0)).2:=by
 intro i ay
 have h9:i<xs.length:=by rw[←r.length];exact ay
 obtain⟨v,au,x⟩:=r.get (h1 h9)
 obtain⟨m,z,aB,acj⟩:=Y4 (g9.mp aA _ (yF h9)) x
 have ax:ar.getD i .none=v:=by rw[jx,au];rfl
 have aH:(xs.map mj).getD i (0,0)=(m,z):=by rw[jx,qR,h1 h9,aB];rfl
 rw[ax,aH];exact acj
theorem cs.getD(r:cs c G h xs ar)(i:C):bA c G h (xs.getD i .nn) (ar.getD i .none):=by
 rw[jx,jx]
 cases e:xs[i]? with
 |none=>rw[r.none e];simp[bA]
 |some a=>obtain⟨v,au,x⟩:=r.get e;rw[au];exact x
theorem cs.picks{h:dD}{xs:B D}{ar:B aw}(r:cs c G h xs ar):∀p:B C,cs c G h (p.map λ i=>xs.getD i .nn) (p.map λ i=>ar.getD i .none)
 | []=>cs.nil
 |i::p=>cs.cons (r.getD i) (cs.picks r p)
theorem aal{b:D}(bO:m8 a=true)(az:m8 b=true):EZ a b=(decide ((mj a).1< (mj b).1)||(decide ((mj a).1=(mj b).1)&&decide ((mj a).2< (mj b).2))):=by
 unfold m8 at bO az
 split at bO
 ·split at az
  ·rfl
  ·cases az
 ·cases bO
theorem MD{α:Type}{f g:C→C→av}{z:C}(h:∀i j,i<z→j<z→f i j=g i j):∀t:IT α,oa f z t=oa g z t
 | .ret a=>rfl
 | .ask i j k=>by
  simp only[oa]
  split
  ·rename_i q;rw[h i j q.1 q.2];exact MD h _
  ·rfl
theorem Le(aA:xs.all m8=true){i:C}(ay:i<xs.length):m8 (xs.getD i .nn)=true∧(xs.map mj).getD i (0,0)=mj (xs.getD i .nn):=by
 rw[jx,jx,qR,h1 ay]
 exact⟨g9.mp aA _ (yF ay),rfl⟩
theorem ad2:∀{xs:B D},xs.length<2→xs=((ck xs.length).toArray.toList.map λ i=>xs.getD i .nn)
 | [],_=>rfl
 | [_],_=>rfl
 |_::_::_,h=>absurd (Rn (Rn h)) (yM _)
theorem aei{bf:B D}{Q:dC}(h:n[z]? =some (.li xs))(Lr:xs.length<64)(aA:xs.all m8=true)(bI:pI xs=some bf)(uO:bf.length≤room)(x:bA c G s.heap (.ref z) v)(bz:Q (.ref n.length) (n++[.li bf]))(I:Inv c nm G n s):
  bg (bc c.prog c.w) A (call (.builtin "sorted") [v]) (Back c nm G s Q) ab s:=by
 obtain⟨q,du,rfl⟩:=x
 obtain⟨a3,_,items,d9,au,hl,a4,hs⟩:=rp I du h
 have i1:=a4.length
 have b7:s.heap.IsList q.1 items.toList.toArray:=by rw[Array.toArray_toList];exact hl
 generalize items.toList=ar at a4 i1 b7
 clear hl hs au
 have sK:∃p:gR C,bf=(p.toList.map λ i=>xs.getD i .nn)∧(ar.length<2∧p=(ck ar.length).toArray∨
   oa (λ i j=>let x:=(xs.map mj).getD i (0,0);let y:=(xs.map mj).getD j (0,0);decide (x.1<y.1)||(decide (x.1=y.1)&&decide (x.2<y.2))) ar.length (CF ar.length)=some p∧2≤ar.length):=by
  unfold pI at bI
  split at bI
  ·rename_i aH
   cases bI
   refine⟨(ck ar.length).toArray,?_,.inl ⟨by omega,rfl⟩⟩
   rw[i1]
   exact ad2 aH
  ·rename_i aH
   obtain⟨p,bM,rfl⟩:=l2.mp bI
   refine⟨p,rfl,.inr ⟨?_,by omega⟩⟩
   rw[i1,←bM]
   refine MD (λ i j ay bt=>?_) _
   obtain⟨he,ip⟩:=Le aA ay
   obtain⟨gd,iZ⟩:=Le aA bt
   rw[aal he gd]
   dsimp only
   rw[ip,iZ]
 obtain⟨p,Ye,sK⟩:=sK
 refine Calls.call_function_entry kind_sorted plain_sorted entry_sorted (args_sorted1 _) ?_
 unfold Builtin.«sorted»
 refine cK (m:=checkCount "sorted" 1 1 _) (eG ?_)
 refine cK (collect_list b7 ?_ (by rw[ly];omega))
 refine cK (Jb ?_ (by rw[ly];omega))
 have uN:((s.heap.push (iW "list" #[] 0)).update s.heap.objs.size (mU (· ++ar.toArray))).objs.size=s.heap.objs.size+1:=by
  rw[Heap.size_update,size_push']
 have keep:∀b o,s.heap.get? b=some o→((s.heap.push (iW "list" #[] 0)).update s.heap.objs.size (mU (· ++ar.toArray))).get? b=some o:=λ b o q=>by
  have n5:b<s.heap.objs.size:=mT q
  rw[Heap.get?_update_ne _ _ _ _ (mR n5),Heap.get?_push_ne _ _ _ (mR n5)]
  exact q
 show bg _ _ _ _ _ {s with heap:=((s.heap.push (iW "list" #[] 0)).update s.heap.objs.size (mU (· ++ar.toArray))).push (iW "list" ar.toArray 0)}
 generalize(s.heap.push (iW "list" #[] 0)).update s.heap.objs.size (mU (· ++ar.toArray))=ax at keep uN
 have LM:(ax.push (iW "list" ar.toArray 0)).get? ax.objs.size=some (iW "list" ar.toArray 0):=nI _ rfl
 refine cK (se (R9 slot_list_sort ⟨_,LM,rfl⟩ entry_list_sort
  (aec (s:={s with heap:=ax.push (iW "list" ar.toArray 0)}) rfl LM (by omega) (pairs_at aA (a4.keep (.refl G) λ b o e _=>ls _ (keep b o e))) sK λ H k hk j5=>⟨_,rfl,?_⟩) (args_list_sort _)))
 refine eG ⟨_,rfl,?_⟩
 have hr:cu (λ _=>False) s.heap H:=λ b o e _=>hk b o (λ q=>by
  have:=mT e
  rw[q,uN]at this
  exact Rp (h4 _) this) (ls _ (keep b o e))
 have cl:s.heap.get? ax.objs.size=none:=nZ keep
 have uM:cs c (G++[(ax.objs.size,ax.objs.size)]) H bf (p.toList.map λ i=>ar.getD i .none):=by
  rw[Ye];exact(a4.picks p.toList).keep (g'.snoc _ _) λ b o e _=>hr b o e id
 have be:gB c nm (G++[(ax.objs.size,ax.objs.size)]) H (ax.objs.size,ax.objs.size) (.li bf):=⟨rfl,uO,_,k,j5,by simpa using uM⟩
 refine⟨.ref n.length,G++[(ax.objs.size,ax.objs.size)],n++[.li bf],bz,?_,I.alloc (t:=s.toks) hr (I.ql keep) (I.ql keep) cl cl be,.alloc hr cl cl⟩
 exact⟨(ax.objs.size,ax.objs.size),by rw[←I.len];simp,rfl⟩
end
end Mine
end
section
open PySem PySem.W PyProof.Rows
namespace Mine
variable{z:am}{v u:aw}{Q:dC}
section
variable{c:cV}{nm:B (B C)}{G:cA}{n:St}{s:a2}{A:eB}{ab:aw→a2→Prop}
theorem adf{m:C}{a:D}(h:n[m]? =some (.li [a]))(ec:0≤z)(ax:z<1000)(x:bA c G s.heap (.ref m) v)(y:bA c G s.heap (.ii z) u)
  (bz:Q (.ref n.length) (n++[.li (dw z.toNat a)]))(I:Inv c nm G n s):bg (bc c.prog c.w) A (IY .Mult v u) (Back c nm G s Q) ab s:=by
 obtain⟨p,bM,rfl⟩:=x
 obtain⟨t,rfl⟩:=y
 obtain⟨a3,_,items,d9,au,hl,a4,hs⟩:=rp I bM h
 have uM:=a4
 obtain⟨w,r,aB,cP,rfl⟩:=uM
 have un:items= #[w]:=by apply BS.mp;rw[aB]
 subst un
 refine R8 (T:="list") (U:="int") (by decide) ⟨_,au,rfl⟩ (λ a9=>CP a9 z t) noFill_list_mul RK CA repeat_list RL.lookup
  (CI CA (CP s z t) RJ (RH _ _) (int___rmul___int_list z t p.1 #[w] d9)
   ⟨au,rfl,⟨_,au,rfl⟩,CI PySem.F.slot_list_mul ⟨_,au,rfl⟩ PySem.F.entry_list_mul (PySem.F.args_list_mul_2 _ _)
    (AutoListH.list___mul___list_int_3 p.1 #[w] d9 z t (by simp[Builtin.List.listFitsIndex];omega) (by simp;omega) (by simp[Builtin.List.listTooLong,ly];omega))
    ⟨au,?_⟩⟩)
 have e:HP (λ aV aQ=>aV++aQ) #[] (dw (if(#[w]:gR aw).isEmpty=true then 0 else z.toNat) #[w])=(dw z.toNat w).toArray:=by
  have:∀(k:C) (acc:gR aw),HP (λ aV aQ=>aV++aQ) acc (dw k #[w])=acc++(dw k w).toArray:=by
   intro k
   induction k with
   |zero=>intro acc;simp
   |succ k aZ=>
    intro acc
    rw[Q7,List.foldl_cons,aZ,Q7]
    apply BS.mp
    simp
  rw[if_neg (by simp),this]
  simp
 rw[e]
 exact AI (k:=0) (H:=s.heap) (t:=s.toks) I (.refl _ _) (cs.replicate cP z.toNat) (by rw[Ca,x1];omega) bz (nZ λ _ _ e=>e)
theorem abt:fillsNumberSlot (.type "tuple") "mul"=pure false:=
 PySem.fillsNumberSlot_seq (id:="tuple.__mul__") (r:=some (.builtin "tuple.__rmul__")) Iy.lookup (by decide+kernel) RN.lookup (by decide+kernel)
theorem adh:seqRepeat? (.type "tuple")=pure (some (.builtin "tuple.__mul__")):=by
 unfold seqRepeat?
 rw[R4 (T:="tuple") (name:="__mul__") (id:="tuple.__mul__") Iy.lookup (by decide+kernel),R4 (T:="tuple") (name:="__rmul__") (id:="tuple.__rmul__") RN.lookup (by decide+kernel)]
 rfl
theorem YW(a:am)(t:iX)(l:a8)(items:gR aw)(z:C)(d:Y a8)(dQ:gR (Y aw)):
  Meets (Builtin.«int.__rmul__» ⟨[.int a t,.ref l],[]⟩) (λ _ R s=>s.heap.get? l=some {cls:=.type "tuple",dict:=d,data:=.seq items z,slots:=dQ}∧R (.ok (.ret Value.notImplemented)) s):=
 .of_wp λ prog w A R s h=>by obtain⟨bM,g,d,ow,os⟩:=s;obtain⟨hl,h⟩:=h;wp_walk;exact⟨_,rfl,h⟩
theorem afp(l:a8)(u:iX)(items:gR aw)(z:C)(d:Y a8)(dQ:gR (Y aw)):
  Meets (Builtin.«tuple.__mul__» ⟨[.ref l,.int 1 u],[]⟩) (λ _ R s=>s.heap.get? l=some {cls:=.type "tuple",dict:=d,data:=.seq items z,slots:=dQ}∧R (.ok (.ret (.ref l))) s):=
 .of_wp λ prog w A R s h=>by obtain⟨bM,g,d,ow,os⟩:=s;obtain⟨hl,h⟩:=h;wp_walk;exact⟨_,rfl,h⟩
theorem adg{l:B D}(x:bA c G s.heap (.tup l) v)(y:bA c G s.heap (.ii 1) u)(bz:Q (.tup l) n)(I:Inv c nm G n s):bg (bc c.prog c.w) A (IY .Mult v u) (Back c nm G s Q) ab s:=by
 have hr:=x
 obtain⟨a,items,rfl,⟨o,be,hc,z,a1⟩,a4⟩:=x
 obtain⟨t,rfl⟩:=y
 obtain⟨cls,d,data,dQ⟩:=o
 simp only at hc a1
 subst hc a1
 exact R8 (T:="tuple") (U:="int") (by decide) ⟨_,be,rfl⟩ (λ a9=>CP a9 1 t) abt RK CA adh RL.lookup
  (CI CA (CP s 1 t) RJ (RH _ _) (YW 1 t a items z d dQ)
   ⟨be,rfl,⟨_,be,rfl⟩,CI Iy ⟨_,be,rfl⟩ PySem.F.entry_tuple_mul (PySem.F.args_tuple_mul_2 _ _) (afp a t items z d dQ) ⟨be,Back.now bz hr I⟩⟩)
theorem adm(y:bA c G s.heap (.ii z) u)(bz:Q (.ew 0 z) n)(I:Inv c nm G n s):bg (bc c.prog c.w) A (call (.type "range") [u]) (Back c nm G s Q) ab s:=by
 obtain⟨t,rfl⟩:=y
 refine call_range_1 (Back.more bz I (cu.push _ _) ?_)
 exact⟨_,_,_,_,rfl,RP ..⟩
theorem ado{m:am}(x:bA c G s.heap (.ii m) v)(y:bA c G s.heap (.ii z) u)(bz:Q (.ew m z) n)(I:Inv c nm G n s):bg (bc c.prog c.w) A (call (.type "range") [v,u]) (Back c nm G s Q) ab s:=by
 obtain⟨t,rfl⟩:=x
 obtain⟨cB,rfl⟩:=y
 refine call_range_2 (Back.more bz I (cu.push _ _) ?_)
 exact⟨_,_,_,_,rfl,RP ..⟩
theorem aeU{i:am}{d:B C}(a1:zC i=some d)(x:bA c G s.heap (.ii i) v)(bz:Q (.ss d) n)(I:Inv c nm G n s):bg (bc c.prog c.w) A (call (.type "str") [v]) (Back c nm G s Q) ab s:=by
 obtain⟨t,rfl⟩:=x
 unfold zC at a1
 split at a1
 ·rename_i az
  cases a1
  have ix:(IP (toString i))=st [48+i.toNat]∧i.natAbs.log2<1920:=by
   obtain⟨k,rfl⟩:=B0 az.1
   have hk:k<10:=by omega
   revert hk bz az
   intro _ az hk
   match k,hk with
   |0,_|1,_|2,_|3,_|4,_|5,_|6,_|7,_|8,_|9,_=>exact⟨by decide+kernel,by decide+kernel⟩
  refine PySem.P.str_of_int ix.2 ?_
  show Back c nm G s Q (.str (IP (toString i)) s.toks) _
  rw[ix.1]
  exact Back.here bz (by first|exact⟨_,rfl⟩|exact rfl|simp[bA]) I _
 ·cases a1
end
end Mine
end
section
open PySem PySem.W PyProof.Rows
namespace Mine
variable{l:B D}{k:C}{a:D}{Q:Y aw→a2→Prop}
section
variable{c:cV}{nm:B (B C)}{G bv:cA}{n:St}{s:a2}{A:eB}{ab:aw→a2→Prop}{h H:dD}
noncomputable def ln(c:cV)(G:cA)(h:dD)(bb:a8)(l:B D)(k:C):D→Prop
 | .tup _=>∃t items,h.IsTuple t items∧cs c G h l items.toList∧h.IsTupleIter bb t k
 | .ss s=>∃t,l=s.map (λ x=>.ss [x])∧h.IsStrIter bb "str_ascii_iterator" (st s) t k
 | .ew lo ay=>l=upTo lo (ay-lo).toNat∧IsRangeIter h bb (lo+(k:am)) (((ay-lo).toNat:am)- (k:am)) 1
 | .ref z=>∃p,(G:B (a8×a8))[z]? =some p∧h.IsListIter bb p.1 k
 |_=>False
theorem ln.live{bb:a8}(T:ln c G h bb l k a):∃o,h.get? bb=some o∧¬ih o:=by
 cases a with
 |tup _=>
  obtain⟨t,items,_,_,o,be,hc,a1⟩:=T
  exact⟨o,be,by rintro(⟨q,_⟩| ⟨q,_⟩)<;>rw[hc]at q<;>exact absurd q (by decide)⟩
 |ss _=>
  obtain⟨t,_,o,be,hc,a1⟩:=T
  exact⟨o,be,by rintro(⟨q,_⟩| ⟨q,_⟩)<;>rw[hc]at q<;>exact absurd q (by decide)⟩
 |ew _ _=>
  obtain⟨_,be⟩:=T
  exact⟨_,be,by rintro(⟨q,_⟩| ⟨q,_⟩)<;>exact absurd q (by simp)⟩
 |ref _=>
  obtain⟨p,_,o,be,hc,a1⟩:=T
  exact⟨o,be,by rintro(⟨q,_⟩| ⟨q,_⟩)<;>rw[hc]at q<;>exact absurd q (by decide)⟩
 |_=>exact T.elim
theorem ln.keep{bb:a8}(T:ln c G h bb l k a)(lo:g' G bv)(d8:fV h H)(e:∀o,h.get? bb=some o→H.get? bb=some o):ln c bv H bb l k a:=by
 cases a with
 |tup _=>
  obtain⟨t,items,bD,a4,o,be,hc,a1⟩:=T
  exact⟨t,items,Am d8 bD,a4.keep lo d8,o,e _ be,hc,a1⟩
 |ss _=>
  obtain⟨t,hl,o,be,hc⟩:=T
  exact⟨t,hl,o,e _ be,hc⟩
 |ew _ _=>
  obtain⟨hl,be⟩:=T
  exact⟨hl,e _ be⟩
 |ref _=>
  obtain⟨p,bM,o,be,hc⟩:=T
  exact⟨p,lo _ _ bM,o,e _ be,hc⟩
 |_=>exact T.elim
theorem fV.same{bb:a8}{o:fO}(be:h.get? bb=some o)(cy:¬ih o)(hs:tX bb h H):fV h H:=λ b x e f=>by
 by_cases az:b=bb
 ·subst az;rw[be]at e;cases e;exact absurd f cy
 ·exact(hs.2 b az).trans e
theorem GY:∀(lo:am) (z:C),(upTo lo z).length=z
 |_,0=>rfl
 |lo,z+1=>by simp[upTo,GY]
theorem PP:∀(lo:am) (z k:C),k<z→(upTo lo z)[k]? =some (.ii (lo+k))
 |lo,0,k,h=>absurd h (yM _)
 |lo,z+1,0,_=>by simp[upTo]
 |lo,z+1,k+1,h=>by
  rw[upTo,QX,PP (lo+1) z k (by omega)]
  congr 2
  push_cast
  omega
theorem Mi{v:aw}{Q:aw→a2→Prop}(I:Inv c nm G n s)(ay:hQ n a=some l)(x:bA c G s.heap a v)
  (bz:∀bb H,cu (λ _=>False) s.heap H→s.heap.get? bb=none→ln c G H bb l 0 a→Q (.ref bb) {s with heap:=H}):bg (bc c.prog c.w) A (pyIter v) Q ab s:=by
 have fresh:s.heap.get? s.heap.objs.size=none:=nZ λ _ _ e=>e
 cases a with
 |tup cf=>
  cases ay
  obtain⟨b,items,rfl,bD,a4⟩:=x
  refine wpAny_pyIter_tuple bD (bz _ _ (cu.push _ _) fresh ⟨b,items,bD.push _,a4.keep (.refl G) λ b o e _=>ls _ e,⟨_,nI _ rfl,rfl,rfl⟩⟩)
 |ss w=>
  simp only[hQ]at ay
  split at ay
  ·rename_i bO
   cases ay
   obtain⟨t,rfl⟩:=x
   refine wpAny_pyIter_ascii ?_ (bz _ _ (cu.push _ _) fresh ⟨t,rfl,⟨_,nI _ rfl,rfl,rfl⟩⟩)
   show(w.toArray).all _=true
   rw[QO]
   exact bO
  ·cases ay
 |ew lo h9=>
  simp only[hQ]at ay
  split at ay
  ·rename_i bO
   cases ay
   rw[jW,Go,Go]at bO
   obtain⟨b,t,u,cB,rfl,a4⟩:=x
   refine wpAny_pyIter_range a4 (small_one (by omega) (by omega) (by omega) (by omega)) (bz _ _ (cu.push _ _) fresh ⟨rfl,?_⟩)
   have uN:Builtin.Range.rangeSize lo h9 1=((h9-lo).toNat:am)- ((0:C):am):=by rw[rangeSize_one];split<;>omega
   rw[←uN]
   have e:lo+((0:C):am)=lo:=by simp
   rw[e]
   exact nI _ rfl
  ·cases ay
 |ref z=>
  simp only[hQ]at ay
  split at ay
  ·rename_i xs e
   cases ay
   obtain⟨p,bM,rfl⟩:=x
   obtain⟨a3,_,items,d9,au,hl,a4,hs⟩:=rp I bM e
   refine wpAny_pyIter_list hl (bz _ _ (cu.push _ _) fresh ⟨p,bM,⟨_,nI _ rfl,rfl,rfl⟩⟩)
  ·cases ay
 |_=>cases ay
theorem Mj{x:D}{bb:a8}(I:Inv c nm G n s)(ae:live a l n)(T:ln c G s.heap bb l k a)(aA:l[k]? =some x)
  (bz:∀H t v,tX bb s.heap H→ln c G H bb l (k+1) a→bA c G H x v→Q (some v) {s with heap:=H,toks:=t}):bg (bc c.prog c.w) A (pyNext (.ref bb)) Q ab s:=by
 obtain⟨o,be,cy⟩:=T.live
 cases a with
 |tup _=>
  obtain⟨t,items,bD,a4,ay⟩:=T
  obtain⟨v,cP,r⟩:=a4.get aA
  refine wpAny_pyNext_tuple_item ay bD (by rw[←vW];exact cP) λ H h9 hs=>?_
  have d8:=fV.same be cy hs
  exact bz H s.toks v hs ⟨t,items,Am d8 bD,a4.keep (.refl G) d8,h9⟩ (r.keep (.refl G) d8)
 |ss w=>
  obtain⟨t,hl,ay⟩:=T
  subst hl
  rw[qR]at aA
  obtain⟨y,bI,rfl⟩:=l2.mp aA
  refine wpAny_pyNext_ascii_item (c:=y) ay (by show w.toArray[k]? =_;rw[HT];exact bI) λ H h9 hs=>?_
  exact bz H (s.toks+1) _ hs ⟨t,rfl,h9⟩ ⟨_,rfl⟩
 |ew lo ay=>
  obtain⟨hl,h9⟩:=T
  subst hl
  have hk:k< (ay-lo).toNat:=by
   have:=(jY.mp aA).1
   rwa [GY]at this
  rw[PP _ _ _ hk]at aA
  cases aA
  refine wpAny_pyNext_range_item h9 (by omega) λ H XJ hs=>?_
  refine bz H (s.toks+1) _ hs ⟨rfl,?_⟩ ⟨_,rfl⟩
  have au:lo+((k+1:C):am)=lo+(k:am)+1:=by push_cast;omega
  have aB:((ay-lo).toNat:am)- ((k+1:C):am)=((ay-lo).toNat:am)- (k:am)-1:=by push_cast;omega
  rw[au,aB]
  exact XJ
 |ref z=>
  obtain⟨p,bM,ay⟩:=T
  obtain⟨a3,_,items,d9,au,hl,a4,hs⟩:=rp I bM ae
  obtain⟨v,cP,r⟩:=a4.get aA
  refine wpAny_pyNext_list_item ay hl (by rw[←vW];exact cP) λ H h9 hs=>?_
  have d8:=fV.same be cy hs
  exact bz H s.toks v hs ⟨p,bM,h9⟩ (r.keep (.refl G) d8)
 |_=>exact T.elim
theorem Mh{bb:a8}(gL:A.handled=none)(I:Inv c nm G n s)(ae:live a l n)(T:ln c G s.heap bb l k a)(aA:l[k]? =none)
  (bz:∀H,Heap.ExtBut bb s.heap H→Q none {s with heap:=H}):bg (bc c.prog c.w) A (pyNext (.ref bb)) Q ab s:=by
 cases a with
 |tup _=>
  obtain⟨t,items,bD,a4,ay⟩:=T
  exact wpAny_pyNext_tuple_end gL ay bD (by rw[←vW];exact a4.none aA) bz
 |ss w=>
  obtain⟨t,hl,ay⟩:=T
  subst hl
  rw[qR,Option.map_eq_none_iff]at aA
  exact wpAny_pyNext_ascii_end gL ay (by show w.toArray[k]? =_;rw[HT];exact aA) bz
 |ew lo ay=>
  obtain⟨hl,h9⟩:=T
  subst hl
  have hk:=yC.mp aA
  rw[GY]at hk
  exact wpAny_pyNext_range_end gL h9 (by omega) bz
 |ref z=>
  obtain⟨p,bM,ay⟩:=T
  obtain⟨a3,_,items,d9,au,hl,a4,hs⟩:=rp I bM ae
  exact wpAny_pyNext_list_end gL ay hl (by rw[←vW];exact a4.none aA) bz
 |_=>exact T.elim
end
end Mine
end
section
open PySem PySem.W PyProof.Rows
namespace Mine
variable{H:dD}{t i:C}{x:aL}{a:D}{Q:dC}
structure fi(X:a8→Prop)(G:cA)(s:a2)(bv:cA)(a9:a2):Prop where
 ext:yv G bv s.heap
 ch:cu (λ b=>eF G b∨X b) s.heap a9.heap
 off:∀b,X b→¬eF bv b
section
variable{c:cV}{nm:B (B C)}{X hd:a8→Prop}{G bQ dz:cA}{n:St}{s aJ b':a2}
theorem fi.refl(s:a2)(h:∀b,X b→¬eF G b):fi X G s G s:=⟨.refl _ _,.refl _ _,h⟩
theorem fi.trans(x:fi X G s bQ aJ)(y:fi X bQ aJ dz b'):fi X G s dz b' where
 ext:=⟨x.ext.1.trans y.ext.1,λ b az=>(y.ext.2 b az).elim (x.ext.2 b) λ h=>by
  exact r1 .inl λ f=>Nz .inr λ o e=>nomatch h.symm.trans (x.ch b o e λ L=>L.elim f λ q=>y.off b q az)⟩
 ch:=λ b o e z=>y.ch b o (x.ch b o e z) λ f=>f.elim (λ f=>(x.ext.2 b f).elim (λ f=>z (.inl f)) λ h=>nomatch h.symm.trans e) λ q=>z (.inr q)
 off:=y.off
theorem fi.FF(S:Step G s bQ aJ)(h:∀b,X b→¬eF G b∧∃o,s.heap.get? b=some o):fi X G s bQ aJ where
 ext:=S.ext
 ch:=S.ch.mono λ _=>.inl
 off:=λ b q f=>(S.ext.2 b f).elim (h b q).1 λ g=>(h b q).2.elim λ o e=>nomatch e.symm.trans g
theorem fi.toStep(S:fi X G s bQ aJ)(h:∀b,X b→s.heap.get? b=none):Step G s bQ aJ where
 ext:=S.ext
 ch:=λ b o e z=>S.ch b o e λ q=>q.elim z λ x=>nomatch e.symm.trans (h b x)
theorem fi.mono(S:fi X G s bQ aJ)(h:∀b,X b→hd b)(off:∀b,hd b→¬eF bQ b):fi hd G s bQ aJ:=⟨S.ext,S.ch.mono λ _ q=>q.imp id (h _),off⟩
theorem fi.drop(S:fi hd G s bQ aJ)(h:∀b,hd b→X b∨s.heap.get? b=none)(off:∀b,X b→¬eF bQ b):fi X G s bQ aJ where
 ext:=S.ext
 ch:=λ b o e z=>S.ch b o e λ q=>q.elim (λ f=>z (.inl f)) λ y=>(h b y).elim (λ x=>z (.inr x)) λ g=>nomatch e.symm.trans g
 off:=off
theorem fi.ng(x:cu X s.heap H)(off:∀b,X b→¬eF G b):fi X G s G {s with heap:=H,toks:=t}:=⟨.refl _ _,x.mono λ _=>.inr,off⟩
theorem fi.m'(S:fi X G s bQ aJ)(I:Inv c nm G n s)(h:∀b o,X b→s.heap.get? b=some o→¬ih o):fV s.heap aJ.heap:=λ b o e f=>
 S.ch b o e λ q=>q.elim (λ q=>I.K6 q e f) λ q=>h b o q e f
end
section
variable{c:cV}{nm:B (B C)}{aj:B (Y aL)}{G bQ:cA}{n:St}{s aJ:a2}{A:eB}{ab:aw→a2→Prop}{env:aX}{ai:eg}{m:aL→Y aw}
noncomputable def pz(x:aL):Bool:=!(x==("__debug__":aL))&& !(x==("__classdict__":aL))
theorem M1(F:c9 c aj G env ai s.heap m)(I:Inv c nm G n s)(aA:(aj:B (Y aL))[i]? =some (some x))(bM:pz x=true)(bO:(env[i]?).join=some a)(bz:Q a n):
  bg (bc c.prog c.w) A (loadName ai x) (Back c nm G s Q) ab s:=
 (F.vars i x a aA (Option.join_eq_some_iff.mp bO)).elim λ v ko=>ko.2.elim (λ h=>wpAny_loadName_local F.kind h.1 F.ns h.2 (Back.now bz ko.1 I)) λ h=>h.2.elim λ q w=>
  h.1.elim (λ k=>wpAny_loadName_cell F.kind k w.1 w.2 (Back.now bz ko.1 I)) λ k=>wpAny_loadName_free F.kind k w.1 w.2 (Back.now bz ko.1 I) (Qo (y:=false) (dI.mp bM).2)
theorem aad{cg:hb}(F:c9 c aj G env ai s.heap m)(I:Inv c nm G n s)(aA:(aj:B (Y aL))[i]? =some (some x))(bM:pz x=true)(bO:(env[i]?).join=some a)(bz:Q a n):
  bg (bc c.prog c.w) A (eval (.Name x cg) ai) (Back c nm G s Q) ab s:=
 wpAny_Name (M1 F I aA bM bO bz) (Qo (y:=false) (dI.mp bM).1)
theorem c9.vj(F:c9 c aj G env ai s.heap m){q:a8}(h:ai.cells.lookup x=some q):ai.locals≠q:=λ L=>
 F.ns.elim λ o y=>y.elim λ O y=>y.elim λ hK d=>(F.cells x _ h).elim λ v y=>y.elim λ c3 kr=>nomatch d.2.1.symm.trans ((an IE (ej (d.1.symm.trans (L▸kr.1)))).trans kr.2)
theorem adW{env:aX}{j:C}{o:Y D}(h:(iO env i a:B (Y D))[j]? =some o):(i=j∧o=some a)∨(i≠j∧(env:B (Y D))[j]? =some o):=
 have hl:j<f9 (env:B (Y D)):=Rm (jY.mp h).1 HX
 r1 (λ q:i=j=>.inl ⟨q,by subst q;exact ej (h.symm.trans (yE hl))⟩) λ q=>.inr ⟨q,(tO q).symm.trans h⟩
theorem c9.wJ(F:c9 c aj G env ai s.heap m)(I:Inv c nm G n s)(x:cu (e2 ai) s.heap H):Inv c nm G n {s with heap:=H,toks:=t}∧fV s.heap H:=
 have ry:∀b o,e2 ai b→s.heap.get? b=some o→¬ih o:=λ b o q e=>(e2.old F q).elim λ y bC=>ej (bC.1.symm.trans e)▸bC.2
 ⟨I.change x (λ b=>F.foot b) (λ b=>F.out b) ry,λ b o e f=>x b o e λ q=>ry b o q e f⟩
theorem c9.stored{c0:aL→Y aw}(F:c9 c aj G env ai s.heap m)(aA:(aj:B (Y aL))[i]? =some (some x))(cy:H.Ns ai.locals c0)(hc:∀y p,ai.cells.lookup y=some p→∃u,H.IsCell p u)(cP:sj c G H ai c0 x a)
  (be:∀y,y≠x→∀b,sj c G s.heap ai m y b→sj c G H ai c0 y b):c9 c aj G (iO env i a) ai H c0:=
 ⟨F.kind,F.rb,F.blt,HX.trans F.len,cy,hc,F.apart,F.foot,F.out,F.uniq,F.has,λ j y b bI az=>(adW az).elim (λ e=>ej (ej (aA.symm.trans (e.1▸bI)))▸ej e.2▸cP)
  λ e=>be y (λ q=>e.1 (F.uniq _ _ _ aA (q▸bI))) b (F.vars j y b bI e.2)⟩
theorem Gu{v:aw}{Q:p5→a2→Prop}(F:c9 c aj G env ai s.heap m)(I:Inv c nm G n s)(aA:(aj:B (Y aL))[i]? =some (some x))
  (hk:ai.kindOf x=some .local∨ai.kindOf x=some .cell∧(ai.cells.lookup x).isSome=true)(r:bA c G s.heap a v)
  (h:∀H t c0,cu (e2 ai) s.heap H→(ai.kindOf x=some .local→cu (λ b=>b=ai.locals) s.heap H)→c9 c aj G (iO env i a) ai H c0→Inv c nm G n {s with heap:=H,toks:=t}→Q () {s with heap:=H,toks:=t}):
  bg (bc c.prog c.w) A (storeName ai x v) Q ab s:=by
 refine hk.elim (λ hk=>?_) λ hk=>(oR.mp hk.2).elim λ q du=>(F.cells x q du).elim λ ahn Yu=>?_
 ·refine wpAny_storeName_local hk F.ns (λ H cy hs=>?_) (by rw[F.kind];rfl)
  have nw:cu (e2 ai) s.heap H:=cu.same hs (.inl rfl)
  have b9:=F.wJ (t:=s.toks+1) I nw
  exact h H (s.toks+1) _ nw (λ _=>cu.same hs rfl) (F.stored aA cy (λ y q e=>(F.cells y q e).imp λ _ hc=>hc.sameBut hs (F.vj e).symm) ⟨v,r.keep (.refl G) b9.2,.inl ⟨hk,if_pos rfl⟩⟩
   λ y bI b ko=>ko.keep (.refl G) b9.2 (λ _ e=>(if_neg bI).trans e) λ q _ e hc=>hc.sameBut hs (F.vj e).symm) b9.1
 ·refine wpAny_storeName_cell F.kind hk.1 du Yu λ H hc hs=>?_
  have nw:cu (e2 ai) s.heap H:=cu.same hs (.inr ⟨x,du⟩)
  have b9:=F.wJ (t:=s.toks) I nw
  have e4:∀y p u,ai.cells.lookup y=some p→s.heap.IsCell p u→y≠x→H.IsCell p u:=λ y p u e z4 Yy=>z4.sameBut hs λ L=>Yy (F.apart y x q (L▸e) du)
  exact h H s.toks m nw (λ q=>nomatch hk.1.symm.trans q) (F.stored aA (F.ns.sameBut hs (F.vj du)) (λ y p e=>r1 (λ g:y=x=>⟨_,ej (du.symm.trans (g▸e))▸hc⟩) λ g=>(F.cells y p e).imp λ u dS=>e4 y p u e dS g)
   ⟨v,r.keep (.refl G) b9.2,.inr ⟨.inl hk.1,q,du,hc⟩⟩ λ y bI b ko=>ko.keep (.refl G) b9.2 (λ _=>id) λ p u e dS=>e4 y p u e dS bI) b9.1
end
end Mine
end
section
open PySem PySem.W PyProof.Rows
namespace Mine
variable{gQ:B aw}{cr:Iz}{aJ:a2}{a:a8}{i':B ft}{np:C}{b6:B D}
noncomputable def xR(cr:Iz):Bool:=
 cr.params.posonlyargs.isEmpty&&cr.params.kwonlyargs.isEmpty&&cr.params.vararg.isNone&&cr.params.kwarg.isNone&&(cr.defaults== .none)&&cr.closure.isEmpty&&(cr.globals==lx)&&(cr.builtins==CH)
  && !cr.scope.isCoroutine&& !cr.scope.isGenerator&&(cr.scope.kind== .function)
theorem P9{α:Type}:∀(ns:B aL) (ar:B α) (xS:B (aL×α)),ns.Nodup→ns.length=ar.length→(∀z∈ns,xS.lookup z=none)→
  ns.filterMap (λ z=>((xS++ns.zip ar).lookup z).map (z,·))=ns.zip ar
 | [],_,_,_,_,_=>rfl
 |z::ns,[],_,_,h,_=>by cases h
 |z::ns,v::ar,xS,a1,hl,bM=>by
  obtain⟨ax,aH⟩:=nF.mp a1
  have au:(xS++(z::ns).zip (v::ar)).lookup z=some v:=by
   rw[yH,bM z (.head _)]
   simp
  rw[List.filterMap_cons]
  simp only[au,Option.map_some]
  rw[yK]
  congr 1
  have:=P9 ns ar (xS++[(z,v)]) aH (by simpa using hl) λ m hm=>by
   rw[yH,bM m (.tail _ hm)]
   have:(m==z)=false:=by
    rw[l']
    rintro rfl
    exact ax hm
   simp[l0,this]
  refine v2 ?_ this
  simp
theorem Uy{l:B aL}(hl:l.length=gQ.length)(k:C):((l.take k).filter λ z=>(yG z (l.zip gQ)).isNone)=[]:=
 tN.mpr λ z hm az=>(H0.mp (List.mem_of_mem_take hm)).elim λ i b3=>b3.elim λ ay e=>
  absurd (List.lookup_eq_none_iff.mp (Cu.mp az) (z,gQ[i]'(hl▸ay)) (H0.mpr ⟨i,Q2▸Nat.lt_min.mpr ⟨ay,hl▸ay⟩,e▸List.getElem_zip⟩)) λ q=>mL ((JY z).symm.trans q)
theorem WK{α c4 oE Qa:Type}{l:B α}{k:C}{s:oE}{f:α×c4→oE→ij (ForInStep oE)}{r:oE→ij Qa}{M:ij Qa}(h:r s=M):(forIn (List.zip l (List.drop k ([]:B c4))) s f>>=r)=M:=by
 rw[List.drop_nil,List.zip_nil_right];exact h
theorem Uz{mX:B Arg}{q:aL}{xl wO nm body aS gl e4 eS fQ FS wy co Dv aR}(cy:(mX.map (·.arg)).Nodup)(hl:(mX.map (·.arg)).length=gQ.length):
  IZ ⟨nm,q,⟨[],mX,none,[],xl,none,wO⟩,body,aS,gl,e4,.none,eS,fQ,FS,wy,co,Dv,aR⟩ ⟨gQ,[]⟩=pure ((mX.map (·.arg)).zip gQ):=
 (if_neg λ h=>absurd (gh ((dI.mp h).1)) (r6.mpr (dg hl.symm))).trans
  ((if_neg λ h=>mL ((an (λ l=>!List.isEmpty l) (Uy hl _)).symm.trans h)).trans (WK (an (Pure.pure:B (aL×aw)→ij (B (aL×aw))) ((an (QU _) (eX _)).trans (P9 _ _ [] cy hl λ _ _=>rfl)))))
theorem aci{P:Arguments→Prop}(h:∀mX xl wO,P ⟨[],mX,none,[],xl,none,wO⟩):∀p:Arguments,p.posonlyargs=[]→p.kwonlyargs=[]→p.vararg=none→p.kwarg=none→P p
 | ⟨_,_,_,_,_,_,_⟩,rfl,rfl,rfl,rfl=>h _ _ _
theorem Un(bM:xR cr=true)(cy:(cr.params.args.map (·.arg)).Nodup)(hl:(cr.params.args.map (·.arg)).length=gQ.length):
  IZ cr ⟨gQ,[]⟩=pure ((cr.params.args.map (·.arg)).zip gQ):=
 have ky:=dI.mp (dI.mp (dI.mp (dI.mp (dI.mp (dI.mp (dI.mp (bM)).1).1).1).1).1).1
 have gg:=dI.mp ky.1
 have cI:=dI.mp gg.1
 have aH:=dI.mp cI.1
 aci (P:=λ p=>(p.args.map (·.arg)).Nodup→(p.args.map (·.arg)).length=gQ.length→∀d,d= .none→IZ ⟨cr.name,cr.qualname,p,cr.body,cr.scope,cr.globals,cr.closure,d,cr.kwdefaults,cr.doc,cr.pyModule,cr.annotations,cr.code,cr.closureTuple,cr.builtins⟩ ⟨gQ,[]⟩=pure ((p.args.map (·.arg)).zip gQ))
  (λ _ _ _ cy hl _ e=>e▸Uz cy hl) cr.params (B'.mp aH.1) (B'.mp aH.2) (Cu.mp cI.2) (Cu.mp gg.2) cy hl _ (eq_of_beq ky.2)
noncomputable def mW(c:cV)(nm:B (B C))(aj:B (Y aL))(ai:eg)(G:cA)(s:a2)(cb:iU)(cF:dC)(f:Flow)(a9:a2):Prop:=match f with
 | .next=>∃aF bv J c0,cb aF J∧c9 c aj bv aF ai a9.heap c0∧Inv c nm bv J a9∧fi (e2 ai) G s bv a9
 | .ret v=>∃a bv J,cF a J∧bA c bv a9.heap a v∧Inv c nm bv J a9∧fi (e2 ai) G s bv a9
 |_=>False
theorem mW.after{c:cV}{nm:B (B C)}{aj:B (Y aL)}{ai:eg}{G bQ:cA}{s a9:a2}{cb:iU}{cF:dC}{f:Flow}(S:fi (e2 ai) G s bQ aJ)(b:mW c nm aj ai bQ aJ cb cF f a9):mW c nm aj ai G s cb cF f a9:=by
 cases f with
 |next=>obtain⟨e,p,g,m,ax,aH,cI,gg⟩:=b;exact⟨e,p,g,m,ax,aH,cI,S.trans gg⟩
 |ret v=>obtain⟨e,p,g,ax,aH,cI,gg⟩:=b;exact⟨e,p,g,ax,aH,cI,S.trans gg⟩
 |_=>exact b.elim
theorem JT{k:aL→Y oS}{x:aL}:∀{bs:B (aL×aw)} {m:aL→Y aw},(∀b∈bs,b.1≠x)→t3 k bs m x=m x
 | [],_,_=>rfl
 | (z,v)::r,m,h=>by
  have ax:=h (z,v) (.head _)
  rw[t3,JT λ b az=>h b (.tail _ az)]
  split
  ·exact if_neg (H' ax)
  ·rfl
theorem JR{k:aL→Y oS}{x:aL}:∀{bs:B (aL×aw)} {m:aL→Y aw},(∀b∈bs,b.1≠x)→wm k bs m x=m x
 | [],_,_=>rfl
 | (z,v)::r,m,h=>by
  have ax:=h (z,v) (.head _)
  rw[wm,JR λ b az=>h b (.tail _ az)]
  split
  ·rfl
  ·exact if_neg (H' ax)
theorem JS{k:aL→Y oS}{x:aL}{v:aw}(hk:k x=some .local):∀{ns:B aL} {ar:B aw} {i:C} {m:aL→Y aw},ns.Nodup→ns[i]? =some x→ar[i]? =some v→t3 k (ns.zip ar) m x=some v
 | [],_,_,_,_,h,_=>by simp at h
 |_::_,[],_,_,_,_,h=>by simp at h
 |z::ns,u::ar,0,m,a1,h,cP=>by
  obtain⟨ax,aH⟩:=nF.mp a1
  simp only[yB,yO]at h cP
  subst h cP
  rw[yK,t3,JT λ b az=>?_,if_pos hk,if_pos rfl]
  rintro rfl
  exact ax (H2 az).1
 |z::ns,u::ar,i+1,m,a1,h,cP=>by
  obtain⟨ax,aH⟩:=nF.mp a1
  rw[yK,t3]
  exact JS hk aH (by simpa using h) (by simpa using cP)
theorem JQ{k:aL→Y oS}{x:aL}{v:aw}(hk:¬k x=some .local):∀{ns:B aL} {ar:B aw} {i:C} {m:aL→Y aw},ns.Nodup→ns[i]? =some x→ar[i]? =some v→wm k (ns.zip ar) m x=some v
 | [],_,_,_,_,h,_=>by simp at h
 |_::_,[],_,_,_,_,h=>by simp at h
 |z::ns,u::ar,0,m,a1,h,cP=>by
  obtain⟨ax,aH⟩:=nF.mp a1
  simp only[yB,yO]at h cP
  subst h cP
  rw[yK,wm,JR λ b az=>?_,if_neg hk,if_pos rfl]
  rintro rfl
  exact ax (H2 az).1
 |z::ns,u::ar,i+1,m,a1,h,cP=>by
  obtain⟨ax,aH⟩:=nF.mp a1
  rw[yK,wm]
  exact JQ hk aH (by simpa using h) (by simpa using cP)
section
variable{c:cV}{nm:B (B C)}{aj:B (Y aL)}{G:cA}{n:St}{s:a2}{A:eB}{ab:aw→a2→Prop}
structure FnAt(c:cV)(aj:B (Y aL))(np:C)(a:a8)(cr:Iz)(i':B ft):Prop where
 at_:∃xK FE NV,c.K.lookup a=some ⟨xK,FE,.func cr,NV⟩
 plain:xR cr=true
 body:cr.body= .stmts i'
 code:codeIn c.K cr.code cr.qualname=true
 np:(cr.params.args.map (·.arg)).length=np
 names:(cr.params.args.map (·.arg)).Nodup
 kinds:((cr.params.args.map (·.arg)).all λ x=>cr.scope.names.lookup x==some .local||cr.scope.names.lookup x==some .cell)=true
 abG:∀(i:C) x,(cr.params.args.map (·.arg))[i]? =some x→(aj:B (Y aL))[i]? =some (some x)
 uniq:∀(i j:C) x,(aj:B (Y aL))[i]? =some (some x)→(aj:B (Y aL))[j]? =some (some x)→i=j
theorem InCallC.me(bL:jA c nm)(M:FnAt c aj np a cr i')(I:Inv c nm G n s)(r:cs c G s.heap b6 gQ)(hl:b6.length=np)(El:np≤aj.length)
  (x:InCallC s (nK cr s.heap.objs.size a).locals (t3 (nK cr s.heap.objs.size a).kindOf ((cr.params.args.map (·.arg)).zip gQ) λ _=>none) (nK cr s.heap.objs.size a).cells
    (wm (nK cr s.heap.objs.size a).kindOf ((cr.params.args.map (·.arg)).zip gQ) λ _=>none) aJ):
  c9 c aj G (b6.map some++dw (aj.length-np) none) (nK cr s.heap.objs.size a) aJ.heap (t3 (nK cr s.heap.objs.size a).kindOf ((cr.params.args.map (·.arg)).zip gQ) λ _=>none)∧Inv c nm G n aJ:=by
 have bM:=M.plain
 simp only[xR,jW,jj]at bM
 obtain⟨⟨⟨⟨⟨⟨⟨⟨⟨⟨ax,aH⟩,cI⟩,gg⟩,ky⟩,zY⟩,pc⟩,zZ⟩,z0⟩,zX⟩,D2⟩:=bM
 obtain⟨H,ow,rfl⟩:=x.toInCall.same
 have ch:cu (λ _=>False) s.heap H:=λ b o e _=>x.toInCall.keep b o e
 have ey:Inv c nm G n {s with heap:=H,toks:=ow}:=I.more ch
 have d8:fV s.heap H:=λ b o e _=>x.toInCall.keep b o e
 have Ui:∀b,e2 (nK cr s.heap.objs.size a) b→s.heap.objs.size≤b:=by
  rintro b (rfl| ⟨y,e⟩)
  ·exact cJ _
  ·exact h3 (x.above y b (mem_of_lookup e))
 have fresh:∀b,e2 (nK cr s.heap.objs.size a) b→s.heap.get? b=none:=λ b q=>by
  cases e:s.heap.get? b with
  |none=>rfl
  |some o=>exact absurd (mT e) (r6.mpr (Ui b q))
 refine⟨⟨D2,pc,zZ,?_,x.toInCall.ns,λ y q e=>⟨_,x.cell y q e⟩,λ y L q au aB=>name_of_addr x.apart (mem_of_lookup au) (mem_of_lookup aB),λ b q f=>?_,λ b q=>?_,M.uniq,λ y q=>IU cr.scope.names (s.heap.objs.size+1) [] (.inl q),λ i y b bI az=>?_⟩,ey⟩
 ·simp only[fg,cG,Ca,hl];omega
 ·obtain⟨o,e⟩:=I.wV f
  rw[fresh b q]at e;cases e
 ·cases e:c.h₀.get? b with
  |none=>rfl
  |some o=>have:=I.base b o e;rw[fresh b q]at this;cases this
 ·have ay:i<np:=by
   rcases Ck i np with h|h
   ·exact h
   ·rw[yA (by simp[hl];exact h),HS]at az
    split at az<;>cases az
  have bO:b6[i]? =some b:=by
   rw[qQ (by simp[hl];exact ay),qR]at az
   obtain⟨hv,e,q⟩:=l2.mp az
   cases q;exact e
  obtain⟨v,cP,hF⟩:=r.get bO
  have En:(cr.params.args.map (·.arg))[i]? =some y:=by
   have:i< (cr.params.args.map (·.arg)).length:=by rw[M.np];exact ay
   have e:=M.abG i _ (h1 this)
   rw[bI]at e;cases e
   exact h1 this
  have adB:=hF.keep (.refl G) d8
  refine⟨v,adB,(BW.mp (g9.mp M.kinds y (h2 En))).imp (λ hk=>?_) λ hk=>?_⟩
  ·have n4:(nK cr s.heap.objs.size a).kindOf y=some .local:=eq_of_beq hk
   exact⟨n4,JS n4 M.names En cP⟩
  ·have n4:(nK cr s.heap.objs.size a).kindOf y=some .cell:=eq_of_beq hk
   refine⟨.inl n4,(oR.mp (IU cr.scope.names (s.heap.objs.size+1) [] (.inl n4))).imp λ q du=>⟨du,?_⟩⟩
   exact JQ (λ L=>nomatch n4.symm.trans L) M.names En cP▸x.cell y q du
theorem UK{R:yT→a2→Prop}{Q:dC}(bL:jA c nm)(M:FnAt c aj np a cr i')(I:Inv c nm G n s)(r:cs c G s.heap b6 gQ)(hl:b6.length=np)(El:np≤aj.length)
  (sJ:A.depth<CM)(fP:∀v a9,Back c nm G s Q v a9→R (.ok (.ret v)) a9)
  (h:∀ai aJ m g7,ai.scope=cr.scope→c9 c aj G (b6.map some++dw (aj.length-np) none) ai aJ.heap m→Inv c nm G n aJ→bg (bc c.prog c.w) (A.deeper ai) (execs i' ai) (mW c nm aj ai G aJ (λ _ J=>Q .nn J) Q) g7 aJ):
  t4 (bc c.prog c.w) A (.call (.ref a) ⟨gQ,[]⟩) R s:=by
 obtain⟨xK,FE,NV,Xe⟩:=M.at_
 have bM:=M.plain
 simp only[xR,jW,jj,tH]at bM
 obtain⟨⟨⟨⟨⟨⟨⟨⟨⟨⟨ax,aH⟩,cI⟩,gg⟩,ky⟩,zY⟩,pc⟩,zZ⟩,z0⟩,zX⟩,D2⟩:=bM
 have X:=I.K bL.K
 have i1:(cr.params.args.map (·.arg)).length=gQ.length:=by rw[M.np,r.length,hl]
 refine codeAny_call_cells sJ (X _ _ Xe) rfl (bL.lim.keeps I.base) (codeRec_of X M.code) M.body (Un M.plain M.names i1) (B'.mp zY) (kindsX ?_ _) (λ aJ x=>?_) z0 zX D2
 ·rw[g9]
  rintro⟨z,v⟩ az
  exact g9.mp M.kinds z (H2 az).1
 ·obtain⟨F,ey⟩:=InCallC.me bL M I r hl El x
  have fresh:∀b,e2 (nK cr s.heap.objs.size a) b→s.heap.get? b=none:=by
   rintro b q
   have:s.heap.objs.size≤b:=by
    rcases q with rfl| ⟨y,e⟩
    ·exact cJ _
    ·exact h3 (x.above y b (mem_of_lookup e))
   cases e:s.heap.get? b with
   |none=>rfl
   |some o=>exact absurd (mT e) (r6.mpr this)
  have wt:fi (e2 (nK cr s.heap.objs.size a)) G s G aJ:=⟨.refl _ _,λ b o e _=>x.toInCall.keep b o e,F.foot⟩
  refine fa (h _ aJ _ _ rfl F ey) (λ f a9 az=>?_) λ _ _ y=>y
  cases f with
  |next=>
   obtain⟨aF,bv,J,c0,q,g8,nA,S⟩:=az
   exact fP _ _ ⟨.nn,bv,J,q,by simp[bA],nA,(wt.trans S).toStep fresh⟩
  |ret v=>
   obtain⟨b,bv,J,q,hF,nA,S⟩:=az
   exact fP _ _ ⟨b,bv,J,q,hF,nA,(wt.trans S).toStep fresh⟩
  |_=>exact az.elim
end
end Mine
end
section
open PySem PySem.W PyProof.Rows
namespace Mine
variable{x:aL}{cg:hb}{v:aw}{Q:aw→a2→Prop}{b6:B bn}{V z:C}{lN:ij av}
structure v5(c:cV):Prop where
 top:∃qo pq,c.h₀.Ns lx qo∧c.h₀.Ns CH pq∧∀x,x≠("__name__":aL)→pq x=bootBuiltins x
section
variable{c:cV}{nm:B (B C)}{aj:B (Y aL)}{G:cA}{n:St}{s:a2}{A:eB}{ab:aw→a2→Prop}{env:aX}{ai:eg}{m:aL→Y aw}
theorem D0(bL:jA c nm)(M:v5 c)(F:c9 c aj G env ai s.heap m)(I:Inv c nm G n s)(e:qX c.K lx x=some (some v))(hk:ai.kindOf x=some .globalImplicit)(bM:pz x=true)(h:Q v s):
  bg (bc c.prog c.w) A (eval (.Name x cg) ai) Q ab s:=by
 obtain⟨qo,pq,g,b,az⟩:=M.top
 unfold pz at bM
 simp only[jW,tH]at bM
 exact RD F.kind hk (Calls.loadGlobal_global (F.rb▸g.keeps I.base) (mg_of bL.K g e) h) bM.1
theorem uf(bL:jA c nm)(M:v5 c)(F:c9 c aj G env ai s.heap m)(I:Inv c nm G n s)(e:qX c.K lx x=some none)(cP:bootBuiltins x=some v)(cy:x≠("__name__":aL))(hk:ai.kindOf x=some .globalImplicit)(bM:pz x=true)(h:Q v s):
  bg (bc c.prog c.w) A (eval (.Name x cg) ai) Q ab s:=by
 obtain⟨qo,pq,g,b,az⟩:=M.top
 unfold pz at bM
 simp only[jW,tH]at bM
 exact RD F.kind hk (Calls.loadGlobal_builtin (F.rb▸g.keeps I.base) (mg_none_of bL.K g e) (F.blt▸b.keeps I.base) ((az x cy).trans cP) h) bM.1
end
noncomputable def f1(x:bn):Bool:=!ki x.ctorIdx 22
theorem vF{e:bn}{r:B bn}{env:eg}(h:f1 e=true):j0 (e::r) env=(false,eval e env)::j0 r env:=by
 cases e<;>first|rfl|exact ju (show false=true from h)
theorem Bm{env:eg}{cg:hb}:∀{r:B bn},r.all f1=true→(kW cg (j0 r env)).any (·.1)=false
 | [],_=>rfl
 |e::r,h=>vF (a7 h)▸Bm (r:=r) (aD h)
theorem O7{env:eg}{cg:hb}:∀{r:B bn},r.all f1=true→(kW cg (j0 r env)).all (λ x=>!x.1)=true
 | [],_=>rfl
 |e::r,h=>vF (a7 h)▸O7 (r:=r) (aD h)
section
variable{ak:Model}{A:eB}{ab:aw→a2→Prop}{s:a2}{env:eg}
theorem DE{f:aw}{Q:Args→a2→Prop}(hs:b6.all f1=true)(h:bg ak A (sc (kW cg (j0 b6 env))) (λ ar a9=>Q ⟨ar,[]⟩ a9) ab s):bg ak A (evalArgs f true (kW cg (j0 b6 env)) []) Q ab s:=by
 cases b6 with
 |nil=>
  unfold evalArgs
  show bg ak A (sc []>>=_) Q ab s
  refine cK (fa h (λ ar a9 du=>?_) λ _ _ e=>e)
  refine cK (eG ?_)
  refine se ?_
  exact cK (eG (cK (eG (eG du))))
 |cons e r=>
  rw[List.all_cons,jW]at hs
  rw[vF hs.1]at h⊢
  exact Calls.evalArgs_plain h
theorem method_call{o:bn}{name:aL}{C4:hb}(Ed:IW o name env (eval o env)=eval o env)(hs:b6.all f1=true)(cy:b6.length<30)(XX:(C4.endLine==cg.line)=true)
  (h:bg ak A (eval o env) (λ eL aJ=>∀lN,bg ak A (yZ eL name lN) (λ r b'=>bg ak A (yW cg r.1 r.2 (kW cg (j0 b6 env)) []) Q ab b') ab aJ) ab s):
  bg ak A (eval (.Call (.Attribute o name C4) b6 [] cg) env) Q ab s:=by
 rw[arm_eval_Call,Ed]
 refine cK (fa h (λ eL aJ aI=>?_) λ _ _ e=>e)
 refine cK (sf ?_)
 have XG:methodCallForm (b6.length+([]:B Keyword).length) (kW cg (j0 b6 env)) (backToKw cg (keywordEach [] env))=true:=
  dI.mpr ⟨dI.mpr ⟨O7 hs,rfl⟩,iK cy⟩
 have Yd:R3 true o env C4 cg=pure cg:=by unfold R3;simp[XX]
 unfold methodCall
 rw[XG]
 refine cK (se (fa (Q:=λ r b'=>bg ak A (yW cg r.1 r.2 (kW cg (j0 b6 env)) []) Q ab b') ?_ (λ r b' bJ=>cK (wpAny_of_eq Yd bJ)) λ _ _ e=>e))
 exact aI _
end
section
variable{c:cV}{nm:B (B C)}{aj:B (Y aL)}{G:cA}{n:St}{s:a2}{A:eB}{ab:aw→a2→Prop}
theorem abN(I:Inv c nm G n s)(ay:(c.P.i4 V).isSome=true):
  Inv c nm (G++[(s.heap.objs.size+1,s.heap.objs.size)]) (n++[.bF V []]) {s with heap:=(s.heap.push lv).push (nJ (c.ca V) s.heap.objs.size)}∧
  Step G s (G++[(s.heap.objs.size+1,s.heap.objs.size)]) {s with heap:=(s.heap.push lv).push (nJ (c.ca V) s.heap.objs.size)}:=by
 have k:∀b o,s.heap.get? b=some o→((s.heap.push lv).push (nJ (c.ca V) s.heap.objs.size)).get? b=some o:=λ b o e=>ls _ (ls _ e)
 have none:∀b,s.heap.objs.size≤b→s.heap.get? b=none:=λ b az=>by
  cases e:s.heap.get? b with
  |none=>rfl
  |some o=>exact absurd (mT e) (r6.mpr az)
 have q7:(s.heap.push lv).get? s.heap.objs.size=some emptyDict:=nI _ rfl
 have Dx:((s.heap.push lv).push (nJ (c.ca V) s.heap.objs.size)).get? s.heap.objs.size=some (p1 [] 0):=ls _ q7
 have cT:((s.heap.push lv).push (nJ (c.ca V) s.heap.objs.size)).get? (s.heap.objs.size+1)=some (nJ (c.ca V) s.heap.objs.size):=by
  rw[←RO s.heap lv];exact nI _ rfl
 refine⟨I.alloc (t:=s.toks) (cu.of_keep k) (pW (I.ql λ _ _ e=>e)) (I.ql λ _ _ e=>e) (none _ (h4 _)) (none _ (cJ _)) ⟨cT,ay,λ f a h=>by simp at h,[],0,λ _=>.none,Dx,cJ _,?_,λ f _=>rfl⟩,Step.alloc (t:=s.toks) (cu.of_keep k) (none _ (h4 _)) (none _ (cJ _))⟩
 exact(Heap.Ns.new s.heap (.type "dict")).keeps λ b o e=>ls _ e
theorem aay{k:C}{gQ:B aw}{Q:aw→a2→Prop}{aK:a8}(bL:jA c nm)(I:Inv c nm G n s)(ay:(c.P.i4 k).isSome=true)(cl:oT c.K (.ref (c.ca k)) "__init__"=some (some (.ref aK)))(bD:wk c.K (.ref aK)=some (.type "function"))
  (h:∀(nx:eB) (g7:aw→a2→Prop),nx.handled=A.handled→nx.depth≤A.depth+2→nx.units≤A.units+8→
   t4 (bc c.prog c.w) nx (.call (.ref aK) ⟨.ref (s.heap.objs.size+1)::gQ,[]⟩) (InitBack (s.heap.objs.size+1) λ r a9=>match r with| .ok (.ret v)=>Q v a9| .ok _=>False| .error e=>g7 e a9) {s with heap:=(s.heap.push lv).push (nJ (c.ca k) s.heap.objs.size)}):
  bg (bc c.prog c.w) A (call (.ref (c.ca k)) gQ) Q ab s:=by
 have X:=I.K bL.K
 have uh:=(wL (bL.cls k ay)).2.2.2.1
 refine I8 ?_
 obtain⟨gL,g,d,t,os⟩:=s
 refine make_core (makes_of X uh) (looks_findIn X cl) (λ Bd=>bind_fn X Bd bD) (.inl rfl) ?_
 refine h _ ab rfl ?_ ?_
 ·exact fz (show Code.weight (.builtin "type.__call__" ⟨.ref (c.ca k)::gQ,[]⟩)≤2 from aE rfl) _
 ·exact fz (show Code.cUnits (.builtin "type.__call__" ⟨.ref (c.ca k)::gQ,[]⟩)≤8 from aE rfl) _
theorem WY{aG:B (C×D)}{f:C}{Q:aw×B aw→a2→Prop}{aK:a8}(bL:jA c nm)(I:Inv c nm G n s)(h:n[z]? =some (.bF V aG))(Eh:aG.lookup f=none)(n5:f<nm.length)(x:bA c G s.heap (.ref z) v)
  (cl:oT c.K (.ref (c.ca V)) (gJ nm f)=some (some (.ref aK)))(bD:wk c.K (.ref aK)=some (.type "function"))(bz:Q (.ref aK,[v]) s):
  bg (bc c.prog c.w) A (yZ v (gJ nm f) lN) Q ab s:=by
 exact lf x I λ p o bM be ee=>FD (ej (be.symm.trans h)▸ee) λ O k m al=>have cz:=(wL (bL.cls V al.i4)).1;method_fn (I.K bL.K) al.inst (IV (cz (gJ nm f))).1 (IV (cz (gJ nm f))).2 cl bD
  (show(lookIn (gJ nm f) (p1 O k)).map (·.isSome)=some false from an (qU (·.isSome)) ((Fv al.at2 al.ns).1.trans (an some ((al.wX f n5).no Eh)))) (x.elim λ q y=>(ej (y.1.symm.trans bM)▸y.2:v= .ref p.1)▸bz)
theorem WU{xs:B D}{Q:aw×B aw→a2→Prop}(I:Inv c nm G n s)(h:n[z]? =some (.li xs))(x:bA c G s.heap (.ref z) v)(bz:Q (.builtin "list.append",[v]) s):
  bg (bc c.prog c.w) A (yZ v "append" lN) Q ab s:=by
 exact x.elim λ p y=>(rp I y.1 h).2.2.elim λ items q=>q.elim λ k q=>y.2▸R2 q.2.1.typeIs PySem.F.plainAttrs_list PySem.F.slot_list_append PySem.F.type_list_append (λ a e=>IS e▸⟨_,q.1,rfl⟩) (y.2▸bz)
noncomputable def KD(o:Y a0):Bool:=match o with
 |some (.cq _)|some (.h8 _)=>true
 |_=>false
theorem Vi{X:Prop}:∀{o:Y a0},KD o=true→(∀O,o=some (.cq O)→X)→(∀O,o=some (.h8 O)→X)→X:=λ{o} h f g=>by
 cases o with
 |none=>exact ju (show false=true from h)
 |some o=>cases o<;>first|exact f _ rfl|exact g _ rfl|exact ju (show false=true from h)
theorem WW{a:D}{Q:aw×B aw→a2→Prop}(I:Inv c nm G n s)(h:rg n a=true)(x:bA c G s.heap a v)(bz:Q (.builtin "dict.get",[v]) s):
  bg (bc c.prog c.w) A (yZ v "get" lN) Q ab s:=by
 have ix:∀{b:a8},v= .ref b→s.TypeIs (.ref b) "dict"→(∃o,s.heap.get? b=some o∧o.dict=none)→bg (bc c.prog c.w) A (yZ v "get" lN) Q ab s:=λ e fX be=>by
  subst e
  exact R2 fX PySem.F.plainAttrs_dict Iw PySem.F.type_dict_get (λ a e=>IS e▸be) bz
 cases a with
 |cd O=>exact x.elim λ b x=>x.2.2.elim λ f y=>have hm:=Na I y.1;ix x.1 hm.typeIs (hm.noDict _ rfl)
 |ref z=>exact x.elim λ p x=>Vi (show KD n[z]? =true from h) (λ O e=>(I.obj z p _ x.1 e).2.elim λ cZ d=>ix x.2 d.1.typeIs (d.1.mapOf.noDict _ rfl)) λ O e=>(I.obj z p _ x.1 e).2.elim λ xs d=>ix x.2 d.1.typeIs (d.1.imp λ o d=>d.elim λ O d=>d.elim λ hK d=>⟨d.1,d.2.1.2.1⟩)
 |_=>exact nomatch h
end
end Mine
end
section
open PySem PySem.W PyProof.Rows
namespace Mine
variable{v:aw}{Q:p5→a2→Prop}{l:B D}{k:C}{a:D}{t:bn}{i:C}{x:aL}
section
variable{c:cV}{nm:B (B C)}{aj:B (Y aL)}{G:cA}{n:St}{s:a2}{A:eB}{ab:aw→a2→Prop}{env:aX}{ai:eg}{m:aL→Y aw}
theorem Y8{bb:a8}{o:fO}{z:ws}{ar:gR aw}{O:B bn}{x}{p:hb}(be:s.heap.get? bb=some o)(hc:o.cls= .type z)(a1:o.data= .fields ar)(cy:(["enumerate","zip","dict_itemiterator","dict_reverseitemiterator","odict_iterator","itertools.zip_longest","itertools.pairwise"].contains z)=false)(h:Q () s):
  bg (bc c.prog c.w) A (CL (.Tuple O x p) (.ref bb) v) Q ab s:=by
 have k:∀{b:av} {X:ij p5},bg (bc c.prog c.w) A (if(["enumerate","zip","dict_itemiterator","dict_reverseitemiterator","odict_iterator","itertools.zip_longest","itertools.pairwise"].contains z&&b)=true then X else pure ()) Q ab s:=λ{b X}=>by
  rw[cy];exact eG h
 cases v<;>first|exact eG h| (refine cK (wpAny_load be ?_);rw[hc,a1];exact k)
theorem Mk{bb:a8}(T:ln c G s.heap bb l k a)(h:Q () s):bg (bc c.prog c.w) A (CL t (.ref bb) v) Q ab s:=by
 have e:∀{X:Prop},(∀o z ar,s.heap.get? bb=some o→o.cls= .type z→o.data= .fields ar→(["enumerate","zip","dict_itemiterator","dict_reverseitemiterator","odict_iterator","itertools.zip_longest","itertools.pairwise"].contains z)=false→X)→X:=λ{X} f=>by
  cases a with
  |tup _=>obtain⟨_,_,_,_,o,be,hc,a1⟩:=T;exact f o _ _ be hc a1 (by decide)
  |ss _=>obtain⟨_,_,o,be,hc,a1⟩:=T;exact f o _ _ be hc a1 (by decide)
  |ew _ _=>obtain⟨_,be⟩:=T;exact f _ _ _ be rfl rfl (by decide)
  |ref _=>obtain⟨p,_,o,be,hc,a1⟩:=T;exact f o _ _ be hc a1 (by decide)
  |_=>exact T.elim
 refine e λ o z ar be hc a1 cy=>?_
 have g:∀O x p,bg (bc c.prog c.w) A (CL (.Tuple O x p) (.ref bb) v) Q ab s:=λ O x p=>Y8 be hc a1 cy h
 cases t<;>first|exact eG h|exact g _ _ _|exact g [] default default
theorem Y7{bb:a8}{Q:aw→a2→Prop}(T:ln c G s.heap bb l k a)(h:Q (.ref bb) s):bg (bc c.prog c.w) A (pyIter (.ref bb)) Q ab s:=by
 cases a with
 |tup _=>obtain⟨_,_,_,_,ay⟩:=T;exact wpAny_pyIter_tupleiter ay h
 |ss _=>obtain⟨_,_,ay⟩:=T;exact wpAny_pyIter_striter_ascii ay h
 |ew _ _=>obtain⟨_,ay⟩:=T;exact wpAny_pyIter_rangeiter ay h
 |ref _=>obtain⟨p,_,ay⟩:=T;exact wpAny_pyIter_listiter ay h
 |_=>exact T.elim
noncomputable def tk(aS:gb)(x:aL):Bool:=aS.names.lookup x==some .local||aS.names.lookup x==some .cell
noncomputable def u'(aj:B (Y aL))(i:C)(x:aL):Bool:=cT (cT λ y=>decide (y=x)) (aj:B (Y aL))[i]?
theorem va(h:u' aj i x=true):(aj:B (Y aL))[i]? =some (some x):=
 qs h λ o h=>qs h λ y h=>an (λ y=>some (some y)) (gh h)
noncomputable def DB(aj:B (Y aL))(aS:gb)(i:C):bn→Bool:=nv λ x=>u' aj i x&&tk aS x
noncomputable def zH(aj:B (Y aL))(aS:gb):B C→B bn→av
 | [],O=>hg O
 |i::xs,O=>oc (λ e O=>DB aj aS i e&&zH aj aS xs O) O
noncomputable def rL(aj:B (Y aL))(aS:gb)(many:av)(xs:B C)(t:bn):Bool:=cond many (yr (zH aj aS xs) t) (dy (λ i=>DB aj aS i t) xs)
noncomputable def xu(aS:gb):bn→Bool:=nv λ x=>aS.names.lookup x==some .local
noncomputable def rs(aS:gb)(t:bn):Bool:=cond (ki t.ctorIdx 23) (xu aS t) (yr (λ O=>O.all (xu aS)) t)
theorem Gt{ai:eg}(h:tk ai.scope x=true)(hc:∀x,ai.kindOf x=some .cell→(ai.cells.lookup x).isSome=true):
  ai.kindOf x=some .local∨ai.kindOf x=some .cell∧(ai.cells.lookup x).isSome=true:=
 (BW.mp h).imp eq_of_beq λ q=>⟨eq_of_beq q,hc x (eq_of_beq q)⟩
noncomputable def y5(c:cV)(nm:B (B C))(aj:B (Y aL))(G:cA)(n:St)(ai:eg)(aF:aX)(loc:av)(Q:p5→a2→Prop)(s:a2):Prop:=
 ∀H t c0,cu (e2 ai) s.heap H→(loc=true→cu (λ b=>b=ai.locals) s.heap H)→c9 c aj G aF ai H c0→Inv c nm G n {s with heap:=H,toks:=t}→Q () {s with heap:=H,toks:=t}
theorem KJ{e:bn}(F:c9 c aj G env ai s.heap m)(I:Inv c nm G n s)(h:DB aj ai.scope i e=true)(r:bA c G s.heap a v)(du:y5 c nm aj G n ai (iO env i a) (xu ai.scope e) Q s):bg (bc c.prog c.w) A (assign e ai v) Q ab s:=by
 revert du
 exact mK h λ x p o du=>R7 (Gu F I (va (a7 o)) (Gt (aD o) F.has) r λ H t c0 c2 dW g8 ey=>du H t c0 c2 (λ q=>dW (eq_of_beq q)) g8 ey)
theorem VC(xs:B C):∀{O:B bn} {l:B D} {ar:B aw} {env aF:aX} {m:aL→Y aw} {s:a2} {Q:p5→a2→Prop},c9 c aj G env ai s.heap m→Inv c nm G n s→
  zH aj ai.scope xs O=true→th env xs l=some aF→cs c G s.heap l ar→y5 c nm aj G n ai aF (O.all (xu ai.scope)) Q s→
  bg (bc c.prog c.w) A (R1 ((t2 O ai).map (·.2)) ar) Q ab s:=by
 induction xs with
 |nil=>
  intro O l ar env aF m s Q F I h
  refine gZ h λ b3 r du=>?_
  cases l with
  |nil=>exact(show ar=[]from r)▸eG (du s.heap s.toks m (.refl _ _) (λ _=>.refl _ _) (ej b3▸F) I)
  |cons a l=>cases b3
 |cons i xs aZ=>
  intro O l ar env aF m s Q F I h
  refine jp h λ e O h b3 r du=>?_
  cases l with
  |nil=>cases b3
  |cons a l=>
   refine r.elim λ v r=>r.elim λ f5 r=>r.1▸?_
   have w:(t2 (e::O) ai).map (·.2)=assign e ai::(t2 O ai).map (·.2):=mK (a7 h) λ x p o=>rfl
   refine(an (R1 · (v::f5)) w).symm▸wpAny_assignInOrder_more (KJ F I (a7 h) r.2.1 λ H t c0 c2 dW g8 ey=>aZ g8 ey (aD h) b3 (r.2.2.keep (.refl G) (F.wJ (t:=s.toks) I c2).2) λ pb cB xw g1 g2 ke nA=>du pb cB xw (c2.trans g1) (λ q=>(dW (a7 q)).trans (g2 (aD q))) ke nA)
theorem VB{aS:gb}{ai:eg}(xs:B C):∀{O:B bn},zH aj aS xs O=true→(t2 O ai).length=xs.length∧(t2 O ai).findIdx? (·.1)=none:=by
 induction xs with
 |nil=>exact λ h=>gZ h ⟨rfl,rfl⟩
 |cons i xs aZ=>
  refine λ h=>jp h λ e O h=>?_
  have w:t2 (e::O) ai=(false,assign e ai)::t2 O ai:=mK (a7 h) λ x p o=>rfl
  have a:=aZ (aD h)
  exact w▸⟨an l1 a.1,List.findIdx?_cons.trans (an (qU l1) a.2)⟩
theorem adX(xs:B C):∀{l:B D} {env aF:aX},th env xs l=some aF→xs.length=l.length:=by
 induction xs with
 |nil=>exact λ{l} _ _ h=>by cases l<;>first|rfl|cases h
 |cons x xs aZ=>exact λ{l} _ _ h=>by cases l<;>first|cases h|exact an l1 (aZ h)
theorem C6{many:av}{xs:B C}{aF:aX}(gL:A.handled=none)(F:c9 c aj G env ai s.heap m)(I:Inv c nm G n s)
  (bD:rL aj ai.scope many xs t=true)(az:dh many xs a env=some aF)(r:bA c G s.heap a v)(du:y5 c nm aj G n ai aF (rs ai.scope t) Q s):
  bg (bc c.prog c.w) A (assign t ai v) Q ab s:=by
 cases many with
 |false=>
  revert az
  refine jo bD λ i o az=>KJ F I o r ?_
  have du:y5 c nm aj G n ai (iO env i a) (rs ai.scope t) Q s:=ej az▸du
  exact(show rs ai.scope t=xu ai.scope t from mK o λ _ _ _=>rfl)▸du
 |true=>
  revert du
  refine Hi bD λ O k cg bD du=>?_
  cases a with
  |tup l=>
   obtain⟨b,items,rfl,Yn,a4⟩:=r
   have dy:=VB (ai:=ai) xs bD
   refine wpAny_assign_Tuple gL Yn (dy.1.trans ((adX xs az).trans (a4.length.symm.trans yt))) dy.2 λ H b3=>?_
   have ch:cu (λ _=>False) s.heap H:=λ b o e _=>b3 b o (λ q=>absurd (mT e) (by rw[q];exact oP _)) e
   have S:Step G s G {s with heap:=H}:=.more (t:=s.toks) ch
   have ey:Inv c nm G n {s with heap:=H}:=I.more (t:=s.toks) ch
   exact VC xs (s:={s with heap:=H}) (F.step I S) ey bD az (S.vO I a4) λ pb cB xw g1 g2 ke nA=>du pb cB xw (ch.all.trans g1) (λ q=>ch.all.trans (g2 q)) ke nA
  |_=>cases az
end
end Mine
end
section
open PySem PySem.W PyProof.Rows
namespace Mine
variable{xs:B C}{a:D}{e:aX}{i:C}{o:Y D}{bC:aX}{many:av}{r:aX}{bG:gb}{gn:B aL}
noncomputable def Agree(xs:B C)(e bC:aX):Prop:=e.length=bC.length∧∀j,j∉xs→(e:B (Y D))[j]? =(bC:B (Y D))[j]?
theorem Agree.refl(xs:B C)(e:aX):Agree xs e e:=⟨rfl,λ _ _=>rfl⟩
theorem Agree.trans{a b d:aX}(x:Agree xs a b)(y:Agree xs b d):Agree xs a d:=⟨x.1.trans y.1,λ j h=>(x.2 j h).trans (y.2 j h)⟩
theorem Agree.set(h:i∈xs):Agree xs e (yI e i o):=⟨by simp,λ j bt=>by
 rw[tO];rintro rfl;exact bt h⟩
theorem Agree.both{x:C}(h:Agree (x::xs) e bC):Agree xs (yI e x o) (yI bC x o):=by
 refine⟨by simp[h.1],λ j bt=>?_⟩
 by_cases aA:x=j
 ·subst aA
  by_cases hl:x<e.length
  ·rw[yE hl,yE (h.1▸hl)]
  ·rw[B8 (by simp;omega),B8 (by simp[←h.1];omega)]
 ·rw[tO aA,tO aA]
  exact h.2 j (by simp only[kg,not_or];exact⟨λ q=>aA q.symm,bt⟩)
theorem Jo(h:Agree [] e bC):e=bC:=List.ext_getElem? λ j=>h.2 j (by simp)
theorem OT:∀{xs:B C} {l:B D} {e bC r:aX},Agree xs e bC→th e xs l=some r→th bC xs l=some r
 | [],[],e,bC,r,h,q=>by cases q;rw[Jo h];rfl
 | [],_::_,_,_,_,_,q=>by cases q
 |_::_,[],_,_,_,_,q=>by cases q
 |x::xs,a::l,e,bC,r,h,q=>OT (xs:=xs) (Agree.both h) q
theorem OU:∀{xs bf:B C} {l:B D} {e r:aX},(∀x∈xs,x∈bf)→th e xs l=some r→Agree bf e r
 | [],_,[],e,r,_,q=>by cases q;exact .refl _ _
 | [],_,_::_,_,_,_,q=>by cases q
 |_::_,_,[],_,_,_,q=>by cases q
 |x::xs,bf,a::l,e,r,h,q=>(Agree.set (h x (.head _))).trans (OU (xs:=xs) (λ y bI=>h y (.tail _ bI)) q)
theorem Ul(h:Agree xs e bC)(q:dh many xs a e=some r):dh many xs a bC=some r:=by
 unfold dh at q⊢
 split at q
 ·cases q
  rename_i x
  exact an some (Jo (Agree.both h)).symm
 ·exact OT h q
 ·cases q
theorem Um(q:dh many xs a e=some r):Agree xs e r:=by
 unfold dh at q
 split at q
 ·cases q;exact Agree.set (.head _)
 ·exact OU (λ _ h=>h) q
 ·cases q
noncomputable def zv(xs:B C)(e:aX):aX:=xs.foldl (λ e i=>yI e i none) e
theorem zw{bf:B C}:∀{xs:B C} {e:aX},(∀x∈xs,x∈bf)→Agree bf e (zv xs e)
 | [],_,_=>.refl _ _
 |x::xs,e,h=>(Agree.set (h x (.head _))).trans (zw (xs:=xs) λ y bI=>h y (.tail _ bI))
theorem Kn{i:C}{a:D}:∀{xs:B C} {e:aX},(e:B (Y D))[i]? ≠some (some a)→(zv xs e:B (Y D))[i]? ≠some (some a)
 | [],_,h=>h
 |x::xs,e,h=>Kn (xs:=xs) λ q=>by
  by_cases aA:x=i
  ·subst aA
   rw[QY]at q
   split at q
   ·split at q<;>cases q
   ·exact absurd rfl ‹¬_›
  ·rw[tO aA]at q;exact h q
theorem Km{i:C}{a:D}:∀{xs:B C} {e:aX},i∈xs→(zv xs e:B (Y D))[i]? ≠some (some a)
 |x::xs,e,h=>by
  rcases kg.mp h with rfl|h
  ·refine Kn (xs:=xs) (e:=yI e i none) λ q=>?_
   rw[QY]at q
   split at q
   ·split at q<;>cases q
   ·exact absurd rfl ‹¬_›
  ·exact Km (xs:=xs) h
noncomputable def gf(cells:B (aL×a8)):B (aL×oS)→B (aL×a8)→B (aL×a8)
 | [],acc=>acc
 | (z,k)::r,acc=>if k== .free then gf cells r ((z,(cells.lookup z).getD 0)::acc)else gf cells r acc
theorem U2{ai:eg}(h:∀x∈bG.names,x.2= .free→(ai.cells.lookup x.1).isSome=true):closureFor bG ai=pure (gf ai.cells bG.names []):=by
 unfold closureFor
 have:∀(names:B (aL×oS)) (acc:B (aL×a8)),(∀x∈names,x.2= .free→(ai.cells.lookup x.1).isSome=true)→
   (forIn names acc λ x Kw=>match x with
    | (name,kind)=>if(kind==tY)=true then(do let a←cellOf ai name;pure (kU ((name,a)::Kw)))else pure (kU Kw):ij (B (aL×a8)))=pure (gf ai.cells names acc):=by
  intro names
  induction names with
  |nil=>intro acc _;rfl
  |cons p r aZ=>
   obtain⟨z,k⟩:=p
   intro acc gL
   rw[HQ]
   unfold gf
   by_cases hk:(k==tY)=true
   ·obtain⟨a,bO⟩:=oR.mp (gL (z,k) (.head _) (jj.mp hk))
    have e:cellOf ai z=pure a:=by unfold cellOf;rw[bO]
    simp only[hk,if_true,e,pure_bind,bO,Rx]
    exact aZ _ λ x aA=>gL x (.tail _ aA)
   ·simp only[hk,pure_bind,Hr,Ex]
    exact aZ _ λ x aA=>gL x (.tail _ aA)
 have t:=this bG.names [] h
 simp only[]at t⊢
 rw[t]
 rfl
theorem zs{cells:B (aL×a8)}{x:aL}{q:a8}:∀{names:B (aL×oS)} {acc:B (aL×a8)},(∀y∈names,y.2= .free→(cells.lookup y.1).isSome=true)→(gf cells names acc).lookup x=some q→acc.lookup x=some q∨cells.lookup x=some q
 | [],_,_,h=>.inl h
 | (z,k)::r,acc,gL,h=>by
  unfold gf at h
  split at h
  ·rename_i hk
   obtain⟨a,bO⟩:=oR.mp (gL (z,k) (.head _) (jj.mp hk))
   rcases zs (λ y bI=>gL y (.tail _ bI)) h with e|e
   ·rw[l0]at e
    split at e
    ·rename_i aA
     cases e
     right
     rw[bO,Rx,jj.mp aA]
     exact bO
    ·exact .inl e
   ·exact .inr e
  ·exact zs (λ y bI=>gL y (.tail _ bI)) h
theorem zu{cells:B (aL×a8)}{x:aL}:∀{names:B (aL×oS)} {acc:B (aL×a8)},names.lookup x=some .free∨(acc.lookup x).isSome=true→((gf cells names acc).lookup x).isSome=true
 | [],_,h=>h.elim (λ e=>by cases e) id
 | (z,k)::r,acc,h=>by
  unfold gf
  by_cases hk:(k==tY)=true
  ·rw[if_pos hk]
   refine zu (names:=r) ?_
   by_cases aA:(x==z)=true
   ·exact .inr (by rw[l0,aA];rfl)
   ·refine h.imp (λ e=>?_) λ e=>?_
    ·rw[l0]at e;simpa only[aA]using e
    ·rw[l0];simpa only[aA]using e
  ·rw[if_neg hk]
   refine zu (names:=r) (h.imp (λ e=>?_) id)
   rw[l0]at e
   split at e
   ·cases e;exact absurd rfl hk
   ·exact e
noncomputable def pC(bG aS:gb):Scope:=wo bG {scope:=aS,locals:=0,globals:=0,cells:=[]}
theorem M2{g:aL→oS→oS}{x:aL}:∀{names:B (aL×oS)},(names.map λ p=>(p.1,g p.1 p.2)).lookup x=(names.lookup x).map (g x)
 | []=>rfl
 | (z,k)::r=>by
  rw[oL,l0,l0]
  by_cases h:(x==z)=true
  ·rw[h,jj.mp h];rfl
  ·simp only[Bool.not_eq_true]at h
   rw[h];exact M2
theorem Ok(bG:gb)(ai:eg)(x:aL):(wo bG ai).names.lookup x=(bG.names.lookup x).map λ k=>if(k==tY&&ai.scope.kind== .function&&ai.kindOf x==some .cell)=true then .cell else k:=by
 rw[←M2 (g:=λ z k=>if(k==tY&&ai.scope.kind== .function&&ai.kindOf z==some .cell)=true then .cell else k)]
 have:(wo bG ai).names=bG.names.map λ p=>(p.1,if(p.2==tY&&ai.scope.kind== .function&&ai.kindOf p.1==some .cell)=true then .cell else p.2):=by
  unfold wo
  show eA _ _=eA _ _
  congr 1
  funext p
  obtain⟨z,k⟩:=p
  dsimp only
  split<;>rfl
 rw[this]
noncomputable def Ds(aS bG:gb):Bool:=
 bG.kind== .function&&(bG.names.all λ x=>x.2 != .cell)&&(bG.names.all λ x=>x.2 != .local||bG.names.lookup x.1==some .local)&&(bG.names.all λ x=>x.2 != .free||aS.names.lookup x.1==some .cell)
structure v0(aS bG:gb):Prop where
 kind:bG.kind= .function
 cell:∀x∈bG.names,x.2≠ .cell
 loc:∀x∈bG.names,x.2= .local→bG.names.lookup x.1=some .local
 free:∀x∈bG.names,x.2= .free→aS.names.lookup x.1=some .cell
theorem Kq{aS:gb}(h:Ds aS bG=true):v0 aS bG:=by
 unfold Ds at h
 simp only[jW,g9,Bool.or_eq_true,jj,p7]at h
 obtain⟨⟨⟨ax,aH⟩,cI⟩,gg⟩:=h
 exact⟨ax,aH,λ x aA e=>(cI x aA).resolve_left λ q=>q e,λ x aA e=>(gg x aA).resolve_left λ q=>q e⟩
noncomputable def ia(aj:B (Y aL))(xs:B C)(gn:B aL)(bG:gb):B (Y aL):=
 (ck aj.length).map λ i=>if i∈xs then((xs.zip gn).lookup i)else match(aj:B (Y aL))[i]? with
  |some (some x)=>if bG.names.lookup x==some .free then some x else none
  |_=>none
theorem abE(aj:B (Y aL))(xs:B C)(gn:B aL)(bG:gb):(ia aj xs gn bG).length=aj.length:=by simp[ia]
theorem abF{aj:B (Y aL)}{x:aL}(h:(ia aj xs gn bG:B (Y aL))[i]? =some (some x))(ay:i∉xs):(aj:B (Y aL))[i]? =some (some x)∧bG.names.lookup x=some .free:=by
 unfold ia at h
 rw[qR]at h
 obtain⟨j,bt,e⟩:=l2.mp h
 have:j=i:=by
  rw[yD]at bt
  ·cases bt;rfl
  ·have:=(jY.mp bt).1;simpa using this
 subst this
 rw[if_neg ay]at e
 split at e
 ·rename_i y wR
  split at e
  ·rename_i cl
   cases e
   exact⟨wR,jj.mp cl⟩
  ·cases e
 ·cases e
noncomputable def tr(aj:B (Y aL)):Bool:=decide ((aj.filterMap id).Nodup)
theorem GU:∀{aj:B (Y aL)},(aj.filterMap id).Nodup→∀(i j:C) x,(aj:B (Y aL))[i]? =some (some x)→(aj:B (Y aL))[j]? =some (some x)→i=j
 | [],_,i,_,_,h,_=>by simp at h
 |none::r,a1,i,j,x,ax,aH=>by
  cases i with
  |zero=>simp at ax
  |succ i=>
   cases j with
   |zero=>simp at aH
   |succ j=>rw[GU (aj:=r) (by simpa using a1) i j x (by simpa using ax) (by simpa using aH)]
 |some y::r,a1,i,j,x,ax,aH=>by
  have gv:y∉r.filterMap id∧(r.filterMap id).Nodup:=by simpa using a1
  have mem:∀{k:C},(r:B (Y aL))[k]? =some (some y)→False:=λ e=>gv.1 (List.mem_filterMap.mpr ⟨some y,h2 e,rfl⟩)
  cases i with
  |zero=>
   simp only[yB,yO]at ax
   subst ax
   cases j with
   |zero=>rfl
   |succ j=>exact(mem (by simpa using aH)).elim
  |succ i=>
   cases j with
   |zero=>
    simp only[yB,yO]at aH
    subst aH
    exact(mem (by simpa using ax)).elim
   |succ j=>rw[GU (aj:=r) gv.2 i j x (by simpa using ax) (by simpa using aH)]
theorem GS{aj:B (Y aL)}(h:tr aj=true):∀(i j:C) x,(aj:B (Y aL))[i]? =some (some x)→(aj:B (Y aL))[j]? =some (some x)→i=j:=GU (gh h)
section
variable{c:cV}{nm:B (B C)}{aj:B (Y aL)}{G:cA}{n:St}{s:a2}{A:eB}{ab:aw→a2→Prop}{env:aX}{ai:eg}{m:aL→Y aw}
theorem U8{V:a8}{H:dD}{c0:aL→Y aw}{t:C}(F:c9 c aj G env ai s.heap m)(I:Inv c nm G n s)(Z:v0 ai.scope bG)(dS:tr (ia aj xs gn bG)=true)(bV:s.heap.get? V=none)
  (hk:∀b o,s.heap.get? b=some o→H.get? b=some o)(cy:H.Ns V c0):c9 c (ia aj xs gn bG) G (zv xs env) (compEnvC bG (gf ai.cells bG.names []) V ai) H c0∧Inv c nm G n {s with heap:=H,toks:=t}:=by
 have ch:cu (λ _=>False) s.heap H:=λ b o e _=>hk b o e
 have S:Step G s G {s with heap:=H,toks:=t}:=.more ch
 have g8:=F.step I S
 have z6:∀x∈bG.names,x.2= .free→(ai.cells.lookup x.1).isSome=true:=λ x aA e=>F.has _ (Z.free x aA e)
 have e4:∀{x q},(gf ai.cells bG.names []).lookup x=some q→ai.cells.lookup x=some q:=λ h=>(zs z6 h).elim (λ e=>by cases e) id
 refine⟨⟨?_,F.rb,F.blt,?_,cy,λ x q e=>g8.cells x q (e4 e),λ x y q au aB=>F.apart x y q (e4 au) (e4 aB),λ b o f=>?_,λ b o=>?_,GS dS,λ x e=>?_,λ i x a aA bO=>?_⟩,I.more ch⟩
 ·show(wo bG ai).kind= .function
  exact Z.kind
 ·rw[←(zw (bf:=xs) λ _ h=>h).1,F.len,abE]
 ·rcases o with rfl| ⟨x,e⟩
  ·obtain⟨o,e⟩:=I.wV f
   rw[bV]at e;cases e
  ·exact F.foot b (.inr ⟨x,e4 e⟩) f
 ·rcases o with rfl| ⟨x,e⟩
  ·cases e:c.h₀.get? b with
   |none=>rfl
   |some o=>have:=I.base _ _ e;rw[bV]at this;cases this
  ·exact F.out b (.inr ⟨x,e4 e⟩)
 ·have bC:((bG.names.lookup x).map λ k=>if(k==tY&&ai.scope.kind== .function&&ai.kindOf x==some .cell)=true then .cell else k)=some .cell:=(Ok bG ai x)▸e
  obtain⟨k,n4,aB⟩:=l2.mp bC
  split at aB
  ·rename_i q
   simp only[jW,jj]at q
   exact zu (.inl (q.1.1▸n4))
  ·subst aB
   exact absurd rfl (Z.cell _ (mem_of_lookup n4))
 ·have ay:i∉xs:=λ q=>Km q bO
  obtain⟨ax,aH⟩:=abF aA ay
  have Xm:(env:B (Y D))[i]? =some (some a):=by
   rw[(zw (bf:=xs) (e:=env) λ _ h=>h).2 i ay];exact bO
  have ko:=g8.vars i x a ax Xm
  have LB:=Z.free _ (mem_of_lookup aH) rfl
  obtain⟨q,du⟩:=oR.mp (zu (cells:=ai.cells) (acc:=[]) (.inl aH))
  have XS:(compEnvC bG (gf ai.cells bG.names []) V ai).kindOf x=some .cell:=by
   show(wo bG ai).names.lookup x=_
   rw[Ok,aH]
   have au:ai.kindOf x=some .cell:=LB
   simp[F.kind,au]
  have au:ai.kindOf x=some .cell:=LB
  exact ko.imp λ v ko=>⟨ko.1,ko.2.elim (λ w=>nomatch au.symm.trans w.1) λ w=>.inr ⟨.inl XS,q,du,w.2.elim λ ep w=>ej (w.1.symm.trans (e4 du))▸w.2⟩⟩
end
end Mine
end
section
open PySem PySem.W PyProof.Rows
namespace Mine
variable{l:B D}{k:C}{h:dD}{b:a8}{H:dD}{X:a8→Prop}{fU:cA}{fm:a2}{a:D}{bv:cA}{a9:a2}{J:St}{ag:a8}{acc:B D}{L:C}{el:eg}{aF:aX}{xs:B C}
section
variable{prog:lu}{w:eY}{A:eB}{ab:aw→a2→Prop}{R:yT→a2→Prop}{s:a2}
theorem U6{kv iP hw:bn}{eo:B bn}{scope:gb}{cg:hb}{bb acc:aw}{env:eg}(I:C→a2→Prop)
  (afq:∀z s,I z s→bg (bc prog w) A (pyNext bb) (λ r aJ=>match r with
   |none=>R (.ok .next) aJ
   |some v=>bg (bc prog w) A (CL iP bb v) (λ _ Pe=>bg (bc prog w) A (assign iP env v) (λ _ b'=>
     bg (bc prog w) A (forIn eo true λ c r=>if r=true then do let ok←isTrue c env (eval c env);pure (kU ok)else pure (kU r)) (λ ok js=>
      if ok=true then bg (bc prog w) A (eval kv env) (λ x tl=>
       bg (bc prog w) A (call (.builtin "list.append") [acc,x]) (λ _ yf=>∃m,m<z∧I m yf) (wn (bc prog w) A env λ e a9=>R (.error e) a9) tl) (wn (bc prog w) A env λ e a9=>R (.error e) a9) js
      else∃m,m<z∧I m js) (wn (bc prog w) A env λ e a9=>R (.error e) a9) b') (wn (bc prog w) A env λ e a9=>R (.error e) a9) Pe) (wn (bc prog w) A env λ e a9=>R (.error e) a9) aJ) (wn (bc prog w) A env λ e a9=>R (.error e) a9) s)
  (z:C)(h:I z s):t4 (bc prog w) A (.compLoop (.ListComp kv [⟨iP,hw,eo,0⟩] scope cg) 0 bb acc env) R s:=by
 refine codeAny_loop rfl I (λ z s dj=>?_) z h
 show bg _ A ((compTurn (.ListComp kv [⟨iP,hw,eo,0⟩] scope cg) 0 bb acc env).onRaise (λ x=>do noteFrame x env;theTreesLotGoes x)) _ _ s
 refine wpAny_noted ?_
 rw[compTurn_list]
 refine cK (sf (cK (fa (afq z s dj) (λ r aJ aI=>?_) λ _ _ H=>H)))
 cases r with
 |none=>exact eG aI
 |some v=>
  refine cK (fa aI (λ _ Pe aI=>?_) λ _ _ H=>H)
  refine cK (fa aI (λ _ b' bJ=>cK (fa bJ (λ ok js cQ=>?_) λ _ _ H=>H)) λ _ _ H=>H)
  cases ok with
  |false=>exact eG ⟨rfl,cQ⟩
  |true=>
   exact cK (cK (fa cQ (λ x tl hO=>cK (fa hO (λ _ yf i3=>eG (eG ⟨rfl,i3⟩)) λ _ _ H=>H)) λ _ _ H=>H))
end
section
variable{c:cV}{nm:B (B C)}{aj:B (Y aL)}{G:cA}{n:St}{s:a2}{A:eB}{ab:aw→a2→Prop}{env:aX}{ai:eg}{m:aL→Y aw}
noncomputable def rZ(ag ae bb:a8)(b:a8):Prop:=b=ag∨b=ae∨b=bb
theorem Lg{α:Type}{l r:B α}{x:α}(h:l.drop k=x::r):l[k]? =some x∧l.drop (k+1)=r:=by
 constructor
 ·have:=List.getElem?_drop (xs:=l) (i:=k) (j:=0)
  rw[h]at this
  simpa using this.symm
 ·have:(l.drop k).drop 1=r:=by rw[h];rfl
  rwa [List.drop_drop]at this
structure rX(c:cV)(nm:B (B C))(aj:B (Y aL))(fU:cA)(fm:a2)(xs:B C)(env:aX)(el:eg)(bb ag:a8)(a:D)(l:B D)(k:C)(acc:B D)(G:cA)(n:St)(s:a2):Prop where
 inv:Inv c nm G n s
 me:∃aF m,Agree xs env aF∧c9 c aj G aF el s.heap m
 at_:ln c G s.heap bb l k a
 out:∃bf d9,s.heap.get? ag=some {cls:=.type "list",data:=.seq bf d9}∧cs c G s.heap acc bf.toList∧bf.size≤k
 le:k≤l.length
 step:fi (rZ ag el.locals bb) fU fm G s
 base:∀b,rZ ag el.locals bb b→c.h₀.get? b=none
 ne:ag≠el.locals∧ag≠bb∧bb≠el.locals∧∀x q,el.cells.lookup x=some q→q≠ag∧q≠bb
structure lp(c:cV)(nm:B (B C))(X:a8→Prop)(fU:cA)(fm:a2)(bb:a8)(a:D)(l:B D)(k:C)(G:cA)(n:St)(s:a2):Prop where
 inv:Inv c nm G n s
 at_:ln c G s.heap bb l k a
 step:fi X fU fm G s
 base:c.h₀.get? bb=none
 BN:X bb
theorem Fn(x:∃o,h.get? b=some o∧¬ih o)(o:fO)(e:h.get? b=some o):¬ih o:=let⟨_,bC,z⟩:=x;(ej (e.symm.trans bC))▸z
theorem c9.zt{aj:B (Y aL)}{env:aX}{ai:eg}{G:cA}{m:aL→Y aw}(F:c9 c aj G env ai h m)(ch:cu X h H)(own:∀b,e2 ai b→¬X b)(d8:fV h H):c9 c aj G env ai H m:=
 ⟨F.kind,F.rb,F.blt,F.len,tV.ch ch (own _ (.inl rfl)) F.ns,λ y q e=>let⟨v,cP⟩:=F.cells y q e;⟨v,tL.ch ch (own _ (.inr ⟨y,e⟩)) cP⟩,F.apart,F.foot,F.out,F.uniq,F.has,λ i y b ax aH=>
  (F.vars i y b ax aH).keep (.refl G) d8 (λ _=>id) λ q v e cP=>tL.ch ch (own _ (.inr ⟨y,e⟩)) cP⟩
theorem Inv.JF(I:Inv c nm G n s)(t:C)(ch:cu (λ q=>q=b) s.heap H)(off:¬eF G b)(base:c.h₀.get? b=none)(ry:∃o,s.heap.get? b=some o∧¬ih o):Inv c nm G n {s with heap:=H,toks:=t}∧fV s.heap H:=
 ⟨I.change ch (λ q e=>e▸off) (λ q e=>e▸base) λ q o e g=>Fn ry o (e▸g),λ q o e f=>ch q o e λ L=>Fn ry o (L▸e) f⟩
theorem lp.off{bb:a8}(cU:lp c nm X fU fm bb a l k G n s):¬eF G bb:=cU.step.off _ cU.BN
theorem lp.chg{bb:a8}(cU:lp c nm X fU fm bb a l k G n s)(t:C)(ch:cu (λ b=>b=bb) s.heap H):Inv c nm G n {s with heap:=H,toks:=t}∧fV s.heap H∧fi X fU fm G {s with heap:=H,toks:=t}:=
 have L:=cU.inv.JF t ch cU.off cU.base cU.at_.live
 ⟨L.1,L.2,cU.step.trans (.ng (ch.mono λ _ q=>q▸cU.BN) cU.step.off)⟩
theorem lp.br{bb:a8}(cU:lp c nm X fU fm bb a l k G n s)(t:C)(ch:cu (λ b=>b=bb) s.heap H)(T:ln c G H bb l (k+1) a):lp c nm X fU fm bb a l (k+1) G n {s with heap:=H,toks:=t}:=
 have L:=cU.chg t ch;⟨L.1,T,L.2.2,cU.base,cU.BN⟩
theorem lp.ea{bb:a8}(cU:lp c nm X fU fm bb a l k G n s)(ey:Inv c nm bv J a9)(S:fi X G s bv a9)(d8:fV s.heap a9.heap)(e:∀o,s.heap.get? bb=some o→a9.heap.get? bb=some o):lp c nm X fU fm bb a l k bv J a9:=
 ⟨ey,cU.at_.keep S.ext.1 d8 e,cU.step.trans S,cU.base,cU.BN⟩
noncomputable def tW(c:cV)(G:cA)(h:dD)(ag:a8)(acc:B D)(L:C):Prop:=∃bf d9,h.get? ag=some {cls:=.type "list",data:=.seq bf d9}∧cs c G h acc bf.toList∧bf.size≤L
theorem tW.keep(bL:tW c G h ag acc L)(lo:g' G bv)(d8:fV h H)(e:∀o,h.get? ag=some o→H.get? ag=some o):tW c bv H ag acc L:=let⟨bf,d9,au,r,l⟩:=bL;⟨bf,d9,e _ au,r.keep lo d8,l⟩
theorem tW.ry(bL:tW c G h ag acc L):∃o,h.get? ag=some o∧¬ih o:=let⟨_,_,e,_⟩:=bL;⟨_,e,λ f=>f.elim (λ f=>absurd f.1 (by simp)) λ f=>absurd f.1 (by simp)⟩
structure kd(c:cV)(nm:B (B C))(aj:B (Y aL))(fU:cA)(fm:a2)(el:eg)(bb ag:a8)(a:D)(l:B D)(k L:C)(acc:B D)(env:aX)(m:aL→Y aw)(G:cA)(n:St)(s:a2):Prop where
 h:lp c nm (rZ ag el.locals bb) fU fm bb a l k G n s
 me:c9 c aj G env el s.heap m
 out:tW c G s.heap ag acc L
theorem kd.live{bb:a8}{env:aX}{m:aL→Y aw}(ak:kd c nm aj fU fm el bb ag a l k L acc env m G n s):∀b,rZ ag el.locals bb b→¬eF G b∧∃o,s.heap.get? b=some o:=λ b az=>
 ⟨ak.h.step.off b az,az.elim (λ e=>e▸ak.out.ry.elim λ o q=>⟨o,q.1⟩) λ az=>az.elim (λ e=>e▸(e2.old ak.me (.inl rfl)).elim λ o q=>⟨o,q.1⟩) λ e=>e▸ak.h.at_.live.elim λ o q=>⟨o,q.1⟩⟩
theorem kd.ea{bb:a8}{env:aX}{m:aL→Y aw}(ak:kd c nm aj fU fm el bb ag a l k L acc env m G n s)(ey:Inv c nm bv J a9)(S:Step G s bv a9):kd c nm aj fU fm el bb ag a l k L acc env m bv J a9:=
 have d8:=ak.h.inv.m' S.ch
 ⟨ak.h.ea ey (.FF S ak.live) d8 λ o e=>S.ch _ o e ak.h.off,ak.me.step ak.h.inv S,ak.out.keep S.ext.1 d8 λ o e=>S.ch _ o e (ak.h.step.off _ (.inl rfl))⟩
theorem kd.asg{bb:a8}{env:aX}{m c0:aL→Y aw}{t:C}(ak:kd c nm aj fU fm el bb ag a l k L acc env m G n s)(Fd:ag≠el.locals)(Fe:bb≠el.locals)(ch:cu (λ b=>b=el.locals) s.heap H)(F:c9 c aj G aF el H c0)(I:Inv c nm G n {s with heap:=H,toks:=t}):kd c nm aj fU fm el bb ag a l k L acc aF c0 G n {s with heap:=H,toks:=t}:=
 have d8:=(ak.me.wJ (t:=t) ak.h.inv (ch.mono λ b q=>.inl q)).2
 ⟨ak.h.ea I (.ng (ch.mono λ b q=>.inr (.inl q)) ak.h.step.off) d8 λ o e=>ch _ o e Fe,F,ak.out.keep (.refl G) d8 λ o e=>ch _ o e Fd⟩
theorem rX.uj{bb:a8}{X:Prop}(cU:rX c nm aj fU fm xs env el bb ag a l k acc G n s)(f:∀aF m,Agree xs env aF→kd c nm aj fU fm el bb ag a l k k acc aF m G n s→X):X:=
 let⟨aF,m,mX,F⟩:=cU.me;f aF m mX ⟨⟨cU.inv,cU.at_,cU.step,cU.base _ (.inr (.inr rfl)),.inr (.inr rfl)⟩,F,cU.out⟩
theorem kd.head{bb:a8}{m:aL→Y aw}(ak:kd c nm aj fU fm el bb ag a l k L acc aF m G n s)(mX:Agree xs env aF)(a3:L≤k)(le:k≤l.length)(base:∀b,rZ ag el.locals bb b→c.h₀.get? b=none)(ne:ag≠el.locals∧ag≠bb∧bb≠el.locals∧∀x q,el.cells.lookup x=some q→q≠ag∧q≠bb):rX c nm aj fU fm xs env el bb ag a l k acc G n s:=
 ⟨ak.h.inv,⟨aF,m,mX,ak.me⟩,ak.h.at_,let⟨bf,d9,e,r,q⟩:=ak.out;⟨bf,d9,e,r,a' q a3⟩,le,ak.h.step,base,ne⟩
theorem vj{p:a8}(ax:p≠el.locals)(aH:∀x q,el.cells.lookup x=some q→q≠p):∀b,e2 el b→¬b=p:=λ b o e=>o.elim (λ L=>ax (e.symm.trans L)) λ⟨y,L⟩=>aH y b L e
theorem kd.app{bb:a8}{y:D}{env:aX}{m:aL→Y aw}{u:aw}{Q:aw→a2→Prop}(ak:kd c nm aj fU fm el bb ag a l k L acc env m G n s)(Fd:ag≠el.locals)(Fe:ag≠bb)(e4:∀x q,el.cells.lookup x=some q→q≠ag)(base:c.h₀.get? ag=none)(a3:L≤100000)(adC:bA c G s.heap y u)
  (f:∀v a9,kd c nm aj fU fm el bb ag a l k (L+1) (acc++[y]) env m G n a9→Q v a9):bg (bc c.prog c.w) A (call (.builtin "list.append") [.ref ag,u]) Q ab s:=by
 have⟨bf,d9,e,r,hl⟩:=ak.out
 refine append_at e (λ H hs j5=>?_) (by rw[ly];omega)
 have ch:cu (λ b=>b=ag) s.heap H:=cu.same hs rfl
 have off:=ak.h.step.off ag (.inl rfl)
 have L:=ak.h.inv.JF s.toks ch off base ak.out.ry
 have d8:=L.2
 have VJ:(bf.push u).toList=bf.toList++[u]:=Hp
 exact f _ _ ⟨ak.h.ea L.1 (.ng (t:=s.toks) (ch.mono λ b q=>.inl q) ak.h.step.off) d8 λ o e=>ch _ o e λ q=>Fe q.symm,ak.me.zt ch (vj Fd e4) d8,bf.push u,d9+1,j5,VJ▸cs.append (r.keep (.refl _) d8) (cs.cons (adC.keep (.refl _) d8) cs.nil),Array.size_push u▸gp hl⟩
theorem U7{kv iP hw:bn}{eo:B bn}{bG:gb}{cg:hb}{bb:a8}{many:av}{R:yT→a2→Prop}
  {ox:aX→(av→St→Prop)→St→Prop}{kw:aX→dC→St→Prop}{ea:D→(B D→St→Prop)→St→Prop}{Q:B D→St→Prop}
  (gL:A.handled=none)(bD:rL aj el.scope many xs iP=true)(sI:rs el.scope iP=true)(hl:l.length≤100000)
  (fX:∀aF G n s m K g7,c9 c aj G aF el s.heap m→Inv c nm G n s→ox aF K n→
   bg (bc c.prog c.w) A (forIn eo true λ c r=>if r=true then do let ok←isTrue c el (eval c el);pure (kU ok)else pure (kU r)) (kS c nm G s K) g7 s)
  (pd:∀aF G n s m Q g7,c9 c aj G aF el s.heap m→Inv c nm G n s→kw aF Q n→bg (bc c.prog c.w) A (eval kv el) (Back c nm G s Q) g7 s)
  (sL:∀x K n,ea x K n→∃aF,dh many xs x env=some aF∧ox aF (λ b bW=>if b=true then kw aF (λ r eO=>K [r] eO) bW else K [] bW) n)
  (fP:∀acc G n s m bf d9,Inv c nm G n s→fi (rZ ag el.locals bb) fU fm G s→s.heap.Ns el.locals m→s.heap.get? ag=some {cls:=.type "list",data:=.seq bf d9}→cs c G s.heap acc bf.toList→bf.size≤100000→Q acc n→R (.ok .next) s)
  {As:C}{y7:B D}(HD:rX c nm aj fU fm xs env el bb ag a l As y7 G n s)(Ls:o9 (live a l) ea (l.drop As) y7 Q n):
  t4 (bc c.prog c.w) A (.compLoop (.ListComp kv [⟨iP,hw,eo,0⟩] bG cg) 0 (.ref bb) (.ref ag) el) R s:=by
 refine U6 (λ z s=>∃k acc G n,z=l.length-k∧rX c nm aj fU fm xs env el bb ag a l k acc G n s∧o9 (live a l) ea (l.drop k) acc Q n) ?_ _ ⟨As,y7,G,n,rfl,HD,Ls⟩
 clear HD Ls As y7
 intro z s dj
 refine dj.elim λ k dj=>dj.elim λ acc dj=>dj.elim λ G dj=>dj.elim λ n dj=>?_
 have eQ:=dj.1
 have cU:=dj.2.1
 have bV:=dj.2.2
 clear dj
 have iy:=cU.ne.1
 have oi:=cU.ne.2.2.1
 refine cU.uj λ VE m mX ak=>?_
 cases a1:l.drop k with
 |nil=>
  rw[a1]at bV
  refine Mh gL cU.inv bV.1 cU.at_ (yC.mpr (QS.mp a1)) λ H b3=>?_
  have ch:cu (λ b=>b=bb) s.heap H:=λ b o e z=>b3 b o z e
  have L:=ak.h.chg s.toks ch
  have⟨bf,d9,au,r,uI⟩:=cU.out
  exact fP acc G n _ m bf d9 L.1 L.2.2 (tV.ch ch (λ q=>oi q.symm) ak.me.ns) (b3 ag _ cU.ne.2.1 au) (r.keep (.refl G) L.2.1) (a' uI (a' cU.le hl)) bV.2
 |cons x r=>
  rw[a1]at bV
  have aA:=Lg a1
  have lt:=(jY.mp aA.1).1
  have d4:k≤100000:=a' cU.le hl
  have abq:l.length- (k+1)<z:=eQ▸Rs _ _ lt
  refine Mj cU.inv bV.1 cU.at_ aA.1 λ aI jU v Eo bX qB=>?_
  refine(sL x _ n bV.2).elim λ uo uH=>?_
  have q5:cu (λ b=>b=bb) s.heap aI:=cu.same Eo rfl
  have L:=ak.h.chg jU q5
  have Ci:kd c nm aj fU fm el bb ag a l (k+1) k acc VE m G n {s with heap:=aI,toks:=jU}:=⟨ak.h.br jU q5 bX,ak.me.zt q5 (vj oi λ x q e=>(cU.ne.2.2.2 x q e).2) L.2.1,ak.out.keep (.refl G) L.2.1 λ o e=>q5 _ o e cU.ne.2.1⟩
  refine Mk (s:={s with heap:=aI,toks:=jU}) bX ?_
  refine C6 (s:={s with heap:=aI,toks:=jU}) gL Ci.me Ci.h.inv bD (Ul mX uH.1) qB λ bJ yk pu _ dW qO c1=>?_
  have Re:=Ci.asg iy oi (dW sI) qO c1
  have hL:∀{lB bv J a9 Hn},kd c nm aj fU fm el bb ag a l (k+1) Hn lB uo pu bv J a9→Hn≤k+1→o9 (live a l) ea r lB Q J→∃m,m<z∧∃k acc G n,m=l.length-k∧rX c nm aj fU fm xs env el bb ag a l k acc G n a9∧o9 (live a l) ea (l.drop k) acc Q n:=λ{lB bv J a9 Hn} Rc uO q=>⟨_,abq,k+1,lB,bv,J,rfl,Rc.head (Um uH.1) uO lt cU.base cU.ne,aA.2.symm▸q⟩
  refine fa (fX uo G n _ pu _ _ qO c1 uH.2) (λ b js az=>az.elim λ oF az=>az.elim λ bW az=>?_) λ _ _ y=>y
  have r4:=Re.ea az.2.1 az.2.2
  cases b with
  |false=>exact(hL r4 (h4 k) (eX acc▸az.1))
  |true=>exact fa (pd uo oF bW js pu _ _ r4.me az.2.1 az.1) (λ u tl az=>az.elim λ y az=>az.elim λ Ho az=>az.elim λ eO az=>(r4.ea az.2.2.1 az.2.2.2).app iy cU.ne.2.1 (λ x q e=>(cU.ne.2.2.2 x q e).1) (cU.base _ (.inl rfl)) d4 az.2.1 λ _ yf Cj=>hL Cj (cJ _) az.1) λ _ _ y=>y
end
end Mine
end
section
open PySem PySem.W PyProof.Rows
namespace Mine
variable{kv iP hw:bn}{eo:B bn}{bG:gb}{cg:hb}{xs:B C}{gn:B aL}{many:av}{ox:aX→(av→St→Prop)→St→Prop}{kw:aX→dC→St→Prop}{ea:D→(B D→St→Prop)→St→Prop}{W:dC}
section
variable{c:cV}{nm:B (B C)}{aj:B (Y aL)}{G:cA}{n:St}{s:a2}{A:eB}{ab:aw→a2→Prop}{env:aX}{ai:eg}{m:aL→Y aw}
theorem Ks{ag:a8}{acc:B D}{bv:cA}{J:St}{a9:a2}{bf:gR aw}{d9:C}(I:Inv c nm bv J a9)(S:Step G s bv a9)(i2:kY<ag)(j4:s.heap.get? ag=none)(cl:¬eF bv ag)(az:c.h₀.get? ag=none)
  (e:a9.heap.get? ag=some {cls:=.type "list",data:=.seq bf d9})(r:cs c bv a9.heap acc bf.toList)(a3:bf.size≤100000):
  Inv c nm (bv++[(ag,ag)]) (J++[.li acc]) a9∧Step G s (bv++[(ag,ag)]) a9∧bA c (bv++[(ag,ag)]) a9.heap (.ref J.length) (.ref ag):=by
 refine⟨I.adopt i2 i2 ⟨cl,az⟩ ⟨cl,az⟩ ⟨rfl,?_,bf,d9,e,r.keep (g'.snoc _ _) λ _ _ e _=>e⟩,⟨⟨S.ext.1.trans (g'.snoc _ _),λ b f=>(uv f).elim (S.ext.2 b) λ q=>q.elim (λ q=>.inr (q▸j4)) λ q=>.inr (q▸j4)⟩,S.ch⟩,?_⟩
 ·have:=r.length
  rw[x1,←this]
  simp only[yt];omega
 ·exact⟨(ag,ag),by rw[←I.len];simp,rfl⟩
theorem Kr{acI:hb}{use:Y (aw→ij p5)}{kl:aw→a2→Prop}
  {Q:B D→St→Prop}
  (gL:A.handled=none)(F:c9 c aj G env ai s.heap m)(I:Inv c nm G n s)(Z:v0 ai.scope bG)(dS:tr (ia aj xs gn bG)=true)
  (bD:rL (ia aj xs gn bG) (pC bG ai.scope) many xs iP=true)(sI:rs (pC bG ai.scope) iP=true)(hs:∀x,CK hw ai x=pure x)
  (dj:bg (bc c.prog c.w) A (eval hw ai) (Back c nm G s W) ab s)(sF:∀fL aa,W fL aa→∃l,hQ aa fL=some l∧l.length≤100000∧o9 (live fL l) ea l [] Q aa)
  (fX:∀V aF G n s m K g7,c9 c (ia aj xs gn bG) G aF (compEnvC bG (gf ai.cells bG.names []) V ai) s.heap m→Inv c nm G n s→ox aF K n→
   bg (bc c.prog c.w) A (forIn eo true λ c r=>if r=true then do let ok←isTrue c (compEnvC bG (gf ai.cells bG.names []) V ai) (eval c (compEnvC bG (gf ai.cells bG.names []) V ai));pure (kU ok)else pure (kU r)) (kS c nm G s K) g7 s)
  (pd:∀V aF G n s m Q g7,c9 c (ia aj xs gn bG) G aF (compEnvC bG (gf ai.cells bG.names []) V ai) s.heap m→Inv c nm G n s→kw aF Q n→bg (bc c.prog c.w) A (eval kv (compEnvC bG (gf ai.cells bG.names []) V ai)) (Back c nm G s Q) g7 s)
  (sL:∀x K n,ea x K n→∃aF,dh many xs x env=some aF∧ox aF (λ b bW=>if b=true then kw aF (λ r eO=>K [r] eO) bW else K [] bW) n)
  (Eg:∀ag V acc bv J a9 c0 bf d9,Inv c nm bv J a9→kY<ag→s.heap.get? ag=none→s.heap.get? V=none→ag≠V→c.h₀.get? V=none→c.h₀.get? ag=none→¬eF bv ag→¬eF bv V→Step G s bv a9→a9.heap.Ns V c0→a9.heap.get? ag=some {cls:=.type "list",data:=.seq bf d9}→
   cs c bv a9.heap acc bf.toList→bf.size≤100000→Q acc J→compPost (bc c.prog c.w) A ab use kl (.ref ag) V (.ok .next) a9):
  bg (bc c.prog c.w) A (comprehension (.ListComp kv [⟨iP,hw,eo,0⟩] bG cg) bG ai acI (newList []) false (eval hw ai) use) kl ab s:=by
 have z6:∀x∈bG.names,x.2= .free→(ai.cells.lookup x.1).isSome=true:=λ x aA e=>F.has _ (Z.free x aA e)
 refine wpAny_comprehension_free (use:=use) rfl hs (U2 z6) Z.kind Z.loc (fa dj (λ v aJ az=>?_) λ _ _ y=>y)
 obtain⟨fL,bQ,aa,cS,hF,ce,bU⟩:=az
 obtain⟨l,hl,i1,bV⟩:=sF fL aa cS
 have pM:=F.step I bU
 refine Mi ce hl hF λ bb bJ nU m7 cL=>?_
 have aha:∀{b},aJ.heap.objs.size≤b→aJ.heap.get? b=none:=λ az=>by
  cases e:aJ.heap.get? _ with
  |none=>rfl
  |some o=>exact absurd (mT e) (r6.mpr az)
 have Ov:∀{H:dD},cu (λ _=>False) aJ.heap H→aJ.heap.get? H.objs.size=none:=λ ch=>nZ λ b o e=>ch b o e id
 refine Jb ?_
 have q6:cu (λ _=>False) bJ (bJ.push {cls:=.type "list",data:=.seq ([]:B aw).toArray}):=cu.push _ _
 have Lt:(bJ.push {cls:=.type "list",data:=.seq ([]:B aw).toArray}).get? bJ.objs.size=some {cls:=.type "list",data:=.seq ([]:B aw).toArray}:=nI _ rfl
 have D7:bJ.objs.size≠(bJ.push {cls:=.type "list",data:=.seq ([]:B aw).toArray}).objs.size:=by rw[RO];exact mR (qT _)
 show bg _ _ _ _ _ {aJ with heap:=bJ.push {cls:=.type "list",data:=.seq ([]:B aw).toArray}}
 generalize bJ.push {cls:=.type "list",data:=.seq ([]:B aw).toArray}=cQ at q6 Lt D7
 refine wpAny_newFunctionEnv Z.cell (by intro y bI;simp at bI) (λ hO uL z9=>?_) Z.kind
 dsimp only at uL z9
 have wI:cu (λ _=>False) cQ hO:=λ b o e _=>z9.extBut b o (mR (mT e)) (ls _ e)
 have Zg:cu (λ _=>False) aJ.heap hO:=(nU.trans q6).trans wI
 have h0:Inv c nm bQ aa {aJ with heap:=cQ}:=ce.more (t:=aJ.toks) (nU.trans q6)
 have il:Step bQ aJ bQ {aJ with heap:=cQ}:=.more (t:=aJ.toks) (nU.trans q6)
 have tI:=pM.step ce il
 have Xb:cQ.get? cQ.objs.size=none:=nZ λ _ _ e=>e
 obtain⟨QB,pQ⟩:=U8 (xs:=xs) (gn:=gn) (t:=aJ.toks+([]:B (aL×aw)).length) tI h0 Z dS Xb (λ b o e=>wI b o e id) uL
 have z1:aJ.heap.get? bJ.objs.size=none:=Ov nU
 have D6:aJ.heap.get? cQ.objs.size=none:=Ov (nU.trans q6)
 have fresh:∀{b},aJ.heap.get? b=none→s.heap.get? b=none∨eF G b:=λ{b} az=>by
  cases e:s.heap.get? b with
  |none=>exact .inl rfl
  |some o=>
   by_cases f:eF G b
   ·exact .inr f
   ·rw[bU.ch b o e f]at az;cases az
 have NA:∀{b},aJ.heap.get? b=none→¬eF bQ b:=λ az f=>by obtain⟨o,e⟩:=ce.wV f;rw[e]at az;cases az
 have K9:∀{b},aJ.heap.get? b=none→s.heap.get? b=none:=λ az=>(fresh az).elim id λ f=>absurd (bU.ext.1.foot f) (NA az)
 have Fp:∀{b},aJ.heap.get? b=none→c.h₀.get? b=none:=λ{b} az=>by
  cases e:c.h₀.get? b with
  |none=>rfl
  |some o=>rw[ce.base b o e]at az;cases az
 have nV:∀b,rZ bJ.objs.size cQ.objs.size bb b→aJ.heap.get? b=none:=by
  rintro b (rfl|rfl|rfl)
  ·exact z1
  ·exact D6
  ·exact m7
 obtain⟨ahb,un,K1⟩:=cL.live
 have Zb:bb<bJ.objs.size:=mT un
 have Zc:bb<cQ.objs.size:=mT (q6 _ _ un id)
 have cU:rX c nm (ia aj xs gn bG) bQ aJ xs env (compEnvC bG (gf ai.cells bG.names []) cQ.objs.size ai) bb bJ.objs.size fL l 0 [] bQ aa {aJ with heap:=hO,toks:=aJ.toks+([]:B (aL×aw)).length}:=by
  refine⟨pQ,⟨_,_,zw λ _ h=>h,QB⟩,cL.keep (.refl _) (λ b o e _=>(q6.trans wI) b o e id) λ o e=>(q6.trans wI) _ o e id,⟨_,0,wI _ _ Lt id,cs.nil,cJ _⟩,fs _,⟨.refl _ _,Zg.all,λ b az=>NA (nV b az)⟩,λ b az=>Fp (nV b az),D7,Cm Zb,mR Zc,λ x q e=>?_⟩
  have bC:ai.cells.lookup x=some q:=(zs z6 e).elim (λ e=>by cases e) id
  obtain⟨v,o,uq,_⟩:=pM.cells x q bC
  exact⟨λ L=>(by rw[L,z1]at uq;cases uq),λ L=>(by rw[L,m7]at uq;cases uq)⟩
 have Ay:t4 (bc c.prog c.w) A (.compLoop (.ListComp kv [⟨iP,hw,eo,0⟩] bG cg) 0 (.ref bb) (.ref bJ.objs.size) (compEnvC bG (gf ai.cells bG.names []) cQ.objs.size ai))
   (compPost (bc c.prog c.w) A ab use kl (.ref bJ.objs.size) cQ.objs.size) {aJ with heap:=hO,toks:=aJ.toks+([]:B (aL×aw)).length}:=by
  refine U7 gL bD sI i1 (fX _) (pd _) sL (λ acc bv J a9 c0 bf d9 ey CW X6 D9 bw uO Yg=>?_) cU bV
  exact Eg _ _ acc bv J a9 c0 bf d9 ey (ce.ql λ b o e=>nU b o e id) (K9 z1) (K9 D6) D7 (Fp D6) (Fp z1) (CW.off _ (.inl rfl)) (CW.off _ (.inr (.inl rfl))) (bU.trans (CW.toStep nV)) X6 D9 bw uO Yg
 exact codeAny_compStart_list Ay (Y7 cU.at_ Ay)
theorem U9
  {Q:dC}
  (gL:A.handled=none)(F:c9 c aj G env ai s.heap m)(I:Inv c nm G n s)(Z:v0 ai.scope bG)(dS:tr (ia aj xs gn bG)=true)
  (bD:rL (ia aj xs gn bG) (pC bG ai.scope) many xs iP=true)(sI:rs (pC bG ai.scope) iP=true)(hs:∀x,CK hw ai x=pure x)
  (dj:bg (bc c.prog c.w) A (eval hw ai) (Back c nm G s W) ab s)(sF:∀fL aa,W fL aa→∃l,hQ aa fL=some l∧l.length≤100000∧o9 (live fL l) ea l [] (λ acc ao=>Q (.ref ao.length) (ao++[.li acc])) aa)
  (fX:∀V aF G n s m K g7,c9 c (ia aj xs gn bG) G aF (compEnvC bG (gf ai.cells bG.names []) V ai) s.heap m→Inv c nm G n s→ox aF K n→
   bg (bc c.prog c.w) A (forIn eo true λ c r=>if r=true then do let ok←isTrue c (compEnvC bG (gf ai.cells bG.names []) V ai) (eval c (compEnvC bG (gf ai.cells bG.names []) V ai));pure (kU ok)else pure (kU r)) (kS c nm G s K) g7 s)
  (pd:∀V aF G n s m Q g7,c9 c (ia aj xs gn bG) G aF (compEnvC bG (gf ai.cells bG.names []) V ai) s.heap m→Inv c nm G n s→kw aF Q n→bg (bc c.prog c.w) A (eval kv (compEnvC bG (gf ai.cells bG.names []) V ai)) (Back c nm G s Q) g7 s)
  (sL:∀x K n,ea x K n→∃aF,dh many xs x env=some aF∧ox aF (λ b bW=>if b=true then kw aF (λ r eO=>K [r] eO) bW else K [] bW) n):
  bg (bc c.prog c.w) A (eval (.ListComp kv [⟨iP,hw,eo,0⟩] bG cg) ai) (Back c nm G s Q) ab s:=by
 rw[eval_ListComp]
 refine Kr gL F I Z dS bD sI hs dj sF fX pd sL λ ag V acc bv J a9 c0 bf d9 ey i2 j4 bV z2 Eb Ec Ef Ee fA cy j5 r a3 du=>?_
 refine⟨c0,cy,λ H jL=>?_⟩
 have ch:cu (λ b=>b=V) a9.heap H:=cu.same jL rfl
 obtain⟨xK,O,hK,wQ,wM,_⟩:=cy
 have d8:fV a9.heap H:=fV.same wQ (pv wM) jL
 have nA:Inv c nm bv J {a9 with heap:=H}:=ey.change (t:=a9.toks) ch (λ b q=>q▸Ee) (λ b q=>q▸Eb) λ b o q e=>by subst q;rw[wQ]at e;cases e;exact pv wM
 have Sk:Step G s bv {a9 with heap:=H}:=⟨fA.ext,λ b o e z=>ch b o (fA.ch b o e z) λ q=>by rw[q,bV]at e;cases e⟩
 obtain⟨he,ip,k1⟩:=Ks nA Sk i2 j4 Ef Ec (ch _ _ j5 z2) (r.keep (.refl _) d8) a3
 exact⟨_,_,_,du,k1,he,ip⟩
theorem U5{AW O1:hb}{x:aL}{i:C}
  {cb:iU}{cF:dC}
  (sM:y0 (.ListComp kv [⟨iP,hw,eo,0⟩] bG cg) (some (.Name x AW)) O1.line ai=pure true)
  (aA:(aj:B (Y aL))[i]? =some (some x))(n7:tk ai.scope x=true)
  (gL:A.handled=none)(F:c9 c aj G env ai s.heap m)(I:Inv c nm G n s)(Z:v0 ai.scope bG)(dS:tr (ia aj xs gn bG)=true)
  (bD:rL (ia aj xs gn bG) (pC bG ai.scope) many xs iP=true)(sI:rs (pC bG ai.scope) iP=true)(hs:∀x,CK hw ai x=pure x)
  (dj:bg (bc c.prog c.w) A (eval hw ai) (Back c nm G s W) ab s)(sF:∀fL aa,W fL aa→∃l,hQ aa fL=some l∧l.length≤100000∧o9 (live fL l) ea l [] (λ acc ao=>cb (iO env i (.ref ao.length)) (ao++[.li acc])) aa)
  (fX:∀V aF G n s m K g7,c9 c (ia aj xs gn bG) G aF (compEnvC bG (gf ai.cells bG.names []) V ai) s.heap m→Inv c nm G n s→ox aF K n→
   bg (bc c.prog c.w) A (forIn eo true λ c r=>if r=true then do let ok←isTrue c (compEnvC bG (gf ai.cells bG.names []) V ai) (eval c (compEnvC bG (gf ai.cells bG.names []) V ai));pure (kU ok)else pure (kU r)) (kS c nm G s K) g7 s)
  (pd:∀V aF G n s m Q g7,c9 c (ia aj xs gn bG) G aF (compEnvC bG (gf ai.cells bG.names []) V ai) s.heap m→Inv c nm G n s→kw aF Q n→bg (bc c.prog c.w) A (eval kv (compEnvC bG (gf ai.cells bG.names []) V ai)) (Back c nm G s Q) g7 s)
  (sL:∀x K n,ea x K n→∃aF,dh many xs x env=some aF∧ox aF (λ b bW=>if b=true then kw aF (λ r eO=>K [r] eO) bW else K [] bW) n):
  bg (bc c.prog c.w) A (exec (.Assign [.Name x AW] (.ListComp kv [⟨iP,hw,eo,0⟩] bG cg) O1) ai) (mW c nm aj ai G s cb cF) ab s:=by
 rw[exec_Assign_Name_used _ _ _ _ sM]
 refine cK (sf (cK ?_))
 show bg _ A (do let _←comprehension (.ListComp kv [⟨iP,hw,eo,0⟩] bG cg) bG ai _ (newList []) false (eval hw ai) (some (assign (.Name x AW) ai))) _ _ s
 refine cK (fa (Q:=λ _ a9=>mW c nm aj ai G s cb cF .next a9) ?_ (λ _ a9 du=>eG (eG du)) λ _ _ e=>e)
 refine Kr gL F I Z dS bD sI hs dj sF fX pd sL λ ag V acc bv J a9 c0 bf d9 ey i2 j4 bV z2 Eb Ec Ef Ee fA cy j5 r a3 du=>?_
 show bg _ A (assign (.Name x AW) ai (.ref ag)) _ _ a9
 obtain⟨he,ip,k1⟩:=Ks ey fA i2 j4 Ef Ec j5 r a3
 have g8:=F.step I ip
 refine R7 (Gu g8 he aA (Gt n7 F.has) k1 λ H t xw c2 _ ke nA=>?_)
 have D8:¬e2 ai V:=λ q=>by
  obtain⟨o,e,_⟩:=e2.old F q
  rw[bV]at e;cases e
 refine⟨c0,tV.ch c2 D8 cy,λ bJ w9=>?_⟩
 have X7:=tV.ch c2 D8 cy
 obtain⟨xK,O,hK,wQ,wM,_⟩:=X7
 have ch:cu (λ b=>b=V) H bJ:=cu.same w9 rfl
 have d8:fV H bJ:=fV.same wQ (pv wM) w9
 have XE:¬eF (bv++[(ag,ag)]) V:=λ f=>(uv f).elim Ee λ q=>q.elim (λ q=>z2 q.symm) λ q=>z2 q.symm
 have h0:Inv c nm (bv++[(ag,ag)]) (J++[.li acc]) {a9 with heap:=bJ,toks:=t}:=Inv.change (s:={a9 with heap:=H,toks:=t}) nA ch (λ b q=>q▸XE) (λ b q=>q▸Eb) λ b o q e=>by subst q;rw[wQ]at e;cases e;exact pv wM
 have own:∀b,e2 ai b→b≠V:=λ b o q=>D8 (q▸o)
 have tI:c9 c aj (bv++[(ag,ag)]) (iO env i (.ref J.length)) ai bJ xw:=
  ⟨ke.kind,ke.rb,ke.blt,ke.len,tV.ch ch (own _ (.inl rfl)) ke.ns,λ y q e=>let⟨v,cP⟩:=ke.cells y q e;⟨v,tL.ch ch (own _ (.inr ⟨y,e⟩)) cP⟩,ke.apart,ke.foot,ke.out,ke.uniq,ke.has,λ j y b ax aH=>
   (ke.vars j y b ax aH).keep (.refl _) d8 (λ _=>id) λ q v e cP=>tL.ch ch (own _ (.inr ⟨y,e⟩)) cP⟩
 refine⟨_,_,_,_,du,tI,h0,?_⟩
 have Su:fi (e2 ai) G s (bv++[(ag,ag)]) a9:=.FF ip λ b o=>⟨F.foot b o,let⟨x,e,_⟩:=e2.old F o;⟨x,e⟩⟩
 have sk:fi (e2 ai) G s (bv++[(ag,ag)]) {a9 with heap:=H,toks:=t}:=Su.trans (.ng c2 g8.foot)
 refine⟨sk.ext,λ b o e z=>ch b o (sk.ch b o e z) λ q=>?_,sk.off⟩
 rw[q,bV]at e;cases e
end
end Mine
end
section
open PySem PySem.W PyProof.Rows
namespace Mine
variable{rR:bn}{cg:hb}{Q:aw→a2→Prop}{e:bn}{v:aw}{K dm:Type}{f:dm→K}{h:dD}{ag:a8}{ea:B bn→(B D→St→Prop)→St→Prop}
section
variable{prog:lu}{w:eY}{A:eB}{ab:aw→a2→Prop}{s:a2}{env:eg}
theorem aeY{o i:aw}(tj:bn):∃ar,subscripted tj false o i=operate ar (t6 o i):=by
 cases tj with
 |Slice a b c p=>cases c<;>exact⟨_,rfl⟩
 |_=>exact⟨_,rfl⟩
theorem Bn{tj:bn}
  (h:bg (bc prog w) A (eval rR env) (λ o aJ=>bg (bc prog w) A (eval tj env) (λ i b'=>wj (bc prog w) A o i Q ab b') ab aJ) ab s):bg (bc prog w) A (eval (.Subscript rR tj cg) env) Q ab s:=by
 rw[eval_Subscript]
 refine cK (fa h (λ o aJ aI=>cK (se (fa aI (λ i b' bJ=>cK (sf ?_)) λ _ _ x=>x))) λ _ _ x=>x)
 refine bJ.elim λ T bJ=>bJ.elim λ id bJ=>cK ((getitemInPython_of_ne bJ.2.1.not_modules).symm▸cK (CQ bJ.2.1 bJ.1 ?_))
 have hL:bg (bc prog w) A (subscripted tj false o i) (λ r js=>bg (bc prog w) A (letTemporaryGo rR o r>>=λ _=>pure r) Q ab js) ab b':=
  (aeY tj).elim λ ar e=>e.symm▸wpAny_operating (fa bJ.2.2 (λ r js cQ=>cK (Se (eG cQ))) λ _ _ x=>x)
 first
  |exact eG (cK hL)
  |exact cK (eG (cK hL))
  |exact cK hL
theorem S4{gV:aL}(az:IW rR gV env (eval rR env)=eval rR env)
  (h:bg (bc prog w) A (eval rR env) (λ o aJ=>bg (bc prog w) A (getAttr o gV true) Q ab aJ) ab s):bg (bc prog w) A (eval (.Attribute rR gV cg) env) Q ab s:=by
 rw[arm_eval_Attribute,az]
 exact cK (fa h (λ o aJ aI=>cK (sf (cK (se (fa aI (λ r b' bJ=>cK (Se (eG bJ))) λ _ _ x=>x))))) λ _ _ x=>x)
theorem JZ{op:Cx}{cg:hb}{x y:ij aw}{r:B (ij aw)}{Q:aw→a2→Prop}
  (h:bg (bc prog w) A x (λ v aJ=>bg (bc prog w) A (y1 v) (λ b b'=>match op,b with| .And,false| .Or,true=>Q v b'|_,_=>bg (bc prog w) A (yV cg op (y::r)) Q ab b') ab aJ) ab s):
  bg (bc prog w) A (yV cg op (x::y::r)) Q ab s:=by
 refine cK (fa h (λ v aJ aI=>cK (sf (cK (se (fa aI (λ b b' bJ=>?_) λ _ _ x=>x))))) λ _ _ x=>x)
 cases op<;>cases b<;>first|exact eG bJ|exact bJ
theorem J0{op:Cx}{x:ij aw}(h:bg (bc prog w) A x Q ab s):bg (bc prog w) A (yV cg op [x]) Q ab s:=h
noncomputable def FR(x:bn):Bool:=!(ki x.ctorIdx 0||(ki x.ctorIdx 3||(ki x.ctorIdx 5||ki x.ctorIdx 15)))
theorem ae9(bM:FR e=true):isTrue e env (eval e env)=(do let v←eval e env;CN e.pos;holding [v] (y1 v)):=by
 cases e<;>first|rfl|exact ju (show false=true from bM)
theorem ae'{Q:av→a2→Prop}(bM:FR e=true)(h:bg (bc prog w) A (eval e env) (λ v aJ=>bg (bc prog w) A (y1 v) Q ab aJ) ab s):bg (bc prog w) A (isTrue e env (eval e env)) Q ab s:=
 ae9 bM▸cK (fa h (λ v aJ aI=>cK (sf (se aI))) λ _ _ x=>x)
theorem ae8{l r:bn}{op:CmpOp}{BE:ij aw}{Q:av→a2→Prop}(hm:IX op r=false)
  (h:bg (bc prog w) A (eval l env) (λ a aJ=>bg (bc prog w) A (eval r env) (λ b b'=>bg (bc prog w) A (t5 op a b) (λ c js=>bg (bc prog w) A (y1 c) Q ab js) ab b') ab aJ) ab s):
  bg (bc prog w) A (isTrue (.Compare l [op] [r] cg) env BE) Q ab s:=by
 rw[arm_isTrue_Compare]
 show bg _ A (do testChain cg (←eval l env) [op] [markedBehindIn op r (eval r env)]) Q ab s
 rw[markedBehindIn_of_false hm]
 exact cK (fa h (λ a aJ aI=>test_last aI) λ _ _ x=>x)
end
section
variable{c:cV}{nm:B (B C)}{aj:B (Y aL)}{G bQ:cA}{n:St}{s aJ:a2}{A:eB}{ab:aw→a2→Prop}{env:aX}{ai:eg}{m:aL→Y aw}
noncomputable def Hq(c:cV)(nm:B (B C))(G:cA)(s:a2)(Q:B D→St→Prop)(ar:B aw)(a9:a2):Prop:=
 ∃as bv J,Q as J∧cs c bv a9.heap as ar∧Inv c nm bv J a9∧Step G s bv a9
theorem aeX{a k r:D}{u:aw}{Q:dC}(h:dd n a k=some r)(x:bA c G s.heap a v)(y:bA c G s.heap k u)(bz:Q r n)(I:Inv c nm G n s):wj (bc c.prog c.w) A v u (Back c nm G s Q) ab s:=by
 have g:=L2 (A:=A) (ab:=ab) h x y bz I
 have ag:∀{b:a8},s.TypeIs (.ref b) "dict"→bg (bc c.prog c.w) A (t6 (.ref b) u) (Back c nm G s Q) ab s→wj (bc c.prog c.w) A (.ref b) u (Back c nm G s Q) ab s:=λ fX g=>⟨"dict",_,PySem.F.slot_dict_getitem.lookup,fX,g⟩
 clear y bz
 revert g
 cases a with
 |tup l=>exact x.elim λ b x=>x.elim λ items x=>x.1▸λ g=>⟨"tuple",_,PySem.F.slot_tuple_getitem.lookup,x.2.1.typeIs,g⟩
 |ss w=>exact x.elim λ t e=>e▸λ g=>⟨"str",_,RM.lookup,typeIs_str _ _ _,g⟩
 |cd O=>exact x.elim λ b x=>x.1▸λ g=>x.2.2.elim λ f x=>x.1.elim λ o m=>m.elim λ jI m=>m.elim λ hK m=>ag (Heap.MapOf.typeIs (knd:=gr c.prog c.w) (f:=f) ⟨o,jI,hK,I.base _ _ m.1,m.2⟩) g
 |ref z=>
  refine x.elim λ p x=>x.2▸λ g=>(I.xJ x.1).elim λ o be=>?_
  have h:ri k (some o)=some r:=be.1▸(show ri k n[z]? =some r from h)
  have ee:=be.2
  cases o with
  |li xs=>exact(rp I x.1 be.1).2.2.elim λ items q=>q.elim λ d9 q=>⟨"list",_,Ix.lookup,q.2.1.typeIs,g⟩
  |ds O=>exact ee.2.elim λ cZ d=>ag d.1.typeIs g
  |cq O=>exact ee.2.elim λ cZ d=>ag d.1.typeIs g
  |_=>exact nomatch h
 |_=>exact nomatch h
theorem aeR[jv K]{cZ:B (K×aw)}{k:K}(h:k∉cZ.map (·.1)):CO cZ k v=cZ++[(k,v)]:=by
 unfold CO
 rw[if_neg]
 intro q
 obtain⟨p,bM,e⟩:=List.any_eq_true.mp q
 exact h (ht.mpr ⟨p,bM,gh e⟩)
theorem aaK[jv K](more:B (K×aw)):∀{cZ:B (K×aw)},((cZ++more).map (·.1)).Nodup→merged cZ more=cZ++more:=by
 induction more with
 |nil=>exact λ{cZ} _=>(eX cZ).symm
 |cons p more aZ=>
  refine λ{cZ} h=>?_
  have e:cZ++p::more=(cZ++[p])++more:=(jw cZ [p] more).symm
  have hk:p.1∉cZ.map (·.1):=λ q=>(Cb.mp ((nD (f:=λ p:K×aw=>p.1))▸h)).2.2 p.1 q p.1 (.head _) rfl
  exact(an (merged · more) (aeR hk)).trans ((aZ (e▸h)).trans e.symm)
theorem fp.zip{R:D→aw→Prop}(ks:B dm):∀{as:B D} {ar:B aw},ks.length=as.length→(as.length=ar.length)→(∀(i:C) a v,as[i]? =some a→ar[i]? =some v→R a v)→fp f R (ks.zip as) ((ks.map f).zip ar):=by
 induction ks with
 |nil=>exact λ _ _ _=>rfl
 |cons k ks aZ=>
  intro as ar ax aH h
  cases as with
  |nil=>cases ax
  |cons a as=>cases ar with
   |nil=>cases aH
   |cons v ar=>exact⟨v,_,rfl,h 0 a v rfl rfl,aZ (oQ ax) (oQ aH) λ i b u au aB=>h (i+1) b u au aB⟩
theorem cs.at{as:B D}{ar:B aw}(r:cs c G h as ar)(i:C)(a:D)(v:aw)(au:as[i]? =some a)(aB:ar[i]? =some v):bA c G h a v:=
 (r.get au).elim λ u q=>ej (q.1.symm.trans aB)▸q.2
theorem Dy[jv K]{knd:KeyKind c.prog c.w K}(e:h.get? ag=some lv):h.DictOf knd ag []:=by
 refine⟨_,#[],0,e,⟨rfl,rfl,rfl⟩,rfl,?_,?_,Cc⟩
 ·intro x aA;simp at aA
 ·exact .nil
noncomputable def yy(c:cV)(ai:eg)(A:eB)(ab:aw→a2→Prop)[jv K](knd:KeyKind c.prog c.w K)(k:K)(m9:bn):Prop:=
 ∀(s:a2) (Q:aw→a2→Prop),(∀v t,knd.is k v=true→Q v {s with toks:=t})→bg (bc c.prog c.w) A (eval m9 ai) Q ab s
noncomputable def CU(c:cV)(nm:B (B C))(aj:B (Y aL))(env:aX)(ai:eg)(A:eB)(ab:aw→a2→Prop)(ea:B bn→(B D→St→Prop)→St→Prop)(e:bn)(r:B bn):Prop:=
 ∀G n s m Q,c9 c aj G env ai s.heap m→Inv c nm G n s→ea (e::r) Q n→bg (bc c.prog c.w) A (eval e ai) (Back c nm G s λ v aa=>ea r (λ ar ao=>Q (v::ar) ao) aa) ab s
structure RB(c:cV)(nm:B (B C)){K:Type}[jv K](knd:KeyKind c.prog c.w K)(ks:B K)(G:cA)(s:a2)(Q:B D→St→Prop)(ar:B (aw×aw))(a9:a2)(df:B aw)(as:B D)(bv:cA)(J:St):Prop where
 Ka:Carries knd ar (ks.zip df)
 len:ar.length=df.length
 q:Q as J
 vO:cs c bv a9.heap as df
 inv:Inv c nm bv J a9
 ea:Step G s bv a9
noncomputable def RA(c:cV)(nm:B (B C))[jv K](knd:KeyKind c.prog c.w K)(ks:B K)(G:cA)(s:a2)(Q:B D→St→Prop)(ar:B (aw×aw))(a9:a2):Prop:=∃df as bv J,RB c nm knd ks G s Q ar a9 df as bv J
noncomputable def FN(ai:eg)(cg:hb)(p:bn×bn):ij aw×ij Value:=(eval p.1 ai,do let x←eval p.2 ai;CN cg;pure x)
theorem acl[jv K]{knd:KeyKind c.prog c.w K}(ec:∀Q n,ea [] Q n→Q [] n)(ks:B K):∀{fd f4:B bn} {Q:B D→St→Prop} {G:cA} {n:St} {s:a2} {m:aL→Y aw},
  c9 c aj G env ai s.heap m→Inv c nm G n s→ks.length=fd.length→fd.length=f4.length→(∀(i:C) k m9,ks[i]? =some k→fd[i]? =some m9→yy c ai A ab knd k m9)→(∀e r,(e::r)<:+f4→CU c nm aj env ai A ab ea e r)→ea f4 Q n→
  bg (bc c.prog c.w) A (evalPairs ((fd.zip f4).map (FN ai cg))) (RA c nm knd ks G s Q) ab s:=by
 induction ks with
 |nil=>
  intro fd f4 Q G n s m F I ax aH hk cP h
  cases fd with
  |nil=>cases f4 with
   |nil=>exact evalPairs_nil ⟨[],[],G,n,trivial,rfl,ec _ _ h,rfl,I,.refl _ _⟩
   |cons _ _=>cases aH
  |cons _ _=>cases ax
 |cons k ks aZ=>
  intro fd f4 Q G n s m F I ax aH hk cP h
  cases fd with
  |nil=>cases ax
  |cons m9 fd=>cases f4 with
   |nil=>cases aH
   |cons ve f4=>
    refine evalPairs_cons (hk 0 k m9 rfl rfl s _ λ e6 t XR=>cK (fa (cP ve f4 (List.suffix_refl _) G n {s with toks:=t} m Q F (I.tok t) h) (λ v b' az=>cK (sf (eG ?_))) λ _ _ y=>y))
    refine az.elim λ a az=>az.elim λ dz az=>az.elim λ ao az=>?_
    refine fa (aZ (c9.step (s:={s with toks:=t}) F (I.tok t) az.2.2.2) az.2.2.1 (oQ ax) (oQ aH) (λ i=>hk (i+1)) (λ e r hs=>cP e r (hs.trans (List.suffix_cons _ _))) az.1) (λ ar js g=>?_) λ _ _ y=>y
    exact g.elim λ df g=>g.elim λ as g=>g.elim λ oF g=>g.elim λ bW g=>⟨v::df,a::as,oF,bW,⟨XR,rfl,g.Ka⟩,an l1 g.len,g.q,⟨v,df,rfl,g.ea.f5 az.2.2.1 az.2.1,g.vO⟩,g.inv,Step.trans (aJ:=b') (bQ:=dz) ⟨az.2.2.2.ext,az.2.2.2.ch⟩ g.ea⟩
theorem Yk{env:eg}(fd:B bn):∀{f4:B bn},fd.length=f4.length→
  (evalEachOpt (fd.map some) env).zip ((I0 f4 env).map λ v=>(do let x←v;CN cg;pure x))=((fd.zip f4).map (FN env cg)).map λ p=>(some p.1,p.2):=by
 induction fd with
 |nil=>exact λ _=>rfl
 |cons k ks aZ=>
  intro f4 h
  cases f4 with
  |nil=>cases h
  |cons v ar=>exact an (QQ (some (eval k env),(do let x←eval v env;CN cg;pure x))) (aZ (oQ h))
theorem abf(s:a2):s.heap.get? s.heap.objs.size=none:=nZ λ _ _ e=>e
theorem SN{o:a0}{H:dD}{t:C}{fm:a2}{Q:dC}(HH:Inv c nm G n fm)(j4:fm.heap.get? ag=none)(hs:kY<ag){bv:cA}{J:St}{bF:fO}(ey:Inv c nm bv J s)(S:Step G fm bv s)(cl:¬eF bv ag)(e:s.heap.get? ag=some bF)(hx:¬ih bF)(OL:tX ag s.heap H)
  (a4:fV s.heap H→gB c nm (bv++[(ag,ag)]) H (ag,ag) o)(q:Q (.ref J.length) (J++[o])):Back c nm G fm Q (.ref ag) {s with heap:=H,toks:=t}:=by
 have ch:cu (λ b=>b=ag) s.heap H:=cu.same OL rfl
 have d8:fV s.heap H:=fV.same e hx OL
 have c1:Inv c nm bv J {s with heap:=H,toks:=t}:=ey.change ch (λ b q=>q▸cl) (λ b q=>q▸(HH.vd j4).2) λ b o q g=>ej (e.symm.trans (q▸g))▸hx
 have l:g' bv (bv++[(ag,ag)]):=g'.snoc _ _
 have p:¬eF bv ag∧c.h₀.get? ag=none:=⟨cl,(HH.vd j4).2⟩
 exact⟨.ref J.length,bv++[(ag,ag)],J++[o],q,⟨(ag,ag),c1.len▸HR,rfl⟩,c1.adopt hs hs p p (a4 d8),
  ⟨S.ext.1.trans l,λ b q=>(uv q).elim (S.ext.2 b) λ L=>.inr ((L.elim id id:b=ag)▸j4)⟩,λ b o g z=>ch b o (S.ch b o g z) λ L=>nomatch(L▸j4:fm.heap.get? b=none).symm.trans g⟩
theorem KE[jv K]{knd:KeyKind c.prog c.w K}{ks:B dm}{fd f4:B bn}{AD:B (dm×D)→a0}{Q:dC}
  (X4:∀G h ag O cZ,h.DictOf knd ag cZ→fp f (bA c G h) O cZ→gB c nm G h (ag,ag) (AD O))
  (F:c9 c aj G env ai s.heap m)(I:Inv c nm G n s)(ax:ks.length=fd.length)(aH:fd.length=f4.length)(ec:fd≠ [])(i1:fd.length≤15)(Ek:(ks.map f).Nodup)
  (hk:∀(i:C) k m9,(ks.map f)[i]? =some k→fd[i]? =some m9→yy c ai A ab knd k m9)
  (cP:∀e r,(e::r)<:+f4→CU c nm aj env ai A ab ea e r)
  (cy:∀Q n,ea [] Q n→Q [] n)(h:ea f4 (λ l aa=>ks.length=l.length∧Q (.ref aa.length) (aa++[AD (ks.zip l)])) n):
  bg (bc c.prog c.w) A (eval (.Dict (fd.map some) f4 cg) ai) (Back c nm G s Q) ab s:=by
 have rr:((fd.zip f4).map (FN ai cg)).length=fd.length:=(cG _).trans (Q2.trans (aH▸Nat.min_self _))
 have wt:Step G s G {s with heap:=s.heap.push lv}:=.more (t:=s.toks) (cu.push _ _)
 have zE:(s.heap.push lv).get? s.heap.objs.size=some emptyDict:=nI _ rfl
 have j4:=abf s
 refine wpAny_Dict_pairs (knd:=knd) (Yk fd aH) (λ q=>ec (HK (rr.symm.trans (an f9 q)))) (rr.symm▸i1)
  (fa (acl cy (ks.map f) (F.step I wt) (I.more (t:=s.toks) (cu.push _ _)) ((cG _).trans ax) aH hk cP h) (λ ar aJ az=>?_) λ _ _ y=>y)
 refine az.elim λ df az=>az.elim λ as az=>az.elim λ bv az=>az.elim λ J az=>?_
 have KG:aJ.heap.get? s.heap.objs.size=some emptyDict:=az.ea.ch _ _ zE (I.vd j4).1
 have LR:as.length=df.length:=az.vO.length.symm
 have X1:([]++(ks.map f).zip df).map (λ p:K×aw=>p.1)=ks.map f:=List.map_fst_zip (dg ((cG f).trans (az.q.1.trans LR)))
 refine⟨(ks.map f).zip df,az.Ka,Dy KG,λ H hm hs=>SN I j4 (I.ql λ _ _ e=>e) az.inv (wt.trans az.ea) (λ q=>(az.ea.ext.2 _ q).elim (I.vd j4).1 λ g=>(nomatch g.symm.trans zE)) KG (pv rfl) hs (λ d8=>?_) az.q.2⟩
 have h':H.DictOf knd s.heap.objs.size ((ks.map f).zip df):=((aaK _ (X1.symm▸Ek)).trans (H1 _))▸hm
 exact X4 _ _ _ _ _ h' (fp.zip ks az.q.1 LR ((az.vO.keep (.refl bv) d8).keep (g'.snoc bv (s.heap.objs.size,s.heap.objs.size)) (λ _ _ e _=>e)).at)
end
end Mine
end
section
open PySem PySem.W PyProof.Rows
namespace Mine
variable{α:Type}{x:ft}{f:bn→B ft→B ft→av}{o:Y α}{ak:ft→Prop}{c:cV}{a:a8}{aS:gb}{K:kk}{env:eg}
structure qK where
 K:kk
 aK:C→a8
 ca:C→a8
 nm:B (B C)
noncomputable def NJ(d:α)(z m:C)(f:z=m→α):α:=match Rj z m with
 | .isTrue h=>f h
 | .isFalse _=>d
noncomputable def G2(f:a8→av)(x:aw):Bool:=gi x.ctorIdx 10 λ h=>IR (motive:=λ _=>av) x h f
theorem PS{x:aw}{f:a8→av}(h:G2 f x=true):∃a,x= .ref a∧f a=true:=
 gD h λ e q=>IR (motive:=λ x=>∀e,IR (motive:=λ _=>av) x e f=true→∃a,x= .ref a∧f a=true) x e (λ a _ q=>⟨a,rfl,q⟩) e q
noncomputable def Ky(f:gR mS→av)(x:Data):Bool:=gi x.ctorIdx 3 λ h=>Ih (motive:=λ _=>av) x h λ d _=>f d
theorem Va{x:Data}{f:gR mS→av}(h:Ky f x=true):∃d z,x= .dict d z∧f d=true:=
 gD h λ e q=>Ih (motive:=λ x=>∀e,Ih (motive:=λ _=>av) x e (λ d _=>f d)=true→∃d z,x= .dict d z∧f d=true) x e (λ d z _ q=>⟨d,z,rfl,q⟩) e q
theorem G1{x:aw}{f:am→av}(h:vInt f x=true):∃i t,x= .int i t∧f i=true:=afK (ak:=λ x=>∃i t,x= .int i t∧f i=true) h λ i t q=>⟨i,t,rfl,q⟩
theorem rA{f:α→av}(h:cT f o=true):∃x,o=some x∧f x=true:=qs (ak:=λ o=>∃x,o=some x∧f x=true) h λ x q=>⟨x,rfl,q⟩
theorem NI(h:ol o=true):o=none:=rz (ak:=λ o=>o=none) h rfl
noncomputable def Dl:B mS→B (am×am)→av
 | [],O=>hg O
 |d::r,O=>oc (λ p q=>vInt (λ k=>k==p.1) d.key&&(vInt (λ v=>v==p.2) d.val&&(d.hash==hashInt p.1&&Dl r q))) O
noncomputable def Kc(K:kk)(a:a8)(O:B (am×am)):Bool:=
 cT (λ o:fO=>o.cls== .type "dict"&&(ol o.dict&&(Ky (λ m0=>Dl m0.toList O) o.data&&(o.slots.toList.isEmpty&&a != kY)))) (K.lookup a)
noncomputable def Lh(K:kk)(x:aL):D→av
 | .ii i=>cT (cT (vInt λ j=>i==j)) (qX K lx x)
 | .cd O=>cT (cT (G2 λ a=>Kc K a O)) (qX K lx x)
 |_=>false
noncomputable def uB(aS:gb)(x:aL):Bool:=aS.names.lookup x==some .globalImplicit&&pz x
noncomputable def DW(K:kk)(x:aL)(a:a8):Bool:=cT (cT (G2 λ b=>a==b)) (qX K lx x)
noncomputable def DU(K:kk)(x:aL):Bool:=cT ol (qX K lx x)
noncomputable def q3(K:kk)(aS:gb)(id:aL):bn→Bool:=nv λ y=>decide (y=id)&&(uB aS y&&DU K y)
noncomputable def wE(x:bn):Bool:=nv (λ _=>true) x||(rT (λ _ _ _=>true) x||(rV (λ _ _=>true) x||mJ (λ g xs _ _=>nv (λ _=>true) g&&oc (λ _ _=>true) xs) x))
noncomputable def Fs(x:bn):Bool:=!ki x.ctorIdx 7
noncomputable def AK(x:bn):Bool:=!(ki x.ctorIdx 8||(ki x.ctorIdx 9||ki x.ctorIdx 10))
noncomputable def abx(x:bn):Bool:=!ki x.ctorIdx 25
noncomputable def abw(x:bn):Bool:=!ki x.ctorIdx 26
noncomputable def Nv(x:bn):B Str:=NJ [] x.ctorIdx 23 λ h=>Cy (motive_1:=λ _=>B aL) x h λ y _=>[y]
noncomputable def Br(x:bn):B Str:=Nv x++NJ [] x.ctorIdx 25 λ h=>Cz (motive_1:=λ _=>B aL) x h λ l _ _=>l.flatMap Nv
noncomputable def Gv:B (B C)→B (Y bn)→av
 | [],ks=>hg ks
 |k::ks,O=>oc (λ e r=>cT (rU (Dh λ x=>decide (x=st k))) e&&Gv ks r) O
noncomputable def EB:B am→B (Y bn)→av
 | [],ks=>hg ks
 |k::ks,O=>oc (λ e r=>cT (rU (zp λ x=>x==k)) e&&EB ks r) O
mutual
noncomputable def dU(k:qK):ab→gb→B (Y aL)→bn→av
 | .nn,_,_=>rU J8
 | .cj b,_,_=>rU (J4 λ hv=>hv==b)
 | .ii i,_,_=>rU (zp λ hv=>hv==i)
 | .ss s,_,_=>rU (Dh λ y=>decide (y=st s))
 | .v i,_,aj=>nv λ y=>u' aj i y&&pz y
 | .gl _ val,aS,_=>nv λ y=>Lh k.K y val&&uB aS y
 | .bin op a b,aS,aj=>BI λ l o r=>o==s' op&&(dU k a aS aj l&&dU k b aS aj r)
 | .qz a b,aS,aj=>BI λ l o r=>o== .Mult&&(dU k a aS aj l&&dU k b aS aj r)
 | .pD a b,aS,aj=>BI λ l o r=>o== .Mult&&(dU k a aS aj l&&dU k b aS aj r)
 | .neg a,aS,aj=>BM λ o y=>o== .USub&&dU k a aS aj y
 | .and O,aS,aj=>yq λ o xs=>o== .And&&kH k O aS aj xs
 | .or O,aS,aj=>yq λ o xs=>o== .Or&&kH k O aS aj xs
 | .cmp op a b,aS,aj=>Hf λ l os d3=>dy (λ r=>dy (λ o=>o==Dt op&&(!IX o r&&(dU k a aS aj l&&dU k b aS aj r))) os) d3
 | .ite t a b,aS,aj=>P1 λ u l r=>vg k t aS aj u&&(dU k a aS aj l&&dU k b aS aj r)
 | .tup O,aS,aj=>yr λ xs=>kH k O aS aj xs&&xs.all f1
 | .lst O,aS,aj=>P5 λ xs=>kH k O aS aj xs&&xs.all f1
 | .m2 ks ar,aS,aj=>BK λ mm f4=>Gv ks mm&&(kH k ar aS aj f4&&(decide (ks.length=f4.length)&&(!ks.isEmpty&&(decide (ks.length≤15)&&decide ks.Nodup))))
 | .o' ks ar,aS,aj=>BK λ mm f4=>EB ks mm&&(kH k ar aS aj f4&&(decide (ks.length=f4.length)&&(!ks.isEmpty&&(decide (ks.length≤15)&&decide ks.Nodup))))
 | .eP _,_,_=>BK λ ks ar=>hg ks&&hg ar
 | .at a f,aS,aj=>rT λ y gV _=>decide (gV=gJ k.nm f)&&(wE y&&dU k a aS aj y)
 | .aq a i,aS,aj=>rV λ y dQ=>dU k a aS aj y&&dU k i aS aj dQ
 | .lh a lo,aS,aj=>rV λ y dQ=>dU k a aS aj y&&BL (λ l h c=>ol h&&(ol c&&cT (dU k lo aS aj) l)) dQ
 | .mE a ay,aS,aj=>rV λ y dQ=>dU k a aS aj y&&BL (λ l h c=>ol l&&(ol c&&cT (dU k ay aS aj) h)) dQ
 | .rev a,aS,aj=>rV λ y dQ=>dU k a aS aj y&&BL (λ l h c=>ol l&&(ol h&&cT (BM λ o u=>o== .USub&&rU (zp λ i=>i==1) u) c)) dQ
 | .comp b7 xs many bb eo,aS,aj=>P2 λ e en bG=>dy (λ g=>g.is_async==0&&(Ds aS bG&&(tr (ia aj xs (Br g.target) bG)&&(rL (ia aj xs (Br g.target) bG) (pC bG aS) many xs g.target&&(rs (pC bG aS) g.target&&(Fs g.iter&&(dU k bb aS aj g.iter&&(s8 k eo (pC bG aS) (ia aj xs (Br g.target) bG) g.ifs&&dU k b7 (pC bG aS) (ia aj xs (Br g.target) bG) e)))))))) en
 | .call f b6,aS,aj=>mJ λ g xs fZ _=>hg fZ&&(nv (λ y=>uB aS y&&(DW k.K y (k.aK f)&&yU k.K (.ref (k.aK f)))) g&&(kH k b6 aS aj xs&&xs.all f1))
 | .new c b6,aS,aj=>mJ λ g xs fZ _=>hg fZ&&(nv (λ y=>uB aS y&&(DW k.K y (k.ca c)&&yU k.K (.ref (k.ca c)))) g&&(kH k b6 aS aj xs&&xs.all f1))
 | .hi o m b6,aS,aj=>mJ λ g xs fZ cg=>hg fZ&&(decide (m<k.nm.length)&&(decide (xs.length<30)&&(rT (λ y gV ez=>decide (gV=gJ k.nm m)&&(wE y&&((ez.endLine==cg.line)&&dU k o aS aj y))) g&&(kH k b6 aS aj xs&&xs.all f1))))
 | .len a,aS,aj=>mJ λ g xs fZ _=>q3 k.K aS "len" g&&(hg fZ&&dy (λ L=>dU k a aS aj L&&f1 L) xs)
 | .ja a,aS,aj=>mJ λ g xs fZ _=>q3 k.K aS "tuple" g&&(hg fZ&&dy (λ L=>dU k a aS aj L&&f1 L) xs)
 | .sorted a,aS,aj=>mJ λ g xs fZ _=>q3 k.K aS "sorted" g&&(hg fZ&&dy (λ L=>dU k a aS aj L&&f1 L) xs)
 | .strOf a,aS,aj=>mJ λ g xs fZ _=>q3 k.K aS "str" g&&(hg fZ&&dy (λ L=>dU k a aS aj L&&f1 L) xs)
 | .gP a,aS,aj=>mJ λ g xs fZ _=>q3 k.K aS "range" g&&(hg fZ&&dy (λ L=>dU k a aS aj L&&f1 L) xs)
 | .pE a b,aS,aj=>mJ λ g xs fZ _=>q3 k.K aS "range" g&&(hg fZ&&oc (λ L r=>dy (λ u=>(dU k a aS aj L&&f1 L)&&(dU k b aS aj u&&f1 u)) r) xs)
 | .append o a,aS,aj=>mJ λ g xs fZ cg=>hg fZ&&(rT (λ y gV ez=>decide (gV="append")&&(wE y&&((ez.endLine==cg.line)&&dU k o aS aj y))) g&&dy (λ L=>dU k a aS aj L&&f1 L) xs)
 | .m1 o a d,aS,aj=>mJ λ g xs fZ cg=>hg fZ&&(rT (λ y gV ez=>decide (gV="get")&&(wE y&&((ez.endLine==cg.line)&&dU k o aS aj y))) g&&oc (λ L r=>dy (λ u=>(dU k a aS aj L&&f1 L)&&(dU k d aS aj u&&f1 u)) r) xs)
 | .bad,_,_=>λ _=>true
noncomputable def kH(k:qK):d6→gb→B (Y aL)→B bn→av
 | .nil,_,_=>hg
 | .cons e r,aS,aj=>oc λ x bf=>dU k e aS aj x&&kH k r aS aj bf
noncomputable def vg(k:qK):T→gb→B (Y aL)→bn→av
 | .e a,aS,aj=>λ x=>FR x&&dU k a aS aj x
 | .g4 t,aS,aj=>BM λ o y=>o== .Not&&vg k t aS aj y
 | .and bE,aS,aj=>yq λ o xs=>o== .And&&s8 k bE aS aj xs
 | .or bE,aS,aj=>yq λ o xs=>o== .Or&&s8 k bE aS aj xs
 | .cmp op a b,aS,aj=>Hf λ l os d3=>dy (λ r=>dy (λ o=>o==Dt op&&(!IX o r&&(dU k a aS aj l&&dU k b aS aj r))) os) d3
noncomputable def s8(k:qK):fb→gb→B (Y aL)→B bn→av
 | .nil,_,_=>hg
 | .cons t r,aS,aj=>oc λ x bf=>vg k t aS aj x&&s8 k r aS aj bf
end
noncomputable def x3(f:B bn→bn→hb→av)(x:ft):Bool:=gi x.ctorIdx 5 λ h=>IH (motive_2:=λ _=>av) x h λ t v p=>f t v p
@[elab_as_elim] theorem A6{f:B bn→bn→hb→av}(h:x3 f x=true)(k:∀t v p,f t v p=true→ak (.Assign t v p)):ak x:=
 gD h λ e q=>IH (motive_2:=λ x=>∀e,IH (motive_2:=λ _=>av) x e (λ t v p=>f t v p)=true→ak x) x e (λ t v p _ q=>k t v p q) e q
noncomputable def A7(f:bn→yQ→bn→av)(x:ft):Bool:=gi x.ctorIdx 7 λ h=>II (motive_2:=λ _=>av) x h λ t o v _=>f t o v
@[elab_as_elim] theorem Gb{f:bn→yQ→bn→av}(h:A7 f x=true)(k:∀t o v p,f t o v=true→ak (.AugAssign t o v p)):ak x:=
 gD h λ e q=>II (motive_2:=λ x=>∀e,II (motive_2:=λ _=>av) x e (λ t o v _=>f t o v)=true→ak x) x e (λ t o v p _ q=>k t o v p q) e q
noncomputable def Oz(f:bn→av)(x:ft):Bool:=gi x.ctorIdx 24 λ h=>IJ (motive_2:=λ _=>av) x h λ v _=>f v
@[elab_as_elim] theorem adG{f:bn→av}(h:Oz f x=true)(k:∀v p,f v=true→ak (.Expr v p)):ak x:=
 gD h λ e q=>IJ (motive_2:=λ x=>∀e,IJ (motive_2:=λ _=>av) x e (λ v _=>f v)=true→ak x) x e (λ v p _ q=>k v p q) e q
noncomputable def Ge(f:Y bn→av)(x:ft):Bool:=gi x.ctorIdx 3 λ h=>IM (motive_2:=λ _=>av) x h λ v _=>f v
@[elab_as_elim] theorem OF{f:Y bn→av}(h:Ge f x=true)(k:∀v p,f v=true→ak (.Return v p)):ak x:=
 gD h λ e q=>IM (motive_2:=λ x=>∀e,IM (motive_2:=λ _=>av) x e (λ v _=>f v)=true→ak x) x e (λ v p _ q=>k v p q) e q
noncomputable def OC(f:bn→B ft→B ft→av)(x:ft):Bool:=gi x.ctorIdx 12 λ h=>IL (motive_2:=λ _=>av) x h λ u v w _=>f u v w
@[elab_as_elim] theorem adI(h:OC f x=true)(k:∀u v w p,f u v w=true→ak (.If u v w p)):ak x:=
 gD h λ e q=>IL (motive_2:=λ x=>∀e,IL (motive_2:=λ _=>av) x e (λ u v w _=>f u v w)=true→ak x) x e (λ u v w p _ q=>k u v w p q) e q
noncomputable def OH(f:bn→B ft→B ft→av)(x:ft):Bool:=gi x.ctorIdx 11 λ h=>IN (motive_2:=λ _=>av) x h λ u v w _=>f u v w
@[elab_as_elim] theorem adK(h:OH f x=true)(k:∀u v w p,f u v w=true→ak (.While u v w p)):ak x:=
 gD h λ e q=>IN (motive_2:=λ x=>∀e,IN (motive_2:=λ _=>av) x e (λ u v w _=>f u v w)=true→ak x) x e (λ u v w p _ q=>k u v w p q) e q
noncomputable def OA(f:bn→bn→B ft→B ft→av)(x:ft):Bool:=gi x.ctorIdx 9 λ h=>IK (motive_2:=λ _=>av) x h λ t u v w _=>f t u v w
@[elab_as_elim] theorem adH{f:bn→bn→B ft→B ft→av}(h:OA f x=true)(k:∀t u v w p,f t u v w=true→ak (.For t u v w p)):ak x:=
 gD h λ e q=>IK (motive_2:=λ x=>∀e,IK (motive_2:=λ _=>av) x e (λ t u v w _=>f t u v w)=true→ak x) x e (λ t u v w p _ q=>k t u v w p q) e q
noncomputable def Mf(e:ab):Bool:=gi e.ctorIdx 24 λ _=>true
@[elab_as_elim] theorem Y1{ak:ab→Prop}{e:ab}(h:Mf e=true)(k:∀a b c d f,ak (.comp a b c d f)):ak e:=gD h λ i _=>ab.comp.elim (motive_1:=ak) e i k
mutual
noncomputable def NQ(k:qK):S→gb→B (Y aL)→ft→av
 | .asg i e,aS,aj=>x3 λ bE v _=>dy (nv λ y=>u' aj i y&&tk aS y) bE&&((Mf e||AK v)&&dU k e aS aj v)
 | .oZ xs e,aS,aj=>x3 λ bE v _=>dy (λ t=>yr (λ _=>true) t&&rL aj aS true xs t) bE&&(AK v&&(abx v&&dU k e aS aj v))
 | .cc o f e,aS,aj=>x3 λ bE v _=>dy (rT λ y gV _=>decide (gV=gJ k.nm f)&&dU k o aS aj y) bE&&dU k e aS aj v
 | .gI o i e,aS,aj=>x3 λ bE v _=>dy (rV λ y L=>dU k o aS aj y&&dU k i aS aj L) bE&&dU k e aS aj v
 | .aug i op e,aS,aj=>A7 λ t o v=>o==s' op&&(nv (λ y=>u' aj i y&&(tk aS y&&pz y)) t&&dU k e aS aj v)
 | .o2 o f op e,aS,aj=>A7 λ t p v=>p==s' op&&(rT (λ y gV _=>decide (gV=gJ k.nm f)&&dU k o aS aj y) t&&dU k e aS aj v)
 | .o3 o i op e,aS,aj=>A7 λ t p v=>p==s' op&&(rV (λ y L=>abw L&&(dU k o aS aj y&&dU k i aS aj L)) t&&dU k e aS aj v)
 | .ex e,aS,aj=>Oz λ v=>AK v&&dU k e aS aj v
 | .ret e,aS,aj=>Ge (cT (dU k e aS aj))
 | .mC,_,_=>Ge ol
 | .b4 t a b,aS,aj=>OC λ u p q=>vg k t aS aj u&&(pw k a aS aj p&&pw k b aS aj q)
 | .pK t b,aS,aj=>OH λ u p q=>hg q&&(vg k t aS aj u&&pw k b aS aj p)
 | .dc xs many bb b,aS,aj=>OA λ Bq hw p q=>hg q&&(rL aj aS many xs Bq&&(Fs hw&&(dU k bb aS aj hw&&pw k b aS aj p)))
 | .bad,_,_=>λ _=>true
noncomputable def pw(k:qK):bk→gb→B (Y aL)→B ft→av
 | .nil,_,_=>hg
 | .cons s r,aS,aj=>oc λ x bf=>NQ k s aS aj x&&pw k r aS aj bf
end
theorem UN{prog:lu}{w:eY}(m0:B mS):∀{O:B (am×am)},Dl m0 O=true→
  (∀e∈m0,∃k,(gr prog w).is k e.key=true∧e.hash=(gr prog w).hash k)∧∀k,ga (λ i v=>∃t,v= .int i t) (O.lookup k) ((m0.find? λ e=>(gr prog w).is k e.key).map (·.val)):=by
 induction m0 with
 |nil=>exact λ h=>gZ h ⟨λ _ h=>(nomatch h),λ _=>rfl⟩
 |cons d r aZ=>
  refine λ h=>jp h λ p q h=>(G1 (a7 h)).elim λ k L=>L.elim λ t L=>(G1 (a7 (aD h))).elim λ v y=>y.elim λ u y=>?_
  have i:=aZ (aD (aD (aD h)))
  have dp:d.key= .int p.1 t:=L.1.trans (an (qW · t) (eq_of_beq L.2))
  refine⟨λ e b3=>(kg.mp b3).elim (λ g=>⟨p.1,g▸dp▸p3 _ _ _ _,g▸eq_of_beq (a7 (aD (aD h)))⟩) (i.1 e),λ ct=>?_⟩
  by_cases hk:ct=p.1
  ·rw[HO (p:=λ e:mS=>(gr prog w).is ct e.key) (dp▸hk▸p3 _ _ _ _),hk]
   exact(HZ (k:=p.1)).symm▸⟨d.val,rfl,u,y.1.trans (an (qW · u) (eq_of_beq y.2))⟩
  ·rw[HN (p:=λ e:mS=>(gr prog w).is ct e.key) (λ g=>hk (eq_of_beq (show(gr prog w).is ct (.int p.1 t)=true from dp▸g)).symm),l0,l'.mpr hk]
   exact i.2 ct
theorem UM{O:B (am×am)}(X:c.K.In c.h₀)(h:Kc c.K a O=true):Hu c O a:=
 (rA h).elim λ o g=>(Va (a7 (aD (aD g.2)))).elim λ m0 q=>q.elim λ hK q=>have i:=UN (prog:=c.prog) (w:=c.w) m0.toList q.2;have L:=aD (aD (aD g.2))
  ⟨l'.mpr (p7.mp (aD L)),λ k=>CJ (gr c.prog c.w).is m0 k,⟨o,m0,hK,X _ _ g.1,⟨eq_of_beq (a7 g.2),NI (a7 (aD g.2)),BS.mp (B'.mp (a7 L))⟩,q.1,λ x aA=>i.1 x (Qg.mpr aA),λ _=>rfl⟩,λ k=>by
   have e:CJ (gr c.prog c.w).is m0 k=(m0.toList.find? λ e=>(gr c.prog c.w).is k e.key).map (·.val):=by
    unfold CJ
    rw[←Qe]
   exact(an (ga (λ i v=>∃t,v=qW i t) (O.lookup k)) e).mpr (i.2 k)⟩
theorem W2{x:aL}{a:D}{G:cA}{h:dD}(X:c.K.In c.h₀)(e:Lh c.K x a=true):∃v,qX c.K lx x=some (some v)∧bA c G h a v:=by
 cases a with
 |ii i=>exact(rA e).elim λ o g=>(rA g.2).elim λ v y=>⟨v,g.1.trans (an _ y.1),(G1 y.2).elim λ j y=>y.imp λ t y=>y.1.trans (an (qW · t) (eq_of_beq y.2).symm)⟩
 |cd O=>exact(rA e).elim λ o g=>(rA g.2).elim λ v y=>⟨v,g.1.trans (an _ y.1),(PS y.2).imp λ b y=>⟨y.1,UM X y.2⟩⟩
 |_=>exact nomatch e
theorem jJ{x:aL}(h:uB aS x=true):aS.names.lookup x=some .globalImplicit∧pz x=true:=⟨eq_of_beq (a7 h),aD h⟩
theorem Lb{x:aL}(h:DW K x a=true):qX K lx x=some (some (.ref a)):=
 (rA h).elim λ o g=>(rA g.2).elim λ v y=>(PS y.2).elim λ b L=>g.1.trans (an _ (y.1.trans (an _ (L.1.trans (an _ (eq_of_beq L.2).symm)))))
theorem uz{x:aL}(h:DU K x=true):qX K lx x=some none:=(rA h).elim λ o g=>g.1.trans (an _ (NI g.2))
theorem AN{a b:av}{M:Prop}(h:(a||b)=true)(c2:a=true→M)(dW:b=true→M):M:=(BW.mp h).elim c2 dW
theorem zl{o:bn}{name:aL}{BE:ij aw}(h:wE o=true):IW o name env BE=BE:=
 AN h (λ h=>mK h λ _ _ _=>rfl) λ h=>AN h (λ h=>tz h λ _ _ _ _=>rfl) λ h=>AN h (λ h=>tB h λ _ _ _ _=>rfl) λ h=>nu h λ g xs ks p h=>by
  have aH:=aD h
  revert aH
  exact mK (a7 h) λ _ _ _ aH=>jp aH λ _ _ _=>rfl
theorem Gl{e:bn}(h:Fs e=true):∀x,CK e env x=pure x:=by
 intro x
 cases e<;>first|rfl|exact KY (show false=true from h)
theorem Gx{v:bn}{t:Y bn}{z:C}(h:AK v=true):y0 v t z env=pure false:=by
 cases v<;>first|rfl|exact KY (show false=true from h)
@[elab_as_elim] theorem ud{id:aL}{ak:bn→Prop}:∀{x:bn},q3 K aS id x=true→(∀p,uB aS id=true→DU K id=true→ak (.Name id p))→ak x:=by
 intro x h k
 unfold q3 at h
 refine mK h λ y p h=>?_
 have e:y=id:=gh (a7 h)
 subst e;exact k p (a7 (aD h)) (aD (aD h))
theorem Ut:bootBuiltins "len"=some (.builtin "len"):=by decide+kernel
theorem Uu:bootBuiltins "sorted"=some (.builtin "sorted"):=by decide+kernel
theorem Uw:bootBuiltins "tuple"=some (.type "tuple"):=by decide+kernel
theorem Uv:bootBuiltins "str"=some (.type "str"):=by decide+kernel
theorem JX:bootBuiltins "range"=some (.type "range"):=by decide+kernel
end Mine
end
section
open PySem PySem.W PyProof.Rows
namespace Mine
variable{A:eB}{G bQ:cA}{s aJ b':a2}{t:ij aw}{α:Type}{o:Y α}{k:α→Prop}{r:D}{ak:D→D→Prop}{v:D}{J:St}{m:C}{l:B C}{O:d6}
noncomputable def BR(A:eB)(z:C):Prop:=A.handled=none∧A.depth+4*z<CM∧A.units+12*z+300<kX
noncomputable def iD(A:eB)(z:C):Prop:=A.handled=none∧A.depth+4*z+3<CM∧A.units+12*z+309<kX
theorem iD.a{z:C}(h:iD A z):BR A z:=⟨h.1,by have:=h.2.1;omega,by have:=h.2.2;omega⟩
theorem iD.u{z:C}(h:iD A z):A.units+200<cLine:=by have:=h.2.2;omega
structure Ch(c:cV)(nm:B (B C))(aK:C→a8):Prop where
 i4:∀V f,c.P.i4 V=some f→oT c.K (.ref (c.ca V)) "__init__"=some (some (.ref (aK f)))∧wk c.K (.ref (aK f))=some (.type "function")
 ps:∀V m f,c.P.ps V m=some f→oT c.K (.ref (c.ca V)) (gJ nm m)=some (some (.ref (aK f)))∧wk c.K (.ref (aK f))=some (.type "function")∧yU c.K (.ref (aK f))=true
noncomputable def jD(c:cV)(nm:B (B C))(aK:C→a8):qK:=⟨c.K,aK,c.ca,nm⟩
noncomputable def Hv(c:cV)(nm:B (B C))(aK:C→a8)(z:C)(V:C→B D→dC→St→Prop):Prop:=
 ∀(A:eB) f b6 gQ G n s Q (R:yT→a2→Prop),BR A z→Inv c nm G n s→cs c G s.heap b6 gQ→V f b6 Q n→(∀v a9,Back c nm G s Q v a9→R (.ok (.ret v)) a9)→t4 (bc c.prog c.w) A (.call (.ref (aK f)) ⟨gQ,[]⟩) R s
structure hJ(c:cV)(nm:B (B C))(aK:C→a8)(z:C)(V:C→B D→dC→St→Prop):Prop where
 ok:jA c nm
 gl:v5 c
 more:Ch c nm aK
 call:Hv c nm aK z V
noncomputable def cv(c:cV)(nm:B (B C))(aK:C→a8)(z:C)(V:C→B D→dC→St→Prop)(e:ab):Prop:=
 ∀(x:bn) (aj:B (Y aL)) (env:aX) (ai:eg) (G:cA) (n:St) (s:a2) (m:aL→Y aw) (A:eB) (ab:aw→a2→Prop) (Q:dC),
  dU (jD c nm aK) e ai.scope aj x=true→c9 c aj G env ai s.heap m→Inv c nm G n s→iD A z→di c.P V e env Q n→bg (bc c.prog c.w) A (eval x ai) (Back c nm G s Q) ab s
noncomputable def kT(c:cV)(nm:B (B C))(aK:C→a8)(z:C)(V:C→B D→dC→St→Prop):d6→Prop
 | .nil=>True
 | .cons e r=>cv c nm aK z V e∧kT c nm aK z V r
noncomputable def nO(c:cV)(nm:B (B C))(aK:C→a8)(z:C)(V:C→B D→dC→St→Prop)(t:T):Prop:=
 ∀(x:bn) (aj:B (Y aL)) (env:aX) (ai:eg) (G:cA) (n:St) (s:a2) (m:aL→Y aw) (A:eB) (ab:aw→a2→Prop) (Q:av→St→Prop),
  vg (jD c nm aK) t ai.scope aj x=true→c9 c aj G env ai s.heap m→Inv c nm G n s→iD A z→qH c.P V t env Q n→bg (bc c.prog c.w) A (isTrue x ai (eval x ai)) (kS c nm G s Q) ab s
noncomputable def p4(c:cV)(nm:B (B C))(aK:C→a8)(z:C)(V:C→B D→dC→St→Prop):fb→Prop
 | .nil=>True
 | .cons e r=>nO c nm aK z V e∧p4 c nm aK z V r
section
variable{c:cV}{nm:B (B C)}{aK:C→a8}{z:C}{V:C→B D→dC→St→Prop}
theorem jd{ab:aw→a2→Prop}{Q:dC}(S:Step G s bQ aJ)(h:bg (bc c.prog c.w) A t (Back c nm bQ aJ Q) ab b'):bg (bc c.prog c.w) A t (Back c nm G s Q) ab b':=fa h (λ _ _ b=>b.after S) λ _ _ y=>y
theorem BF{ab:aw→a2→Prop}{Q:av→St→Prop}{t:ij av}(S:Step G s bQ aJ)(h:bg (bc c.prog c.w) A t (kS c nm bQ aJ Q) ab b'):bg (bc c.prog c.w) A t (kS c nm G s Q) ab b':=fa h (λ _ _ b=>b.after S) λ _ _ y=>y
theorem fK{ab:aw→a2→Prop}{W:dC}{X:aw→a2→Prop}(h:bg (bc c.prog c.w) A t (Back c nm G s W) ab s)
  (k:∀v a bQ aa aJ,W a aa→bA c bQ aJ.heap a v→Inv c nm bQ aa aJ→Step G s bQ aJ→X v aJ):bg (bc c.prog c.w) A t X ab s:=
 fa h (λ v aJ ⟨a,bQ,aa,q,r,I,S⟩=>k v a bQ aa aJ q r I S) λ _ _ y=>y
theorem vH{ab:aw→a2→Prop}{W:B D→St→Prop}{t:ij (B aw)}{X:B aw→a2→Prop}(h:bg (bc c.prog c.w) A t (Hq c nm G s W) ab s)
  (k:∀v a bQ aa aJ,W a aa→cs c bQ aJ.heap a v→Inv c nm bQ aa aJ→Step G s bQ aJ→X v aJ):bg (bc c.prog c.w) A t X ab s:=
 fa h (λ v aJ ⟨a,bQ,aa,q,r,I,S⟩=>k v a bQ aa aJ q r I S) λ _ _ y=>y
theorem qE{ab:aw→a2→Prop}{W:av→St→Prop}{t:ij av}{X:av→a2→Prop}(h:bg (bc c.prog c.w) A t (kS c nm G s W) ab s)
  (k:∀v bQ aa aJ,W v aa→Inv c nm bQ aa aJ→Step G s bQ aJ→X v aJ):bg (bc c.prog c.w) A t X ab s:=
 fa h (λ v aJ ⟨bQ,aa,q,I,S⟩=>k v bQ aa aJ q I S) λ _ _ y=>y
theorem q4(h:et o k):∃a,o=some a∧k a:=by
 cases o with
 |none=>exact h.elim
 |some a=>exact⟨a,rfl,h⟩
theorem fB{M:Prop}(h:et o k)(g:∀a,o=some a→k a→M):M:=let⟨a,e,q⟩:=q4 h;g a e q
section
variable{n:St}{a b:D}
theorem ac7{ak:D→D→D→Prop}(h:xZ a b=some r)(k:∀x,ak (.tup [x]) (.ii 1) (.tup [x])):ak a b r:=by
 unfold xZ at h
 split at h
 ·split at h
  ·rename_i e;cases h;rw[e];exact k _
  ·cases h
 ·cases h
theorem xr{m:C}{α:Type}{f:B D→Y α}{r:α}(h:(match n[m]? with
  |some (.li xs)=>f xs
  |_=>none)=some r){M:Prop}(k:∀xs,n[m]? =some (.li xs)→f xs=some r→M):M:=by
 split at h
 ·exact k _ ‹_› h
 ·cases h
theorem ac6{r:B D}{ak:D→D→B D→Prop}(h:vs n a b=some r)(k:∀m z x,n[m]? =some (.li [x])→0≤z→z<1000→ak (.ref m) (.ii z) (dw z.toNat x)):ak a b r:=by
 unfold vs at h
 split at h
 ·split at h
  ·refine lJ h λ p e=>?_
   subst e;exact k _ _ _ ‹_› p.1 p.2
  ·cases h
 ·cases h
theorem abd(h:xE a=some r)(k:∀i,ak (.ii i) (.ii (-i))):ak a r:=by
 unfold xE at h
 split at h
 ·cases h;exact k _
 ·cases h
theorem ZW{r:B D}{ak:D→B D→Prop}(h:uZ n a=some r)(k:∀m xs,n[m]? =some (.li xs)→ak (.ref m) xs):ak a r:=by
 unfold uZ at h
 split at h
 ·refine xr (f:=some) h λ xs e q=>?_
  cases q;exact k _ _ e
 ·cases h
theorem WI{r:B D}{ak:D→D→B D→Prop}(h:uw n a b=some r)(k:∀m z xs,n[m]? =some (.li xs)→0≤z→ak (.ref m) (.ii z) (xs.drop z.toNat)):ak a b r:=by
 unfold uw at h
 split at h
 ·refine xr (f:=λ xs:B D=>if 0≤_∧_< (1000:am)then some (xs.drop (HG _))else none) h λ xs e q=>?_
  refine lJ q λ p q=>?_
  subst q;exact k _ _ _ e p.1
 ·cases h
theorem afI{r:D ⊕ B D}{ak:D→D→D ⊕ B D→Prop}(h:rQ n a b=some r)(c2:∀m z xs,n[m]? =some (.li xs)→0≤z→ak (.ref m) (.ii z) (.inr (xs.take z.toNat)))
  (dW:∀t z,0≤z→t.length≤1000→ak (.ss t) (.ii z) (.inl (.ss (t.take z.toNat))))(n':∀l z,0≤z→l.length≤1000→ak (.fu l) (.ii z) (.inr ((l.take z.toNat).map .ii))):ak a b r:=by
 unfold rQ at h
 split at h
 ·refine xr (f:=λ xs:B D=>if 0≤_∧_< (1000:am)then some (Sum.inr (xs.take (HG _)))else none) h λ xs e q=>?_
  refine lJ q λ p q=>?_
  subst q;exact c2 _ _ _ e p.1
 ·refine lJ h λ p q=>?_
  subst q;exact dW _ _ p.1 p.2.2
 ·refine lJ h λ p q=>?_
  subst q;exact n' _ _ p.1 p.2.2
 ·cases h
theorem afm(h:rN n a=some r)(k:∀m xs,n[m]? =some (.li xs)→ak (.ref m) (.tup xs))(dW:∀l,ak (.tup l) (.tup l)):ak a r:=by
 unfold rN at h
 split at h
 ·refine xr (f:=λ xs=>some (D.tup xs)) h λ xs e q=>?_
  cases q;exact k _ _ e
 ·cases h;exact dW _
 ·cases h
theorem aeb{r:B D}{ak:D→B D→Prop}(h:vD n a=some r)(k:∀m xs bf,n[m]? =some (.li xs)→xs.length<64→xs.all m8=true→pI xs=some bf→bf.length<64→ak (.ref m) bf):ak a r:=by
 unfold vD at h
 split at h
 ·split at h
  ·split at h
   ·rename_i p
    obtain⟨bf,e,h⟩:=yN.mp h
    refine lJ h λ fS q=>?_
    subst q;exact k _ _ _ ‹_› p.1 p.2 e fS
   ·cases h
  ·cases h
 ·cases h
theorem aeS(h:ye a=some r)(k:∀i d,zC i=some d→ak (.ii i) (.ss d)):ak a r:=by
 unfold ye at h
 split at h
 ·obtain⟨d,e,h⟩:=l2.mp h
  subst h;exact k _ _ e
 ·cases h
theorem adk(h:ot a=some r)(k:∀i,ak (.ii i) (.ew 0 i)):ak a r:=by
 unfold ot at h
 split at h
 ·refine lJ h λ p q=>?_
  subst q;exact k _
 ·cases h
theorem adn{ak:D→D→D→Prop}(h:vx a b=some r)(k:∀i j,ak (.ii i) (.ii j) (.ew i j)):ak a b r:=by
 unfold vx at h
 split at h
 ·refine lJ h λ p q=>?_
  subst q;exact k _ _
 ·cases h
theorem SX{ak:St→Prop}(h:l7 n (.ref m) v=some J)(k:∀xs,n[m]? =some (.li xs)→xs.length<room→ak (n.set m (.li (xs++[v])))):ak J:=by
 unfold l7 at h
 refine xr (f:=λ xs=>if xs.length<room then some (n.set m (.li (xs++[v])))else none) h λ xs e q=>lJ q λ p q=>?_
 subst q;exact k _ e p
theorem Y2{ak:D→Prop}(h:mk n a=true)(k:∀m xs,n[m]? =some (.li xs)→ak (.ref m)):ak a:=by
 unfold mk at h
 split at h
 ·unfold Al at h
  split at h
  ·exact k _ _ ‹_›
  ·cases h
 ·cases h
theorem aaL{P:iV}{f:C}{ak:D→Prop}(h:ms P n m a=some f)(k:∀z c aG,n[z]? =some (.bF c aG)→aG.lookup m=none→P.ps c m=some f→ak (.ref z)):ak a:=by
 unfold ms at h
 split at h
 ·split at h
  ·split at h
   ·exact k _ _ _ ‹_› (Cu.mp ‹_›) h
   ·cases h
  ·cases h
 ·cases h
theorem adY{k:D}{ak:D→Prop}(h:j9 n a k v=some J)(g:∀z,Gk n z k v=some J→ak (.ref z)):ak a:=by
 unfold j9 at h
 split at h
 ·exact g _ h
 ·cases h
theorem ada{k:D}{ak:D→Prop}(h:vv n a k=some r)(g:∀z,dd n (.ref z) k=some r→ak (.ref z)):ak a:=by
 unfold vv at h
 split at h
 ·exact g _ h
 ·cases h
end
theorem V5:cv c nm aK z V .nn:=by
 intro x aj env ai G n s m A ab Q ok F I hA q
 refine tA ok λ k z p ok=>UG ok ?_
 exact wpAny_Constant_none (Back.now q rfl I)
theorem VO{b:av}:cv c nm aK z V (.cj b):=by
 intro x aj env ai G n s m A ab Q ok F I hA q
 refine tA ok λ k z p ok=>UC ok λ hv ok=>jH ok ?_
 exact wpAny_Constant_bool (Back.now q lm I)
theorem VX{i:am}:cv c nm aK z V (.ii i):=by
 intro x aj env ai G n s m A ab Q ok F I hA q
 refine tA ok λ k z p ok=>Dg ok λ hv ok=>jH ok ?_
 exact I6 (Back.here q ⟨_,rfl⟩ I _)
theorem We:cv c nm aK z V (.ss l):=by
 intro x aj env ai G n s m A ab Q ok F I hA q
 refine tA ok λ k z p ok=>J9 ok λ hv ok=>?_
 rw[show hv=st l from gh ok]
 exact R5 (Back.here q ⟨_,rfl⟩ I _)
theorem Wi{i:C}:cv c nm aK z V (.v i):=by
 intro x aj env ai G n s m A ab Q ok F I hA q
 refine mK ok λ y p ok=>fB q λ a bO q=>?_
 exact aad F I (va (a7 ok)) (aD ok) bO q
theorem VW(Z:hJ c nm aK z V){a:D}:cv c nm aK z V (.gl l a):=by
 intro x aj env ai G n s m A ab Q ok F I hA q
 refine mK ok λ y p ok=>?_
 obtain⟨v,e,r⟩:=W2 (G:=G) (h:=s.heap) Z.ok.K (a7 ok)
 exact D0 Z.ok Z.gl F I e (jJ (aD ok)).1 (jJ (aD ok)).2 (Back.now q r I)
theorem two{a b:ab}(bO:cv c nm aK z V a)(az:cv c nm aK z V b){x y:bn}{aj:B (Y aL)}{env:aX}{ai:eg}{n:St}{m:aL→Y aw}{ab:aw→a2→Prop}{W:D→D→St→Prop}{X:aw→aw→a2→Prop}
  (cT:dU (jD c nm aK) a ai.scope aj x=true)(bu:dU (jD c nm aK) b ai.scope aj y=true)(F:c9 c aj G env ai s.heap m)(I:Inv c nm G n s)(hA:iD A z)(q:di c.P V a env (λ db aa=>di c.P V b env (W db) aa) n)
  (k:∀v u cx ed dz ao b',W cx ed ao→bA c dz b'.heap cx v→bA c dz b'.heap ed u→Inv c nm dz ao b'→Step G s dz b'→X v u b'):bg (bc c.prog c.w) A (eval x ai) (λ v aJ=>bg (bc c.prog c.w) A (eval y ai) (X v) ab aJ) ab s:=
 fK (bO _ _ _ _ _ _ _ _ _ _ _ cT F I hA q) λ _ _ _ _ _ q r ce bU=>fK (az _ _ _ _ _ _ _ _ _ _ _ bu (F.step I bU) ce hA q) λ _ _ _ _ _ q ef c1 dt=>k _ _ _ _ _ _ _ q (dt.f5 ce r) ef c1 (bU.trans dt)
theorem VN{op:iR}{a b:ab}(bO:cv c nm aK z V a)(az:cv c nm aK z V b):cv c nm aK z V (.bin op a b):=by
 intro x aj env ai G n s m A ab Q ok F I hA q
 refine He ok λ l o r p ok=>jH (a7 ok) ?_
 exact I5 (two bO az (a7 (aD ok)) (aD (aD ok)) F I hA q λ v u cx ed dz ao b' q r ef c1 S=>fB q λ y e q=>jd S (Uk e r ef q c1))
theorem V8{a b:ab}(bO:cv c nm aK z V a)(az:cv c nm aK z V b):cv c nm aK z V (.qz a b):=by
 intro x aj env ai G n s m A ab Q ok F I hA q
 refine He ok λ l o r p ok=>jH (a7 ok) ?_
 refine I5 (two bO az (a7 (aD ok)) (aD (aD ok)) F I hA q λ v u cx ed dz ao b' q r ef c1 S=>fB q λ y e=>?_)
 revert r ef
 exact ac7 (ak:=λ cx ed y=>bA c dz b'.heap cx v→bA c dz b'.heap ed u→Q y ao→_) e λ _ r ef q=>jd S (adg r ef q c1)
theorem V7{a b:ab}(bO:cv c nm aK z V a)(az:cv c nm aK z V b):cv c nm aK z V (.pD a b):=by
 intro x aj env ai G n s m A ab Q ok F I hA q
 refine He ok λ l o r p ok=>jH (a7 ok) ?_
 refine I5 (two bO az (a7 (aD ok)) (aD (aD ok)) F I hA q λ v u cx ed dz ao b' q r ef c1 S=>fB q λ y e=>?_)
 revert r ef
 exact ac6 (ak:=λ cx ed y=>bA c dz b'.heap cx v→bA c dz b'.heap ed u→Q (.ref ao.length) (ao++[.li y])→_) e λ _ _ _ e ec ax r ef q=>jd S (adf e ec ax r ef q c1)
theorem V3{a:ab}(bO:cv c nm aK z V a):cv c nm aK z V (.neg a):=by
 intro x aj env ai G n s m A ab Q ok F I hA q
 refine Hj ok λ o y p ok=>jH (a7 ok) ?_
 refine R6 (fK (bO _ _ _ _ _ _ _ _ _ _ _ (aD ok) F I hA q) λ v cx bQ aa aJ q r ce bU=>fB q λ y e=>?_)
 revert r
 exact abd (ak:=λ cx y=>bA c bQ aJ.heap cx v→Q y aa→_) e λ _ r q=>jd bU (Np r q ce)
theorem VQ(Z:hJ c nm aK z V){op:je}{a b:ab}(bO:cv c nm aK z V a)(az:cv c nm aK z V b):cv c nm aK z V (.cmp op a b):=by
 intro x aj env ai G n s m A ab Q ok F I hA q
 refine P0 ok λ l os d3 p ok=>jo ok λ r ok=>jo ok λ o ok=>?_
 have bu:=aD ok
 revert bu
 refine jH (a7 ok) λ bu=>?_
 exact wpAny_Compare1 (two bO az (a7 (aD bu)) (aD (aD bu)) F I hA q λ v u cx ed dz ao b' q r ef c1 S=>fB q λ y e q=>jd S (Ko Z.ok hA.u e r ef q c1)) (by simpa using a7 bu)
theorem VY{t:T}{a b:ab}(bD:nO c nm aK z V t)(bO:cv c nm aK z V a)(az:cv c nm aK z V b):cv c nm aK z V (.ite t a b):=by
 intro x aj env ai G n s m A ab Q ok F I hA q
 refine af9 ok λ u l r p ok=>?_
 refine wpAny_IfExp (qE (bD _ _ _ _ _ _ _ _ _ _ _ (a7 ok) F I hA q) λ v bQ aa aJ q ce bU=>?_)
 cases v
 ·exact jd bU (az _ _ _ _ _ _ _ _ _ _ _ (aD (aD ok)) (F.step I bU) ce hA q)
 ·exact jd bU (bO _ _ _ _ _ _ _ _ _ _ _ (a7 (aD ok)) (F.step I bU) ce hA q)
theorem ur{aj:B (Y aL)}{env:aX}{ai:eg}{A:eB}{ab:aw→a2→Prop}{cg:hb}(hA:iD A z):∀{O:d6} {xs:B bn} {G:cA} {n:St} {s:a2} {m:aL→Y aw} {Q:B D→St→Prop},kT c nm aK z V O→
  kH (jD c nm aK) O ai.scope aj xs=true→xs.all f1=true→c9 c aj G env ai s.heap m→Inv c nm G n s→m4 c.P V O env Q n→bg (bc c.prog c.w) A (sc (kW cg (j0 xs ai))) (Hq c nm G s Q) ab s
 | .nil,_,G,n,_,_,_,_,ok,_,_,I,q=>gZ ok (Sd ⟨[],G,n,q,cs.nil,I,.refl _ _⟩)
 | .cons _ r,xs,_,_,_,_,_,hs,ok,cy,F,I,q=>by
  revert cy
  refine jp ok λ y bf ok cy=>?_
  exact Ja (fK (hs.1 _ _ _ _ _ _ _ _ _ _ _ (a7 ok) F I hA q) λ v cx bQ aa aJ q r ce bU=>vH (ur hA hs.2 (aD ok) (aD cy) (F.step I bU) ce q) λ ar as dz ao b' q d3 c1 dt=>
   ⟨_,dz,ao,q,cs.cons (dt.f5 ce r) d3,c1,bU.trans dt⟩) (vF (a7 cy))
theorem Wg(hs:kT c nm aK z V O):cv c nm aK z V (.tup O):=by
 intro x aj env ai G n s m A ab Q ok F I hA q
 refine Hi ok λ l k p ok=>wpAny_Tuple (vH (ur hA hs (a7 ok) (aD ok) F I q) λ ar as dz ao b' q d3 c1 dt=>?_)
 refine⟨by rw[d3.length,ly];omega,?_⟩
 exact Back.after dt (Nq (k:=0) (t:=b'.toks) c1 (.refl _ _) d3 q.2)
theorem V1(hs:kT c nm aK z V O):cv c nm aK z V (.lst O):=by
 intro x aj env ai G n s m A ab Q ok F I hA q
 refine af' ok λ l p ok=>wpAny_List (vH (ur hA hs (a7 ok) (aD ok) F I q) λ ar as dz ao b' q d3 c1 dt=>?_)
 refine⟨by rw[d3.length,ly];omega,?_⟩
 exact Back.after dt (AI (k:=0) (t:=b'.toks) c1 (.refl _ _) d3 (by rw[x1];omega) q.2 (nZ λ _ _ e=>e))
theorem Jr{aj:B (Y aL)}{env:aX}{ai:eg}{A:eB}{ab:aw→a2→Prop}{cg:hb}(hA:iD A z):∀{O:d6} {xs:B bn} {G:cA} {n:St} {s:a2} {m:aL→Y aw} {Q:dC},kT c nm aK z V O→
  kH (jD c nm aK) O ai.scope aj xs=true→c9 c aj G env ai s.heap m→Inv c nm G n s→wz c.P V O env Q n→bg (bc c.prog c.w) A (yV cg .And (I0 xs ai)) (Back c nm G s Q) ab s
 | .nil,_,_,_,_,_,_,_,_,_,_,q=>q.elim
 | .cons e .nil,xs,G,n,s,m,Q,hs,ok,F,I,q=>
  jp ok λ _ _ ok=>gZ (aD ok) (J0 (hs.1 _ _ _ _ _ _ _ _ _ _ _ (a7 ok) F I hA q))
 | .cons e (.cons bC lP),xs,G,n,s,m,Q,hs,ok,F,I,q=>by
  refine jp ok λ y bf ok=>?_
  have aZ:=λ{xs G n s m Q} (ok:kH (jD c nm aK) (.cons bC lP) ai.scope aj xs=true) (F:c9 c aj G env ai s.heap m) I q=>Jr (cg:=cg) (A:=A) (ab:=ab) hA (O:=.cons bC lP) (xs:=xs) (G:=G) (n:=n) (s:=s) (m:=m) (Q:=Q) hs.2 ok F I q
  revert aZ
  refine jp (aD ok) λ L bR s5 aZ=>?_
  refine JZ (fK (hs.1 _ _ _ _ _ _ _ _ _ _ _ (a7 ok) F I hA q) λ v cx bQ aa aJ q r ce bU=>fB q λ b e q=>?_)
  refine qE (GH (Q:=λ hv J=>hv=b∧if b=true then wz c.P V (.cons bC lP) env Q J else Q cx J) e r ⟨rfl,q⟩ ce) λ hv dz ao b' q c1 dt=>?_
  obtain⟨rfl,q⟩:=q
  cases hv
  ·exact⟨cx,dz,ao,q,dt.f5 ce r,c1,bU.trans dt⟩
  ·exact jd (bU.trans dt) (aZ (xs:=L::bR) s5 ((F.step I bU).step ce dt) c1 q)
theorem NT{aj:B (Y aL)}{env:aX}{ai:eg}{A:eB}{ab:aw→a2→Prop}{cg:hb}(hA:iD A z):∀{O:d6} {xs:B bn} {G:cA} {n:St} {s:a2} {m:aL→Y aw} {Q:dC},kT c nm aK z V O→
  kH (jD c nm aK) O ai.scope aj xs=true→c9 c aj G env ai s.heap m→Inv c nm G n s→xM c.P V O env Q n→bg (bc c.prog c.w) A (yV cg .Or (I0 xs ai)) (Back c nm G s Q) ab s
 | .nil,_,_,_,_,_,_,_,_,_,_,q=>q.elim
 | .cons e .nil,xs,G,n,s,m,Q,hs,ok,F,I,q=>
  jp ok λ _ _ ok=>gZ (aD ok) (J0 (hs.1 _ _ _ _ _ _ _ _ _ _ _ (a7 ok) F I hA q))
 | .cons e (.cons bC lP),xs,G,n,s,m,Q,hs,ok,F,I,q=>by
  refine jp ok λ y bf ok=>?_
  have aZ:=λ{xs G n s m Q} (ok:kH (jD c nm aK) (.cons bC lP) ai.scope aj xs=true) (F:c9 c aj G env ai s.heap m) I q=>NT (cg:=cg) (A:=A) (ab:=ab) hA (O:=.cons bC lP) (xs:=xs) (G:=G) (n:=n) (s:=s) (m:=m) (Q:=Q) hs.2 ok F I q
  revert aZ
  refine jp (aD ok) λ L bR s5 aZ=>?_
  refine JZ (fK (hs.1 _ _ _ _ _ _ _ _ _ _ _ (a7 ok) F I hA q) λ v cx bQ aa aJ q r ce bU=>fB q λ b e q=>?_)
  refine qE (GH (Q:=λ hv J=>hv=b∧if b=true then Q cx J else xM c.P V (.cons bC lP) env Q J) e r ⟨rfl,q⟩ ce) λ hv dz ao b' q c1 dt=>?_
  obtain⟨rfl,q⟩:=q
  cases hv
  ·exact jd (bU.trans dt) (aZ (xs:=L::bR) s5 ((F.step I bU).step ce dt) c1 q)
  ·exact⟨cx,dz,ao,q,dt.f5 ce r,c1,bU.trans dt⟩
theorem VK(hs:kT c nm aK z V O):cv c nm aK z V (.and O):=by
 intro x aj env ai G n s m A ab Q ok F I hA q
 refine BJ ok λ o y p ok=>jH (a7 ok) ?_
 rw[R0];exact Jr hA hs (aD ok) F I q
theorem V6(hs:kT c nm aK z V O):cv c nm aK z V (.or O):=by
 intro x aj env ai G n s m A ab Q ok F I hA q
 refine BJ ok λ o y p ok=>jH (a7 ok) ?_
 rw[R0];exact NT hA hs (aD ok) F I q
end
end Mine
end
section
open PySem PySem.W PyProof.Rows
namespace Mine
variable{K:Type}{k:C}{l:B am}{O:d6}{G:cA}{n:St}{s:a2}{Q:dC}{b':a2}{v:aw}{xs:B D}
section
variable{c:cV}{nm:B (B C)}{aK:C→a8}{z:C}{V:C→B D→dC→St→Prop}
noncomputable def wa(c:cV)(ai:eg)(A:eB)(ab:aw→a2→Prop)[jv K](knd:KeyKind c.prog c.w K)(ks:B K)(mm:B (Y bn)):Prop:=
 ∃fd:B bn,mm=fd.map some∧ks.length=fd.length∧∀(i:C) k m9,ks[i]? =some k→fd[i]? =some m9→yy c ai A ab knd k m9
section
variable{ai:eg}{A:eB}{ab:aw→a2→Prop}
theorem ML[jv K]{knd:KeyKind c.prog c.w K}:wa c ai A ab knd [] []:=⟨[],rfl,rfl,λ _ _ _ e=>(nomatch e)⟩
theorem MK[jv K]{knd:KeyKind c.prog c.w K}{k:K}{x:bn}{ks:B K}{r:B (Y bn)}(h:yy c ai A ab knd k x)(t:wa c ai A ab knd ks r):wa c ai A ab knd (k::ks) (some x::r):=
 t.elim λ fd t=>⟨x::fd,an _ t.1,an l1 t.2.1,λ i=>Ri i (λ _ _ au aB=>ej au▸ej aB▸h) t.2.2⟩
theorem aeT(ks:B (B C)):∀{mm:B (Y bn)},Gv ks mm=true→wa c ai A ab (strKind c.prog c.w) (ks.map st) mm:=by
 induction ks with
 |nil=>exact λ h=>gZ h ML
 |cons k ks aZ=>exact λ h=>jp h λ e r h=>qs (a7 h) λ x g=>tA g λ y z p g=>J9 g λ b g=>MK (λ s Q du=>gh g▸R5 (du _ _ (gh g▸I4 _ _ _ _))) (aZ (aD h))
theorem YV(ks:B am):∀{mm:B (Y bn)},EB ks mm=true→wa c ai A ab (gr c.prog c.w) (ks.map id) mm:=by
 induction ks with
 |nil=>exact λ h=>gZ h ML
 |cons k ks aZ=>exact λ h=>jp h λ e r h=>qs (a7 h) λ x g=>tA g λ y z p g=>Dg g λ b g=>MK (λ s Q du=>eq_of_beq g▸I6 (du _ _ (eq_of_beq g▸p3 _ _ _ _))) (aZ (aD h))
end
noncomputable def yu(c:cV)(nm:B (B C))(aK:C→a8)(z:C)(V:C→B D→dC→St→Prop)(aS:gb)(aj:B (Y aL))(env:aX)(xs:B bn)(Q:B D→St→Prop)(n:St):Prop:=
 ∃O,kT c nm aK z V O∧kH (jD c nm aK) O aS aj xs=true∧m4 c.P V O env Q n
theorem KV{aS:gb}{aj:B (Y aL)}{env:aX}{Q:B D→St→Prop}{n:St}:yu c nm aK z V aS aj env [] Q n→Q [] n
 | ⟨.nil,_,_,cI⟩=>cI
 | ⟨.cons _ _,_,aH,_⟩=>ju aH
theorem KU{aj:B (Y aL)}{env:aX}{ai:eg}{A:eB}{ab:aw→a2→Prop}(hA:iD A z){e:bn}{r:B bn}:CU c nm aj env ai A ab (yu c nm aK z V ai.scope aj env) e r:=
 λ G n s m Q F I h=>h.elim λ O h=>by
  cases O with
  |nil=>exact ju h.2.1
  |cons x xs=>exact fa (h.1.1 _ _ _ _ _ _ _ _ _ _ _ (a7 h.2.1) F I hA h.2.2) (λ _ _ b=>b.imp λ a b=>b.imp λ bv b=>b.imp λ J b=>⟨⟨xs,h.1.2,aD h.2.1,b.1⟩,b.2⟩) λ _ _ y=>y
theorem Nm{α:Type}{l:B α}(h:(!l.isEmpty)=true):l≠ []:=λ e=>by rw[e]at h;exact ju h
theorem VV{ks:B (B C)}(hs:kT c nm aK z V O):cv c nm aK z V (.m2 ks O):=by
 intro x aj env ai G n s m A ab Q ok F I hA q
 refine Hg ok λ mm f4 cg ok=>?_
 obtain⟨fd,rfl,D4,cI⟩:=aeT (c:=c) (ai:=ai) (A:=A) (ab:=ab) ks (a7 ok)
 have aH:ks.length=fd.length:=(cG st).symm.trans D4
 have o:=aD (aD ok)
 have cT:fd.length=f4.length:=aH.symm.trans (gh (a7 o))
 have bu:fd≠ []:=λ e=>Nm (a7 (aD o)) (HK (aH.trans (an f9 e)))
 have cX:fd.length≤15:=aH▸gh (a7 (aD (aD o)))
 have cm:ks.Nodup:=gh (aD (aD (aD o)))
 exact KE (knd:=strKind c.prog c.w) (f:=st) (AD:=.ds) (ea:=yu c nm aK z V ai.scope aj env) (λ _ _ _ _ cZ a b=>⟨rfl,cZ,a,b⟩) F I aH cT bu cX
  (tQ.mpr (agk (λ h e=>h (yc e)) cm)) cI (λ _ _ _=>KU hA) (λ _ _ h=>KV h) ⟨O,hs,a7 (aD ok),q⟩
theorem VU{ks:B am}(hs:kT c nm aK z V O):cv c nm aK z V (.o' ks O):=by
 intro x aj env ai G n s m A ab Q ok F I hA q
 refine Hg ok λ mm f4 cg ok=>?_
 obtain⟨fd,rfl,D4,cI⟩:=YV (c:=c) (ai:=ai) (A:=A) (ab:=ab) ks (a7 ok)
 have aH:ks.length=fd.length:=(cG id).symm.trans D4
 have o:=aD (aD ok)
 have cT:fd.length=f4.length:=aH.symm.trans (gh (a7 o))
 have bu:fd≠ []:=λ e=>Nm (a7 (aD o)) (HK (aH.trans (an f9 e)))
 have cX:fd.length≤15:=aH▸gh (a7 (aD (aD o)))
 have cm:ks.Nodup:=gh (aD (aD (aD o)))
 exact KE (knd:=gr c.prog c.w) (f:=id) (AD:=.cq) (ea:=yu c nm aK z V ai.scope aj env) (λ _ _ _ _ cZ a b=>⟨rfl,cZ,a,b⟩) F I aH cT bu cX
  (by rw[Q3];exact cm) cI (λ _ _ _=>KU hA) (λ _ _ h=>KV h) ⟨O,hs,a7 (aD ok),q⟩
theorem Fk{o:a0}(I:Inv c nm G n s)(bz:Q (.ref n.length) (n++[o]))(be:∀G h ag,h.get? ag=some lv→gB c nm G h (ag,ag) o):
  Back c nm G s Q (.ref s.heap.objs.size) {s with heap:=s.heap.push {cls:=.type "dict",data:=.dict #[]}}:=by
 have hr:cu (λ _=>False) s.heap (s.heap.push lv):=cu.push _ _
 have cl:s.heap.get? s.heap.objs.size=none:=nZ λ _ _ e=>e
 refine⟨.ref n.length,G++[(s.heap.objs.size,s.heap.objs.size)],n++[o],bz,?_,I.alloc (t:=s.toks) hr (I.ql λ _ _ e=>e) (I.ql λ _ _ e=>e) cl cl (be _ _ _ (nI _ rfl)),.alloc (t:=s.toks) hr cl cl⟩
 exact⟨(s.heap.objs.size,s.heap.objs.size),by rw[←I.len];simp,rfl⟩
theorem Vj{h:dD}{ag:a8}(e:h.get? ag=some lv):h.DictOfH (Aq c.prog c.w) ag []:=
 ⟨_,#[],0,e,⟨rfl,rfl,rfl⟩,rfl,rfl,λ _ h=>(nomatch h),Cc⟩
theorem VS{k:Hz}:cv c nm aK z V (.eP k):=by
 intro x aj env ai G n s m A ab Q ok F I hA q
 refine Hg ok λ a b cg ok=>gZ (a7 ok) (gZ (aD ok) (wpAny_Dict_empty ?_))
 cases k with
 |i=>exact Fk I q λ _ _ _ e=>⟨rfl,[],Dy e,rfl⟩
 |s=>exact Fk I q λ _ _ _ e=>⟨rfl,[],Dy e,rfl⟩
 |t=>exact Fk I q λ _ _ _ e=>⟨rfl,[],Vj e,rfl⟩
theorem VM(Z:hJ c nm aK z V){a:ab}{f:C}(bO:cv c nm aK z V a):cv c nm aK z V (.at a f):=by
 intro x aj env ai G n s m A ab Q ok F I hA q
 refine tz ok λ y gV cg ok=>?_
 have e:gV=gJ nm f:=gh (a7 ok)
 cases e
 exact S4 (zl (a7 (aD ok))) (fK (bO _ _ _ _ _ _ _ _ _ _ _ (aD (aD ok)) F I hA q) λ v cx bQ aa aJ q r ce bU=>fB q λ y e q=>jd bU (JH Z.ok e r q ce))
theorem subB{bQ:cA}{aJ:a2}{A:eB}{ab:aw→a2→Prop}{u:aw}(S:Step G s bQ aJ)(h:wj (bc c.prog c.w) A v u (Back c nm bQ aJ Q) ab b'):wj (bc c.prog c.w) A v u (Back c nm G s Q) ab b':=
 let⟨T,id,ax,aH,cI⟩:=h;⟨T,id,ax,aH,jd S cI⟩
theorem VZ{a i:ab}(bO:cv c nm aK z V a)(ay:cv c nm aK z V i):cv c nm aK z V (.aq a i):=by
 intro x aj env ai G n s m A ab Q ok F I hA q
 refine tB ok λ y L p ok=>?_
 exact Bn (two bO ay (a7 ok) (aD ok) F I hA q λ v u cx ed dz ao b' q r ef c1 S=>fB q λ y e q=>subB S (aeX e r ef q c1))
theorem afy(I:Inv c nm G n s)(h:n[k]? =some (.li xs))(x:bA c G s.heap (.ref k) v):s.TypeIs v "list":=by
 obtain⟨p,bM,rfl⟩:=x
 obtain⟨a3,_,items,d9,au,hl,a4,hs⟩:=rp I bM h
 exact hl.typeIs
theorem PJ{H:dD}{T:ws}(h:s.TypeIs v T)(k:∀b o,s.heap.get? b=some o→H.get? b=some o):({s with heap:=H}:a2).TypeIs v T:=by
 cases v with
 |ref a=>obtain⟨o,e,hc⟩:=h;exact⟨o,k _ _ e,hc⟩
 |_=>exact h
theorem Mc{G:cA}{h:dD}:∀{l:B am} {ar:B aw},tK l ar→cs c G h (l.map .ii) ar
 | [],_,x=>by simp only[tK]at x;subst x;exact cs.nil
 |i::r,_,x=>by
  simp only[tK]at x
  obtain⟨t,G5,rfl,x⟩:=x
  exact cs.cons ⟨t,rfl⟩ (Mc x)
theorem Us{a:a8}(az:BV c l a)(I:Inv c nm G n s):s.TypeIs (.ref a) "list":=by
 obtain⟨items,k,e,r⟩:=az
 exact⟨_,I.base _ _ e,rfl⟩
theorem Ur{A:eB}{ab:aw→a2→Prop}{a:a8}{ay:am}{afa:iX}(az:BV c l a)(ec:0≤ay)(a3:l.length≤1000)(bz:Q (.ref n.length) (n++[.li ((l.take ay.toNat).map .ii)]))(I:Inv c nm G n s){aI:dD}{dQ:a8}
  (hs:aI.IsSliceOf dQ .none (.int ay afa) .none)(k:∀b o,s.heap.get? b=some o→aI.get? b=some o){t:C}:bg (bc c.prog c.w) A (t6 (.ref a) (.ref dQ)) (Back c nm G s Q) ab {s with heap:=aI,toks:=t}:=by
 obtain⟨items,d9,e,r⟩:=az
 have bw:cs c G s.heap (l.map .ii) items.toList:=Mc r
 have i1:items.size=l.length:=by
  have:=bw.length
  simpa using this
 refine Sb (s:={s with heap:=aI,toks:=t}) (hl:=⟨_,k _ _ (I.base _ _ e),rfl,d9,rfl⟩) hs .none (.int _ _) .none (by simp) ?_ (by rw[ly];omega)
 have aB:sb items none (some ay) none=(sb items none (some ay) none).toList.toArray:=by simp
 rw[aB]
 refine AI (H:=aI) I (cu.of_keep k) (by have:=N0 ec bw;rwa [←Q5]at this) (by rw[x1];simp[HY];omega) bz (nZ k)
theorem Dw{dz:cA}{A:eB}{ab:aw→a2→Prop}{bf:B D}{rS vP ar:aw}{lo ay ea:Y am}(S:Step G s dz b')(e:n[k]? =some (.li xs))(r:bA c dz b'.heap (.ref k) v)(lN:wh rS lo)(FW:wh vP ay)(cp:wh ar ea)(ec:ea≠some 0)
  (bI:∀items:gR aw,cs c dz b'.heap xs items.toList→cs c dz b'.heap bf (sb items lo ay ea).toList)(a3:bf.length≤xs.length)(bz:Q (.ref n.length) (n++[.li bf]))(I:Inv c nm dz n b'):
  wj (bc c.prog c.w) A v (.ref b'.heap.objs.size) (Back c nm G s Q) ab {b' with heap:=b'.heap.push {cls:=.type "slice",data:=.fields #[rS,vP,ar]}}:=
 have k:∀b o,b'.heap.get? b=some o→(b'.heap.push {cls:=.type "slice",data:=.fields #[rS,vP,ar]}).get? b=some o:=λ _ _ e=>ls _ e
 subB S ⟨"list",_,Ix.lookup,PJ (afy I e r) k,aea (t:=b'.toks) e r lN FW cp ec bI a3 bz I (IA ..) k⟩
theorem Wb{a lo:ab}(bO:cv c nm aK z V a)(ay:cv c nm aK z V lo):cv c nm aK z V (.lh a lo):=by
 intro x aj env ai G n s m A ab Q ok F I hA q
 refine tB ok λ y L p ok=>Bn (fK (bO _ _ _ _ _ _ _ _ _ _ _ (a7 ok) F I hA q) λ v cx bQ aa aJ q r ce bU=>?_)
 refine Hh (aD ok) λ l h ui p ok=>rz (a7 ok) (rz (a7 (aD ok)) (qs (aD (aD ok)) λ ag7 ok=>?_))
 refine I7 (fK (show bg (bc c.prog c.w) A (evalPart (some _) ai) _ ab aJ from ay _ _ _ _ _ _ _ _ _ _ _ ok (F.step I bU) ce hA q) λ u ed dz ao b' q ef c1 dt=>eG (eG (fB q λ y e=>?_)))
 have r:=dt.f5 ce r
 revert r ef
 exact WI (ak:=λ cx ed y=>bA c dz b'.heap ed u→bA c dz b'.heap cx v→Q (.ref ao.length) (ao++[.li y])→_) e λ _ _ _ e ec ⟨_,ef⟩ r q=>ef▸Dw (bU.trans dt) e r (.int _ _) .none .none (by simp) (λ _ a4=>pick_from ec a4) (by simp) q c1
theorem Wc{a ay:ab}(bO:cv c nm aK z V a)(gL:cv c nm aK z V ay):cv c nm aK z V (.mE a ay):=by
 intro x aj env ai G n s m A ab Q ok F I hA q
 refine tB ok λ y L p ok=>Bn (fK (bO _ _ _ _ _ _ _ _ _ _ _ (a7 ok) F I hA q) λ v cx bQ aa aJ q r ce bU=>?_)
 refine Hh (aD ok) λ l h ui p ok=>rz (a7 ok) (rz (a7 (aD ok)) (qs (aD (aD ok)) λ h9 ok=>?_))
 refine I7 (eG (fK (show bg (bc c.prog c.w) A (evalPart (some _) ai) _ ab aJ from gL _ _ _ _ _ _ _ _ _ _ _ ok (F.step I bU) ce hA q) λ u ed dz ao b' q ef c1 dt=>eG (fB q λ y e=>?_)))
 have k:∀nn t b o,b'.heap.get? b=some o→(b'.heap.push {cls:=.type "slice",data:=.fields #[.none,.int nn t,.none]}).get? b=some o:=λ _ _ _ _ e=>ls _ e
 have r:=dt.f5 ce r
 revert r ef
 refine afI (ak:=λ cx ed y=>bA c dz b'.heap ed u→bA c dz b'.heap cx v→Q (sZ ao y).1 (sZ ao y).2→_) e ?_ ?_ ?_
 ·exact λ _ _ _ e ec ⟨_,ef⟩ r q=>ef▸Dw (bU.trans dt) e r .none (.int _ _) .none (by simp) (λ _ a4=>N0 ec a4) (by simp[HY];omega) q c1
 ·exact λ _ _ ec ax ⟨_,ef⟩ ⟨_,r⟩ q=>ef▸r▸subB (bU.trans dt) ⟨"str",_,RM.lookup,typeIs_str _ _ _,aeV (cB:=b'.toks) ec ax q c1 (IA ..) (k _ _)⟩
 ·exact λ _ _ ec ax ⟨_,ef⟩ ⟨_,r,az⟩ q=>ef▸r▸subB (bU.trans dt) ⟨"list",_,Ix.lookup,PJ (Us az c1) (k _ _),Ur (t:=b'.toks) az ec ax q c1 (IA ..) (k _ _)⟩
theorem V9{a:ab}(bO:cv c nm aK z V a):cv c nm aK z V (.rev a):=by
 intro x aj env ai G n s m A ab Q ok F I hA q
 refine tB ok λ y L p ok=>Bn (fK (bO _ _ _ _ _ _ _ _ _ _ _ (a7 ok) F I hA q) λ v cx bQ aa aJ q r ce bU=>?_)
 refine Hh (aD ok) λ l h ui p ok=>rz (a7 ok) (rz (a7 (aD ok)) (qs (aD (aD ok)) λ u ok=>Hj ok λ o w f2 ok=>?_))
 have s5:=aD ok
 revert s5
 refine jH (a7 ok) λ s5=>tA s5 λ w z p ok=>Dg ok λ i ok=>jH ok ?_
 refine I7 (eG (eG ?_))
 show bg (bc c.prog c.w) A (eval _ ai) _ ab aJ
 refine R6 (I6 ?_)
 refine fK (Np (i:=1) (Q:=λ b J=>b= .ii (-1)∧J=aa) (s:={aJ with toks:=aJ.toks+1}) (n:=aa) (G:=bQ) ⟨_,rfl⟩ ⟨rfl,rfl⟩ (ce.tok _)) λ u ed dz ao b' cO ef c1 dt=>?_
 obtain⟨rfl,rfl⟩:=cO
 obtain⟨t,rfl⟩:=ef
 have Jg:Step bQ aJ dz b':=⟨dt.ext,dt.ch⟩
 have r:=Jg.f5 ce r
 refine fB q λ y e=>?_
 revert r
 exact ZW (ak:=λ cx y=>bA c dz b'.heap cx v→Q (.ref ao.length) (ao++[.li y.reverse])→_) e λ _ _ e r q=>Dw (bU.trans Jg) e r .none .none (.int _ _) (by simp) (λ _ a4=>acD a4) (by simp) q c1
end
end Mine
end
section
open PySem PySem.W PyProof.Rows
namespace Mine
variable{bE:fb}{A:eB}{env:eg}{cg:hb}{b6:B bn}{Q:aw→a2→Prop}{s:a2}{first:B aw}{O:d6}{k:C}{ai:eg}{L u:bn}
section
variable{c:cV}{nm:B (B C)}{aK:C→a8}{z:C}{V:C→B D→dC→St→Prop}
theorem afi{a:ab}(bO:cv c nm aK z V a):nO c nm aK z V (.e a):=by
 intro x aj env ai G n s m A ab Q ok F I hA q
 exact ae' (a7 ok) (fK (bO _ _ _ _ _ _ _ _ _ _ _ (aD ok) F I hA q) λ v cx bQ aa aJ q r ce bU=>fB q λ b e q=>BF bU (GH e r q ce))
theorem afj{t:T}(bD:nO c nm aK z V t):nO c nm aK z V (.g4 t):=by
 intro x aj env ai G n s m A ab Q ok F I hA q
 refine Hj ok λ o y p ok=>jH (a7 ok) ?_
 exact wpAny_isTrue_Not (qE (bD _ _ _ _ _ _ _ _ _ _ _ (aD ok) F I hA q) λ v bQ aa aJ q ce bU=>⟨bQ,aa,q,ce,bU⟩)
theorem afh(Z:hJ c nm aK z V){op:je}{a b:ab}(bO:cv c nm aK z V a)(az:cv c nm aK z V b):nO c nm aK z V (.cmp op a b):=by
 intro x aj env ai G n s m A ab Q ok F I hA q
 refine P0 ok λ l os d3 p ok=>jo ok λ r ok=>jo ok λ o ok=>?_
 have bu:=aD ok
 revert bu
 refine jH (a7 ok) λ bu=>?_
 refine ae8 (by simpa using a7 bu) (two bO az (a7 (aD bu)) (aD (aD bu)) F I hA q λ v u cx ed dz ao b' q r ef c1 S=>fB q λ y e q=>?_)
 refine fK (Ko (Q:=λ hv J=>hv= .cj y∧Q y J) Z.ok hA.u e r ef ⟨rfl,q⟩ c1) λ w ek oF bW js q ov h0 il=>?_
 obtain⟨rfl,q⟩:=q
 cases ov
 exact Sh ⟨oF,bW,q,h0,S.trans il⟩
theorem Pj{aj:B (Y aL)}{env:aX}{ai:eg}{A:eB}{ab:aw→a2→Prop}(hA:iD A z):∀{bE:fb} {xs:B bn} {G:cA} {n:St} {s:a2} {m:aL→Y aw} {Q:av→St→Prop},p4 c nm aK z V bE→
  s8 (jD c nm aK) bE ai.scope aj xs=true→c9 c aj G env ai s.heap m→Inv c nm G n s→rM c.P V bE env Q n→bg (bc c.prog c.w) A (allTrue .And xs ai) (kS c nm G s Q) ab s
 | .nil,_,G,n,_,_,_,_,ok,_,I,q=>gZ ok (wpAny_allTrue_And_nil ⟨G,n,q,I,.refl _ _⟩)
 | .cons _ _,_,_,_,_,_,_,hs,ok,F,I,q=>jp ok λ _ _ ok=>
   wpAny_allTrue_And_cons (qE (hs.1 _ _ _ _ _ _ _ _ _ _ _ (a7 ok) F I hA q) λ v bQ aa aJ q ce bU=>match v,q with
   |false,q=>⟨bQ,aa,q,ce,bU⟩
   |true,q=>BF bU (Pj hA hs.2 (aD ok) (F.step I bU) ce q))
theorem Pw{aj:B (Y aL)}{env:aX}{ai:eg}{A:eB}{ab:aw→a2→Prop}(hA:iD A z):∀{bE:fb} {xs:B bn} {G:cA} {n:St} {s:a2} {m:aL→Y aw} {Q:av→St→Prop},p4 c nm aK z V bE→
  s8 (jD c nm aK) bE ai.scope aj xs=true→c9 c aj G env ai s.heap m→Inv c nm G n s→Bu c.P V bE env Q n→bg (bc c.prog c.w) A (allTrue .Or xs ai) (kS c nm G s Q) ab s
 | .nil,_,G,n,_,_,_,_,ok,_,I,q=>gZ ok (wpAny_allTrue_Or_nil ⟨G,n,q,I,.refl _ _⟩)
 | .cons _ _,_,_,_,_,_,_,hs,ok,F,I,q=>jp ok λ _ _ ok=>
   wpAny_allTrue_Or_cons (qE (hs.1 _ _ _ _ _ _ _ _ _ _ _ (a7 ok) F I hA q) λ v bQ aa aJ q ce bU=>match v,q with
   |true,q=>⟨bQ,aa,q,ce,bU⟩
   |false,q=>BF bU (Pw hA hs.2 (aD ok) (F.step I bU) ce q))
theorem afg(hs:p4 c nm aK z V bE):nO c nm aK z V (.and bE):=by
 intro x aj env ai G n s m A ab Q ok F I hA q
 refine BJ ok λ o y p ok=>jH (a7 ok) ?_
 exact Sc (Pj hA hs (aD ok) F I q)
theorem afk(hs:p4 c nm aK z V bE):nO c nm aK z V (.or bE):=by
 intro x aj env ai G n s m A ab Q ok F I hA q
 refine BJ ok λ o y p ok=>jH (a7 ok) ?_
 exact Sc (Pw hA hs (aD ok) F I q)
theorem GB{aj:B (Y aL)}{env:aX}{ai:eg}{A:eB}{ab:aw→a2→Prop}(hA:iD A z):∀{bE:fb} {xs:B bn} {G:cA} {n:St} {s:a2} {m:aL→Y aw} {Q:av→St→Prop},p4 c nm aK z V bE→
  s8 (jD c nm aK) bE ai.scope aj xs=true→c9 c aj G env ai s.heap m→Inv c nm G n s→rM c.P V bE env Q n→
  bg (bc c.prog c.w) A (forIn xs true λ c r=>if r=true then do let ok←isTrue c ai (eval c ai);pure (kU ok)else pure (kU r)) (kS c nm G s Q) ab s
 | .nil,_,G,n,_,_,_,_,ok,_,I,q=>gZ ok (wpAny_tests_nil ⟨G,n,q,I,.refl _ _⟩)
 | .cons t lP,xs,G,n,s,m,Q,hs,ok,F,I,q=>by
  refine jp ok λ y bf ok=>?_
  rw[HQ]
  refine cK (cK (qE (hs.1 _ _ _ _ _ _ _ _ _ _ _ (a7 ok) F I hA q) λ v bQ aa aJ q ce bU=>eG ?_))
  cases v
  ·have skip:∀bR:B bn,(forIn bR false λ c r=>if r=true then do let ok←isTrue c ai (eval c ai);pure (kU ok)else pure (kU r):ij av)=pure false:=by
    intro bR
    induction bR with
    |nil=>rfl
    |cons L bR aZ=>rw[HQ];exact aZ
   show bg _ _ (forIn bf false _) _ _ _
   rw[skip]
   exact eG ⟨bQ,aa,q,ce,bU⟩
  ·exact BF bU (GB hA hs.2 (aD ok) (F.step I bU) ce q)
theorem VR{b7 bb:ab}{xs:B C}{many:av}{eo:fb}(XD:cv c nm aK z V b7)(m7:cv c nm aK z V bb)(qg:p4 c nm aK z V eo):cv c nm aK z V (.comp b7 xs many bb eo):=by
 intro x aj env ai G n s m A ab Q ok F I hA q
 refine P4 ok λ e en bG cg ok=>jo ok λ g ok=>?_
 obtain⟨Bq,hw,YL,uS⟩:=g
 have mc:uS=0:=jj.mp (a7 ok)
 cases mc
 have cT:=aD ok
 have bu:=aD (aD (aD cT))
 have cX:=aD (aD (aD bu))
 exact U9 (ox:=λ aF K n=>rM c.P V eo aF K n) (kw:=λ aF K n=>di c.P V b7 aF K n) hA.1 F I (Kq (a7 cT)) (a7 (aD cT)) (a7 (aD (aD cT))) (a7 bu) (Gl (a7 (aD bu))) (m7 _ _ _ _ _ _ _ _ _ _ _ (a7 (aD (aD bu))) F I hA q) (λ fL aa h=>q4 h)
  (λ g5 aF G n s m K g7 F I h=>GB (ai:=compEnvC bG (gf ai.cells bG.names []) g5 ai) hA qg (a7 cX) F I h) (λ g5 aF G n s m K g7 F I h=>XD _ _ _ _ _ _ _ _ _ _ _ (aD cX) F I hA h) (λ x K n h=>q4 h)
theorem Dj{ab:aw→a2→Prop}{f:aw}(X:c.K.In c.h₀)(hk:yU c.K f=true)(hs:b6.all f1=true)
  (h:bg (bc c.prog c.w) A (sc (kW cg (j0 b6 env))) (λ ar aJ=>c.K.In aJ.heap∧bg (bc c.prog c.w) A (call f (first++ar)) Q ab aJ) ab s):bg (bc c.prog c.w) A (yW cg f first (kW cg (j0 b6 env)) []) Q ab s:=
 callWith_of (by rw[Bm hs];rfl) (keeps_K hk) (DE hs h)
theorem VP(Z:hJ c nm aK z V){f:C}(hs:kT c nm aK z V O):cv c nm aK z V (.call f O):=by
 intro x aj env ai G n s m A ab Q ok F I hA q
 refine nu ok λ g xs fZ cg ok=>gZ (a7 ok) ?_
 have o:=aD (aD ok)
 refine mK (a7 (aD ok)) λ y p cT=>?_
 refine sd (D0 Z.ok Z.gl F I (Lb (a7 (aD cT))) (jJ (a7 cT)).1 (jJ (a7 cT)).2 ?_)
 exact Dj Z.ok.K (aD (aD cT)) (aD o) (vH (ur hA hs (a7 o) (aD o) F I q) λ ar as bQ aa aJ q r ce bU=>⟨ce.K Z.ok.K,I8 (Z.call A f as ar bQ aa aJ Q _ hA.a ce r q λ v a9 b=>b.after bU)⟩)
theorem V4(Z:hJ c nm aK z V)(hs:kT c nm aK z V O):cv c nm aK z V (.new k O):=by
 intro x aj env ai G n s m A ab Q ok F I hA q
 refine nu ok λ g xs fZ cg ok=>gZ (a7 ok) ?_
 have o:=aD (aD ok)
 refine mK (a7 (aD ok)) λ y p cT=>fB q λ f cl q=>?_
 have i:=Z.more.i4 k f cl
 have ay:(c.P.i4 k).isSome=true:=by rw[cl];rfl
 refine sd (D0 Z.ok Z.gl F I (Lb (a7 (aD cT))) (jJ (a7 cT)).1 (jJ (a7 cT)).2 ?_)
 refine Dj Z.ok.K (aD (aD cT)) (aD o) (vH (ur hA hs (a7 o) (aD o) F I q) λ ar as bQ aa aJ q r ce bU=>⟨ce.K Z.ok.K,?_⟩)
 refine aay (aK:=aK f) Z.ok ce ay i.1 i.2 λ nx g7 he ip k1=>?_
 obtain⟨c1,dt⟩:=abN (V:=k) ce ay
 have W9:BR nx z:=⟨he.trans hA.1,by have:=hA.2.1;omega,by have:=hA.2.2;omega⟩
 have Bd:bA c (bQ++[(aJ.heap.objs.size+1,aJ.heap.objs.size)]) ((aJ.heap.push lv).push (nJ (c.ca k) aJ.heap.objs.size)) (.ref aa.length) (.ref (aJ.heap.objs.size+1)):=
  ⟨(aJ.heap.objs.size+1,aJ.heap.objs.size),by rw[←ce.len];simp,rfl⟩
 exact Z.call nx f (.ref aa.length::as) (.ref (aJ.heap.objs.size+1)::ar) _ _ _ _ _ W9 c1 (cs.cons Bd (dt.vO ce r)) q λ v a9 ⟨_,bv,J,⟨e,q⟩,hF,ey,fA⟩=>
  ⟨by subst e;exact hF,⟨_,bv,J,q,Bd.keep fA.ext.1 (c1.m' fA.ch),ey,(bU.trans dt).trans fA⟩⟩
theorem V2(Z:hJ c nm aK z V){o:ab}(be:cv c nm aK z V o)(hs:kT c nm aK z V O):cv c nm aK z V (.hi o k O):=by
 intro x aj env ai G n s m A ab Q ok F I hA q
 refine nu ok λ g xs fZ cg ok=>gZ (a7 ok) ?_
 have bu:=aD (aD (aD ok))
 refine tz (a7 bu) λ y gV ez cT=>?_
 have e:gV=gJ nm k:=gh (a7 cT)
 cases e
 refine method_call (zl (a7 (aD cT))) (aD (aD bu)) (gh (a7 (aD (aD ok)))) (a7 (aD (aD cT))) (fK (be _ _ _ _ _ _ _ _ _ _ _ (aD (aD (aD cT))) F I hA q) λ v cx bQ aa aJ q r ce bU lN=>fB q λ f cl=>?_)
 revert r
 refine aaL (ak:=λ cx=>bA c bQ aJ.heap cx v→m4 c.P V O env (λ ar ao=>V f (cx::ar) Q ao) aa→_) cl λ nn ui aG e Eh cl r q=>?_
 have i:=Z.more.ps ui k f cl
 exact WY Z.ok ce e Eh (gh (a7 (aD ok))) r i.1 i.2.1 (Dj Z.ok.K i.2.2 (aD (aD bu)) (vH (ur hA hs (a7 (aD bu)) (aD (aD bu)) (F.step I bU) ce q) λ ar as dz ao b' q d3 c1 dt=>⟨c1.K Z.ok.K,
  I8 (Z.call A f _ (v::ar) dz ao b' Q _ hA.a c1 (cs.cons (dt.f5 ce r) d3) q λ v a9 b=>b.after (bU.trans dt))⟩))
theorem s9{ab:aw→a2→Prop}{Q:B aw→a2→Prop}(a3:f1 L=true)(h:bg (bc c.prog c.w) A (eval L ai) (λ v aJ=>Q [v] aJ) ab s):
  bg (bc c.prog c.w) A (sc (kW cg (j0 [L] ai))) Q ab s:=
 Ja (fa h (λ _ _ q=>Sd q) λ _ _ y=>y) (vF a3)
theorem PD{ab:aw→a2→Prop}{Q:B aw→a2→Prop}(a3:f1 L=true)(dS:f1 u=true)
  (h:bg (bc c.prog c.w) A (eval L ai) (λ v aJ=>bg (bc c.prog c.w) A (eval u ai) (λ w b'=>Q [v,w] b') ab aJ) ab s):bg (bc c.prog c.w) A (sc (kW cg (j0 [L,u] ai))) Q ab s:=
 Ja (fa h (λ _ _ q=>s9 dS q) λ _ _ y=>y) (vF a3)
theorem zq{ab:aw→a2→Prop}{id:ws}(hs:b6.all f1=true)
  (h:bg (bc c.prog c.w) A (sc (kW cg (j0 b6 env))) (λ ar aJ=>bg (bc c.prog c.w) A (call (.builtin id) (first++ar)) Q ab aJ) ab s):bg (bc c.prog c.w) A (yW cg (.builtin id) first (kW cg (j0 b6 env)) []) Q ab s:=
 Calls.callWith_builtin (Bm hs) (DE hs h)
theorem zr{ab:aw→a2→Prop}{T:ws}(hs:b6.all f1=true)
  (h:bg (bc c.prog c.w) A (sc (kW cg (j0 b6 env))) (λ ar aJ=>bg (bc c.prog c.w) A (call (.type T) (first++ar)) Q ab aJ) ab s):bg (bc c.prog c.w) A (yW cg (.type T) first (kW cg (j0 b6 env)) []) Q ab s:=
 PySem.callWith_type (Bm hs) (DE hs h)
theorem all1(h:f1 L=true): [L].all f1=true:=by simp[h]
theorem all2(h:f1 L=true)(H:f1 u=true): [L,u].all f1=true:=by simp[h,H]
theorem V0(Z:hJ c nm aK z V){a:ab}(bO:cv c nm aK z V a):cv c nm aK z V (.len a):=by
 intro x aj env ai G n s m A ab Q ok F I hA q
 refine nu ok λ g xs fZ cg ok=>gZ (a7 (aD ok)) (jo (aD (aD ok)) λ L o=>ud (a7 ok) λ p g1 g2=>?_)
 refine sd (uf Z.ok Z.gl F I (uz g2) Ut (by decide) (jJ g1).1 (jJ g1).2 ?_)
 refine zq (all1 (aD o)) (s9 (aD o) (fK (bO _ _ _ _ _ _ _ _ _ _ _ (a7 o) F I hA q) λ v cx bQ aa aJ q r ce bU=>fB q λ y e=>?_))
 exact λ q=>jd bU (ZQ e r q ce)
theorem Wh(Z:hJ c nm aK z V){a:ab}(bO:cv c nm aK z V a):cv c nm aK z V (.ja a):=by
 intro x aj env ai G n s m A ab Q ok F I hA q
 refine nu ok λ g xs fZ cg ok=>gZ (a7 (aD ok)) (jo (aD (aD ok)) λ L o=>ud (a7 ok) λ p g1 g2=>?_)
 refine sd (uf Z.ok Z.gl F I (uz g2) Uw (by decide) (jJ g1).1 (jJ g1).2 ?_)
 refine zr (all1 (aD o)) (s9 (aD o) (fK (bO _ _ _ _ _ _ _ _ _ _ _ (a7 o) F I hA q) λ v cx bQ aa aJ q r ce bU=>fB q λ y e=>?_))
 revert r
 exact afm (ak:=λ cx y=>bA c bQ aJ.heap cx v→Q y aa→_) e (λ _ _ e r q=>jd bU (afn e r q ce)) λ _ r q=>jd bU (afo r q ce)
theorem Wd(Z:hJ c nm aK z V){a:ab}(bO:cv c nm aK z V a):cv c nm aK z V (.sorted a):=by
 intro x aj env ai G n s m A ab Q ok F I hA q
 refine nu ok λ g xs fZ cg ok=>gZ (a7 (aD ok)) (jo (aD (aD ok)) λ L o=>ud (a7 ok) λ p g1 g2=>?_)
 refine sd (uf Z.ok Z.gl F I (uz g2) Uu (by decide) (jJ g1).1 (jJ g1).2 ?_)
 refine zq (all1 (aD o)) (s9 (aD o) (fK (bO _ _ _ _ _ _ _ _ _ _ _ (a7 o) F I hA q) λ v cx bQ aa aJ q r ce bU=>fB q λ y e=>?_))
 revert r
 exact aeb (ak:=λ cx y=>bA c bQ aJ.heap cx v→Q (.ref aa.length) (aa++[.li y])→_) e λ _ _ _ e d' cO bC j7 r q=>jd bU (aei e d' cO bC (by rw[x1];omega) r q ce)
theorem Wf(Z:hJ c nm aK z V){a:ab}(bO:cv c nm aK z V a):cv c nm aK z V (.strOf a):=by
 intro x aj env ai G n s m A ab Q ok F I hA q
 refine nu ok λ g xs fZ cg ok=>gZ (a7 (aD ok)) (jo (aD (aD ok)) λ L o=>ud (a7 ok) λ p g1 g2=>?_)
 refine sd (uf Z.ok Z.gl F I (uz g2) Uv (by decide) (jJ g1).1 (jJ g1).2 ?_)
 refine zr (all1 (aD o)) (s9 (aD o) (fK (bO _ _ _ _ _ _ _ _ _ _ _ (a7 o) F I hA q) λ v cx bQ aa aJ q r ce bU=>fB q λ y e=>?_))
 revert r
 exact aeS (ak:=λ cx y=>bA c bQ aJ.heap cx v→Q y aa→_) e λ _ _ e r q=>jd bU (aeU e r q ce)
theorem V'(Z:hJ c nm aK z V){a:ab}(bO:cv c nm aK z V a):cv c nm aK z V (.gP a):=by
 intro x aj env ai G n s m A ab Q ok F I hA q
 refine nu ok λ g xs fZ cg ok=>gZ (a7 (aD ok)) (jo (aD (aD ok)) λ L o=>ud (a7 ok) λ p g1 g2=>?_)
 refine sd (uf Z.ok Z.gl F I (uz g2) JX (by decide) (jJ g1).1 (jJ g1).2 ?_)
 refine zr (all1 (aD o)) (s9 (aD o) (fK (bO _ _ _ _ _ _ _ _ _ _ _ (a7 o) F I hA q) λ v cx bQ aa aJ q r ce bU=>fB q λ y e=>?_))
 revert r
 exact adk (ak:=λ cx y=>bA c bQ aJ.heap cx v→Q y aa→_) e λ _ r q=>jd bU (adm r q ce)
theorem Wa(Z:hJ c nm aK z V){a b:ab}(bO:cv c nm aK z V a)(az:cv c nm aK z V b):cv c nm aK z V (.pE a b):=by
 intro x aj env ai G n s m A ab Q ok F I hA q
 refine nu ok λ g xs fZ cg ok=>gZ (a7 (aD ok)) (jp (aD (aD ok)) λ L r o=>jo o λ u o=>ud (a7 ok) λ p g1 g2=>?_)
 refine sd (uf Z.ok Z.gl F I (uz g2) JX (by decide) (jJ g1).1 (jJ g1).2 ?_)
 refine zr (all2 (aD (a7 o)) (aD (aD o))) (PD (aD (a7 o)) (aD (aD o)) (two bO az (a7 (a7 o)) (a7 (aD o)) F I hA q λ v u cx ed dz ao b' q r ef c1 S=>fB q λ y e=>?_))
 revert r ef
 exact adn (ak:=λ cx ed y=>bA c dz b'.heap cx v→bA c dz b'.heap ed u→Q y ao→_) e λ _ _ r ef q=>jd S (ado r ef q c1)
theorem VL{o a:ab}(be:cv c nm aK z V o)(bO:cv c nm aK z V a):cv c nm aK z V (.append o a):=by
 intro x aj env ai G n s m A ab Q ok F I hA q
 refine nu ok λ g xs fZ cg ok=>gZ (a7 ok) (jo (aD (aD ok)) λ L lc=>tz (a7 (aD ok)) λ y gV ez cT=>?_)
 have e:gV="append":=gh (a7 cT)
 cases e
 refine method_call (zl (a7 (aD cT))) (all1 (aD lc)) (show 1<30 by decide) (a7 (aD (aD cT))) (fK (be _ _ _ _ _ _ _ _ _ _ _ (aD (aD (aD cT))) F I hA q) λ v cx bQ aa aJ q r ce bU lN=>?_)
 have cO:=q.2
 revert r cO
 refine Y2 (ak:=λ cx=>bA c bQ aJ.heap cx v→di c.P V a env (λ yn ao=>et (l7 ao cx yn) λ bW=>Q .nn bW) aa→_) q.1 λ k xs e r q=>?_
 refine WU ce e r (zq (all1 (aD lc)) (s9 (aD lc) (fK (bO _ _ _ _ _ _ _ _ _ _ _ (a7 lc) (F.step I bU) ce hA q) λ u ed dz ao b' q ef c1 dt=>fB q λ y e=>?_)))
 exact SX (ak:=λ y=>Q .nn y→_) e λ _ e h q=>jd (bU.trans dt) (SY e h (dt.f5 ce r) ef q c1)
theorem VT(Z:hJ c nm aK z V){o a d:ab}(be:cv c nm aK z V o)(bO:cv c nm aK z V a)(a1:cv c nm aK z V d):cv c nm aK z V (.m1 o a d):=by
 intro x aj env ai G n s m A ab Q ok F I hA q
 refine nu ok λ g xs fZ cg ok=>gZ (a7 ok) (jp (aD (aD ok)) λ L r lc=>jo lc λ u lc=>tz (a7 (aD ok)) λ y gV ez cT=>?_)
 have e:gV="get":=gh (a7 cT)
 cases e
 refine method_call (zl (a7 (aD cT))) (all2 (aD (a7 lc)) (aD (aD lc))) (show 2<30 by decide) (a7 (aD (aD cT))) (fK (be _ _ _ _ _ _ _ _ _ _ _ (aD (aD (aD cT))) F I hA q) λ v cx bQ aa aJ q r ce bU lN=>?_)
 exact WW ce q.1 r (zq (all2 (aD (a7 lc)) (aD (aD lc))) (PD (aD (a7 lc)) (aD (aD lc)) (two bO a1 (a7 (a7 lc)) (a7 (aD lc)) (F.step I bU) ce hA q.2 λ u w ed ek dz ao b' q ef ov c1 S=>fB q λ y e q=>
  jd (bU.trans S) (WT Z.ok hA.u e (S.f5 ce r) ef ov q c1))))
mutual
theorem dY(Z:hJ c nm aK z V):∀e:ab,cv c nm aK z V e
 | .nn=>V5
 | .cj _=>VO
 | .ii _=>VX
 | .ss _=>We
 | .v _=>Wi
 | .gl _ _=>VW Z
 | .bin _ a b=>VN (dY Z a) (dY Z b)
 | .qz a b=>V8 (dY Z a) (dY Z b)
 | .pD a b=>V7 (dY Z a) (dY Z b)
 | .neg a=>V3 (dY Z a)
 | .and O=>VK (oX Z O)
 | .or O=>V6 (oX Z O)
 | .cmp _ a b=>VQ Z (dY Z a) (dY Z b)
 | .ite t a b=>VY (ww Z t) (dY Z a) (dY Z b)
 | .tup O=>Wg (oX Z O)
 | .lst O=>V1 (oX Z O)
 | .m2 _ O=>VV (oX Z O)
 | .o' _ O=>VU (oX Z O)
 | .eP _=>VS
 | .at a _=>VM Z (dY Z a)
 | .aq a i=>VZ (dY Z a) (dY Z i)
 | .lh a i=>Wb (dY Z a) (dY Z i)
 | .mE a i=>Wc (dY Z a) (dY Z i)
 | .rev a=>V9 (dY Z a)
 | .comp a _ _ i bE=>VR (dY Z a) (dY Z i) (wx Z bE)
 | .call _ O=>VP Z (oX Z O)
 | .new _ O=>V4 Z (oX Z O)
 | .hi o _ O=>V2 Z (dY Z o) (oX Z O)
 | .len a=>V0 Z (dY Z a)
 | .ja a=>Wh Z (dY Z a)
 | .sorted a=>Wd Z (dY Z a)
 | .strOf a=>Wf Z (dY Z a)
 | .gP a=>V' Z (dY Z a)
 | .pE a b=>Wa Z (dY Z a) (dY Z b)
 | .append o a=>VL (dY Z o) (dY Z a)
 | .m1 o a d=>VT Z (dY Z o) (dY Z a) (dY Z d)
 | .bad=>λ _ _ _ _ _ _ _ _ _ _ _ _ _ _ _ q=>q.elim
theorem oX(Z:hJ c nm aK z V):∀O:d6,kT c nm aK z V O
 | .nil=>trivial
 | .cons e r=>⟨dY Z e,oX Z r⟩
theorem ww(Z:hJ c nm aK z V):∀t:T,nO c nm aK z V t
 | .e a=>afi (dY Z a)
 | .g4 t=>afj (ww Z t)
 | .and bE=>afg (wx Z bE)
 | .or bE=>afk (wx Z bE)
 | .cmp _ a b=>afh Z (dY Z a) (dY Z b)
theorem wx(Z:hJ c nm aK z V):∀bE:fb,p4 c nm aK z V bE
 | .nil=>trivial
 | .cons t r=>⟨ww Z t,wx Z r⟩
end
end
end Mine
end
section
open PySem PySem.W PyProof.Rows
namespace Mine
variable{aj:B (Y aL)}{env:aX}{ai:eg}{G bQ:cA}{s aJ:a2}{m:aL→Y aw}{A:eB}{cb:iU}{cF:dC}{n:St}{i:C}{a:D}{v:aw}{f:C}{op:iR}
section
variable{c:cV}{nm:B (B C)}{aK:C→a8}{z:C}{V:C→B D→dC→St→Prop}
noncomputable def k0(c:cV)(nm:B (B C))(aK:C→a8)(z:C)(V:C→B D→dC→St→Prop)(t:S):Prop:=
 ∀(x:ft) (aj:B (Y aL)) (env:aX) (ai:eg) (G:cA) (n:St) (s:a2) (m:aL→Y aw) (A:eB) (ab:aw→a2→Prop) (cb:iU) (cF:dC),
  NQ (jD c nm aK) t ai.scope aj x=true→c9 c aj G env ai s.heap m→Inv c nm G n s→iD A z→Gy c.P V t env cb cF n→bg (bc c.prog c.w) A (exec x ai) (mW c nm aj ai G s cb cF) ab s
noncomputable def qY(c:cV)(nm:B (B C))(aK:C→a8)(z:C)(V:C→B D→dC→St→Prop)(t:bk):Prop:=
 ∀(x:B ft) (aj:B (Y aL)) (env:aX) (ai:eg) (G:cA) (n:St) (s:a2) (m:aL→Y aw) (A:eB) (ab:aw→a2→Prop) (cb:iU) (cF:dC),
  pw (jD c nm aK) t ai.scope aj x=true→c9 c aj G env ai s.heap m→Inv c nm G n s→iD A z→nr c.P V t env cb cF n→bg (bc c.prog c.w) A (execs x ai) (mW c nm aj ai G s cb cF) ab s
theorem c9.xs(F:c9 c aj G env ai s.heap m)(S:Step G s bQ aJ):fi (e2 ai) G s bQ aJ:=
 .FF S λ b o=>⟨F.foot b o,let⟨x,e,_⟩:=e2.old F o;⟨x,e⟩⟩
theorem wpS{b':a2}{ab:aw→a2→Prop}{t:ij Flow}(S:fi (e2 ai) G s bQ aJ)(h:bg (bc c.prog c.w) A t (mW c nm aj ai bQ aJ cb cF) ab b'):
  bg (bc c.prog c.w) A t (mW c nm aj ai G s cb cF) ab b':=fa h (λ _ _ b=>b.after S) λ _ _ y=>y
theorem Bs{ab:aw→a2→Prop}{W:St→Prop}{t:ij p5}{X:p5→a2→Prop}(h:bg (bc c.prog c.w) A t (vX c nm G s W) ab s)
  (k:∀bQ aa aJ,W aa→Inv c nm bQ aa aJ→Step G s bQ aJ→X () aJ):bg (bc c.prog c.w) A t X ab s:=
 fa h (λ _ aJ ⟨bQ,aa,q,I,S⟩=>k bQ aa aJ q I S) λ _ _ y=>y
theorem Pa{fU:cA}{fm:a2}{ab:aw→a2→Prop}{x:aL}(S:fi (e2 ai) fU fm G s)(F:c9 c aj G env ai s.heap m)(I:Inv c nm G n s)
  (aA:(aj:B (Y aL))[i]? =some (some x))(n7:tk ai.scope x=true)(r:bA c G s.heap a v)(q:cb (iO env i a) n):bg (bc c.prog c.w) A (storeName ai x v) (λ _=>mW c nm aj ai fU fm cb cF .next) ab s:=
 Gu F I aA (Gt n7 F.has) r λ _ _ c0 c2 _ g8 ey=>⟨_,_,_,c0,q,g8,ey,S.trans (.ng c2 F.foot)⟩
theorem N1{e:ab}(b3:cv c nm aK z V e){y:aL}{vo cg:hb}{v:bn}{ab:aw→a2→Prop}(cT:u' aj i y=true)(bu:tk ai.scope y=true)
  (cX:dU (jD c nm aK) e ai.scope aj v=true)(F:c9 c aj G env ai s.heap m)(I:Inv c nm G n s)(hA:iD A z)(q:di c.P V e env (λ v aa=>cb (iO env i v) aa) n)(hs:y0 v (some (.Name y vo)) cg.line ai=pure false):bg (bc c.prog c.w) A (exec (.Assign [.Name y vo] v cg) ai) (mW c nm aj ai G s cb cF) ab s:=
 wpAny_Assign_Name (fK (b3 _ _ _ _ _ _ _ _ _ _ _ cX F I hA q) λ _ _ _ _ _ q r ce bU=>Pa (F.xs bU) (F.step I bU) ce (va cT) bu r q) hs
theorem aex{e:ab}(b3:cv c nm aK z V e)(hc:∀b7 xs many bb eo,e= .comp b7 xs many bb eo→cv c nm aK z V b7∧cv c nm aK z V bb∧p4 c nm aK z V eo):k0 c nm aK z V (.asg i e):=by
 intro x aj env ai G n s m A ab cb cF ok F I hA q
 refine A6 ok λ bE v cg ok=>jo (a7 ok) λ t o=>mK o λ y vo o=>?_
 refine AN (a7 (aD ok)) (λ YE=>?_) λ aa5=>N1 b3 (a7 o) (aD o) (aD (aD ok)) F I hA q (Gx aa5)
 have cX:=aD (aD ok)
 revert cX q b3 hc
 refine Y1 YE λ Vz xs many bb eo b3 hc q cX=>?_
 obtain⟨cz,cD,dn⟩:=hc _ _ _ _ _ rfl
 have hT:=cX
 revert hT
 refine P4 cX λ e en bG p ok hT=>?_
 have sM:y0 (.ListComp e en bG p) (some (.Name y vo)) cg.line ai=pure (ai.blockKind== .function&&ai.kindOf y==some .local&&vo.line==(RF e en bG p).pos.line&& !(bG.names.any λ(z,k)=>z==y&&(k== .local||k== .cell))):=rfl
 cases az:(ai.blockKind== .function&&ai.kindOf y==some .local&&vo.line==(RF e en bG p).pos.line&& !(bG.names.any λ(z,k)=>z==y&&(k== .local||k== .cell)))with
 |false=>exact N1 b3 (a7 o) (aD o) hT F I hA q (az▸sM)
 |true=>
  rw[az]at sM
  clear az hT
  revert sM
  refine jo ok λ g ok sM=>?_
  obtain⟨Bq,hw,YL,uS⟩:=g
  have mc:uS=0:=jj.mp (a7 ok)
  cases mc
  have cT:=aD ok
  have bu:=aD (aD (aD cT))
  have cX:=aD (aD (aD bu))
  exact U5 (ox:=λ aF K n=>rM c.P V eo aF K n) (kw:=λ aF K n=>di c.P V Vz aF K n) sM (va (a7 o)) (aD o) hA.1 F I (Kq (a7 cT)) (a7 (aD cT)) (a7 (aD (aD cT))) (a7 bu) (Gl (a7 (aD bu))) (cD _ _ _ _ _ _ _ _ _ _ _ (a7 (aD (aD bu))) F I hA q) (λ fL aa h=>q4 h)
   (λ g5 aF G n s m K g7 F I h=>GB (ai:=compEnvC bG (gf ai.cells bG.names []) g5 ai) hA dn (a7 cX) F I h) (λ g5 aF G n s m K g7 F I h=>cz _ _ _ _ _ _ _ _ _ _ _ (aD cX) F I hA h) (λ x K n h=>q4 h)
theorem aeA{xs:B C}{e:ab}(b3:cv c nm aK z V e):k0 c nm aK z V (.oZ xs e):=by
 intro x aj env ai G n s m A ab cb cF ok F I hA q
 refine A6 ok λ bE v cg ok=>jo (a7 ok) λ t o=>?_
 have cT:=aD o
 revert cT
 refine Hi (a7 o) λ O k p _ cT=>?_
 refine Assign_Tuple (fK (b3 _ _ _ _ _ _ _ _ _ _ _ (aD (aD (aD ok))) F I hA q) λ u cx bQ aa aJ q r ce bU=>fB q λ aF az q=>?_) (show y0 v (some (.Tuple O k p)) cg.line ai=pure false from Gx (a7 (aD ok))) (by have:=a7 (aD (aD ok));revert this;cases v<;>first|exact λ _=>rfl|exact λ h=>ju h)
 have pM:=F.step I bU
 exact C6 hA.1 pM ce cT az r λ _ _ c0 c2 _ g8 ey=>⟨_,_,_,c0,q,g8,ey,(F.xs bU).trans (.ng c2 pM.foot)⟩
theorem aey(Z:hJ c nm aK z V){o e:ab}(be:cv c nm aK z V o)(b3:cv c nm aK z V e):k0 c nm aK z V (.cc o f e):=by
 intro x aj env ai G n s m A ab cb cF ok F I hA q
 refine A6 ok λ bE v cg ok=>jo (a7 ok) λ t o=>tz o λ y gV p o=>?_
 have nW:gV=gJ nm f:=gh (a7 o)
 cases nW
 refine plainObj_wpAny_Assign_Attribute (two b3 be (aD ok) (aD o) F I hA q λ u w cx ed dz ao b' q r ef c1 S=>fB q λ J bC q=>?_) (by cases v<;>rfl)
 exact Bs (OS (Q:=λ tG=>tG=J) Z.ok bC ef r rfl c1) λ oF bW js j7 h0 il=>⟨_,_,_,m,j7▸q,F.step I (S.trans il),h0,F.xs (S.trans il)⟩
theorem aez{o i e:ab}(be:cv c nm aK z V o)(ay:cv c nm aK z V i)(b3:cv c nm aK z V e):k0 c nm aK z V (.gI o i e):=by
 intro x aj env ai G n s m A ab cb cF ok F I hA q
 refine A6 ok λ bE v cg ok=>jo (a7 ok) λ t o=>tB o λ y L p o=>?_
 refine wpAny_Assign_Subscript (fK (b3 _ _ _ _ _ _ _ _ _ _ _ (aD ok) F I hA q) λ u cx bQ aa aJ q r ce bU=>?_) (by cases v<;>rfl)
 refine two be ay (a7 o) (aD o) (F.step I bU) ce hA q λ w vQ ed ek oF bW js q ef ov h0 S=>fB q λ J bC q=>?_
 revert ef
 refine adY (ak:=λ ed=>bA c oF js.heap ed w→_) bC λ nn bC ef=>?_
 exact Bs (OR (Q:=λ tG=>tG=J) hA.u bC ef ov (S.f5 ce r) rfl h0) λ Ho eO tl xW pQ lz=>have S:=(bU.trans S).trans lz;⟨_,_,_,m,xW▸q,F.step I S,pQ,F.xs S⟩
theorem EC{b r:D}{u:aw}{Q:dC}{ab:aw→a2→Prop}(h:kC op a b=some r)(x:bA c G s.heap a v)(y:bA c G s.heap b u)(bz:Q r n)(I:Inv c nm G n s):
  bg (bc c.prog c.w) A (inplaceOp (s' op) v u) (Back c nm G s Q) ab s:=
 Y0 h x y bz I
theorem vI{ab:aw→a2→Prop}{t:ij aw}{X:aw→a2→Prop}(h:bg (bc c.prog c.w) A t (Back c nm G s λ aY J=>aY=a∧J=n) ab s)
  (k:∀v bQ aJ,bA c bQ aJ.heap a v→Inv c nm bQ n aJ→Step G s bQ aJ→X v aJ):bg (bc c.prog c.w) A t X ab s:=
 fK h λ v _ bQ _ aJ q r I S=>by obtain⟨rfl,rfl⟩:=q;exact k v bQ aJ r I S
theorem aeB{e:ab}(b3:cv c nm aK z V e):k0 c nm aK z V (.aug i op e):=by
 intro x aj env ai G n s m A ab cb cF ok F I hA q
 refine Gb ok λ t o v cg ok=>jH (a7 ok) (mK (a7 (aD ok)) λ y p o=>fB q λ a bO q=>?_)
 refine wpAny_AugAssign_Name (vI (M1 F I (va (a7 o)) (aD (aD o)) bO ⟨rfl,rfl⟩) λ u bQ aJ r ce bU=>?_)
 refine fK (b3 _ _ _ _ _ _ _ _ _ _ _ (aD (aD ok)) (F.step I bU) ce hA q) λ w ed dz ao b' q ef c1 dt=>fB q λ b bC q=>?_
 exact vI (EC bC (dt.f5 ce r) ef ⟨rfl,rfl⟩ c1) λ vQ oF js ov h0 il=>have S:=(bU.trans dt).trans il;Pa (F.xs S) (F.step I S) h0 (va (a7 o)) (a7 (aD o)) ov q
theorem aeC(Z:hJ c nm aK z V){o e:ab}(be:cv c nm aK z V o)(b3:cv c nm aK z V e):k0 c nm aK z V (.o2 o f op e):=by
 intro x aj env ai G n s m A ab cb cF ok F I hA q
 refine Gb ok λ t o v cg ok=>jH (a7 ok) (tz (a7 (aD ok)) λ y gV p o=>?_)
 have nW:gV=gJ nm f:=gh (a7 o)
 cases nW
 refine wpAny_AugAssign_AttributeAny (fK (be _ _ _ _ _ _ _ _ _ _ _ (aD o) F I hA q) λ u cx bQ aa aJ q r ce bU=>fB q λ a bO q=>?_)
 refine vI (JH Z.ok bO r ⟨rfl,rfl⟩ ce) λ w dz b' ef c1 dt=>?_
 refine fK (b3 _ _ _ _ _ _ _ _ _ _ _ (aD (aD ok)) ((F.step I bU).step ce dt) c1 hA q) λ vQ ek oF bW js q ov h0 il=>fB q λ b bC q=>?_
 refine vI (EC bC (il.f5 c1 ef) ov ⟨rfl,rfl⟩ h0) λ aho Ho tl F' pQ lz=>fB q λ J fG q=>?_
 exact Bs (OS (Q:=λ tG=>tG=J) Z.ok fG (lz.f5 h0 (il.f5 c1 (dt.f5 ce r))) F' rfl pQ) λ agi jV yf jR B2 qZ=>have S:=(((bU.trans dt).trans il).trans lz).trans qZ;⟨_,_,_,m,jR▸q,F.step I S,B2,F.xs S⟩
theorem aeD{o i e:ab}(be:cv c nm aK z V o)(ay:cv c nm aK z V i)(b3:cv c nm aK z V e):k0 c nm aK z V (.o3 o i op e):=by
 intro x aj env ai G n s m A ab cb cF ok F I hA q
 refine Gb ok λ t o v cg ok=>jH (a7 ok) (tB (a7 (aD ok)) λ y L p o=>?_)
 refine wpAny_AugAssign_SubscriptAny (two be ay (a7 (aD o)) (aD (aD o)) F I hA q λ u w cx ed dz ao b' q r ef c1 dt=>fB q λ a bO=>?_) (by intro _ _ _;have:=a7 o;revert this;cases L<;>first|exact λ _=>rfl|exact λ h=>ju h)
 revert r
 refine ada (ak:=λ cx=>bA c dz b'.heap cx u→di c.P V e env (λ v bW=>et (kC op a v) λ r=>et (j9 bW cx ed r) λ eO=>cb env eO) ao→_) bO λ nn bO r q=>?_
 refine vI (L2 bO r ef ⟨rfl,rfl⟩ c1) λ ie oF js ov h0 il=>?_
 refine fK (b3 _ _ _ _ _ _ _ _ _ _ _ (aD (aD ok)) ((F.step I dt).step c1 il) h0 hA q) λ tu kp Ho eO tl q F' pQ lz=>fB q λ b bC q=>?_
 refine vI (EC bC (lz.f5 h0 ov) F' ⟨rfl,rfl⟩ pQ) λ tv agi yf adD B2 qZ=>fB q λ J j3 q=>?_
 exact Bs (OR (Q:=λ tG=>tG=J) hA.u j3 (qZ.f5 pQ (lz.f5 h0 (il.f5 c1 r))) (qZ.f5 pQ (lz.f5 h0 (il.f5 c1 ef))) adD rfl B2) λ ahq qJ ahi tc QM Sp=>have S:=((dt.trans il).trans lz).trans (qZ.trans Sp);⟨_,_,_,m,tc▸q,F.step I S,QM,F.xs S⟩
theorem aeE{e:ab}(b3:cv c nm aK z V e):k0 c nm aK z V (.ex e):=by
 intro x aj env ai G n s m A ab cb cF ok F I hA q
 refine adG ok λ v p ok=>?_
 refine wpAny_Expr_any (fK (b3 _ _ _ _ _ _ _ _ _ _ _ (aD ok) F I hA q) λ u cx bQ aa aJ q r ce bU=>⟨_,_,_,m,q,F.step I bU,ce,F.xs bU⟩) ?_ (Gx (a7 ok))
 unfold interactive
 rw[F.kind];rfl
theorem aeG{e:ab}(b3:cv c nm aK z V e):k0 c nm aK z V (.ret e):=by
 intro x aj env ai G n s m A ab cb cF ok F I hA q
 exact OF ok λ v p ok=>qs ok λ v ok=>wpAny_Return_some (fK (b3 _ _ _ _ _ _ _ _ _ _ _ ok F I hA q) λ u cx bQ aa aJ q r ce bU=>⟨_,_,_,q,r,ce,F.xs bU⟩)
theorem aeH:k0 c nm aK z V .mC:=by
 intro x aj env ai G n s m A ab cb cF ok F I hA q
 exact OF ok λ v p ok=>rz ok (wpAny_Return_none ⟨.nn,_,_,q,rfl,I,.refl _ F.foot⟩)
theorem aeI{t:T}{a b:bk}(bD:nO c nm aK z V t)(bO:qY c nm aK z V a)(az:qY c nm aK z V b):k0 c nm aK z V (.b4 t a b):=by
 intro x aj env ai G n s m A ab cb cF ok F I hA q
 refine adI ok λ u p r cg ok=>wpAny_If (qE (bD _ _ _ _ _ _ _ _ _ _ _ (a7 ok) F I hA q) λ v bQ aa aJ q ce bU=>?_)
 cases v
 ·exact wpS (F.xs bU) (az _ _ _ _ _ _ _ _ _ _ _ _ (aD (aD ok)) (F.step I bU) ce hA q)
 ·exact wpS (F.xs bU) (bO _ _ _ _ _ _ _ _ _ _ _ _ (a7 (aD ok)) (F.step I bU) ce hA q)
theorem aeq:qY c nm aK z V .nil:=by
 intro x aj env ai G n s m A ab cb cF ok F I hA q
 exact gZ ok (I9 ⟨_,_,_,m,q,F,I,.refl _ F.foot⟩)
theorem aen{t:S}{r:bk}(bD:k0 c nm aK z V t)(a4:qY c nm aK z V r):qY c nm aK z V (.cons t r):=by
 intro x aj env ai G n s m A ab cb cF ok F I hA q
 refine jp ok λ y bf ok=>wpAny_execs_cons (fa (bD _ _ _ _ _ _ _ _ _ _ _ _ (a7 ok) F I hA q) (λ f a9 az=>?_) λ _ _ y=>y)
 cases f with
 |next=>
  obtain⟨aF,bv,J,c0,q,g8,ey,fA⟩:=az
  exact wpS fA (a4 _ _ _ _ _ _ _ _ _ _ _ _ (aD ok) g8 ey hA q)
 |ret v=>exact az
 |_=>exact az.elim
end
end Mine
end
section
open PySem PySem.W PyProof.Rows
namespace Mine
variable{b:bk}
section
variable{c:cV}{nm:B (B C)}{aK:C→a8}{z:C}{V:C→B D→dC→St→Prop}
noncomputable def v4(ai:eg)(bb:a8)(b:a8):Prop:=e2 ai b∨b=bb
theorem aeF{xs:B C}{many:av}{e:ab}(b3:cv c nm aK z V e)(az:qY c nm aK z V b):k0 c nm aK z V (.dc xs many e b):=by
 intro x aj env ai G n s m A ab cb cF ok F I hA q
 refine adH ok λ Bq hw body VA cg ok=>?_
 have o:=aD ok
 have bu:=aD (aD o)
 refine gZ (a7 ok) ?_
 refine wpAny_For (fK (b3 _ _ _ _ _ _ _ _ _ _ _ (a7 bu) F I hA q) λ fL a bQ aa aJ q hF ce bU=>?_) (Gl (a7 (aD o)))
 refine(q4 q).elim λ l q=>?_
 have pM:=F.step I bU
 refine Mi ce q.1 hF λ bb bJ nU m7 cL=>?_
 have Ed:c.h₀.get? bb=none:=we.mpr λ o e=>nomatch m7.symm.trans (ce.base _ _ e)
 have Em:¬e2 ai bb:=λ o=>let⟨_,e,_⟩:=e2.old pM o;nomatch m7.symm.trans e
 have XF:¬eF bQ bb:=λ f=>let⟨_,e⟩:=ce.wV f;nomatch m7.symm.trans e
 have c1:Inv c nm bQ aa {aJ with heap:=bJ}:=ce.more (t:=aJ.toks) nU
 have cU:lp c nm (v4 ai bb) bQ aJ bb a l 0 bQ aa {aJ with heap:=bJ}:=⟨c1,cL,⟨.refl _ _,nU.all,λ b az=>az.elim (pM.foot b) λ e=>e▸XF⟩,Ed,.inr rfl⟩
 have JN:∀{bv:cA} {a9:a2},fi (v4 ai bb) bQ aJ bv a9→fi (e2 ai) G s bv a9:=λ X=>(F.xs bU).trans (X.drop (λ b (az:e2 ai b∨b=bb)=>az.elim .inl λ(e:b=bb)=>.inr (e▸m7)) λ b az=>X.off b (.inl az))
 refine codeAny_forLoop_any (λ ct a9=>∃k aF bv J,ct=l.length-k∧(lp c nm (v4 ai bb) bQ aJ bb a l k bv J a9∧∃m,c9 c aj bv aF ai a9.heap m)∧
  zQ (live a l) (λ x aF kl J=>et (dh many xs x aF) λ dG=>nr c.P V b dG kl cF J) (l.drop k) aF cb J) ?_ l.length ⟨0,env,bQ,aa,rfl,⟨cU,m,pM.step ce (.more (t:=aJ.toks) nU)⟩,q.2.2⟩
 clear cU c1 cL nU
 intro ct b' dj
 refine dj.elim λ k dj=>dj.elim λ env dj=>dj.elim λ dz dj=>dj.elim λ ao dj=>dj.2.1.2.elim λ pu qO=>?_
 have dp:=dj.1
 have cU:=dj.2.1.1
 have q:=dj.2.2
 clear dj
 have own:∀b,e2 ai b→¬b=bb:=λ b o e=>Em (e▸o)
 cases a1:l.drop k with
 |nil=>
  rw[a1]at q
  refine Mh hA.1 cU.inv q.1 cU.at_ (yC.mpr (QS.mp a1)) λ H sO=>?_
  have ch:cu (λ b=>b=bb) b'.heap H:=λ b o e z=>sO b o z e
  have L:=cU.chg b'.toks ch
  exact I9 ⟨env,dz,ao,pu,q.2,qO.zt ch own L.2.1,L.1,JN L.2.2⟩
 |cons y r=>
  rw[a1]at q
  have aA:=Lg a1
  have lt:=(jY.mp aA.1).1
  refine(q4 q.2).elim λ uo uH=>?_
  refine Mj cU.inv q.1 cU.at_ aA.1 λ aI jU v Eo bX qB=>?_
  have q5:cu (λ b=>b=bb) b'.heap aI:=cu.same Eo rfl
  have L:=cU.chg jU q5
  have HE:=cU.br jU q5 bX
  have HC:c9 c aj dz env ai aI pu:=qO.zt q5 own L.2.1
  refine Mk (s:={b' with heap:=aI,toks:=jU}) bX ?_
  refine C6 (s:={b' with heap:=aI,toks:=jU}) hA.1 HC L.1 (a7 o) uH.1 qB λ cQ qI oh c2 _ tI h0=>?_
  have Zp:fV aI cQ:=(HC.wJ (s:={b' with heap:=aI,toks:=jU}) (t:=qI) L.1 c2).2
  have v7:lp c nm (v4 ai bb) bQ aJ bb a l (k+1) dz ao {b' with heap:=cQ,toks:=qI}:=HE.ea h0 (.ng (s:={b' with heap:=aI,toks:=jU}) (c2.mono λ b q=>.inl q) HE.step.off) Zp λ o e=>c2 _ o e Em
  have MX:∀{bv:cA} {a9:a2},fi (e2 ai) dz {b' with heap:=cQ,toks:=qI} bv a9→fi (v4 ai bb) dz {b' with heap:=cQ,toks:=qI} bv a9:=λ X=>X.mono (λ b q=>.inl q) λ b q=>q.elim (X.off b) λ e f=>(X.ext.2 b f).elim (λ g=>v7.off (e▸g)) λ g=>v7.at_.live.elim λ o w=>nomatch(e▸g:({b' with heap:=cQ,toks:=qI}:a2).heap.get? bb=none).symm.trans w.1
  refine fa (az _ _ _ _ _ _ {b' with heap:=cQ,toks:=qI} _ _ _ _ _ (aD bu) tI h0 hA uH.2) (λ f tl az=>?_) λ _ _ y=>y
  cases f with
  |next=>
   exact az.elim λ aF az=>az.elim λ bv az=>az.elim λ J az=>az.elim λ c0 az=>
    have fA:=az.2.2.2;
    ⟨l.length- (k+1),dp▸Rs _ _ lt,k+1,aF,bv,J,rfl,⟨v7.ea az.2.2.1 (MX fA) (fA.m' h0 λ b o q e=>Fn (e2.old tI q) o e) λ o e=>fA.ch _ o e λ q=>q.elim v7.off Em,c0,az.2.1⟩,aA.2.symm▸az.1⟩
  |ret v=>
   exact az.elim λ w az=>az.elim λ bv az=>az.elim λ J az=>⟨w,bv,J,az.1,az.2.1,az.2.2.1,JN (v7.step.trans (MX az.2.2.2))⟩
  |_=>exact az.elim
theorem aeJ{t:T}(bD:nO c nm aK z V t)(az:qY c nm aK z V b):k0 c nm aK z V (.pK t b):=by
 intro x aj env ai G n s m A ab cb cF ok F I hA q
 refine adK ok λ u body VA cg o=>?_
 have ok:=aD o
 refine gZ (a7 o) ?_
 refine wpAny_While (codeAny_whileLoop (λ k a9=>∃aF bv J c0,c9 c aj bv aF ai a9.heap c0∧Inv c nm bv J a9∧fi (e2 ai) G s bv a9∧BD (qH c.P V t) (λ aF kl J=>nr c.P V b aF kl cF J) k aF cb J) ?_ 60
  ⟨env,G,n,m,F,I,.refl _ F.foot,q⟩)
 intro k aJ dj
 refine dj.elim λ uo dj=>dj.elim λ bQ dj=>dj.elim λ aa dj=>dj.elim λ AF dj=>?_
 cases k with
 |zero=>exact dj.2.2.2.elim
 |succ k=>
  refine qE (bD _ _ _ _ _ _ _ _ _ _ _ (a7 ok) dj.1 dj.2.1 hA dj.2.2.2) λ v dz ao b' q c1 dt=>?_
  have qO:=dj.1.step dj.2.1 dt
  have sk:=dj.2.2.1.trans (dj.1.xs dt)
  cases v with
  |false=>exact I9 ⟨_,_,_,_,q,qO,c1,sk⟩
  |true=>
   refine fa (az _ _ _ _ _ _ _ _ _ _ _ _ (aD ok) qO c1 hA q) (λ f js az=>?_) λ _ _ y=>y
   cases f with
   |next=>exact az.elim λ aF az=>az.elim λ bv az=>az.elim λ J az=>az.elim λ c0 az=>⟨k,qT k,aF,bv,J,c0,az.2.1,az.2.2.1,sk.trans az.2.2.2,az.1⟩
   |ret v=>exact az.elim λ w az=>az.elim λ bv az=>az.elim λ J az=>⟨w,bv,J,az.1,az.2.1,az.2.2.1,sk.trans az.2.2.2⟩
   |_=>exact az.elim
mutual
theorem SQ(Z:hJ c nm aK z V):∀t:S,k0 c nm aK z V t
 | .asg _ e=>aex (dY Z e) λ _ _ _ _ _ _=>⟨dY Z _,dY Z _,wx Z _⟩
 | .oZ _ e=>aeA (dY Z e)
 | .cc o _ e=>aey Z (dY Z o) (dY Z e)
 | .gI o i e=>aez (dY Z o) (dY Z i) (dY Z e)
 | .aug _ _ e=>aeB (dY Z e)
 | .o2 o _ _ e=>aeC Z (dY Z o) (dY Z e)
 | .o3 o i _ e=>aeD (dY Z o) (dY Z i) (dY Z e)
 | .ex e=>aeE (dY Z e)
 | .ret e=>aeG (dY Z e)
 | .mC=>aeH
 | .b4 t a b=>aeI (ww Z t) (sm Z a) (sm Z b)
 | .pK t b=>aeJ (ww Z t) (sm Z b)
 | .dc _ _ e b=>aeF (dY Z e) (sm Z b)
 | .bad=>λ _ _ _ _ _ _ _ _ _ _ _ _ _ _ _ _ q=>q.elim
theorem sm(Z:hJ c nm aK z V):∀t:bk,qY c nm aK z V t
 | .nil=>aeq
 | .cons t r=>aen (SQ Z t) (sm Z r)
end
end
noncomputable def my(d:oJ):B (Y aL):=d.names.map (λ x=>some (st x))++dw (d.nl-d.names.length) none
structure BZ(c:cV)(nm:B (B C))(aK:C→a8)(f:C)(d:oJ):Prop where
 at_:∃cr i',FnAt c (my d) d.np (aK f) cr i'∧pw (jD c nm aK) d.body cr.scope (my d) i'=true
 len:(my d).length=d.nl
 np:d.np≤d.nl
theorem O0{c:cV}{nm:B (B C)}{aK:C→a8}(bL:jA c nm)(M:v5 c)(ak:Ch c nm aK)(cl:∀f d,c.P.fns f=some d→BZ c nm aK f d):∀z,Hv c nm aK z (sv c.P z)
 |0=>λ _ _ _ _ _ _ _ _ _ _ _ _ q _=>q.elim
 |z+1=>by
  intro A f b6 gQ G n s Q R hA I r q fP
  obtain⟨d,a1,hl,q⟩:=q4 q
  obtain⟨⟨cr,i',QA,ok⟩,i1,El⟩:=cl f d a1
  have Z:hJ c nm aK z (sv c.P z):=⟨bL,M,ak,O0 bL M ak cl z⟩
  refine UK bL QA I r hl (by omega) (by have:=hA.2.1;omega) fP λ ai aJ m g7 Yi F ey=>?_
  have fD:iD (A.deeper ai) z:=⟨hA.1,by show A.depth+1+4*z+3<_;have:=hA.2.1;omega,by show A.units+3+12*z+309<_;have:=hA.2.2;omega⟩
  rw[i1]at F
  exact sm Z d.body i' (my d) _ ai G n aJ m (A.deeper ai) g7 _ _ (Yi▸ok) F ey fD q
end Mine
end
section
open PySem PySem.W PyProof.Rows
namespace Mine
noncomputable def Dq(K:kk):qK:=⟨K,nY,su,jC⟩
noncomputable def vm:B aL→B (Y aL)→av
 | [],_=>true
 |x::xs,some y::bf=>decide (x=y)&&vm xs bf
 |_,_=>false
noncomputable def zP(K:kk)(f:C):Bool:=match ac.fns f with
 |none=>true
 |some d=>(match K.lookup (nY f)with
  |some ⟨_,_,.func cr,_⟩=>(match cr.body with
   | .stmts i'=>xR cr&&codeIn K cr.code cr.qualname&&decide ((cr.params.args.map (·.arg)).length=d.np)&&decide (cr.params.args.map (·.arg)).Nodup&&
     ((cr.params.args.map (·.arg)).all λ x=>cr.scope.names.lookup x==some .local||cr.scope.names.lookup x==some .cell)&&vm (cr.params.args.map (·.arg)) (my d)&&tr (my d)&&
     decide ((my d).length=d.nl)&&decide (d.np≤d.nl)&&pw (Dq K) d.body cr.scope (my d) i'
   |_=>false)
  |_=>false)
theorem N2:∀{xs:B aL} {aj:B (Y aL)},vm xs aj=true→∀(i:C) x,xs[i]? =some x→(aj:B (Y aL))[i]? =some (some x)
 | [],_,_,i,x,e=>by simp at e
 |y::xs,[],h,_,_,_=>by simp[vm]at h
 |y::xs,none::aj,h,_,_,_=>by simp[vm]at h
 |y::xs,some L::aj,h,i,x,e=>by
  simp only[vm,jW,zB]at h
  obtain⟨rfl,h⟩:=h
  cases i with
  |zero=>simpa using e
  |succ i=>simpa using N2 h i x (by simpa using e)
theorem WC{c:cV}{f:C}{d:oJ}(a1:ac.fns f=some d)(Xx:c.ca=su)(h:zP c.K f=true):BZ c jC nY f d:=by
 unfold zP at h
 rw[a1]at h
 dsimp only at h
 split at h
 ·rename_i xK FE cr dQ e
  split at h
  ·rename_i i' Vx
   simp only[jW,zB]at h
   obtain⟨⟨⟨⟨⟨⟨⟨⟨⟨ax,aH⟩,cI⟩,gg⟩,ky⟩,zY⟩,pc⟩,zZ⟩,z0⟩,zX⟩:=h
   refine⟨⟨cr,i',⟨⟨_,_,_,e⟩,ax,Vx,aH,cI,gg,ky,N2 zY,GS pc⟩,?_⟩,zZ,z0⟩
   unfold jD
   rw[Xx]
   exact zX
  ·cases h
 ·cases h
end Mine
end
section
open PySem PySem.W PySem.Calls PyProof.Rows
namespace Hd
noncomputable abbrev iN:Program:=qV.row.toRowW.1
noncomputable def Fq:Stmt:=.Pass ⟨0,0,0,0⟩
noncomputable def pH(i:C):Stmt:=agr.main.body.getD i Fq
noncomputable def aS(i j:C):Stmt:=match pH i with
 | .ClassDef _ _ _ b _ _ _ _ _ _ _=>b.getD j Fq
 |_=>Fq
noncomputable def KZ(s:ft)(q:Y aL)(g:a8)(e4:B (aL×a8))(wO eS fQ FS:aw)(wy:Y a8)(cd Dv:aw)(fu:a8):FuncData:=match s with
 | .FunctionDef z a b _ _ _ bG _ _ _=>⟨z,q.getD z,a,.stmts b,bG,g,e4,wO,eS,fQ,FS,wy,cd,Dv,fu⟩
 |_=>default
noncomputable def T(l:B aw):Obj:=⟨.type "tuple",none,.seq ⟨l⟩ 0,⟨[]⟩⟩
noncomputable def c5(l:B aw):Obj:=⟨.none,none,.fields ⟨l⟩,⟨[]⟩⟩
noncomputable def nz(l:B mS)(z:C):Obj:=⟨.type "dict",none,.dict ⟨l⟩ z,⟨[]⟩⟩
noncomputable def R(a:a8):Value:=.ref a
noncomputable def I(i:am):Value:=.int i 0
noncomputable def S(s:aL)(t:iX):Value:=.str s t
noncomputable def eQ(p:gq)(s:aL)(t:iX)(v:aw):DictEntry:=⟨wi p s,.str s t,v⟩
noncomputable def r0(z q:aL)(t:C)(l a f:am)(r:a8)(b:av)(x:B aw)(u:C):Obj:=
 ⟨.type "code",none,.fields ⟨[.str z t,.str q (t+1),.str "/claim/cut.py" (t+2),.int l 0,.int a 0,.int 0 0,.int 0 0,.int f 0,.ref r,.bool b,.int 181 0,.ref (r+1)]++x++[.int u 0,.int l 0,.str "/claim/cut.py" (u+1)]⟩,⟨[]⟩⟩
noncomputable def U(s:ft)(q:Y aL)(m:aL)(t:iX)(r:a8):Obj:=⟨.type "function",none,.func (KZ s q 3 [] .none .none .none (.str m t) none (.ref r) .none 0),⟨[]⟩⟩
noncomputable def ko(s:ft)(q:Y aL):Obj:=⟨.none,none,.func (KZ s q 0 [] .none .none .none .none none .none .none 0),⟨[]⟩⟩
noncomputable def dp(p:gq)(s:aL)(t:iX)(i:am):DictEntry:=eQ p s t (.int i (t-1))
noncomputable def cH(p:gq)(s:aL)(t:iX)(a:a8):DictEntry:=eQ p s t (R a)
noncomputable def WL(p:gq):B DictEntry:=[eQ p "__doc__" 166 .none,eQ p "__package__" 167 .none,eQ p "__loader__" 168 (.builtin "__main__.__loader__#opaque"),eQ p "__spec__" 169 .none,cH p "__annotations__" 170 6,cH p "__builtins__" 171 4,eQ p "__file__" 173 (S "/claim/cut.py" 172),eQ p "__cached__" 174 .none,cH p "_wall" 193 21,dp p "A_PRIVATE" 195 1,dp p "A_FAMANDASM" 197 2,dp p "A_ASSEMBLY" 199 3,dp p "A_FAMILY" 201 4,dp p "A_FAMORASM" 203 5,cH p "RuneError" 236 38,cH p "BadKind" 252 51,cH p "LeftOut" 268 63,dp p "VOID" 272 0,dp p "BOOL" 274 1,dp p "CHAR" 276 2,dp p "I1" 278 3,dp p "U1" 280 4,dp p "I2" 282 5,dp p "U2" 284 6,dp p "I4" 286 7,dp p "U4" 288 8,dp p "I8" 290 9,dp p "U8" 292 10,dp p "NINT" 294 11,dp p "OBJECT" 296 12,dp p "STRING" 298 13,dp p "NULLK" 300 14,dp p "BAD" 302 15,dp p "PRIM_END" 304 16,dp p "R_PRIM" 306 1,dp p "R_CLASS" 308 2,dp p "R_VALUE" 310 3,dp p "R_ARRAY" 312 4,dp p "R_BYREF" 314 5,dp p "R_VAR" 316 6,dp p "R_MVAR" 318 7,dp p "R_BOXED" 320 8,dp p "R_ROREF" 322 9,dp p "R_FTN" 324 10,dp p "R_RAW" 326 11,dp p "DEEPEST_KIND" 328 24,dp p "HEAVIEST_KIND" 330 4096,cH p "PRIM_TID" 359 66,cH p "TID_PRIM" 388 67,dp p "ARRAY_TID" 390 5,dp p "NULLABLE_TID" 392 8,cH p "KindTable" 449 98,cH p "inner_kinds" 457 109,cH p "row_level" 464 116,cH p "row_length" 471 123,cH p "check_kind_row" 481 130,cH p "check_named" 489 137,cH p "check_args" 498 144,cH p "may_stand" 507 151,cH p "class_kind" 516 158,cH p "value_kind" 525 165,cH p "prim_kind" 533 172,cH p "var_kind" 541 179,cH p "kind_sort" 549 186,cH p "tid_of" 558 193,cH p "args_of" 567 200,cH p "is_value" 575 207,cH p "is_var" 584 214,cH p "close" 594 221,cH p "close_in" 608 228,cH p "with_inner" 618 235,cH p "box_of" 626 242,cH p "pick_arg" 635 249,cH p "close_all" 647 256,dp p "S_STRUCT" 651 2,dp p "S_IFACE" 653 3,dp p "S_ENUM" 655 5,dp p "VA_NONE" 657 0,dp p "PF_OUT" 659 1,dp p "MF_STATIC" 661 1,dp p "MF_VIRTUAL" 663 2,dp p "MF_NEWSLOT" 665 4,dp p "MF_ABSTRACT" 667 8,dp p "MF_FINAL" 669 16,dp p "MF_CTOR" 671 32,dp p "MF_CCTOR" 673 64,dp p "MF_SPECIAL" 675 128,dp p "T_OBJECT" 677 1,cH p "TypeDef" 731 273,cH p "MethodDef" 779 294,cH p "Store" 813 315,cH p "plain_names" 822 326,cH p "kept_flags" 829 333,cH p "add_method" 844 340,cH p "note_method" 854 347,cH p "put_once" 862 354,cH p "add_impl" 873 361,cH p "self_kind" 884 368,cH p "kind_with" 894 375,cH p "type_of" 903 382,cH p "find_methods" 914 389,cH p "method_sig" 924 396,cH p "is_virtual" 931 403,cH p "is_iface" 941 410,cH p "base_chain" 951 417,cH p "decl_overrides" 967 424,cH p "decl_override" 983 431,cH p "decl_stand" 999 438,cH p "decl_override_number" 1010 445,cH p "decl_base_match" 1016 450,cH p "decl_strange" 1025 457,cH p "decl_in_sight" 1034 464,cH p "decl_same_outs" 1040 469,cH p "decl_same_params" 1053 476,dp p "N_METHOD" 1057 91,cH p "Node" 1095 493,cH p "Diags" 1148 535,cH p "Unit" 1188 556,cH p "Yard" 1268 605,cH p "yard_kept" 1277 616,cH p "Decls" 1321 633,cH p "BareHost" 1408 696,cH p "_law_take" 1420 707,cH p "_law_seen" 1426 712,cH p "_law_kind" 1432 717,cH p "_law_term" 1442 724,cH p "_law_own" 1448 729,cH p "_law_line" 1454 734,cH p "_law_world" 1460 739,cH p "_law_put" 1476 746,cH p "_law_methods" 1482 751,cH p "_law_stand" 1488 756,cH p "law" 1494 761]
noncomputable def C9:C→B aL→B aw
 |_,[]=>[]
 |t,s::l=>S s t::C9 (t+1) l
noncomputable def k5(s:ft)(q:Y aL)(z m:aL)(mt a t:C)(l c:am)(xs:B aL):B (av×fO):=
 match xs with
 | []=>[(true,T []),(false,c5 []),(false,ko s q),(true,r0 z (q.getD z) t l c 3 a true [.none,.none,.none,R (a+2)] (t+3)),(true,U s q m mt (a+3))]
 |x::xs=>[(true,T []),(false,c5 []),(true,T (C9 (t+3) (x::xs))),(true,T []),(false,ko s q),(true,r0 z (q.getD z) t l c 3 a true [.none,R (a+2),R (a+3),R (a+4)] (t+4+xs.length)),(true,U s q m mt (a+5))]
noncomputable def GF(k:am):B (am×a8)→B aw
 | []=>[]
 | (l,a)::x=>I l::I k::R a::GF k x
noncomputable def ns(l:B (Y aw)):Obj:=⟨.type "frame",none,.plain,⟨l⟩⟩
noncomputable def wG(s:ws)(v:aw):Obj:=⟨.type "builtin_function_or_method",none,.fields ⟨[.builtin s,v]⟩,⟨[]⟩⟩
noncomputable def en(l:B aw):Obj:=⟨.type "getset_descriptor",none,.fields ⟨l⟩,⟨[]⟩⟩
noncomputable def aeW(a:a8):B (av×fO):=[(false,⟨.type "super",none,.fields ⟨[R a,R a,R a]⟩,⟨[]⟩⟩),(false,wG "object.__init_subclass__" (R a))]
noncomputable def ty(c:aL)(b:ws)(bs fl:B aw)(a:a8)(ks:B aw)(v:Y aw)(t u:iX):Obj:=⟨.type "type",none,.cls ⟨c,bs,R (a+1)::fl,a,c,true,[],ks,false,none,false⟩,⟨[v,none,some (S c t),some (S c u),some (.builtin b),some (.bool true)]⟩⟩
noncomputable def AR:Obj:=wG "type.__prepare__" (.type "type")
noncomputable def bl(p:gq)(m:aL)(mt u:iX)(l:am)(x:B mS):B DictEntry:=eQ p "__module__" (u+2) (S m mt)::x++[eQ p "__firstlineno__" (u+6) (.int l (u+5))]
noncomputable def cd(p:gq)(c m:aL)(mt u:iX)(l:am)(x:B mS)(z:C):Obj:=nz (bl p m mt u l [eQ p "__qualname__" (u+4) (S c (u+3))]++x) z
noncomputable def UL(c m:aL)(mt a t:C)(l:am)(eC:B aw):B (av×fO):=[(false,T []),(false,c5 eC),(false,r0 c c t l 0 0 a false [.none,.none,.none,.none] (t+3)),(false,ns [some (R (a+2)),some (R 3),some (R (a-1)),none,some (S m mt),none,some (R 0)])]
noncomputable def Dk:B (B (av×fO))→B (av×fO)
 | []=>[]
 |x::l=>x++Dk l
noncomputable def e4(p:gq)(c m:aL)(mt a t:C)(l:am)(fl:B (aL×C×a8×am))(aG:B (B (av×fO)))(e x:C)(at_:B aL):B (av×fO):=
 [(false,T []),(false,AR),(false,cd p c m mt (t+3) l (fl.map (λ y=>cH p y.1 y.2.1 y.2.2.1)++[cH p "__static_attributes__" x e]) (4+fl.length))]++UL c m mt (a+3) t l (GF 4 (fl.map λ y=>(y.2.2.2,y.2.2.1-1)))++Dk aG++
 [(true,T (C9 (x-at_.length) at_)),(true,nz (bl p m mt (t+3) l []++(fl.map (λ y=>cH p y.1 y.2.1 y.2.2.1)++[cH p "__static_attributes__" x e,cH p "__dict__" (x+2) (e+3),cH p "__weakref__" (x+4) (e+4),eQ p "__doc__" (x+5) .none])) 4),
  (true,ty c "object.__new__" [.type "object"] [.type "object"] (e+1) [] none (t-2) (t+6)),(true,en [S "__dict__" (x+1),R (e+2),.builtin "function.__dict__",.builtin "function.__dict__#set"]),(true,en [S "__weakref__" (x+3),R (e+2),.builtin "ExceptionGroup.__weakref__",.none])]++aeW (e+2)
noncomputable def aK(i:C)(z:aL):=k5 (pH i) none z "__main__" 164
noncomputable def WS(s:ft)(q z:aL):=k5 s (some q) z "framerune.faults" 204
noncomputable def ir(i:C)(z:aL):=k5 (pH i) none z "framerune.kinds" 269
noncomputable def uC(s:ft)(q z:aL):=k5 s (some q) z "framerune.kinds" 269
noncomputable def cr(i:C)(z:aL):=k5 (pH i) none z "framerune.store" 648
noncomputable def DY(s:ft)(q z:aL):=k5 s (some q) z "framerune.store" 648
noncomputable def K0(i:C)(z:aL):=k5 (pH i) none z "framerune.kindline" 932
noncomputable def qd(i:C)(z:aL):=k5 (pH i) none z "framerune.csdeclx" 952
noncomputable def qe(s:ft)(q z:aL):=k5 s (some q) z "framerune.csnodes" 1054
noncomputable def WZ(s:ft)(q z:aL):=k5 s (some q) z "framerune.csbound" 1149
noncomputable def K1(i:C)(z:aL):=k5 (pH i) none z "framerune.cscore" 1189
noncomputable def uE(s:ft)(q z:aL):=k5 s (some q) z "framerune.cscore" 1189
noncomputable def W1(s:ft)(q z:aL):=k5 s (some q) z "framerune.csdeclb" 1278
noncomputable def sD(s:ft)(q z:aL):=k5 s (some q) z "framerune.kindrel" 1322
noncomputable def eC(i:C)(z:aL):=k5 (pH i) none z "law_hb0001_01" 1409
noncomputable def hl(p:gq)(x y L:fO):B (av×fO):=Dk [[(false,boot_o_0 p),(false,boot_o_1 p),(true,x),(true,y),(false,boot_o_4 p),(false,boot_o_5 p),(false,boot_o_6 p),(false,boot_o_7 p),(false,boot_o_8 p),(false,boot_o_9 p),(false,boot_o_10 p),(false,T []),(false,L),(false,r0 "<module>" "<module>" 182 1 0 0 11 false [.none,.none,.none,.none] 185),(false,ns [some (R 13),some (R 3),some (R 3),none,some (S "__main__" 164),none,some (R 0)])],
aK 0 "_wall" 15 187 1 1 ["k"],
[(true,T [.type "Exception"]),(false,AR),(false,nz [eQ p "__module__" 213 (S "framerune.faults" 204),eQ p "__qualname__" 215 (S "RuneError" 214),eQ p "__firstlineno__" 217 (.int 10 216),eQ p "__init__" 226 (R 35),eQ p "__static_attributes__" 229 (R 36)] 5),(false,T []),(false,c5 [I 12,I 4,R 34]),(false,r0 "RuneError" "RuneError" 208 10 0 0 25 false [.none,.none,.none,.none] 211),(false,ns [some (R 27),some (R 3),some (R 24),none,some (S "framerune.faults" 204),none,some (R 0)])],
WS (aS 7 0) "RuneError.__init__" "__init__" 29 218 12 3 ["self","code","at"],
[(true,T [S "at" 227,S "code" 228]),(true,nz [eQ p "__module__" 213 (S "framerune.faults" 204),eQ p "__firstlineno__" 217 (.int 10 216),eQ p "__init__" 226 (R 35),eQ p "__static_attributes__" 229 (R 36),eQ p "__weakref__" 231 (R 39),eQ p "__doc__" 232 .none] 3),(true,ty "RuneError" "Exception.__new__" [.type "Exception"] [.type "Exception",.type "BaseException",.type "object"] 37 [R 51,R 63] (some (R 22)) 206 214),(true,en [S "__weakref__" 230,R 38,.builtin "ExceptionGroup.__weakref__",.none]),(false,⟨.type "super",none,.fields ⟨[R 38,R 38,R 38]⟩,⟨[]⟩⟩),(false,wG "object.__init_subclass__" (R 38)),(true,T [R 38]),(false,AR),(false,nz [eQ p "__module__" 244 (S "framerune.faults" 204),eQ p "__qualname__" 246 (S "BadKind" 245),eQ p "__firstlineno__" 248 (.int 15 247),eQ p "__static_attributes__" 249 (R 49)] 4),(false,T []),(false,c5 []),(false,r0 "BadKind" "BadKind" 239 15 0 0 45 false [.none,.none,.none,.none] 242),(false,ns [some (R 47),some (R 3),some (R 44),none,some (S "framerune.faults" 204),none,some (R 0)]),(true,T []),(true,nz [eQ p "__module__" 244 (S "framerune.faults" 204),eQ p "__firstlineno__" 248 (.int 15 247),eQ p "__static_attributes__" 249 (R 49),eQ p "__doc__" 250 .none] 2),(true,ty "BadKind" "Exception.__new__" [R 38] [R 38,.type "Exception",.type "BaseException",.type "object"] 50 [] (some (R 42)) 237 245),(false,⟨.type "super",none,.fields ⟨[R 51,R 51,R 51]⟩,⟨[]⟩⟩),(false,wG "object.__init_subclass__" (R 51)),(true,T [R 38]),(false,AR),(false,nz [eQ p "__module__" 260 (S "framerune.faults" 204),eQ p "__qualname__" 262 (S "LeftOut" 261),eQ p "__firstlineno__" 264 (.int 17 263),eQ p "__static_attributes__" 265 (R 61)] 4),(false,T []),(false,c5 []),(false,r0 "LeftOut" "LeftOut" 255 17 0 0 57 false [.none,.none,.none,.none] 258),(false,ns [some (R 59),some (R 3),some (R 56),none,some (S "framerune.faults" 204),none,some (R 0)]),(true,T []),(true,nz [eQ p "__module__" 260 (S "framerune.faults" 204),eQ p "__firstlineno__" 264 (.int 17 263),eQ p "__static_attributes__" 265 (R 61),eQ p "__doc__" 266 .none] 2),(true,ty "LeftOut" "Exception.__new__" [R 38] [R 38,.type "Exception",.type "BaseException",.type "object"] 62 [] (some (R 54)) 253 261),(false,⟨.type "super",none,.fields ⟨[R 63,R 63,R 63]⟩,⟨[]⟩⟩),(false,wG "object.__init_subclass__" (R 63)),(true,nz [⟨0,.int 0 271,.int 20 331⟩,⟨1,.int 1 273,.int 9 332⟩,⟨2,.int 2 275,.int 10 333⟩,⟨3,.int 3 277,.int 11 334⟩,⟨4,.int 4 279,.int 12 335⟩,⟨5,.int 5 281,.int 13 336⟩,⟨6,.int 6 283,.int 14 337⟩,⟨7,.int 7 285,.int 15 338⟩,⟨8,.int 8 287,.int 16 339⟩,⟨9,.int 9 289,.int 17 340⟩,⟨10,.int 10 291,.int 18 341⟩,⟨11,.int 11 293,.int 19 342⟩,⟨12,.int 12 295,.int 1 343⟩,⟨13,.int 13 297,.int 4 344⟩] 14),(true,nz [⟨20,.int 20 360,.int 0 271⟩,⟨9,.int 9 361,.int 1 273⟩,⟨10,.int 10 362,.int 2 275⟩,⟨11,.int 11 363,.int 3 277⟩,⟨12,.int 12 364,.int 4 279⟩,⟨13,.int 13 365,.int 5 281⟩,⟨14,.int 14 366,.int 6 283⟩,⟨15,.int 15 367,.int 7 285⟩,⟨16,.int 16 368,.int 8 287⟩,⟨17,.int 17 369,.int 9 289⟩,⟨18,.int 18 370,.int 10 291⟩,⟨19,.int 19 371,.int 11 293⟩,⟨1,.int 1 372,.int 12 295⟩,⟨4,.int 4 373,.int 13 297⟩] 14)],
e4 p "KindTable" "framerune.kinds" 269 68 395 54 [("__init__",413,81,56),("row",421,88,70),("put",436,95,75)] [uC (aS 45 0) "KindTable.__init__" "__init__" 75 405 56 1 ["self","number","row"],uC (aS 45 1) "KindTable.row" "row" 82 414 70 2 ["self","k"],uC (aS 45 2) "KindTable.put" "put" 89 422 75 2 ["self","row","found","depth","weight","opened","level","inner","k"]] 96 442 ["depths","index","opens","rows","weights"],
ir 46 "inner_kinds" 103 450 103 1 ["row","sort"],
ir 47 "row_level" 110 458 112 1 ["sort"],
ir 48 "row_length" 117 465 116 1 ["sort"],
ir 49 "check_kind_row" 124 472 122 2 ["kt","row","sort","inner"],
ir 50 "check_named" 131 482 144 2 ["kt","row"],
ir 51 "check_args" 138 490 148 2 ["kt","args","arg"],
ir 52 "may_stand" 145 499 152 2 ["kt","k","sort"],
ir 53 "class_kind" 152 508 157 3 ["kt","tid","args"],
ir 54 "value_kind" 159 517 161 3 ["kt","tid","args"],
ir 55 "prim_kind" 166 526 165 2 ["tid","args"],
ir 56 "var_kind" 173 534 169 2 ["kt","i"],
ir 57 "kind_sort" 180 542 171 2 ["kt","k"],
ir 58 "tid_of" 187 550 173 2 ["kt","k","row"],
ir 59 "args_of" 194 559 182 2 ["kt","k","row"],
ir 60 "is_value" 201 568 187 2 ["kt","k"],
ir 61 "is_var" 208 576 191 2 ["kt","k","sort"],
ir 62 "close" 215 585 194 4 ["kt","k","targs","margs"],
ir 63 "close_in" 222 595 199 5 ["kt","k","targs","margs","seen","row","inner","part"],
ir 64 "with_inner" 229 609 214 3 ["kt","row","inner","sort"],
ir 65 "box_of" 236 619 223 2 ["kt","k"],
ir 66 "pick_arg" 243 627 231 3 ["args","place","k"],
ir 67 "close_all" 250 636 235 4 ["kt","ks","targs","margs","out","k"],
e4 p "TypeDef" "framerune.store" 648 257 680 255 [("__init__",704,270,257)] [DY (aS 83 0) "TypeDef.__init__" "__init__" 264 690 257 8 ["self","tid","name","sort","flags","base","params","asm","word"]] 271 724 ["asm","base","bounds","cctor","events","fields","finaliser","flags","home","ifaces","impls","methods","name","params","props","sort","tid","under","variances"],
e4 p "MethodDef" "framerune.store" 648 278 734 281 [("__init__",757,291,283)] [DY (aS 84 0) "MethodDef.__init__" "__init__" 285 744 283 8 ["self","mid","owner","name","access","flags","ret","params"]] 292 772 ["access","body","flags","gbounds","gnames","mid","name","native","ngen","owner","params","pflags","pnames","ret"],
e4 p "Store" "framerune.store" 648 299 782 298 [("__init__",798,312,300)] [DY (aS 85 0) "Store.__init__" "__init__" 306 792 300 1 ["self"]] 313 806 ["asms","entry","fields_","kt","methods","names","types"],
cr 86 "plain_names" 320 814 308 1 ["count","out","place"],
cr 87 "kept_flags" 327 823 313 1 ["flags"],
cr 88 "add_method" 334 830 317 7 ["store","tid","name","access","flags","ret","params","t","mid"],
cr 89 "note_method" 341 845 324 2 ["store","mid","m","t"],
cr 90 "put_once" 348 855 332 2 ["rows","row"],
cr 91 "add_impl" 355 863 335 5 ["store","tid","body_mid","decl_owner","decl_mid"],
cr 92 "self_kind" 362 874 337 2 ["store","tid","t","args","place"],
cr 93 "kind_with" 369 885 345 3 ["store","tid","args","sort"],
cr 94 "type_of" 376 895 350 2 ["store","k","tid"],
cr 95 "find_methods" 383 904 355 3 ["store","tid","name","out","mid"],
cr 96 "method_sig" 390 915 361 2 ["store","mref","m","targs"],
cr 97 "is_virtual" 397 925 369 1 ["m"],
K0 99 "is_iface" 404 934 372 2 ["host","k"],
K0 100 "base_chain" 411 942 374 2 ["host","k","out","seen"],
qd 102 "decl_overrides" 418 954 383 1 ["d","rows","i","own","depth","tid","mid","node"],
qd 103 "decl_override" 425 968 391 4 ["d","tid","mid","node","found","m","old","number","flags","kinds"],
qd 104 "decl_stand" 432 984 406 5 ["d","tid","mid","found","node","rows","body","owner","decl","m"],
qd 105 "decl_override_number" 439 1000 420 4 ["d","m","old","found","access"],
qd 106 "decl_base_match" 446 1011 435 3 [],
qd 107 "decl_strange" 451 1017 445 3 ["d","m","old"],
qd 108 "decl_in_sight" 458 1026 447 3 ["d","m","old"],
qd 109 "decl_same_outs" 465 1035 451 2 [],
qd 110 "decl_same_params" 470 1041 453 5 ["d","at","name","ngen","params","out","mid"],
e4 p "Node" "framerune.csnodes" 1054 477 1060 462 [("__init__",1081,490,464)] [qe (aS 113 0) "Node.__init__" "__init__" 484 1070 464 6 ["self","kind","a","kids","mods","at"]] 491 1088 ["a","at","kids","kind","mods","nid"],
e4 p "Diags" "framerune.csnodes" 1054 498 1098 471 [("__init__",1114,511,473),("put",1124,518,476),("cut",1132,525,479),("numbers",1139,532,483)] [qe (aS 114 0) "Diags.__init__" "__init__" 505 1108 473 1 ["self"],qe (aS 114 1) "Diags.put" "put" 512 1115 476 4 ["self","number","at","words"],qe (aS 114 2) "Diags.cut" "cut" 519 1125 479 2 ["self","count"],qe (aS 114 3) "Diags.numbers" "numbers" 526 1133 483 1 ["self"]] 533 1141 ["rows"],
e4 p "Unit" "framerune.csbound" 1149 540 1153 486 [("__init__",1171,553,488)] [WZ (aS 116 0) "Unit.__init__" "__init__" 547 1163 488 3 ["self","store","asm"]] 554 1181 ["asm","consts","diags","fns","inits","of_mid","sinits","store","vars"],
e4 p "Yard" "framerune.cscore" 1189 561 1193 499 [("__init__",1212,574,501),("kind",1220,581,516),("fault",1230,588,519),("show",1238,595,522),("kept",1247,602,525)] [uE (aS 118 0) "Yard.__init__" "__init__" 568 1203 501 4 ["self","unit","host","asm"],uE (aS 118 1) "Yard.kind" "kind" 575 1213 516 2 ["self","node"],uE (aS 118 2) "Yard.fault" "fault" 582 1221 519 4 ["self","number","node","words"],uE (aS 118 3) "Yard.show" "show" 589 1231 522 2 ["self","k"],uE (aS 118 4) "Yard.kept" "kept" 596 1239 525 3 ["self","k","node"]] 603 1261 ["asm","early","host","kinds","kt","mid","owner","static","store","told","tparams","unit","unmet"],
K1 119 "yard_kept" 610 1269 527 3 ["yard","k","node"],
e4 p "Decls" "framerune.csdeclb" 1278 617 1282 533 [("__init__",1300,630,535)] [W1 (aS 121 0) "Decls.__init__" "__init__" 624 1292 535 3 ["self","unit","cx"]] 631 1314 ["consts","cx","explicits","keys","kt","late","opers","overrides","sinits","store","types","unit","work"],
e4 p "BareHost" "framerune.kindrel" 1322 638 1326 550 [("__init__",1343,651,552),("base",1351,658,563),("ifaces_at",1359,665,566),("sort",1367,672,569),("variance",1375,679,572),("under",1383,686,575),("has_new",1391,693,578)] [sD (aS 123 0) "BareHost.__init__" "__init__" 645 1336 552 2 ["self","kt"],sD (aS 123 1) "BareHost.base" "base" 652 1344 563 2 ["self","k"],sD (aS 123 2) "BareHost.ifaces_at" "ifaces_at" 659 1352 566 2 ["self","k"],sD (aS 123 3) "BareHost.sort" "sort" 666 1360 569 2 ["self","k"],sD (aS 123 4) "BareHost.variance" "variance" 673 1368 572 2 ["self","tid"],sD (aS 123 5) "BareHost.under" "under" 680 1376 575 2 ["self","k"],sD (aS 123 6) "BareHost.has_new" "has_new" 687 1384 578 2 ["self","k"]] 694 1401 ["bases","bounds","gflags","ifaces","kt","news","sorts","unders","variances"],
eC 125 "_law_take" 701 1411 581 2 ["w","n","at","fill"],
eC 126 "_law_seen" 708 1421 588 2 [],
eC 127 "_law_kind" 713 1427 596 2 [],
eC 128 "_law_term" 718 1433 605 2 ["w","many","n","part"],
eC 129 "_law_own" 725 1443 613 2 [],
eC 130 "_law_line" 730 1449 615 2 [],
eC 131 "_law_world" 735 1455 623 1 [],
eC 132 "_law_put" 740 1461 639 5 ["w","level","name","sort","over","line","term","flags","mid","row"],
eC 133 "_law_methods" 747 1477 646 1 [],
eC 134 "_law_stand" 752 1483 657 2 [],
eC 135 "law" 757 1489 670 1 []]
noncomputable def aab:B (am×a8):=[(1,20),(10,27),(15,47),(17,59),(54,73),(103,108),(112,115),(116,122),(122,129),(144,136),(148,143),(152,150),(157,157),(161,164),(165,171),(169,178),(171,185),(173,192),(182,199),(187,206),(191,213),(194,220),(199,227),(214,234),(223,241),(231,248),(235,255),(255,262),(281,283),(298,304),(308,325),(313,332),(317,339),(324,346),(332,353),(335,360),(337,367),(345,374),(350,381),(355,388),(361,395),(369,402),(372,409),(374,416),(383,423),(391,430),(406,437),(420,444),(435,449),(445,456),(447,463),(451,468),(453,475),(462,482),(471,503),(486,545),(499,566),(527,615),(533,622),(550,643),(581,706),(588,711),(596,716),(605,723),(613,728),(615,733),(623,738),(639,745),(646,750),(657,755),(670,760)]
noncomputable def hk(p:gq)(m:aL)(t:iX)(k j:C):B (av×fO):=hl p (⟨.none,none,.dict ⟨[eQ p "type.__subclasses__.Exception.0" 233 (I 38),eQ p "type.__subclasses__.Exception.n" 234 (I 1)]⟩ 2,⟨[]⟩⟩) (nz (eQ p "__name__" 165 (S m t)::(WL p).take k) (k+1)) (c5 ((GF 0 aab).take j))
noncomputable def bG(l:B (av×fO)):B (av×fO)×B (av×fO):=l.foldr (λ x r=>(x::r.2,r.1)) ([],[])
noncomputable def nS:C→B (av×fO)→BT
 |0,_=>.nil
 |_,[]=>.nil
 |z+1,x::l=>.node x.2 (nS z (bG l).1) (nS z (bG l).2)
noncomputable def ib(p:gq):BT:=nS 11 ((hl p (boot_o_2 p) (boot_o_3 p) (c5 [])).take 15)
noncomputable def er(p:gq):BT:=nS 11 ((hk p "framerune.kinds" 269 36 12).take 66)
noncomputable def eN(p:gq):BT:=nS 11 ((hk p "framerune.kinds" 269 51 12).take 68)
noncomputable def hq(p:gq):BT:=nS 11 ((hk p "framerune.kinds" 269 68 63).take 215)
noncomputable def kL(p:gq):BT:=nS 11 ((hk p "framerune.store" 648 90 87).take 299)
noncomputable def lR(p:gq):BT:=nS 11 ((hk p "framerune.csdeclx" 952 107 138).take 432)
noncomputable def Pf(p:gq):BT:=nS 11 ((hk p "framerune.csbound" 1149 117 165).take 540)
noncomputable def Pg(p:gq):BT:=nS 11 ((hk p "framerune.kindrel" 1322 121 177).take 638)
noncomputable def Ph(p:gq):BT:=nS 11 ((hk p "law_hb0001_01" 1409 133 213).take 762)
noncomputable def cl(p:gq):B (av×fO):=hk p "law_hb0001_01" 1409 133 213
noncomputable def EK:C→B (av×fO)→kk
 |_,[]=>[]
 |i,(b,o)::l=>bif b then(i,o)::EK (i+1) l else EK (i+1) l
noncomputable def k6(p:gq):Frag:=EK 0 (cl p)
noncomputable def a3(l:B fO):Heap:=⟨⟨l⟩,⟨[],[],[],0,[],[],false,⟨[]⟩,[],0,false,false,false,0,[2000,10,10],false,0,true,[],[],0,false⟩⟩
noncomputable def Lq(p:gq):Heap:=a3 (((hl p (boot_o_2 p) (boot_o_3 p) (c5 [])).take 15).map (·.2))
noncomputable def uF(p:gq):Heap:=a3 ((cl p).map (·.2))
end Hd
end
section
open PySem PySem.W PySem.Calls PyProof.Rows
namespace Hd
noncomputable def q2:B Stmt:=behindTheImports iN
noncomputable def dQ(i z:C):B Stmt:=(q2.drop i).take z
noncomputable def b3:Env:={scope:=iN.main.scope,locals:=mainNs,globals:=mainNs,cells:=[],code:=.ref 13,frame:=some 14}
noncomputable def hc:Code:=.body q2 b3
noncomputable def fw:Pos:=⟨0,0,0,0⟩
noncomputable def w1:Y Value:=some (.ref 6)
noncomputable def y4(t:gq→BT)(z k:C)(w:eY)(os:jB):SharedT:=⟨t w.params,z,{},⟨[]⟩,{},k,os⟩
theorem p9{w:eY}{m b z:C}{Js:Y aw}{s:SharedT}{t:Thread}{r:Y (Flow×SharedT×Code×hb)}(h:agO agP iN w m Js b z s t=r):segRunT t7 iN w m Js b z s t=r:=by
 rw[agu,CE];exact h
noncomputable def p0(a z f:C)(t cB:gq→BT)(k ct m c0:C)(p f2:hb)(w:eY):Prop:=∀os,segRunT t7 iN w 11 w1 1 f (y4 t k m w os) (piecesOf (dQ a z) b3 hc p [t1 fw])=some (.next,y4 cB ct c0 w os,hc,f2)
theorem act(w:eY):p0 0 30 920 ib er 15 66 187 309 fw ⟨38,0,38,7⟩ w:=λ os=>p9 (by kernel_rfl)
theorem acu(w:eY):p0 30 15 530 er eN 66 68 309 393 ⟨38,0,38,7⟩ ⟨53,0,53,12⟩ w:=byRow2 "special-get-raises" (P:=p0 30 15 530 er eN 66 68 309 393 ⟨38,0,38,7⟩ ⟨53,0,53,12⟩) (λ w os=>p9 (by kernel_rfl)) (λ w os=>p9 (by kernel_rfl)) w
theorem acv(w:eY):p0 45 17 786 eN hq 68 215 393 585 ⟨53,0,53,12⟩ ⟨191,0,193,42⟩ w:=λ os=>p9 (by kernel_rfl)
theorem acw(w:eY):p0 62 23 819 hq kL 215 299 585 780 ⟨191,0,193,42⟩ ⟨281,0,297,23⟩ w:=λ os=>p9 (by kernel_rfl)
theorem acx(w:eY):p0 85 19 764 kL lR 299 432 780 984 ⟨281,0,297,23⟩ ⟨391,0,405,86⟩ w:=λ os=>p9 (by kernel_rfl)
theorem acy(w:eY):p0 104 12 797 lR Pf 432 540 984 1151 ⟨391,0,405,86⟩ ⟨485,0,485,8⟩ w:=λ os=>p9 (by kernel_rfl)
theorem acz(w:eY):p0 116 7 892 Pf Pg 540 638 1151 1324 ⟨485,0,485,8⟩ ⟨549,0,549,8⟩ w:=λ os=>p9 (by kernel_rfl)
theorem acA(w:eY):p0 123 13 742 Pg Ph 638 762 1324 1495 ⟨549,0,549,8⟩ ⟨670,0,701,86⟩ w:=λ os=>p9 (by kernel_rfl)
theorem XI(w:eY)(os:jB):topGo t7 iN w 11 w1 12 ⟨t0 w.params,⟨[]⟩,boot_drawn,boot_toks,os⟩ (topStub iN)=some (⟨Lq w.params,⟨[]⟩,{},187,os⟩,⟨denote t7 hc,hc,fw,[t1 fw]⟩):=by
 rw[agD,agy,CE]
 kernel_rfl
theorem Xv(w:eY)(os:jB):segRun t7 iN w 11 w1 1 1 ⟨Lq w.params,⟨[]⟩,{},187,os⟩ (blockOf q2 b3 hc fw [t1 fw])=some (.next,(y4 ib 15 187 w os).abs,hc,fw):=by
 rw[agB,CE]
 kernel_rfl
theorem Eg(w:eY)(os:jB):topRun t7 iN w 11 w1 2 (y4 Ph 762 1495 w os).abs ⟨doneF .next,hc,⟨670,0,701,86⟩,[t1 fw]⟩=some ⟨uF w.params,⟨[]⟩,{},1495,os⟩:=by
 rw[agA,CE]
 kernel_rfl
theorem Uh:q2=dQ 0 30++(dQ 30 15++(dQ 45 17++(dQ 62 23++(dQ 85 19++(dQ 104 12++(dQ 116 7++(dQ 123 13++[]))))))):=by kernel_rfl
theorem sK(w:eY)(os:jB):topRun t7 iN w 11 w1 (12+(1+(920+(530+(786+(819+(764+(797+(892+(742+2)))))))))) ⟨t0 w.params,⟨[]⟩,boot_drawn,boot_toks,os⟩ (topStub iN)=some ⟨uF w.params,⟨[]⟩,{},1495,os⟩:=by
 refine go_top (XI w os) (piece_block (b:=q2) (env:=b3) (q:=fw) (Xv w os) ?_)
 rw[show restOf q2 b3 hc fw [t1 fw]=restOf (dQ 0 30++(dQ 30 15++(dQ 45 17++(dQ 62 23++(dQ 85 19++(dQ 104 12++(dQ 116 7++(dQ 123 13++[])))))))) b3 hc fw [t1 fw]from an (λ b=>restOf b b3 hc fw [t1 fw]) Uh]
 exact r' (sa (act w os)) (r' (sa (acu w os)) (r' (sa (acv w os)) (r' (sa (acw w os)) (r' (sa (acx w os)) (r' (sa (acy w os)) (r' (sa (acz w os)) (r' (sa (acA w os)) (Eg w os))))))))
end Hd
end
section
open PySem PySem.W PySem.Calls PyProof.Rows
namespace Hd
noncomputable def f6:Program:={iN with main:={iN.main with body:=((ck 136).filter λ i=>!([6,10,68,98,101,111,115,117,120,122,124].contains i)).map pH}}
noncomputable def i2:B Str:=["PRIM_TID","TID_PRIM"]
noncomputable def dx(w:eY)(os:jB):Shared:=⟨uF w.params,⟨[]⟩,{},1495,os⟩
noncomputable def has:B Addr:=(k6 {strHash:=λ _=>0,shareClass:=id,mergeTok:=id,idOf:=λ _=>0,idOfShared:=λ _ _=>0,followText:=λ _=>true,idOfImm:=λ _=>0}).map (·.1)
theorem Yb:opening iN=plainProg iN.main.scope.names:=by kernel_rfl
theorem Yc(s:a2):fenceModules? iN s=some s:=by kernel_rfl
theorem Yl(w:eY):((t0 w.params).isNs lx&&(⟨[]⟩:gR GenState).size==0,(t0 w.params).objs.size,(t0 w.params).nsMap lx "__annotations__")=(true,11,some (.ref 6)):=by kernel_rfl
theorem rq(w:eY)(os:jB):(staticsOk (I1 iN.main.body) (t0 w.params) (uF w.params)&&namesBound iN (uF w.params)&&gensDone (dx w os)&&laidKept (t0 w.params) (uF w.params))=true:=by
 rw[RY];kernel_rfl
theorem u2(w:eY)(os:jB):seen ((recsOf f6).map (·.name)) (ownsOf f6) [] {dx w os with gens:=#[]}=expectedOf f6:=by
 rw[agI,RX,agJ];kernel_rfl
theorem Z1(w:eY)(os:jB):(dx w os).heap.bltView=bltViewBooted:=by kernel_rfl
theorem Z3(w:eY)(os:jB):tabsOk f6 (dx w os)=true:=by rw[agH];kernel_rfl
end Hd
end
section
open PySem PySem.W PySem.Calls PyProof.Rows
namespace Hd
noncomputable def z3(s:a2):Bool:=xlAt f6 [] s&&recOk qV.row.records s
theorem Z2(w:eY)(os:jB):((dx w os).heap.keysOk (CG f6 i2) ((recsOf f6).map (·.name)) ((litsOf f6).map (·.1)) ((clssOf f6 (CG f6 i2)).map (·.name))&&(dx w os).heap.accountedOkI (I1 iN.main.body)&&(dx w os).heap.isNs lx&&(dx w os).heap.isNs CH&&tablesOk f6 (dx w os).heap&&z3 (dx w os)&&(dx w os).gens.size==0)=true:=by
 rw[agv,RZ,RX,agM,agz,agC,RY,agw]
 kernel_rfl
theorem Z4(w:eY)(os:jB):pinSeenD f6 (drecsOf f6) (dx w os)=pinGoodD (drecsOf f6):=by
 rw[agE,agG];kernel_rfl
theorem Z5(w:eY)(os:jB):plainSeenE f6 (CG f6 i2) (dx w os)=plainGoodE f6 (CG f6 i2):=by
 rw[agF,RZ];kernel_rfl
theorem Z6(w:eY)(os:jB):plainSeenD f6 i2 (dx w os)=plainGoodD f6 i2:=by
 rw[agx];kernel_rfl
theorem Z7(w:eY)(os:jB):wideSeen f6 (dx w os)=wideGood f6:=by
 rw[agK];kernel_rfl
theorem Z8(w:eY)(os:jB):clsSeenW f6 i2 (dx w os)=clsGoodW f6 i2:=by
 rw[agL];kernel_rfl
theorem Xq(P:gq):has=(k6 P).map (·.1):=by kernel_rfl
noncomputable def pe:Hook:=kHook k6 has Xq
theorem Z9(w:eY)(os:jB):pe.obs (dx w os)=pe.val w:=by kernel_rfl
theorem Xy:(chainsOk f6&&opensWell qV.row.prog&&(frees qV.row.toRowW&&qV.row.within.isEmpty))=true:=by kernel_rfl
end Hd
end
section
open PySem PySem.W PySem.Calls PyProof.Rows
namespace Hd
theorem Yh:OpenLaw.wellSaid qV=true:=by
 rw[agN];kernel_rfl
theorem Yj(w:eY)(os:jB):openSeen f6 i2 (I1 iN.main.body) z3 true (dx w os)=openGood f6 i2:=
 p2 (u2 w os) (p2 (Z1 w os) (p2 (Z2 w os) (p2 (Z3 w os) (p2 (Z4 w os) (p2 (Z5 w os) (p2 (Z6 w os) (p2 (Z7 w os) (Z8 w os))))))))
theorem XW:LeftO iN f6 i2 z3 pe.obs pe.val 12610:=
 LeftO.of_pieces (boot_open Yb rfl Yc) Yl sK rfl λ w=>funext λ os=>p2 (rq w os) (p2 (Yj w os) (Z9 w os))
end Hd
end
section
open PySem PySem.W PySem.Calls PyProof.Rows
namespace Hd
noncomputable def XC:DefRec:=match pH 135 with
 | .FunctionDef z a b _ _ _ s _ _ p=>⟨z,a,b,s,p⟩
 |_=>⟨"",⟨[],[],none,[],[],none,[]⟩,[],⟨.function,[],false,false,[]⟩,fw⟩
theorem a1(afT:WalkO f6 i2 (XL f6 []) pe.says qV.row.toRowW XC [] λ f ar=>PySem.call f ar):qV.Holds:=
 holds_law Yh λ adL=>holds_open (q:=f6) (loose:=i2) (Xt:=z3) (XP:=XL f6 []) (Yf:=pe.obs) (Ya:=pe.val) (YP:=pe.says) (N:=12610) XW pe.of pe.keeps (λ _ e=>xl_of _ (dI.mp e).1) XL.keeps
  (by kernel_rfl) (by kernel_rfl) (by kernel_rfl) (λ _ e=>recFacts_of (dI.mp e).2) rfl adL Xy ⟨rfl,rfl,rfl,rfl,rfl,by decide+kernel⟩ ⟨[WData.list []],by decide+kernel,by decide+kernel⟩ afT
end Hd
end
section
open PySem PySem.W PyProof.Rows
namespace Mine
variable{V f:C}
theorem Ma(h:xg V=some f):V<10:=by
 unfold xg at h
 split at h<;>first|omega|cases h
theorem aaO{m:C}(h:E8 V m=some f):(V,m,f)∈ [(0,75,1),(0,76,2),(9,9,12),(9,7,13)]:=by
 unfold E8 at h
 split at h<;>first| (cases h;decide)|cases h
theorem Wz(h:wT V f=true):V<10∧f<jC.length:=by
 unfold wT at h
 have bV:V<zN.length:=by
  rcases Ck V zN.length with q|q
  ·exact q
  ·rw[jx,B8 q]at h;cases h
 refine⟨bV,?_⟩
 rw[jx,h1 bV]at h
 have all:(zN.all λ l=>l.all λ f=>decide (f<jC.length))=true:=by decide+kernel
 have:=g9.mp (g9.mp all _ (yF bV)) f (by simpa using h)
 exact gh this
noncomputable def U3(K:kk):Bool:=(ck 10).all λ V=>Dr K (su V)
noncomputable def YT(K:kk):Bool:=(ck 10).all λ V=>match xg V with
 |some f=>oT K (.ref (su V)) "__init__"==some (some (.ref (nY f)))&&wk K (.ref (nY f))==some (.type "function")
 |none=>true
noncomputable def Wx(K:kk):Bool:=(ck 10).all λ V=>(ck jC.length).all λ f=>!wT V f||oT K (.ref (su V)) (gJ jC f)==some none
theorem U4(P:gq):U3 (Hd.k6 P)=true:=by kernel_rfl
theorem YU(P:gq):YT (Hd.k6 P)=true:=by kernel_rfl
theorem Wy(P:gq):Wx (Hd.k6 P)=true:=by kernel_rfl
theorem aa4:jC.Nodup:=by decide+kernel
end Mine
end
section
open PySem PySem.W PyProof.Rows
namespace Mine
variable{aI:dD}{ow:C}{l:a8}{ar:B aw}{ns:B am}{A:eB}{yP:Flow→a2→Prop}{name:aL}{scope:gb}{aK:a8}{cd:aw}{i':B ft}{m:aL→Y aw}
noncomputable def aaM(K:kk):Bool:=[(0,75,1),(0,76,2),(9,9,12),(9,7,13)].all λ(V,m,f)=>oT K (.ref (su V)) (gJ jC m)==some (some (.ref (nY f)))&&wk K (.ref (nY f))==some (.type "function")&&yU K (.ref (nY f))
theorem aaN(P:gq):aaM (Hd.k6 P)=true:=by kernel_rfl
theorem ae3{f:C}{d:oJ}(h:ac.fns f=some d):f<63:=Nat.lt_of_not_le λ q=>
 let⟨k,e⟩:=Nat.exists_eq_add_of_le' q
 nomatch(show none=some d from(an DK e).symm.trans h)
theorem WF(P:gq):((ck 63).all λ f=>zP (Hd.k6 P) f)=true:=by kernel_rfl
theorem WD(P:gq):∀f d,ac.fns f=some d→zP (Hd.k6 P) f=true:=λ f _ h=>g9.mp (WF P) f (f'.mpr (ae3 h))
theorem S3:∀f g,f<jC.length→g<jC.length→gJ jC f=gJ jC g→f=g:=by
 intro f g cl i0 h
 unfold gJ at h
 have:=yc h
 rw[jx,jx,h1 cl,h1 i0]at this
 have nd:=List.pairwise_iff_getElem.mp aa4
 rcases Nat.lt_trichotomy f g with q|q|q
 ·exact absurd this (nd f g cl i0 q)
 ·exact q
 ·exact absurd this.symm (nd g f i0 cl q)
theorem Dn{uj:aL→Y aw}:∀{e4:B (aL×a8)} {cells:B (a8×fO)} {x:aL} {q:a8},CellsAre uj e4 cells→(x,q)∈e4→∃o,(q,o)∈cells∧o.data= .cell (uj x)
 |_,_,x,q,.nil,h=>(nomatch h)
 |_,_,x,q,.cons ax aH,h=>by
  rcases kg.mp h with e|h
  ·cases e;exact⟨_,.head _,ax⟩
  ·obtain⟨o,be,a1⟩:=Dn aH h
   exact⟨o,.tail _ be,a1⟩
theorem Jx:∀{e4:B (aL×a8)} {x y:aL} {q:a8},(e4.map (·.2)).Nodup→(x,q)∈e4→(y,q)∈e4→x=y
 |p::r,x,y,q,cy,ax,aH=>by
  rw[oL,nF]at cy
  rcases kg.mp ax with au|ax<;>rcases kg.mp aH with aB|aH
  ·rw[←aB]at au;exact(Prod.mk.inj au).1
  ·exact absurd (ht.mpr ⟨_,aH,by rw[←au]⟩) cy.1
  ·exact absurd (ht.mpr ⟨_,ax,by rw[←aB]⟩) cy.1
  ·exact Jx cy.2 ax aH
section
variable{w:eY}{aJ:a2}{qo pq:aL→Y aw}{p:lu}{loose:B aL}{u8:ExcName→Y aw}{prog:lu}
noncomputable def p'(prog:lu)(w:eY)(aJ:a2):cV:=⟨prog,w,aJ.heap,aJ.os,Hd.k6 w.params,su,ac⟩
theorem abV(v9:(Hd.k6 w.params).In aJ.heap)(T:Top p loose u8 qo pq aJ.heap):jA (p' prog w aJ) jC where
 K:=v9
 lim:=T.nolimit
 cls:=λ V bV=>by
  obtain⟨f,cl⟩:=oR.mp bV
  have:=g9.mp (U4 w.params) V (f'.mpr (Ma cl))
  exact this
 fld:=λ V f cl=>by
  obtain⟨ax,aH⟩:=Wz cl
  have:=g9.mp (g9.mp (Wy w.params) V (f'.mpr ax)) f (f'.mpr aH)
  rw[show wT V f=true from cl]at this
  simp only[Bool.not_true,Qn,jj]at this
  exact⟨aH,this⟩
 names:=S3
theorem Lj(T:Top p loose u8 qo pq aJ.heap):v5 (p' prog w aJ):=⟨qo,pq,T.g,T.b,T.builtins⟩
theorem Nj:Ch (p' prog w aJ) jC nY where
 i4:=λ V f cl=>by
  have:=g9.mp (YU w.params) V (f'.mpr (Ma cl))
  rw[show xg V=some f from cl]at this
  simp only[jW,jj]at this
  exact this
 ps:=λ V m f cl=>by
  have:=g9.mp (aaN w.params) _ (aaO cl)
  simp only[jW,jj]at this
  exact⟨this.1.1,this.1.2,this.2⟩
theorem WE:∀f d,(p' prog w aJ).P.fns f=some d→BZ (p' prog w aJ) jC nY f d:=λ f d h=>WC h rfl (WD w.params f d h)
theorem Mb:∀{ar:B aw} {ns:B am},Cv ar ns→tK ns ar
 |_,_,.nil=>rfl
 |_,_,.cons z t h=>⟨t,_,rfl,Mb h⟩
noncomputable def qi:oJ:=(DK 62).getD ⟨0,0,[],.nil⟩
noncomputable def B3:Prop:=∀ns:B am,ns.length≤63→nr ac (sv ac 100) qi.body (some (.fu ns)::dw 16 none) (λ _ _=>False) (λ v _=>v= .cj true) []
theorem Ze{ab:aw→a2→Prop}{cells:B (a8×fO)}
  (v9:(Hd.k6 w.params).In aJ.heap)(T:Top p loose u8 qo pq aJ.heap)(i0:aJ.gens= #[])(hl:aJ.heap.get? l=some {cls:=.type "list",data:=.seq ar.toArray})(dj:Cv ar ns)(i1:ns.length≤63)
  (F:Fr aJ.heap aJ.heap.objs.size aI m)(N:News aJ.heap aJ.heap.objs.size aI cells)(uj:aL→Y aw)(X:CellsAre uj (yX (aJ.heap.objs.size+1) scope.names []) cells)(hm:m (st [115,99,114,105,112,116])=some (.ref l))
  (hk:scope.kind= .function)(hs:scope.names.lookup (st [115,99,114,105,112,116])=some .local)(Xo:((yX (aJ.heap.objs.size+1) scope.names []).map (·.2)).Nodup)
  (ok:pw (Dq (Hd.k6 w.params)) qi.body scope (my qi) i'=true)(hA:iD A 100)(M:B3)
  (hpost:∀a9,(∀b o,aJ.heap.get? b=some o→a9.heap.get? b=some o)→a9.gens= #[]→a9.os=aJ.os→yP (.ret (.bool true)) a9):
  bg (bc prog w) A (execs i' (Cw name scope aJ.heap.objs.size aK cd)) yP ab {aJ with heap:=aI,toks:=ow}:=by
 have bL:jA (p' prog w aJ) jC:=abV v9 T
 have Z:hJ (p' prog w aJ) jC nY 100 (sv ac 100):=⟨bL,Lj T,Nj,O0 bL (Lj T) Nj WE 100⟩
 have I:Inv (p' prog w aJ) jC [] [] {aJ with heap:=aI,toks:=ow}:=by
  refine⟨F.keep,λ b f=>?_,rfl,λ i j p q e=>by simp at e,λ i p o e=>by simp at e,i0,rfl,λ b f=>?_,?_⟩
  ·obtain⟨p,bM,_⟩:=f;cases bM
  ·obtain⟨p,bM,_⟩:=f;cases bM
  ·obtain⟨aaD,⟨o,O,hK,e,_⟩,_⟩:=T.nolimit
   exact⟨cStatics,o,by decide,e⟩
 have cell:∀x q,(yX (aJ.heap.objs.size+1) scope.names []).lookup x=some q→∃v,aI.IsCell q v:=by
  intro x q e
  have X3:=mem_of_lookup e
  obtain⟨o,be,a1⟩:=Dn X X3
  exact⟨_,o,(N _ be).1,a1⟩
 have new:∀x q,(yX (aJ.heap.objs.size+1) scope.names []).lookup x=some q→aJ.heap.get? q=none:=by
  intro x q e
  obtain⟨o,be,a1⟩:=Dn X (mem_of_lookup e)
  exact(N _ be).2.2
 have cC:aJ.heap.get? aJ.heap.objs.size=none:=nZ λ _ _ e=>e
 have Qz:c9 (p' prog w aJ) (my qi) [] (some (.fu ns)::dw 16 none) (Cw name scope aJ.heap.objs.size aK cd) aI m:=by
  refine⟨hk,rfl,rfl,rfl,F.ns,λ x q e=>cell x q e,λ x y q au aB=>?_,λ b o f=>?_,λ b o=>?_,GS (by decide+kernel),λ x e=>IU _ _ _ (.inl e),λ i x a aA bO=>?_⟩
  ·exact Jx Xo (mem_of_lookup au) (mem_of_lookup aB)
  ·obtain⟨p,bM,_⟩:=f;cases bM
  ·rcases o with rfl| ⟨x,e⟩
   ·exact cC
   ·exact new x b e
  ·cases i with
   |zero=>
    have au:x=st [115,99,114,105,112,116]:=by
     have:(my qi:B (Y aL))[0]? =some (some (st [115,99,114,105,112,116])):=by rfl
     rw[this]at aA;cases aA;rfl
    subst au
    simp only[yB,yO]at bO
    subst bO
    exact⟨_,⟨l,rfl,_,0,hl,by simpa using Mb dj⟩,.inl ⟨hs,hm⟩⟩
   |succ i=>
    rw[QX,HS]at bO
    split at bO<;>cases bO
 refine fa (sm Z qi.body i' (my qi) _ (Cw name scope aJ.heap.objs.size aK cd) [] [] {aJ with heap:=aI,toks:=ow} m A ab (λ _ _=>False) (λ v _=>v= .cj true) ok Qz I hA (M ns i1)) (λ f a9 az=>?_) λ _ _ y=>y
 cases f with
 |next=>obtain⟨_,_,_,_,q,_⟩:=az;exact q.elim
 |ret v=>
  obtain⟨a,bv,J,rfl,hF,ey,fA⟩:=az
  simp only[bA]at hF
  subst hF
  exact hpost a9 ey.base ey.gens ey.os
 |_=>exact az.elim
theorem Zf{ab:aw→a2→Prop}{o:fO}{v:Y aw}{x:aL}
  (F:Fr aJ.heap aJ.heap.objs.size aI m)(N:News aJ.heap aJ.heap.objs.size aI [(aJ.heap.objs.size+1,o)])(XA:o.data= .cell v)
  (v9:(Hd.k6 w.params).In aJ.heap)(T:Top p loose u8 qo pq aJ.heap)(i0:aJ.gens= #[])(kO:Well w.params aJ.heap (.ref l) (ofPy (.list (ns.map .int))))(cC:aJ.heap.IsList l ar.toArray)(dj:Cv ar ns)(i1:¬((63:C):am)< (ns.length:am))
  (hm:m (st [115,99,114,105,112,116])=some (.ref l))
  (hc:yX (aJ.heap.objs.size+1) scope.names []=[(x,aJ.heap.objs.size+1)])
  (hk:scope.kind= .function)(hs:scope.names.lookup (st [115,99,114,105,112,116])=some .local)
  (ok:pw (Dq (Hd.k6 w.params)) qi.body scope (my qi) i'=true)(hA:iD A 100)(M:B3)
  (hpost:∀a9,(∀b o,aJ.heap.get? b=some o→a9.heap.get? b=some o)→a9.gens= #[]→a9.os=aJ.os→yP (.ret (.bool true)) a9):
  bg (bc prog w) A (execs i' (Cw name scope aJ.heap.objs.size aK cd)) yP ab {aJ with heap:=aI,toks:=ow}:=by
 have hl:aJ.heap.get? l=some {cls:=.type "list",data:=.seq ar.toArray}:=by
  obtain⟨o,be,_,z,X'⟩:=cC
  generalize aA:ofPy (.list (ns.map .int))=d at kO
  cases kO with
  |list ax aH=>
   rw[be]at ax
   cases ax
   cases X'
   exact be
  |_=>unfold ofPy at aA;cases aA
 exact Ze v9 T i0 hl dj (by omega) F N (λ _=>v) (by rw[hc];exact .cons XA .nil) hm hk hs (by rw[hc];simp) ok hA M hpost
end
theorem o6(env:eg):iD (callerA.deeper env) 100:=⟨rfl,by show 1+claimMargin+1+4*100+3<CM;decide,by show 4+3+12*100+309<kX;decide⟩
theorem W5{c:ClaimW}{e4:aL→Y a8}{u8:ExcName→Y aw}{b6:B WData}{aJ a9:a2}(k:∀b o,aJ.heap.get? b=some o→a9.heap.get? b=some o)(i0:a9.gens= #[])(mg:a9.os=aJ.os)
  (cy:∀cls,c.raises b6 cls=false)(bM:c.post b6 (.bool true) b6=true):GoodW c e4 u8 b6 aJ (.ok (.ret (.bool true))) a9:=
 ⟨.inl ⟨.bool true,.bool true,[],rfl,cy,.bool true,bM,unshared_nil⟩,k,mg,i0⟩
end Mine
end
section
open PySem PySem.W PyProof.Rows
namespace Mine
local macro_rules | `(tactic|k_qdec)=>`(tactic|decide+kernel)
theorem hL(M:B3):qV.Holds:=Hd.a1 (by
 k_go0
 refine Zf (x:=IP "store") ‹_› ‹_› ‹_› ‹_› ‹Top _ _ _ _ _ _› ‹_› ‹Well _ _ _ _› ‹_› ‹Cv _ _› ‹_› ?hm ?hc ?hk ?hs ?ok ?hA M ?hpost
 case hm=>rfl
 case hc=>rfl
 case hk=>rfl
 case hs=>rfl
 case ok=>kernel_rfl
 case hA=>exact o6 _
 case hpost=>
  intro a9 hk i0 be
  exact W5 hk i0 be (λ _=>by first|rfl|kernel_rfl) (by first|kernel_rfl|decide))
end Mine
end
section
namespace Mine
noncomputable abbrev jf:=C→B D→St→Y (D×St)
inductive eZ where
 |br (env:aX)
 |f3 (v:D)
noncomputable def e0(a:D)(l:B D):qL (live a l):=λ n=>match a with
 | .ref _=>Classical.propDecidable _
 | .nn=>.isTrue trivial
 | .cj _=>.isTrue trivial
 | .ii _=>.isTrue trivial
 | .ss _=>.isTrue trivial
 | .tup _=>.isTrue trivial
 | .ew _ _=>.isTrue trivial
 | .cd _=>.isTrue trivial
 | .fu _=>.isTrue trivial
noncomputable def lE(dq:St→Prop)[qL dq](step:D→St→Y (B D×St)):B D→B D→St→Y (B D×St)
 | [],acc,n=>if dq n then some (acc,n)else none
 |x::r,acc,n=>if dq n then(step x n).bind λ p=>lE dq step r (acc++p.1) p.2 else none
noncomputable def fC(dq:St→Prop)[qL dq](step:D→aX→St→Y (eZ×St)):B D→aX→St→Y (eZ×St)
 | [],env,n=>if dq n then some (.br env,n)else none
 |x::r,env,n=>if dq n then(step x env n).bind λ p=>match p.1 with
  | .br aF=>fC dq step r aF p.2
  | .f3 v=>some (.f3 v,p.2)else none
noncomputable def oA(lS:aX→St→Y (av×St))(body:aX→St→Y (eZ×St)):C→aX→St→Y (eZ×St)
 |0,_,_=>none
 |z+1,env,n=>(lS env n).bind λ p=>if p.1=true then(body env p.2).bind λ q=>match q.1 with
   | .br aF=>oA lS body z aF q.2
   | .f3 v=>some (.f3 v,q.2)
  else some (.br env,p.2)
section
variable(P:iV)(V:jf)
mutual
noncomputable def ci:ab→aX→St→Y (D×St)
 | .nn,_,n=>some (.nn,n)
 | .cj b,_,n=>some (.cj b,n)
 | .ii i,_,n=>some (.ii i,n)
 | .ss s,_,n=>some (.ss s,n)
 | .v x,env,n=>(env[x]?.join).bind λ a=>some (a,n)
 | .gl _ val,_,n=>some (val,n)
 | .bin op a b,env,n=>(ci a env n).bind λ p=>(ci b env p.2).bind λ q=>(fF op p.1 q.1).bind λ r=>some (r,q.2)
 | .qz a b,env,n=>(ci a env n).bind λ p=>(ci b env p.2).bind λ q=>(xZ p.1 q.1).bind λ r=>some (r,q.2)
 | .pD a b,env,n=>(ci a env n).bind λ p=>(ci b env p.2).bind λ q=>(vs q.2 p.1 q.1).bind λ r=>some (.ref q.2.length,q.2++[.li r])
 | .neg a,env,n=>(ci a env n).bind λ p=>(xE p.1).bind λ r=>some (r,p.2)
 | .and O,env,n=>A1 O env n
 | .or O,env,n=>xY O env n
 | .cmp op a b,env,n=>(ci a env n).bind λ p=>(ci b env p.2).bind λ q=>(cY op p.1 q.1 q.2).bind λ r=>some (.cj r,q.2)
 | .ite t a b,env,n=>(fr t env n).bind λ p=>if p.1=true then ci a env p.2 else ci b env p.2
 | .tup O,env,n=>(oq O env n).bind λ p=>if p.1.length≤1000 then some (.tup p.1,p.2)else none
 | .lst O,env,n=>(oq O env n).bind λ p=>if p.1.length≤1000 then some (.ref p.2.length,p.2++[.li p.1])else none
 | .m2 ks ar,env,n=>(oq ar env n).bind λ p=>if ks.length=p.1.length then some (.ref p.2.length,p.2++[.ds (ks.zip p.1)])else none
 | .o' ks ar,env,n=>(oq ar env n).bind λ p=>if ks.length=p.1.length then some (.ref p.2.length,p.2++[.cq (ks.zip p.1)])else none
 | .eP .i,_,n=>some (.ref n.length,n++[.cq []])
 | .eP .s,_,n=>some (.ref n.length,n++[.ds []])
 | .eP .t,_,n=>some (.ref n.length,n++[.h8 []])
 | .at a f,env,n=>(ci a env n).bind λ p=>(d7 p.2 p.1 f).bind λ r=>some (r,p.2)
 | .aq a i,env,n=>(ci a env n).bind λ p=>(ci i env p.2).bind λ q=>(dd q.2 p.1 q.1).bind λ r=>some (r,q.2)
 | .lh a i,env,n=>(ci a env n).bind λ p=>(ci i env p.2).bind λ q=>(uw q.2 p.1 q.1).bind λ r=>some (.ref q.2.length,q.2++[.li r])
 | .mE a i,env,n=>(ci a env n).bind λ p=>(ci i env p.2).bind λ q=>(rQ q.2 p.1 q.1).bind λ r=>some (sZ q.2 r)
 | .rev a,env,n=>(ci a env n).bind λ p=>(uZ p.2 p.1).bind λ l=>some (.ref p.2.length,p.2++[.li l.reverse])
 | .comp b7 xs many bb eo,env,n=>(ci bb env n).bind λ p=>(hQ p.2 p.1).bind λ l=>if l.length≤100000 then
   (@lE (live p.1 l) (e0 p.1 l) (λ x ao=>(dh many xs x env).bind λ aF=>(ho eo aF ao).bind λ q=>if q.1=true then(ci b7 aF q.2).bind λ r=>some ([r.1],r.2)else some ([],q.2)) l [] p.2).bind λ q=>
    some (.ref q.2.length,q.2++[.li q.1])
   else none
 | .call f b6,env,n=>(oq b6 env n).bind λ p=>V f p.1 p.2
 | .new c b6,env,n=>(P.i4 c).bind λ f=>(oq b6 env n).bind λ p=>(V f (.ref p.2.length::p.1) (p.2++[.bF c []])).bind λ q=>match q.1 with
   | .nn=>some (.ref p.2.length,q.2)
   |_=>none
 | .hi o m b6,env,n=>(ci o env n).bind λ p=>(ms P p.2 m p.1).bind λ f=>(oq b6 env p.2).bind λ q=>V f (p.1::q.1) q.2
 | .len a,env,n=>(ci a env n).bind λ p=>(k' p.2 p.1).bind λ z=>some (.ii z,p.2)
 | .ja a,env,n=>(ci a env n).bind λ p=>(rN p.2 p.1).bind λ r=>some (r,p.2)
 | .sorted a,env,n=>(ci a env n).bind λ p=>(vD p.2 p.1).bind λ r=>some (.ref p.2.length,p.2++[.li r])
 | .strOf a,env,n=>(ci a env n).bind λ p=>(ye p.1).bind λ r=>some (r,p.2)
 | .gP a,env,n=>(ci a env n).bind λ p=>(ot p.1).bind λ r=>some (r,p.2)
 | .pE a b,env,n=>(ci a env n).bind λ p=>(ci b env p.2).bind λ q=>(vx p.1 q.1).bind λ r=>some (r,q.2)
 | .append o x,env,n=>(ci o env n).bind λ p=>if mk p.2 p.1=true then(ci x env p.2).bind λ q=>(l7 q.2 p.1 q.1).bind λ J=>some (.nn,J)else none
 | .m1 o k d,env,n=>(ci o env n).bind λ p=>if rg p.2 p.1=true then(ci k env p.2).bind λ q=>(ci d env q.2).bind λ r=>(uD r.2 p.1 q.1 r.1).bind λ v=>some (v,r.2)else none
 | .bad,_,_=>none
noncomputable def oq:d6→aX→St→Y (B D×St)
 | .nil,_,n=>some ([],n)
 | .cons e r,env,n=>(ci e env n).bind λ p=>(oq r env p.2).bind λ q=>some (p.1::q.1,q.2)
noncomputable def A1:d6→aX→St→Y (D×St)
 | .nil,_,_=>none
 | .cons e .nil,env,n=>ci e env n
 | .cons e (.cons bC r),env,n=>(ci e env n).bind λ p=>(ic p.2 p.1).bind λ b=>if b=true then A1 (.cons bC r) env p.2 else some (p.1,p.2)
noncomputable def xY:d6→aX→St→Y (D×St)
 | .nil,_,_=>none
 | .cons e .nil,env,n=>ci e env n
 | .cons e (.cons bC r),env,n=>(ci e env n).bind λ p=>(ic p.2 p.1).bind λ b=>if b=true then some (p.1,p.2)else xY (.cons bC r) env p.2
noncomputable def fr:T→aX→St→Y (av×St)
 | .e a,env,n=>(ci a env n).bind λ p=>(ic p.2 p.1).bind λ b=>some (b,p.2)
 | .g4 t,env,n=>(fr t env n).bind λ p=>some (!p.1,p.2)
 | .and bE,env,n=>ho bE env n
 | .or bE,env,n=>A2 bE env n
 | .cmp op a b,env,n=>(ci a env n).bind λ p=>(ci b env p.2).bind λ q=>(cY op p.1 q.1 q.2).bind λ r=>some (r,q.2)
noncomputable def ho:fb→aX→St→Y (av×St)
 | .nil,_,n=>some (true,n)
 | .cons t r,env,n=>(fr t env n).bind λ p=>if p.1=true then ho r env p.2 else some (false,p.2)
noncomputable def A2:fb→aX→St→Y (av×St)
 | .nil,_,n=>some (false,n)
 | .cons t r,env,n=>(fr t env n).bind λ p=>if p.1=true then some (true,p.2)else A2 r env p.2
end
mutual
noncomputable def jS:S→aX→St→Y (eZ×St)
 | .asg x e,env,n=>(ci P V e env n).bind λ p=>some (.br (iO env x p.1),p.2)
 | .oZ xs e,env,n=>(ci P V e env n).bind λ p=>(dh true xs p.1 env).bind λ aF=>some (.br aF,p.2)
 | .cc o f e,env,n=>(ci P V e env n).bind λ p=>(ci P V o env p.2).bind λ q=>(lg P q.2 q.1 f p.1).bind λ J=>some (.br env,J)
 | .gI o i e,env,n=>(ci P V e env n).bind λ p=>(ci P V o env p.2).bind λ q=>(ci P V i env q.2).bind λ r=>(j9 r.2 q.1 r.1 p.1).bind λ J=>some (.br env,J)
 | .aug x op e,env,n=>(env[x]?.join).bind λ a=>(ci P V e env n).bind λ p=>(kC op a p.1).bind λ r=>some (.br (iO env x r),p.2)
 | .o2 o f op e,env,n=>(ci P V o env n).bind λ p=>(d7 p.2 p.1 f).bind λ a=>(ci P V e env p.2).bind λ q=>(kC op a q.1).bind λ r=>(lg P q.2 p.1 f r).bind λ J=>some (.br env,J)
 | .o3 o i op e,env,n=>(ci P V o env n).bind λ p=>(ci P V i env p.2).bind λ q=>(vv q.2 p.1 q.1).bind λ a=>(ci P V e env q.2).bind λ r=>(kC op a r.1).bind λ b=>(j9 r.2 p.1 q.1 b).bind λ J=>some (.br env,J)
 | .ex e,env,n=>(ci P V e env n).bind λ p=>some (.br env,p.2)
 | .ret e,env,n=>(ci P V e env n).bind λ p=>some (.f3 p.1,p.2)
 | .mC,_,n=>some (.f3 .nn,n)
 | .b4 t a b,env,n=>(fr P V t env n).bind λ p=>if p.1=true then bS a env p.2 else bS b env p.2
 | .pK t b,env,n=>oA (fr P V t) (bS b) 60 env n
 | .dc xs many bb b,env,n=>(ci P V bb env n).bind λ p=>(hQ p.2 p.1).bind λ l=>if l.length≤100000 then
   @fC (live p.1 l) (e0 p.1 l) (λ x aF J=>(dh many xs x aF).bind λ dG=>bS b dG J) l env p.2 else none
 | .bad,_,_=>none
noncomputable def bS:bk→aX→St→Y (eZ×St)
 | .nil,env,n=>some (.br env,n)
 | .cons s r,env,n=>(jS s env n).bind λ p=>match p.1 with
  | .br aF=>bS r aF p.2
  | .f3 v=>some (.f3 v,p.2)
end
end
noncomputable def runN(P:iV):C→jf
 |0,_,_,_=>none
 |z+1,f,b6,n=>(P.fns f).bind λ d=>if b6.length=d.np then(bS P (runN P z) d.body (b6.map some++dw (d.nl-d.np) none) n).bind λ p=>match p.1 with
   | .br _=>some (.nn,p.2)
   | .f3 v=>some (v,p.2)else none
end Mine
end
section
namespace Mine
section
variable(P:iV)(V:jf)
noncomputable def aae(K:D→Prop):Y D→Prop
 |some a=>K a
 |none=>True
noncomputable def Ax(K:D→Prop):C→aX→Prop
 |0,o::_=>aae K o
 |z+1,_::r=>Ax K z r
 |0,[]=>True
 |_+1,[]=>True
noncomputable def yp:av→Prop→Prop
 |true,p=>p
 |false,_=>True
mutual
noncomputable def dO:ab→aX→St→(D→St→Prop)→Prop
 | .nn,_,n,K=>K .nn n
 | .cj b,_,n,K=>K (.cj b) n
 | .ii i,_,n,K=>K (.ii i) n
 | .ss s,_,n,K=>K (.ss s) n
 | .v x,env,n,K=>Ax (λ a=>K a n) x env
 | .gl _ val,_,n,K=>K val n
 | .bin op a b,env,n,K=>dO a env n λ db aa=>dO b env aa λ gG ao=>∀r,fF op db gG=some r→K r ao
 | .qz a b,env,n,K=>dO a env n λ db aa=>dO b env aa λ gG ao=>∀r,xZ db gG=some r→K r ao
 | .pD a b,env,n,K=>dO a env n λ db aa=>dO b env aa λ gG ao=>∀r,vs ao db gG=some r→K (.ref ao.length) (ao++[.li r])
 | .neg a,env,n,K=>dO a env n λ db aa=>∀r,xE db=some r→K r aa
 | .and O,env,n,K=>Fx O env n K
 | .or O,env,n,K=>Fy O env n K
 | .cmp op a b,env,n,K=>dO a env n λ db aa=>dO b env aa λ gG ao=>∀r,cY op db gG ao=some r→K (.cj r) ao
 | .ite t a b,env,n,K=>s3 t env n λ c aa=>match c with|true=>dO a env aa K|false=>dO b env aa K
 | .tup O,env,n,K=>qt O env n λ ar aa=>yp (kj ar.length 1000) (K (.tup ar) aa)
 | .lst O,env,n,K=>qt O env n λ ar aa=>yp (kj ar.length 1000) (K (.ref aa.length) (aa++[.li ar]))
 | .m2 ks ar,env,n,K=>qt ar env n λ ar aa=>yp (ki ks.length ar.length) (K (.ref aa.length) (aa++[.ds (ks.zip ar)]))
 | .o' ks ar,env,n,K=>qt ar env n λ ar aa=>yp (ki ks.length ar.length) (K (.ref aa.length) (aa++[.cq (ks.zip ar)]))
 | .eP .i,_,n,K=>K (.ref n.length) (n++[.cq []])
 | .eP .s,_,n,K=>K (.ref n.length) (n++[.ds []])
 | .eP .t,_,n,K=>K (.ref n.length) (n++[.h8 []])
 | .at a f,env,n,K=>dO a env n λ db aa=>∀r,d7 aa db f=some r→K r aa
 | .aq a i,env,n,K=>dO a env n λ db aa=>dO i env aa λ gG ao=>∀r,dd ao db gG=some r→K r ao
 | .lh a i,env,n,K=>dO a env n λ db aa=>dO i env aa λ gG ao=>∀r,uw ao db gG=some r→K (.ref ao.length) (ao++[.li r])
 | .mE a i,env,n,K=>dO a env n λ db aa=>dO i env aa λ gG ao=>∀r,rQ ao db gG=some r→K (sZ ao r).1 (sZ ao r).2
 | .rev a,env,n,K=>dO a env n λ db aa=>∀l,uZ aa db=some l→K (.ref aa.length) (aa++[.li l.reverse])
 | .comp b7 xs many bb eo,env,n,K=>dO bb env n λ v aa=>∀l,hQ aa v=some l→l.length≤100000→∀out ao,
   @lE (live v l) (e0 v l) (λ x ao=>(dh many xs x env).bind λ aF=>(ho P V eo aF ao).bind λ q=>if q.1=true then(ci P V b7 aF q.2).bind λ r=>some ([r.1],r.2)else some ([],q.2)) l [] aa=some (out,ao)→K (.ref ao.length) (ao++[.li out])
 | .call f b6,env,n,K=>qt b6 env n λ ar aa=>∀r ao,V f ar aa=some (r,ao)→K r ao
 | .new c b6,env,n,K=>∀f,P.i4 c=some f→qt b6 env n λ ar aa=>∀ao,V f (.ref aa.length::ar) (aa++[.bF c []])=some (.nn,ao)→K (.ref aa.length) ao
 | .hi o m b6,env,n,K=>dO o env n λ fx aa=>∀f,ms P aa m fx=some f→qt b6 env aa λ ar ao=>∀r bW,V f (fx::ar) ao=some (r,bW)→K r bW
 | .len a,env,n,K=>dO a env n λ db aa=>∀z,k' aa db=some z→K (.ii z) aa
 | .ja a,env,n,K=>dO a env n λ db aa=>∀r,rN aa db=some r→K r aa
 | .sorted a,env,n,K=>dO a env n λ db aa=>∀r,vD aa db=some r→K (.ref aa.length) (aa++[.li r])
 | .strOf a,env,n,K=>dO a env n λ db aa=>∀r,ye db=some r→K r aa
 | .gP a,env,n,K=>dO a env n λ db aa=>∀r,ot db=some r→K r aa
 | .pE a b,env,n,K=>dO a env n λ db aa=>dO b env aa λ gG ao=>∀r,vx db gG=some r→K r ao
 | .append o x,env,n,K=>dO o env n λ fx aa=>mk aa fx=true→dO x env aa λ yn ao=>∀bW,l7 ao fx yn=some bW→K .nn bW
 | .m1 o k d,env,n,K=>dO o env n λ fx aa=>rg aa fx=true→dO k env aa λ G4 ao=>dO d env ao λ G3 bW=>∀r,uD bW fx G4 G3=some r→K r bW
 | .bad,_,_,_=>True
noncomputable def qt:d6→aX→St→(B D→St→Prop)→Prop
 | .nil,_,n,K=>K [] n
 | .cons e r,env,n,K=>dO e env n λ v aa=>qt r env aa λ ar ao=>K (v::ar) ao
noncomputable def Fx:d6→aX→St→(D→St→Prop)→Prop
 | .nil,_,_,_=>True
 | .cons e .nil,env,n,K=>dO e env n K
 | .cons e (.cons bC r),env,n,K=>dO e env n λ v aa=>∀b,ic aa v=some b→match b with|true=>Fx (.cons bC r) env aa K|false=>K v aa
noncomputable def Fy:d6→aX→St→(D→St→Prop)→Prop
 | .nil,_,_,_=>True
 | .cons e .nil,env,n,K=>dO e env n K
 | .cons e (.cons bC r),env,n,K=>dO e env n λ v aa=>∀b,ic aa v=some b→match b with|true=>K v aa|false=>Fy (.cons bC r) env aa K
noncomputable def s3:T→aX→St→(av→St→Prop)→Prop
 | .e a,env,n,K=>dO a env n λ v aa=>∀b,ic aa v=some b→K b aa
 | .g4 t,env,n,K=>s3 t env n λ b aa=>K (!b) aa
 | .and bE,env,n,K=>FA bE env n K
 | .or bE,env,n,K=>Fz bE env n K
 | .cmp op a b,env,n,K=>dO a env n λ db aa=>dO b env aa λ gG ao=>∀r,cY op db gG ao=some r→K r ao
noncomputable def FA:fb→aX→St→(av→St→Prop)→Prop
 | .nil,_,n,K=>K true n
 | .cons t r,env,n,K=>s3 t env n λ b aa=>match b with|true=>FA r env aa K|false=>K false aa
noncomputable def Fz:fb→aX→St→(av→St→Prop)→Prop
 | .nil,_,n,K=>K false n
 | .cons t r,env,n,K=>s3 t env n λ b aa=>match b with|true=>K true aa|false=>Fz r env aa K
end
end
theorem aR{α c4:Type}{o:Y α}{a:α}{f:α→Y c4}{x:Y c4}(e:o=some a)(h:f a=x):o.bind f=x:=by rw[e];exact h
theorem bb{α:Type}{p:Prop}{d:v1 p}{a b x:α}(h:p)(e:a=x):(if p then a else b)=x:=by rw[if_pos h];exact e
theorem EW{K:D→Prop}:∀(x:C) (env:aX),(∀a,env[x]?.join=some a→K a)→Ax K x env
 |0,some _::_,h=>h _ rfl
 |0,none::_,_=>trivial
 |z+1,_::r,h=>EW z r h
 |0,[],_=>trivial
 |_+1,[],_=>trivial
theorem BC:∀{b:av} {p:Prop},(b=true→p)→yp b p
 |true,_,h=>h rfl
 |false,_,_=>trivial
theorem fu{a b:C}(h:kj a b=true):a≤b:=aE h
theorem JP{a b:C}(h:ki a b=true):a=b:=Nat.eq_of_beq_eq_true h
section
variable{P:iV}{V:jf}
mutual
theorem dT:∀(e:ab) (env:aX) (n:St) {K:D→St→Prop},(∀v J,ci P V e env n=some (v,J)→K v J)→dO P V e env n K
 | .nn,_,_,_,h=>h _ _ rfl
 | .cj _,_,_,_,h=>h _ _ rfl
 | .ii _,_,_,_,h=>h _ _ rfl
 | .ss _,_,_,_,h=>h _ _ rfl
 | .v x,env,_,_,h=>EW x env λ _ e=>h _ _ (aR e rfl)
 | .gl _ _,_,_,_,h=>h _ _ rfl
 | .bin _ a b,_,_,_,h=>dT a _ _ λ _ _ au=>dT b _ _ λ _ _ aB _ bZ=>h _ _ (aR au (aR aB (aR bZ rfl)))
 | .qz a b,_,_,_,h=>dT a _ _ λ _ _ au=>dT b _ _ λ _ _ aB _ bZ=>h _ _ (aR au (aR aB (aR bZ rfl)))
 | .pD a b,_,_,_,h=>dT a _ _ λ _ _ au=>dT b _ _ λ _ _ aB _ bZ=>h _ _ (aR au (aR aB (aR bZ rfl)))
 | .neg a,_,_,_,h=>dT a _ _ λ _ _ au _ bZ=>h _ _ (aR au (aR bZ rfl))
 | .and O,_,_,_,h=>Mr O _ _ h
 | .or O,_,_,_,h=>Mw O _ _ h
 | .cmp _ a b,_,_,_,h=>dT a _ _ λ _ _ au=>dT b _ _ λ _ _ aB _ bZ=>h _ _ (aR au (aR aB (aR bZ rfl)))
 | .ite t a b,_,_,_,h=>uV t _ _ λ c _ au=>match c,au with
  |true,au=>dT a _ _ λ _ _ aB=>h _ _ (aR au aB)
  |false,au=>dT b _ _ λ _ _ aB=>h _ _ (aR au aB)
 | .tup O,_,_,_,h=>rj O _ _ λ _ _ au=>BC λ aB=>h _ _ (aR au (bb (fu aB) rfl))
 | .lst O,_,_,_,h=>rj O _ _ λ _ _ au=>BC λ aB=>h _ _ (aR au (bb (fu aB) rfl))
 | .m2 _ O,_,_,_,h=>rj O _ _ λ _ _ au=>BC λ aB=>h _ _ (aR au (bb (JP aB) rfl))
 | .o' _ O,_,_,_,h=>rj O _ _ λ _ _ au=>BC λ aB=>h _ _ (aR au (bb (JP aB) rfl))
 | .eP .i,_,_,_,h=>h _ _ rfl
 | .eP .s,_,_,_,h=>h _ _ rfl
 | .eP .t,_,_,_,h=>h _ _ rfl
 | .at a _,_,_,_,h=>dT a _ _ λ _ _ au _ bZ=>h _ _ (aR au (aR bZ rfl))
 | .aq a b,_,_,_,h=>dT a _ _ λ _ _ au=>dT b _ _ λ _ _ aB _ bZ=>h _ _ (aR au (aR aB (aR bZ rfl)))
 | .lh a b,_,_,_,h=>dT a _ _ λ _ _ au=>dT b _ _ λ _ _ aB _ bZ=>h _ _ (aR au (aR aB (aR bZ rfl)))
 | .mE a b,_,_,_,h=>dT a _ _ λ _ _ au=>dT b _ _ λ _ _ aB _ bZ=>h _ _ (aR au (aR aB (aR bZ rfl)))
 | .rev a,_,_,_,h=>dT a _ _ λ _ _ au _ bZ=>h _ _ (aR au (aR bZ rfl))
 | .comp _ _ _ i _,_,_,_,h=>dT i _ _ λ _ _ au _ aB bZ _ _ dL=>h _ _ (aR au (aR aB (bb bZ (aR dL rfl))))
 | .call _ O,_,_,_,h=>rj O _ _ λ _ _ au _ _ aB=>h _ _ (aR au aB)
 | .new _ O,_,_,_,h=>λ _ mc=>rj O _ _ λ _ _ au _ aB=>h _ _ (aR mc (aR au (aR aB rfl)))
 | .hi o _ O,_,_,_,h=>dT o _ _ λ _ _ mc _ au=>rj O _ _ λ _ _ aB _ _ bZ=>h _ _ (aR mc (aR au (aR aB bZ)))
 | .len a,_,_,_,h=>dT a _ _ λ _ _ au _ bZ=>h _ _ (aR au (aR bZ rfl))
 | .ja a,_,_,_,h=>dT a _ _ λ _ _ au _ bZ=>h _ _ (aR au (aR bZ rfl))
 | .sorted a,_,_,_,h=>dT a _ _ λ _ _ au _ bZ=>h _ _ (aR au (aR bZ rfl))
 | .strOf a,_,_,_,h=>dT a _ _ λ _ _ au _ bZ=>h _ _ (aR au (aR bZ rfl))
 | .gP a,_,_,_,h=>dT a _ _ λ _ _ au _ bZ=>h _ _ (aR au (aR bZ rfl))
 | .pE a b,_,_,_,h=>dT a _ _ λ _ _ au=>dT b _ _ λ _ _ aB _ bZ=>h _ _ (aR au (aR aB (aR bZ rfl)))
 | .append o x,_,_,_,h=>dT o _ _ λ _ _ au aB=>dT x _ _ λ _ _ bZ _ dL=>h _ _ (aR au (bb aB (aR bZ (aR dL rfl))))
 | .m1 o k d,_,_,_,h=>dT o _ _ λ _ _ au aB=>dT k _ _ λ _ _ bZ=>dT d _ _ λ _ _ dL _ fG=>h _ _ (aR au (bb aB (aR bZ (aR dL (aR fG rfl)))))
 | .bad,_,_,_,_=>trivial
theorem rj:∀(e:d6) (env:aX) (n:St) {K:B D→St→Prop},(∀v J,oq P V e env n=some (v,J)→K v J)→qt P V e env n K
 | .nil,_,_,_,h=>h _ _ rfl
 | .cons e r,_,_,_,h=>dT e _ _ λ _ _ au=>rj r _ _ λ _ _ aB=>h _ _ (aR au (aR aB rfl))
theorem Mr:∀(e:d6) (env:aX) (n:St) {K:D→St→Prop},(∀v J,A1 P V e env n=some (v,J)→K v J)→Fx P V e env n K
 | .nil,_,_,_,_=>trivial
 | .cons e .nil,_,_,_,h=>dT e _ _ h
 | .cons e (.cons bC r),_,_,_,h=>dT e _ _ λ _ _ au b aB=>match b,aB with
  |true,aB=>Mr (.cons bC r) _ _ λ _ _ bZ=>h _ _ (aR au (aR aB bZ))
  |false,aB=>h _ _ (aR au (aR aB rfl))
theorem Mw:∀(e:d6) (env:aX) (n:St) {K:D→St→Prop},(∀v J,xY P V e env n=some (v,J)→K v J)→Fy P V e env n K
 | .nil,_,_,_,_=>trivial
 | .cons e .nil,_,_,_,h=>dT e _ _ h
 | .cons e (.cons bC r),_,_,_,h=>dT e _ _ λ _ _ au b aB=>match b,aB with
  |false,aB=>Mw (.cons bC r) _ _ λ _ _ bZ=>h _ _ (aR au (aR aB bZ))
  |true,aB=>h _ _ (aR au (aR aB rfl))
theorem uV:∀(e:T) (env:aX) (n:St) {K:av→St→Prop},(∀v J,fr P V e env n=some (v,J)→K v J)→s3 P V e env n K
 | .e a,_,_,_,h=>dT a _ _ λ _ _ au _ aB=>h _ _ (aR au (aR aB rfl))
 | .g4 t,_,_,_,h=>uV t _ _ λ _ _ au=>h _ _ (aR au rfl)
 | .and bE,_,_,_,h=>MB bE _ _ h
 | .or bE,_,_,_,h=>MA bE _ _ h
 | .cmp _ a b,_,_,_,h=>dT a _ _ λ _ _ au=>dT b _ _ λ _ _ aB _ bZ=>h _ _ (aR au (aR aB (aR bZ rfl)))
theorem MB:∀(e:fb) (env:aX) (n:St) {K:av→St→Prop},(∀v J,ho P V e env n=some (v,J)→K v J)→FA P V e env n K
 | .nil,_,_,_,h=>h _ _ rfl
 | .cons t r,_,_,_,h=>uV t _ _ λ b _ au=>match b,au with
  |true,au=>MB r _ _ λ _ _ aB=>h _ _ (aR au aB)
  |false,au=>h _ _ (aR au rfl)
theorem MA:∀(e:fb) (env:aX) (n:St) {K:av→St→Prop},(∀v J,A2 P V e env n=some (v,J)→K v J)→Fz P V e env n K
 | .nil,_,_,_,h=>h _ _ rfl
 | .cons t r,_,_,_,h=>uV t _ _ λ b _ au=>match b,au with
  |false,au=>MA r _ _ λ _ _ aB=>h _ _ (aR au aB)
  |true,au=>h _ _ (aR au rfl)
end
end
section
variable(P:iV)(V:jf)
mutual
noncomputable def NK:S→aX→St→(eZ→St→Prop)→Prop
 | .asg x e,env,n,K=>dO P V e env n λ v aa=>K (.br (iO env x v)) aa
 | .oZ xs e,env,n,K=>dO P V e env n λ v aa=>∀aF,dh true xs v env=some aF→K (.br aF) aa
 | .cc o f e,env,n,K=>dO P V e env n λ v aa=>dO P V o env aa λ fx ao=>∀J,lg P ao fx f v=some J→K (.br env) J
 | .gI o i e,env,n,K=>dO P V e env n λ v aa=>dO P V o env aa λ fx ao=>dO P V i env ao λ fL bW=>∀J,j9 bW fx fL v=some J→K (.br env) J
 | .aug x op e,env,n,K=>Ax (λ a=>dO P V e env n λ v aa=>∀r,kC op a v=some r→K (.br (iO env x r)) aa) x env
 | .o2 o f op e,env,n,K=>dO P V o env n λ fx aa=>∀a,d7 aa fx f=some a→dO P V e env aa λ v ao=>∀r,kC op a v=some r→∀J,lg P ao fx f r=some J→K (.br env) J
 | .o3 o i op e,env,n,K=>dO P V o env n λ fx aa=>dO P V i env aa λ fL ao=>∀a,vv ao fx fL=some a→dO P V e env ao λ v bW=>∀r,kC op a v=some r→∀J,j9 bW fx fL r=some J→K (.br env) J
 | .ex e,env,n,K=>dO P V e env n λ _ aa=>K (.br env) aa
 | .ret e,env,n,K=>dO P V e env n λ v aa=>K (.f3 v) aa
 | .mC,_,n,K=>K (.f3 .nn) n
 | .b4 t a b,env,n,K=>s3 P V t env n λ c aa=>match c with|true=>s2 a env aa K|false=>s2 b env aa K
 | .pK t b,env,n,K=>∀r J,oA (fr P V t) (bS P V b) 60 env n=some (r,J)→K r J
 | .dc xs many bb b,env,n,K=>dO P V bb env n λ v aa=>∀l,hQ aa v=some l→l.length≤100000→∀r J,
   @fC (live v l) (e0 v l) (λ x aF J=>(dh many xs x aF).bind λ dG=>bS P V b dG J) l env aa=some (r,J)→K r J
 | .bad,_,_,_=>True
noncomputable def s2:bk→aX→St→(eZ→St→Prop)→Prop
 | .nil,env,n,K=>K (.br env) n
 | .cons s r,env,n,K=>NK s env n λ x aa=>match x with
  | .br aF=>s2 r aF aa K
  | .f3 v=>K (.f3 v) aa
end
end
section
variable{P:iV}{V:jf}
mutual
theorem Zj:∀(e:S) (env:aX) (n:St) {K:eZ→St→Prop},(∀v J,jS P V e env n=some (v,J)→K v J)→NK P V e env n K
 | .asg _ e,_,_,_,h=>dT e _ _ λ _ _ au=>h _ _ (aR au rfl)
 | .oZ _ e,_,_,_,h=>dT e _ _ λ _ _ au _ aB=>h _ _ (aR au (aR aB rfl))
 | .cc o _ e,_,_,_,h=>dT e _ _ λ _ _ au=>dT o _ _ λ _ _ aB _ bZ=>h _ _ (aR au (aR aB (aR bZ rfl)))
 | .gI o i e,_,_,_,h=>dT e _ _ λ _ _ au=>dT o _ _ λ _ _ aB=>dT i _ _ λ _ _ bZ _ dL=>h _ _ (aR au (aR aB (aR bZ (aR dL rfl))))
 | .aug x _ e,_,_,_,h=>EW x _ λ _ mc=>dT e _ _ λ _ _ au _ aB=>h _ _ (aR mc (aR au (aR aB rfl)))
 | .o2 o _ _ e,_,_,_,h=>dT o _ _ λ _ _ au _ aB=>dT e _ _ λ _ _ bZ _ dL _ fG=>h _ _ (aR au (aR aB (aR bZ (aR dL (aR fG rfl)))))
 | .o3 o i _ e,_,_,_,h=>dT o _ _ λ _ _ au=>dT i _ _ λ _ _ aB _ bZ=>dT e _ _ λ _ _ dL _ fG _ j3=>h _ _ (aR au (aR aB (aR bZ (aR dL (aR fG (aR j3 rfl))))))
 | .ex e,_,_,_,h=>dT e _ _ λ _ _ au=>h _ _ (aR au rfl)
 | .ret e,_,_,_,h=>dT e _ _ λ _ _ au=>h _ _ (aR au rfl)
 | .mC,_,_,_,h=>h _ _ rfl
 | .b4 t a b,_,_,_,h=>uV t _ _ λ c _ au=>match c,au with
  |true,au=>xk a _ _ λ _ _ aB=>h _ _ (aR au aB)
  |false,au=>xk b _ _ λ _ _ aB=>h _ _ (aR au aB)
 | .pK _ _,_,_,_,h=>λ _ _ e=>h _ _ e
 | .dc _ _ i _,_,_,_,h=>dT i _ _ λ _ _ au _ aB bZ _ _ dL=>h _ _ (aR au (aR aB (bb bZ dL)))
 | .bad,_,_,_,_=>trivial
theorem xk:∀(e:bk) (env:aX) (n:St) {K:eZ→St→Prop},(∀v J,bS P V e env n=some (v,J)→K v J)→s2 P V e env n K
 | .nil,_,_,_,h=>h _ _ rfl
 | .cons s r,_,_,_,h=>Zj s _ _ λ x _ au=>match x,au with
  | .br _,au=>xk r _ _ λ _ _ aB=>h _ _ (aR au aB)
  | .f3 _,au=>h _ _ (aR au rfl)
end
noncomputable def eZ.val:eZ→D
 | .br _=>.nn
 | .f3 v=>v
theorem Zi{z f:C}{d:oJ}{b6:B D}{n:St}(a1:P.fns f=some d)(hl:b6.length=d.np):s2 P (runN P z) d.body (b6.map some++dw (d.nl-d.np) none) n λ r J=>runN P (z+1) f b6 n=some (r.val,J):=
 xk d.body _ _ λ v _ e=>aR a1 (bb hl (aR e (by cases v<;>rfl)))
theorem jF{o:Y av}{p:Prop}{d:v1 p}(g:o=some (@decide p d))(h:p):o=some true:=g.trans (an some (iK h))
theorem iJ{o:Y av}{p:Prop}{d:v1 p}(g:o=some (@decide p d))(h:¬p):o=some false:=g.trans (an some (j2 h))
theorem fc{dq:St→Prop}{jk:qL dq}{step:D→aX→St→Y (eZ×St)}{x:D}{r:B D}{env aF:aX}{n J:St}{R:Y (eZ×St)}(hl:dq n)(h:step x env n=some (.br aF,J))(e: @fC dq jk step r aF J=R): @fC dq jk step (x::r) env n=R:=(if_pos hl).trans (aR h e)
theorem DN{dq:St→Prop}{jk:qL dq}{step:D→aX→St→Y (eZ×St)}{ae:Y D→aX}{n:St}(hl:dq n):∀{xs:B D} (o:Y D),(∀x,x∈xs→∀o,step x (ae o) n=some (.br (ae (some x)),n))→∃c3,@fC dq jk step xs (ae o) n=some (.br (ae c3),n)
 | [],o,_=>⟨o,if_pos hl⟩
 |x::_,o,h=>let⟨c3,e⟩:=DN hl (some x) λ y bI=>h y (.tail _ bI);⟨c3,(if_pos hl).trans (aR (h x (.head _) o) e)⟩
end
end Mine
end
section
namespace Mine
variable{α:Type}{o:Y α}{a:α}{c4:Type}{M:Prop}{r:α}
section
variable{P:iV}{V:jf}{g5:C→B D→dC→St→Prop}
noncomputable def oG(V:jf)(g5:C→B D→dC→St→Prop):Prop:=∀f b6 n v J (Q:dC),V f b6 n=some (v,J)→Q v J→g5 f b6 Q n
theorem e3{k:α→Prop}(h:o=some a)(q:k a):et o k:=by rw[h];exact q
theorem b1{f:α→Y c4}{x:c4}(h:o.bind f=some x)(k:∀a,o=some a→f a=some x→M):M:=let⟨a,e,q⟩:=yN.mp h;k a e q
theorem dP{c:α}{b d:c4}{Q:α→c4→Prop}(h:some (a,b)=some (c,d))(q:Q c d):Q a b:=by cases h;exact q
theorem mh{p:Prop}{d:v1 p}{a:Y α}(h:(if p then a else none)=some r)(k:p→a=some r→M):M:=by
 split at h
 ·exact k ‹_› h
 ·exact nomatch h
theorem rh{b:av}{x y:α}{Q R:Prop}(h:(if b=true then x else y)=r)(c2:x=r→Q)(dW:y=r→R):if b=true then Q else R:=by
 cases b
 ·exact dW h
 ·exact c2 h
theorem Kp{dq:St→Prop}{jk:qL dq}{step:D→St→Y (B D×St)}{ea:D→(B D→St→Prop)→St→Prop}(hs:∀x n out J K,step x n=some (out,J)→K out J→ea x K n):
  ∀{l acc:B D} {n J:St} {out:B D} {Q:B D→St→Prop},@lE dq jk step l acc n=some (out,J)→Q out J→o9 dq ea l acc Q n
 | [],_,_,_,_,_,h,q=>mh h λ p h=>⟨p,dP h q⟩
 |_::_,_,_,_,_,_,h,q=>mh h λ p h=>⟨p,b1 h λ _ ax aH=>hs _ _ _ _ _ ax (Kp hs aH q)⟩
theorem abs{α:Type}{v:D}{a r:α}{Q:Prop}(h:(match v with| .nn=>some a|_=>none)=some r)(k:a=r→Q):v= .nn∧Q:=by
 cases v<;>first|exact⟨rfl,k (ej h)⟩|exact nomatch h
mutual
theorem dV(bV:oG V g5):∀(e:ab) {env:aX} {n J:St} {v:D} {Q:dC},ci P V e env n=some (v,J)→Q v J→di P g5 e env Q n
 | .nn,_,_,_,_,Q,h,q=>dP (Q:=Q) h q
 | .cj _,_,_,_,_,Q,h,q=>dP (Q:=Q) h q
 | .ii _,_,_,_,_,Q,h,q=>dP (Q:=Q) h q
 | .ss _,_,_,_,_,Q,h,q=>dP (Q:=Q) h q
 | .v _,_,_,_,_,Q,h,q=>b1 h λ _ ax h=>e3 ax (dP (Q:=Q) h q)
 | .gl _ _,_,_,_,_,Q,h,q=>dP (Q:=Q) h q
 | .bin _ a b,_,_,_,_,Q,h,q=>b1 h λ _ ax h=>b1 h λ _ aH h=>b1 h λ _ cI h=>dV bV a ax (dV bV b aH (e3 cI (dP (Q:=Q) h q)))
 | .qz a b,_,_,_,_,Q,h,q=>b1 h λ _ ax h=>b1 h λ _ aH h=>b1 h λ _ cI h=>dV bV a ax (dV bV b aH (e3 cI (dP (Q:=Q) h q)))
 | .pD a b,_,_,_,_,Q,h,q=>b1 h λ _ ax h=>b1 h λ _ aH h=>b1 h λ _ cI h=>dV bV a ax (dV bV b aH (e3 cI (dP (Q:=Q) h q)))
 | .neg a,_,_,_,_,Q,h,q=>b1 h λ _ ax h=>b1 h λ _ aH h=>dV bV a ax (e3 aH (dP (Q:=Q) h q))
 | .and O,_,_,_,_,_,h,q=>Ow bV O h q
 | .or O,_,_,_,_,_,h,q=>OE bV O h q
 | .cmp _ a b,_,_,_,_,Q,h,q=>b1 h λ _ ax h=>b1 h λ _ aH h=>b1 h λ _ cI h=>dV bV a ax (dV bV b aH (e3 cI (dP (Q:=Q) h q)))
 | .ite t a b,_,_,_,_,_,h,q=>b1 h λ _ ax h=>vA bV t ax (rh h (λ h=>dV bV a h q) λ h=>dV bV b h q)
 | .tup O,_,_,_,_,Q,h,q=>b1 h λ _ ax h=>mh h λ p h=>rI bV O ax ⟨p,dP (Q:=Q) h q⟩
 | .lst O,_,_,_,_,Q,h,q=>b1 h λ _ ax h=>mh h λ p h=>rI bV O ax ⟨p,dP (Q:=Q) h q⟩
 | .m2 _ O,_,_,_,_,Q,h,q=>b1 h λ _ ax h=>mh h λ p h=>rI bV O ax ⟨p,dP (Q:=Q) h q⟩
 | .o' _ O,_,_,_,_,Q,h,q=>b1 h λ _ ax h=>mh h λ p h=>rI bV O ax ⟨p,dP (Q:=Q) h q⟩
 | .eP .i,_,_,_,_,Q,h,q=>dP (Q:=Q) h q
 | .eP .s,_,_,_,_,Q,h,q=>dP (Q:=Q) h q
 | .eP .t,_,_,_,_,Q,h,q=>dP (Q:=Q) h q
 | .at a _,_,_,_,_,Q,h,q=>b1 h λ _ ax h=>b1 h λ _ aH h=>dV bV a ax (e3 aH (dP (Q:=Q) h q))
 | .aq a b,_,_,_,_,Q,h,q=>b1 h λ _ ax h=>b1 h λ _ aH h=>b1 h λ _ cI h=>dV bV a ax (dV bV b aH (e3 cI (dP (Q:=Q) h q)))
 | .lh a b,_,_,_,_,Q,h,q=>b1 h λ _ ax h=>b1 h λ _ aH h=>b1 h λ _ cI h=>dV bV a ax (dV bV b aH (e3 cI (dP (Q:=Q) h q)))
 | .mE a b,_,_,_,_,Q,h,q=>b1 h λ _ ax h=>b1 h λ _ aH h=>b1 h λ _ cI h=>dV bV a ax (dV bV b aH (e3 cI (dP (Q:=λ r n=>Q r n) h q)))
 | .rev a,_,_,_,_,Q,h,q=>b1 h λ _ ax h=>b1 h λ _ aH h=>dV bV a ax (e3 aH (dP (Q:=Q) h q))
 | .comp b7 _ _ i bE,_,_,_,_,Q,h,q=>b1 h λ _ ax h=>b1 h λ _ aH h=>mh h λ p h=>b1 h λ _ cI h=>dV bV i ax (e3 aH ⟨p,Kp (by exact λ _ _ _ _ K h k=>b1 h λ _ ax h=>b1 h λ _ aH h=>e3 ax (Gf bV bE aH (rh h (λ h=>b1 h λ _ cI h=>dV bV b7 cI (dP (Q:=K) h k)) λ h=>dP (Q:=K) h k))) cI (dP (Q:=Q) h q)⟩)
 | .call _ O,_,_,_,_,_,h,q=>b1 h λ _ ax h=>rI bV O ax (bV _ _ _ _ _ _ h q)
 | .new _ O,_,_,_,_,_,h,q=>b1 h λ _ ec h=>b1 h λ _ ax h=>b1 h λ _ aH h=>e3 ec (rI bV O ax (bV _ _ _ _ _ _ aH (abs h λ e=>by cases e;exact q)))
 | .hi o _ O,_,_,_,_,_,h,q=>b1 h λ _ ec h=>b1 h λ _ ax h=>b1 h λ _ aH h=>dV bV o ec (e3 ax (rI bV O aH (bV _ _ _ _ _ _ h q)))
 | .len a,_,_,_,_,Q,h,q=>b1 h λ _ ax h=>b1 h λ _ aH h=>dV bV a ax (e3 aH (dP (Q:=Q) h q))
 | .ja a,_,_,_,_,Q,h,q=>b1 h λ _ ax h=>b1 h λ _ aH h=>dV bV a ax (e3 aH (dP (Q:=Q) h q))
 | .sorted a,_,_,_,_,Q,h,q=>b1 h λ _ ax h=>b1 h λ _ aH h=>dV bV a ax (e3 aH (dP (Q:=Q) h q))
 | .strOf a,_,_,_,_,Q,h,q=>b1 h λ _ ax h=>b1 h λ _ aH h=>dV bV a ax (e3 aH (dP (Q:=Q) h q))
 | .gP a,_,_,_,_,Q,h,q=>b1 h λ _ ax h=>b1 h λ _ aH h=>dV bV a ax (e3 aH (dP (Q:=Q) h q))
 | .pE a b,_,_,_,_,Q,h,q=>b1 h λ _ ax h=>b1 h λ _ aH h=>b1 h λ _ cI h=>dV bV a ax (dV bV b aH (e3 cI (dP (Q:=Q) h q)))
 | .append o x,_,_,_,_,Q,h,q=>b1 h λ _ ax h=>mh h λ p h=>b1 h λ _ aH h=>b1 h λ _ cI h=>dV bV o ax ⟨p,dV bV x aH (e3 cI (dP (Q:=Q) h q))⟩
 | .m1 o k d,_,_,_,_,Q,h,q=>b1 h λ _ ax h=>mh h λ p h=>b1 h λ _ aH h=>b1 h λ _ cI h=>b1 h λ _ gg h=>dV bV o ax ⟨p,dV bV k aH (dV bV d cI (e3 gg (dP (Q:=Q) h q)))⟩
theorem rI(bV:oG V g5):∀(O:d6) {env:aX} {n J:St} {v:B D} {Q:B D→St→Prop},oq P V O env n=some (v,J)→Q v J→m4 P g5 O env Q n
 | .nil,_,_,_,_,Q,h,q=>dP (Q:=Q) h q
 | .cons e r,_,_,_,_,Q,h,q=>b1 h λ _ ax h=>b1 h λ _ aH h=>dV bV e ax (rI bV r aH (dP (Q:=Q) h q))
theorem Ow(bV:oG V g5):∀(O:d6) {env:aX} {n J:St} {v:D} {Q:dC},A1 P V O env n=some (v,J)→Q v J→wz P g5 O env Q n
 | .nil,_,_,_,_,_,h,_=>nomatch h
 | .cons e .nil,_,_,_,_,_,h,q=>dV bV e h q
 | .cons e (.cons bC r),_,_,_,_,Q,h,q=>b1 h λ _ ax h=>b1 h λ _ aH h=>dV bV e ax (e3 aH (rh h (λ h=>Ow bV (.cons bC r) h q) λ h=>dP (Q:=Q) h q))
theorem OE(bV:oG V g5):∀(O:d6) {env:aX} {n J:St} {v:D} {Q:dC},xY P V O env n=some (v,J)→Q v J→xM P g5 O env Q n
 | .nil,_,_,_,_,_,h,_=>nomatch h
 | .cons e .nil,_,_,_,_,_,h,q=>dV bV e h q
 | .cons e (.cons bC r),_,_,_,_,Q,h,q=>b1 h λ _ ax h=>b1 h λ _ aH h=>dV bV e ax (e3 aH (rh h (λ h=>dP (Q:=Q) h q) λ h=>OE bV (.cons bC r) h q))
theorem vA(bV:oG V g5):∀(t:T) {env:aX} {n J:St} {v:av} {Q:av→St→Prop},fr P V t env n=some (v,J)→Q v J→qH P g5 t env Q n
 | .e a,_,_,_,_,Q,h,q=>b1 h λ _ ax h=>b1 h λ _ aH h=>dV bV a ax (e3 aH (dP (Q:=Q) h q))
 | .g4 t,_,_,_,_,Q,h,q=>b1 h λ _ ax h=>vA bV t ax (dP (Q:=Q) h q)
 | .and bE,_,_,_,_,_,h,q=>Gf bV bE h q
 | .or bE,_,_,_,_,_,h,q=>OG bV bE h q
 | .cmp _ a b,_,_,_,_,Q,h,q=>b1 h λ _ ax h=>b1 h λ _ aH h=>b1 h λ _ cI h=>dV bV a ax (dV bV b aH (e3 cI (dP (Q:=Q) h q)))
theorem Gf(bV:oG V g5):∀(t:fb) {env:aX} {n J:St} {v:av} {Q:av→St→Prop},ho P V t env n=some (v,J)→Q v J→rM P g5 t env Q n
 | .nil,_,_,_,_,Q,h,q=>dP (Q:=Q) h q
 | .cons t r,_,_,_,_,Q,h,q=>b1 h λ _ ax h=>vA bV t ax (rh h (λ h=>Gf bV r h q) λ h=>dP (Q:=Q) h q)
theorem OG(bV:oG V g5):∀(t:fb) {env:aX} {n J:St} {v:av} {Q:av→St→Prop},A2 P V t env n=some (v,J)→Q v J→Bu P g5 t env Q n
 | .nil,_,_,_,_,Q,h,q=>dP (Q:=Q) h q
 | .cons t r,_,_,_,_,Q,h,q=>b1 h λ _ ax h=>vA bV t ax (rh h (λ h=>dP (Q:=Q) h q) λ h=>OG bV r h q)
end
noncomputable def iH(cb:iU)(cF:dC):eZ→St→Prop
 | .br env,n=>cb env n
 | .f3 v,n=>cF v n
theorem F2{r x:eZ}{n J:St}{f:aX→Y (eZ×St)}{cb Jd:iU}{cF:dC}(h:(match r with| .br env=>f env| .f3 v=>some (.f3 v,n))=some (x,J))(q:iH cb cF x J)(k:∀env,f env=some (x,J)→Jd env n):iH Jd cF r n:=by
 cases r with
 |br env=>exact k env h
 |f3 v=>cases h;exact q
theorem K8{dq:St→Prop}{jk:qL dq}{step:D→aX→St→Y (eZ×St)}{ea:D→aX→iU→St→Prop}{cF:dC}(hs:∀x env n r J K,step x env n=some (r,J)→iH K cF r J→ea x env K n):
  ∀{l:B D} {env:aX} {n J:St} {r:eZ} {cb:iU},@fC dq jk step l env n=some (r,J)→iH cb cF r J→zQ dq ea l env cb n
 | [],_,_,_,_,_,h,q=>mh h λ p h=>⟨p,dP (Q:=λ r n=>iH _ cF r n) h q⟩
 |_::_,_,_,_,_,_,h,q=>mh h λ p h=>⟨p,b1 h λ _ ax aH=>hs _ _ _ _ _ _ ax (F2 aH q λ _ h=>K8 hs h q)⟩
theorem PY{lS:aX→St→Y (av×St)}{body:aX→St→Y (eZ×St)}{Pz:aX→(av→St→Prop)→St→Prop}{JO:aX→iU→St→Prop}{cF:dC}(bD:∀env n b J K,lS env n=some (b,J)→K b J→Pz env K n)
  (az:∀env n r J K,body env n=some (r,J)→iH K cF r J→JO env K n):∀{z:C} {env:aX} {n J:St} {r:eZ} {cb:iU},oA lS body z env n=some (r,J)→iH cb cF r J→BD Pz JO z env cb n
 |0,_,_,_,_,_,h,_=>nomatch h
 |_+1,_,_,_,_,_,h,q=>b1 h λ _ ax h=>bD _ _ _ _ _ ax (rh h (λ h=>b1 h λ _ aH h=>az _ _ _ _ _ aH (F2 h q λ _ h=>PY bD az h q)) λ h=>dP (Q:=λ r n=>iH _ cF r n) h q)
mutual
theorem adJ(bV:oG V g5):∀(t:S) {env:aX} {n J:St} {r:eZ} {cb:iU} {cF:dC},jS P V t env n=some (r,J)→iH cb cF r J→Gy P g5 t env cb cF n
 | .asg _ e,_,_,_,_,cb,cF,h,q=>b1 h λ _ ax h=>dV bV e ax (dP (Q:=iH cb cF) h q)
 | .oZ _ e,_,_,_,_,cb,cF,h,q=>b1 h λ _ ax h=>b1 h λ _ aH h=>dV bV e ax (e3 aH (dP (Q:=iH cb cF) h q))
 | .cc o _ e,_,_,_,_,cb,cF,h,q=>b1 h λ _ ax h=>b1 h λ _ aH h=>b1 h λ _ cI h=>dV bV e ax (dV bV o aH (e3 cI (dP (Q:=iH cb cF) h q)))
 | .gI o i e,_,_,_,_,cb,cF,h,q=>b1 h λ _ ax h=>b1 h λ _ aH h=>b1 h λ _ cI h=>b1 h λ _ gg h=>dV bV e ax (dV bV o aH (dV bV i cI (e3 gg (dP (Q:=iH cb cF) h q))))
 | .aug _ _ e,_,_,_,_,cb,cF,h,q=>b1 h λ _ ec h=>b1 h λ _ ax h=>b1 h λ _ aH h=>e3 ec (dV bV e ax (e3 aH (dP (Q:=iH cb cF) h q)))
 | .o2 o _ _ e,_,_,_,_,cb,cF,h,q=>b1 h λ _ ec h=>b1 h λ _ ax h=>b1 h λ _ aH h=>b1 h λ _ cI h=>b1 h λ _ gg h=>dV bV o ec (e3 ax (dV bV e aH (e3 cI (e3 gg (dP (Q:=iH cb cF) h q)))))
 | .o3 o i _ e,_,_,_,_,cb,cF,h,q=>b1 h λ _ ec h=>b1 h λ _ ax h=>b1 h λ _ aH h=>b1 h λ _ cI h=>b1 h λ _ gg h=>b1 h λ _ ky h=>dV bV o ec (dV bV i ax (e3 aH (dV bV e cI (e3 gg (e3 ky (dP (Q:=iH cb cF) h q))))))
 | .ex e,_,_,_,_,cb,cF,h,q=>b1 h λ _ ax h=>dV bV e ax (dP (Q:=iH cb cF) h q)
 | .ret e,_,_,_,_,cb,cF,h,q=>b1 h λ _ ax h=>dV bV e ax (dP (Q:=iH cb cF) h q)
 | .mC,_,_,_,_,cb,cF,h,q=>dP (Q:=iH cb cF) h q
 | .b4 t a b,_,_,_,_,_,_,h,q=>b1 h λ _ ax h=>vA bV t ax (rh h (λ h=>tf bV a h q) λ h=>tf bV b h q)
 | .pK t b,_,_,_,_,_,_,h,q=>PY (by exact λ _ _ _ _ _ h k=>vA bV t h k) (by exact λ _ _ _ _ _ h k=>tf bV b h k) (show oA (fr P V t) (bS P V b) 60 _ _=_ from h) q
 | .dc _ _ i b,_,_,_,_,_,_,h,q=>b1 h λ _ ax h=>b1 h λ _ aH h=>mh h λ p h=>dV bV i ax (e3 aH ⟨p,K8 (by exact λ _ _ _ _ _ _ h k=>b1 h λ _ ax h=>e3 ax (tf bV b h k)) h q⟩)
theorem tf(bV:oG V g5):∀(t:bk) {env:aX} {n J:St} {r:eZ} {cb:iU} {cF:dC},bS P V t env n=some (r,J)→iH cb cF r J→nr P g5 t env cb cF n
 | .nil,_,_,_,_,cb,cF,h,q=>dP (Q:=iH cb cF) h q
 | .cons s r,_,_,_,_,_,_,h,q=>b1 h λ _ ax h=>adJ bV s ax (F2 h q λ _ h=>tf bV r h q)
end
end
theorem Op{P:iV}:∀z,oG (runN P z) (sv P z)
 |0=>λ _ _ _ _ _ _ h=>nomatch h
 |z+1=>λ _ _ _ _ _ _ h q=>b1 h λ _ ax h=>mh h λ p h=>b1 h λ x aH h=>e3 ax ⟨p,tf (Op z) _ aH (by
   obtain⟨r,n⟩:=x
   cases r<;>(cases h;exact q))⟩
end Mine
end
section
namespace Mine
variable{α:Type}{n:St}
inductive aN where
 |kt|k9|jn|mn|mo|kE
 |store|types|meths
 |ty (l:C)|dv (l:C)|cM (l:C)|tyP (l:C)
 |bl (j:C)|ag8 (j:C)
 |host|fD|dx
 |w|dR|eb|fy|gz|hG
 |row (j:C)|st (j:C)
 |ig|jt|eH|h7
 |want|ei (l:C)
 |a6 (m:C)
variable{r:aN}
noncomputable abbrev bH:=aN→C
variable{a:bH}
noncomputable abbrev aT:=aN→Y a0
variable{h:aT}
open Classical in
noncomputable def up(h:aN→α)(r:aN)(x:α):aN→α:=λ bw=>if bw=r then x else h bw
theorem cR(h:aN→α)(r:aN)(x:α):up h r x r=x:=by simp[up]
theorem bP(h:aN→α){bw:aN}(x:α)(z:bw≠r):up h r x bw=h bw:=by simp[up,z]
structure Good(a:bH)(h:aT)(n:St):Prop where
 at_:∀r o,h r=some o→n[a r]? =some o
 inj:∀r bw,(h r).isSome=true→(h bw).isSome=true→a r=a bw→r=bw
 a6:∀m,a (.a6 m)=m
theorem Good.lt(g:Good a h n)(e:(h r).isSome=true):a r<n.length:=by
 obtain⟨o,e⟩:=oR.mp e
 exact(jY.mp (g.at_ r o e)).1
theorem Good.set(g:Good a h n){o c3:a0}(e:h r=some o):Good a (up h r (some c3)) (n.set (a r) c3) where
 at_:=λ bw x bC=>by
  by_cases q:bw=r
  ·subst q
   rw[cR]at bC;cases bC
   rw[yE (g.lt (by rw[e];rfl))]
  ·rw[bP _ _ q]at bC
   rw[tO]
   ·exact g.at_ bw x bC
   ·intro L
    exact q (g.inj _ _ (by rw[bC];rfl) (by rw[e];rfl) L.symm)
 inj:=λ fT gO ax aH=>by
  have f:∀bw,(up h r (some c3) bw).isSome=true→(h bw).isSome=true:=λ bw q=>by
   by_cases L:bw=r
   ·subst L;rw[e];rfl
   ·rwa [bP _ _ L]at q
  exact g.inj _ _ (f _ ax) (f _ aH)
 a6:=g.a6
theorem Good.kD(g:Good a h n)(o:a0):Good a h (n++[o]) where
 at_:=λ r x e=>by
  have:=g.at_ r x e
  rw[qQ (jY.mp this).1];exact this
 inj:=g.inj
 a6:=g.a6
theorem Good.less{H:aT}(g:Good a H n)(q:∀r o,h r=some o→H r=some o):Good a h n where
 at_:=λ r o e=>g.at_ r o (q r o e)
 inj:=λ r bw e bC=>by
  obtain⟨o,e⟩:=oR.mp e
  obtain⟨c3,bC⟩:=oR.mp bC
  exact g.inj r bw (by rw[q _ _ e];rfl) (by rw[q _ _ bC];rfl)
 a6:=g.a6
theorem Good.mG(g:Good a h n)(o:a0):Good a (up h (.a6 n.length) (some o)) (n++[o]) where
 at_:=λ bw x e=>by
  by_cases q:bw= .a6 n.length
  ·subst q
   rw[cR]at e;cases e
   rw[g.a6];simp
  ·rw[bP _ _ q]at e
   exact(g.kD o).at_ bw x e
 inj:=λ fT gO ax aH q=>by
  by_cases d4:fT= .a6 n.length<;>by_cases d5:gO= .a6 n.length
  ·rw[d4,d5]
  ·subst d4
   rw[g.a6]at q
   rw[bP _ _ d5]at aH
   exact absurd (g.lt aH) (by omega)
  ·subst d5
   rw[g.a6]at q
   rw[bP _ _ d4]at ax
   exact absurd (g.lt ax) (by omega)
  ·rw[bP _ _ d4]at ax
   rw[bP _ _ d5]at aH
   exact g.inj _ _ ax aH q
 a6:=g.a6
theorem Good.fresh(g:Good a h n){m:C}(q:n.length≤m):h (.a6 m)=none:=by
 cases e:h (.a6 m)with
 |none=>rfl
 |some o=>have:=g.lt (r:=.a6 m) (by rw[e];rfl);rw[g.a6]at this;omega
theorem Good.new(g:Good a h n)(r:aN)(a4:∀m,r≠ .a6 m)(o:a0):Good (up a r n.length) (up h r (some o)) (n++[o]) where
 at_:=λ bw x e=>by
  by_cases q:bw=r
  ·subst q
   rw[cR]at e;cases e
   rw[cR];simp
  ·rw[bP _ _ q]at e⊢
   exact(g.kD o).at_ bw x e
 inj:=λ fT gO ax aH q=>by
  by_cases d4:fT=r<;>by_cases d5:gO=r
  ·rw[d4,d5]
  ·subst d4
   rw[cR,bP _ _ d5]at q
   rw[bP _ _ d5]at aH
   exact absurd (g.lt aH) (by omega)
  ·subst d5
   rw[cR,bP _ _ d4]at q
   rw[bP _ _ d4]at ax
   exact absurd (g.lt ax) (by omega)
  ·rw[bP _ _ d4,bP _ _ d5]at q
   rw[bP _ _ d4]at ax
   rw[bP _ _ d5]at aH
   exact g.inj _ _ ax aH q
 a6:=λ m=>by rw[bP _ _ (λ e=>a4 m e.symm)];exact g.a6 m
section
variable{P:iV}{V:jf}
theorem Gj{s:S}{r:bk}{env aF:aX}{aa:St}(h:jS P V s env n=some (.br aF,aa)):bS P V (.cons s r) env n=bS P V r aF aa:=by simp only[bS,h,Option.bind_some]
end
theorem cN(z f:C)(b6:B D)(n:St){d:oJ}(a1:ac.fns f=some d)(hl:b6.length=d.np):s2 ac (runN ac z) d.body (b6.map some++dw (d.nl-d.np) none) n λ r J=>runN ac (z+1) f b6 n=some (r.val,J):=Zi a1 hl
theorem hH(z:C)(b:ab)(env:aX)(n:St):dO ac (runN ac z) b env n λ r J=>ci ac (runN ac z) b env n=some (r,J):=dT b env n λ _ _ e=>e
theorem jc(z:C)(b:T)(env:aX)(n:St):s3 ac (runN ac z) b env n λ r J=>fr ac (runN ac z) b env n=some (r,J):=uV b env n λ _ _ e=>e
theorem dk(z:C)(b:bk)(env:aX)(n:St):s2 ac (runN ac z) b env n λ r J=>bS ac (runN ac z) b env n=some (r,J):=xk b env n λ _ _ e=>e
end Mine
end
section
namespace Mine
variable{x y m:C}{xs:B D}{k:C}{ks:B C}{t:C}
inductive aP where
 |p (z:C)
 |v (i:C)
 |a (k:C)
 |g (t:C) (ks:B C)
noncomputable def E(k:C):D:=.ii (k:am)
noncomputable def fe:aP→D
 | .p z=>.tup [.ii 1,E z]
 | .v i=>.tup [.ii 6,E i]
 | .a k=>.tup [.ii 4,E k]
 | .g t ks=>.tup [.ii 2,E t,.tup (ks.map E)]
noncomputable def hX:aP→gS
 | .p z=>[.inl 1,.inl z]
 | .v i=>[.inl 6,.inl i]
 | .a k=>[.inl 4,.inl k]
 | .g t ks=>[.inl 2,.inl t,.inr (ks.map λ k:C=>(k:am))]
noncomputable def gF:aP→B C
 | .p _=>[]
 | .v _=>[]
 | .a k=>[k]
 | .g _ ks=>ks
theorem Pt:∀ks:B C,vJ (ks.map E)=some (ks.map λ k:C=>(k:am))
 | []=>rfl
 |k::ks=>by
  show(vJ (ks.map E)).map _=_
  rw[Pt ks];rfl
theorem Pu(r:aP):Bt (fe r)=some (hX r):=by
 cases r with
 |g t ks=>
  show((vK [.ii t,.tup (ks.map E)]).map _)=_
  show((((vJ (ks.map E)).bind λ is=>(vK []).map (.inr is::·)).map _).map _)=_
  rw[Pt];rfl
 |_=>rfl
theorem MC:∀{l cf:B C},l.map (λ k:C=>(k:am))=cf.map (λ k:C=>(k:am))→l=cf
 | [],[],_=>rfl
 | [],_::_,h=>by cases h
 |_::_,[],h=>by cases h
 |a::l,b::cf,h=>by
  simp only[oL,QR]at h
  rw[MC h.2,show a=b by have:=h.1;omega]
theorem Kb(h:(x:am)=y):x=y:=by omega
theorem Ou{r bw:aP}(h:hX r=hX bw):r=bw:=by
 cases r<;>cases bw<;>simp only[hX,QR,Sum.inl.injEq,Sum.inr.injEq,and_true]at h<;>first| (rw[Kb h.2];done)| (rw[Kb h.2.1,MC h.2.2];done)| (exact absurd h.1 (by decide))|skip
structure KT(a:bH)(h:aT)(T:B aP)(ag W bL:B C):Prop where
 kt:h .kt=some (.bF 0 [(0,.ref (a .k9)),(1,.ref (a .jn)),(2,.ref (a .mn)),(3,.ref (a .mo)),(4,.ref (a .kE))])
 r:h .k9=some (.li (T.map fe))
 i:h .jn=some (.h8 (T.zipIdx.map λ p=>(hX p.1,E p.2)))
 d:h .mn=some (.li (ag.map E))
 w:h .mo=some (.li (W.map E))
 o:h .kE=some (.li (bL.map E))
 len:ag.length=T.length∧W.length=T.length∧bL.length=T.length
 small:T.length≤500000
section
variable{a:bH}{h:aT}{n:St}{T:B aP}{ag W bL:B C}{z:C}
theorem zU{α:Type}(l:B α)(k:C):n2 l (k:am)=l[k]? :=by
 unfold n2
 rw[if_pos (by omega)]
 rfl
theorem fj{c f:C}{aG:B (C×D)}(e:n[m]? =some (.bF c aG)):d7 n (.ref m) f=aG.lookup f:=an (so f) e
theorem ro(e:n[m]? =some (.li xs)):k' n (.ref m)=some (xs.length:am):=by simp[k',e]
theorem Af{i:am}(e:n[m]? =some (.li xs)):dd n (.ref m) (.ii i)=n2 xs i:=an (ri (.ii i)) e
theorem uW(K:KT a h T ag W bL)(M:Good a h n):d7 n (.ref (a .kt)) 0=some (.ref (a .k9))∧d7 n (.ref (a .kt)) 1=some (.ref (a .jn))∧d7 n (.ref (a .kt)) 2=some (.ref (a .mn))∧d7 n (.ref (a .kt)) 3=some (.ref (a .mo))∧d7 n (.ref (a .kt)) 4=some (.ref (a .kE)):=by
 have e:=M.at_ _ _ K.kt
 refine⟨?_,?_,?_,?_,?_⟩<;>rw[fj e]<;>rfl
theorem UF{y:am}{b:av}(h:decide ((x:am)<y)=b):cY .lt (E x) (.ii y) n=some b:=an some h
theorem J7:cY .lt (E x) (.ii 0) n=some false:=UF (j2 (Int.not_lt.mpr (yw x)))
theorem UD(h:x<y):cY .ge (E x) (.ii y) n=some false:=an some (j2 (Int.not_le.mpr (B1.mpr h)))
theorem J5{y:am}(h:¬((x:am)=y)):cY .eq (E x) (.ii y) n=some false:=an some (j2 h)
theorem A3(K:KT a h T ag W bL)(M:Good a h n){r:aP}(e:T[k]? =some r):runN ac (z+1) 1 [.ref (a .kt),E k] n=some (fe r,n):=
 have aB:=M.at_ _ _ K.r
 have eU:=(uW K M).1
 cN z 1 [.ref (a .kt),E k] n rfl rfl _ J7 _ eU _ (ro aB) _ (UD (by rw[cG];exact(jY.mp e).1)) _ eU _ ((Af aB).trans (by rw[zU,qR,e];rfl))
theorem Ak(r:aP):runN ac (z+1) 14 [fe r] n=some (.tup ((gF r).map E),n):=by cases r<;>rfl
noncomputable def i9:aP→C
 | .p _=>1
 | .v _=>6
 | .a _=>4
 | .g _ _=>2
noncomputable def x2:aP→C
 | .p _=>0
 | .v _=>0
 | .a _=>1
 | .g _ _=>1
noncomputable def vy:aP→C
 | .p _=>2
 | .v _=>2
 | .a _=>2
 | .g _ _=>3
theorem MV(r:aP):runN ac (z+1) 15 [E (i9 r)] n=some (E (x2 r),n):=by cases r<;>rfl
theorem ZS(r:aP):runN ac (z+1) 16 [E (i9 r)] n=some (E (vy r),n):=by cases r<;>rfl
theorem nk(r:aP):dd n (fe r) (.ii 0)=some (E (i9 r)):=by cases r<;>rfl
theorem MN(K:KT a h T ag W bL)(M:Good a h n):ms ac n 75 (.ref (a .kt))=some 1:=by simp only[ms,M.at_ _ _ K.kt];rfl
theorem Nc(K:KT a h T ag W bL)(M:Good a h n){r:aP}(e:T[k]? =some r)(ec:k≠0)(W8:k≠14):runN ac (z+2) 20 [.ref (a .kt),E k] n=some (.cj true,n):=by
 have w:=cN (z+1) 20 [.ref (a .kt),E k] n rfl rfl _ (J5 λ L=>ec (by omega)) _ (J5 λ L=>W8 (by omega)) _ (MN K M) _ _ (A3 K M e) _ (nk r)
 cases r with
 |v _=>exact w _ rfl _ rfl _ rfl _ rfl
 |_=>exact w _ rfl _ rfl
noncomputable def J':bk:=(.cons (.b4 (.g4 (.e (.call 20 (.cons (.v 0) (.cons (.v 2) .nil))))) (.cons (.bad) .nil) (.nil)) .nil)
theorem UP(K:KT a h T ag W bL)(M:Good a h n)(sH:∀k∈ks,k<T.length∧k≠0∧k≠14)(hl:ks.length≤1000):runN ac (z+3) 19 [.ref (a .kt),.tup (ks.map E)] n=some (.nn,n):=
 let⟨_,e⟩:=DN (dq:=live (.tup (ks.map E)) (ks.map E)) (jk:=e0 _ _) (step:=λ x aF J=>(dh false [2] x aF).bind λ dG=>bS ac (runN ac (z+2)) J' dG J)
  (ae:=λ o=>[some (.ref (a .kt)),some (.tup (ks.map E)),o]) (n:=n) (xs:=ks.map E) trivial none λ x aA o=>by
   obtain⟨k,hk,rfl⟩:=ht.mp aA
   obtain⟨ax,aH,cI⟩:=sH k hk
   exact aR (a:=[some (.ref (a .kt)),some (.tup (ks.map E)),some (E k)]) rfl (dk (z+2) J' [some (.ref (a .kt)),some (.tup (ks.map E)),some (E k)] n _ _ (Nc K M (h1 ax) aH cI) _ rfl)
 cN (z+2) 19 [.ref (a .kt),.tup (ks.map E)] n rfl rfl _ rfl (by rw[cG];omega) _ _ e
noncomputable def nN(T:B aP)(r:aP):Prop:=match r with
 | .p _=>False
 | .v _=>True
 | .a k=>k<T.length∧k≠0∧k≠14
 | .g t ks=>0<t∧(o7.lookup (t:am)).isSome=false∧ks.length≤1000∧∀k∈ks,k<T.length∧k≠0∧k≠14
theorem Po(h:(o7.lookup (t:am)).isSome=false):cY .pj (E t) (.cd o7) n=some false:=an some h
theorem aa3(K:KT a h T ag W bL)(M:Good a h n)(a4:nN T (.g t ks)):runN ac (z+4) 18 [.ref (a .kt),fe (.g t ks)] n=some (.nn,n):=
 cN (z+3) 18 [.ref (a .kt),fe (.g t ks)] n rfl rfl _ rfl _ (an some (j2 (by have:=a4.1;omega))) _ rfl _ (Po a4.2.1) _ rfl _ _ (UP K M a4.2.2.2 a4.2.2.1)
theorem aP.b7(T:B aP){r:aP}(a4:nN T r):(∀k∈gF r,k<T.length)∧(gF r).length≤1000∧1<i9 r:=by
 cases r with
 |p _=>exact a4.elim
 |v _=>exact⟨λ _ h=>(nomatch h),fs _,aE rfl⟩
 |a k=>exact⟨λ ct h=>jy.mp h▸a4.1,aE rfl,aE rfl⟩
 |g t ks=>exact⟨λ k h=>(a4.2.2.2 k h).1,a4.2.2.1,aE rfl⟩
noncomputable def Kv:bk:=(.cons (.ex (.hi (.v 0) 75 (.cons (.v 3) .nil))) .nil)
theorem Kg(K:KT a h T ag W bL)(M:Good a h n){r:aP}(a4:nN T r):runN ac (z+5) 17 [.ref (a .kt),fe r] n=some (.nn,n):=by
 obtain⟨XK,i1,ag0⟩:=aP.b7 T a4
 obtain⟨o,e⟩:=DN (dq:=live (.tup ((gF r).map E)) ((gF r).map E)) (jk:=e0 _ _) (step:=λ x aF J=>(dh false [3] x aF).bind λ dG=>bS ac (runN ac (z+4)) Kv dG J)
  (ae:=λ o=>[some (.ref (a .kt)),some (fe r),some (E (i9 r)),o]) (n:=n) (xs:=(gF r).map E) trivial none λ x aA o=>by
   obtain⟨k,hk,rfl⟩:=ht.mp aA
   exact aR (a:=[some (.ref (a .kt)),some (fe r),some (E (i9 r)),some (E k)]) rfl (dk (z+4) Kv [some (.ref (a .kt)),some (fe r),some (E (i9 r)),some (E k)] n _ (MN K M) _ _ (A3 K M (h1 (XK k hk))))
 have w:=cN (z+4) 17 [.ref (a .kt),fe r] n rfl rfl _ (show k' n (fe r)=some ((vy r:C):am)by cases r<;>rfl) _ (show cY .eq (E (vy r)) (.ii 0) n=some false by cases r<;>rfl) _ (nk r) _ (an some (j2 (by omega))) _ (nk r) _ (show cY .gt (E (i9 r)) (.ii 11) n=some false by cases r<;>rfl) _ (nk r) _
  (show k' n (fe r)=some ((vy r:C):am)by cases r<;>rfl) _ _ (ZS r) _ (show cY .ne (E (vy r)) (E (vy r)) n=some false by cases r<;>rfl) _ _ (Ak r) _ rfl (by rw[cG];omega) _ _ e
 cases r with
 |p _=>exact a4.elim
 |v i=>exact w _ rfl _ rfl _ rfl _ rfl _ J7
 |a k=>exact w _ rfl _ rfl _ rfl _ rfl _ rfl _ rfl _ rfl _ _ (Nc K M (h1 a4.1) a4.2.1 a4.2.2) _ rfl
 |g t ks=>exact w _ rfl _ _ (aa3 K M a4)
end
end Mine
end
section
namespace Mine
variable{r:aP}
section
variable{a:bH}{h:aT}{n:St}{T:B aP}{ag W bL:B C}{z:C}
theorem Mn{r:aP}:∀{T:B aP} {k:C},r∉T→((T.zipIdx k).map λ p=>(hX p.1,E p.2)).lookup (hX r)=none
 | [],_,_=>rfl
 |x::T,k,h=>by
  have:=At
  rw[Rb,oL,l0]
  have:(hX r==hX x)=false:=l'.mpr λ e=>h (by rw[Ou e];exact .head _)
  rw[this]
  exact Mn λ e=>h (.tail _ e)
theorem Mo{r:aP}:∀{T:B aP} {k:C},r∈T→∃j,T[j]? =some r∧((T.zipIdx k).map λ p=>(hX p.1,E p.2)).lookup (hX r)=some (E (k+j))
 |x::T,k,h=>by
  have:=At
  rw[Rb,oL,l0]
  by_cases e:r=x
  ·subst e
   exact⟨0,rfl,by simp⟩
  ·have:(hX r==hX x)=false:=l'.mpr λ q=>e (Ou q)
   rw[this]
   obtain⟨j,ax,aH⟩:=Mo (k:=k+1) ((kg.mp h).resolve_left e)
   exact⟨j+1,by simpa using ax,by rw[aH,show k+1+j=k+(j+1)by omega]⟩
noncomputable def ku(ag:B C)(r:aP):Nat:=(gF r).foldl (λ d k=>if d<ag.getD k 0+x2 r then ag.getD k 0+x2 r else d) 1
noncomputable def kQ(W:B C)(r:aP):Nat:=(gF r).foldl (λ w k=>w+W.getD k 0) 1
noncomputable def nf(bL:B C)(r:aP):Nat:=(gF r).foldl (λ o k=>if bL.getD k 0=1 then 1 else o) (if i9 r=6 then 1 else 0)
theorem xf(a4:nN T r):∀k∈gF r,k<T.length:=(aP.b7 T a4).1
theorem YS(a4:nN T r):(gF r).length≤1000:=(aP.b7 T a4).2.1
theorem Ew{m k:C}{l:B C}(e:n[m]? =some (.li (l.map E)))(hk:k<l.length):dd n (.ref m) (E k)=some (E (l.getD k 0)):=by
 unfold E
 rw[Af e,zU,qR,h1 hk,jx,h1 hk]
 rfl
noncomputable def vn:bk:=.cons (.b4 (.cmp .gt (.bin .add (.aq (.at (.v 0) 2) (.v 7)) (.v 6)) (.v 3)) (.cons (.asg 3 (.bin .add (.aq (.at (.v 0) 2) (.v 7)) (.v 6))) .nil) (.nil)) (.cons (.aug 4 .add (.aq (.at (.v 0) 3) (.v 7))) (.cons (.b4 (.cmp .eq (.aq (.at (.v 0) 4) (.v 7)) (.ii 1)) (.cons (.asg 5 (.ii 1)) .nil) (.nil)) .nil))
theorem N9(K:KT a h T ag W bL)(M:Good a h n){bi aV aQ:Y D}{aO:C}{l:B D}:∀{ks:B C} (d w o:C) (bm:Y D),(∀k∈ks,k<T.length)→∃mz,@fC (live (.tup l) l) (e0 _ _) (λ x aF J=>(dh false [7] x aF).bind λ dG=>bS ac (runN ac z) vn dG J) (ks.map E)
  [some (.ref (a .kt)),aV,aQ,some (E d),some (E w),some (E o),some (E aO),bm,bi] n=
  some (.br [some (.ref (a .kt)),aV,aQ,some (E (ks.foldl (λ d k=>if d<ag.getD k 0+aO then ag.getD k 0+aO else d) d)),some (E (ks.foldl (λ w k=>w+W.getD k 0) w)),some (E (ks.foldl (λ o k=>if bL.getD k 0=1 then 1 else o) o)),some (E aO),mz,bi],n)
 | [],_,_,_,bm,_=>⟨bm,if_pos trivial⟩
 |k::ks,d,w,o,bm,h=>by
  obtain⟨mz,e⟩:=N9 K M (bi:=bi) (aV:=aV) (aQ:=aQ) (aO:=aO) (l:=l) (if d<ag.getD k 0+aO then ag.getD k 0+aO else d) (w+W.getD k 0) (if bL.getD k 0=1 then 1 else o) (some (E k)) λ k hk=>h k (.tail _ hk)
  refine⟨mz,fc trivial ?_ e⟩
  refine aR (a:=[some (.ref (a .kt)),aV,aQ,some (E d),some (E w),some (E o),some (E aO),some (E k),bi]) rfl ?_
  obtain⟨eU,c2,dW,n',xi⟩:=uW K M
  have n5:=h k (.head _)
  have uR:=Ew (M.at_ _ _ K.d) (k:=k) (by rw[K.len.1];exact n5)
  have Ae:=Ew (M.at_ _ _ K.w) (k:=k) (by rw[K.len.2.1];exact n5)
  have Ad:=Ew (M.at_ _ _ K.o) (k:=k) (by rw[K.len.2.2];exact n5)
  have g1:cY .gt (E (ag.getD k 0+aO)) (E d) n=some (decide (d<ag.getD k 0+aO)):=an some (q8.mpr B1)
  have g2:cY .eq (E (bL.getD k 0)) (.ii 1) n=some (decide (bL.getD k 0=1)):=an some (q8.mpr (by omega))
  by_cases d':d<ag.getD k 0+aO<;>by_cases cO:bL.getD k 0=1
  ·rw[if_pos d',if_pos cO]
   exact dk z vn [some (.ref (a .kt)),aV,aQ,some (E d),some (E w),some (E o),some (E aO),some (E k),bi] n _ dW _ uR _ rfl _ (jF g1 d') _ dW _ uR _ rfl _ n' _ Ae _ rfl _ xi _ Ad _ (jF g2 cO)
  ·rw[if_pos d',if_neg cO]
   exact dk z vn [some (.ref (a .kt)),aV,aQ,some (E d),some (E w),some (E o),some (E aO),some (E k),bi] n _ dW _ uR _ rfl _ (jF g1 d') _ dW _ uR _ rfl _ n' _ Ae _ rfl _ xi _ Ad _ (iJ g2 cO)
  ·rw[if_neg d',if_pos cO]
   exact dk z vn [some (.ref (a .kt)),aV,aQ,some (E d),some (E w),some (E o),some (E aO),some (E k),bi] n _ dW _ uR _ rfl _ (iJ g1 d') _ n' _ Ae _ rfl _ xi _ Ad _ (jF g2 cO)
  ·rw[if_neg d',if_neg cO]
   exact dk z vn [some (.ref (a .kt)),aV,aQ,some (E d),some (E w),some (E o),some (E aO),some (E k),bi] n _ dW _ uR _ rfl _ (iJ g1 d') _ n' _ Ae _ rfl _ xi _ Ad _ (iJ g2 cO)
noncomputable def ob(h:aT)(T:B aP)(ag W bL:B C):aT:=
 up (up (up (up (up h .k9 (some (.li (T.map fe)))) .jn (some (.h8 (T.zipIdx.map λ p=>(hX p.1,E p.2))))) .mn (some (.li (ag.map E)))) .mo (some (.li (W.map E)))) .kE (some (.li (bL.map E)))
noncomputable def gY:aN→av
 | .k9| .jn| .mn| .mo| .kE=>true
 |_=>false
theorem MM{r:aN}(a4:gY r=false):ob h T ag W bL r=h r:=by
 unfold ob
 rw[bP,bP,bP,bP,bP]<;>(rintro rfl;cases a4)
theorem Zx(K:KT a h T ag W bL){aC:B aP}{oI y6 Cr:B C}(hl:oI.length=aC.length∧y6.length=aC.length∧Cr.length=aC.length)(hs:aC.length≤500000):KT a (ob h aC oI y6 Cr) aC oI y6 Cr where
 kt:=by rw[MM rfl];exact K.kt
 r:=by unfold ob;rw[bP _ _ (by simp),bP _ _ (by simp),bP _ _ (by simp),bP _ _ (by simp),cR]
 i:=by unfold ob;rw[bP _ _ (by simp),bP _ _ (by simp),bP _ _ (by simp),cR]
 d:=by unfold ob;rw[bP _ _ (by simp),bP _ _ (by simp),cR]
 w:=by unfold ob;rw[bP _ _ (by simp),cR]
 o:=by unfold ob;rw[cR]
 len:=hl
 small:=hs
theorem wB(M:Good a h n){hW:aN}{xs:B D}(e:h hW=some (.li xs))(v:D)(hl:xs.length<room):∃J,l7 n (.ref (a hW)) v=some J∧Good a (up h hW (some (.li (xs++[v])))) J∧mk n (.ref (a hW))=true:=
 ⟨_,by simp only[l7,M.at_ _ _ e,if_pos hl],M.set e,by simp only[mk,Al,M.at_ _ _ e]⟩
theorem Ar{H:aT}{J:St}(K:KT a h T ag W bL)(dF:Good a H J)(bC:H .kt=h .kt):d7 J (.ref (a .kt)) 1=some (.ref (a .jn))∧d7 J (.ref (a .kt)) 2=some (.ref (a .mn))∧d7 J (.ref (a .kt)) 3=some (.ref (a .mo))∧d7 J (.ref (a .kt)) 4=some (.ref (a .kE)):=
 have e:=dF.at_ .kt _ (bC.trans K.kt)
 ⟨(fj e).trans rfl,(fj e).trans rfl,(fj e).trans rfl,(fj e).trans rfl⟩
theorem EG(K:KT a h T ag W bL)(M:Good a h n)(a4:nN T r){v:Y D}(br:(T.zipIdx.map λ p=>(hX p.1,E p.2)).lookup (hX r)=v)(d:D):uD n (.ref (a .jn)) (fe r) d=some (v.getD d):=
 (an (w0 (fe r) d) (M.at_ _ _ K.i)).trans (aR (Pu r) (by rw[br]))
theorem pJ{h:aT}{r fT gO:aN}{x y:Y a0}(iy:r≠fT)(kG:r≠gO):up (up h fT x) gO y r=h r:=(bP _ _ kG).trans (bP _ _ iy)
theorem acQ(r:aP):∃b:av,cY .eq (E (i9 r)) (.ii 6) n=some b∧cY .eq (E (i9 r)) (.ii 7) n=some false∧(if i9 r=6 then 1 else 0)=cond b 1 0:=by
 cases r with
 |v _=>exact⟨true,rfl,rfl,rfl⟩
 |_=>exact⟨false,rfl,rfl,rfl⟩
theorem acR(K:KT a h T ag W bL)(M:Good a h n)(a4:nN T r)(fX:r∉T)(a1:ku ag r≤24)(cS:kQ W r≤4096)(a3:T.length<500000):
  ∃J,runN ac (z+6) 2 [.ref (a .kt),fe r] n=some (E T.length,J)∧Good a (ob h (T++[r]) (ag++[ku ag r]) (W++[kQ W r]) (bL++[nf bL r])) J:=by
 obtain⟨eU,c2,dW,n',xi⟩:=uW K M
 obtain⟨Zz,ZB,ZA⟩:=K.len
 have sJ:T.length<room:=e' a3 (aE rfl)
 have br:=Mn (T:=T) (k:=0) fX
 obtain⟨aa,Jt,iT,gd⟩:=wB M K.r (fe r) (by rw[cG];exact sJ)
 have L:(T++[r]).zipIdx.map (λ p=>(hX p.1,E p.2))=T.zipIdx.map (λ p=>(hX p.1,E p.2))++[(hX r,E T.length)]:=by rw[List.zipIdx_append,nD,jh];rfl
 have Lu:up h .k9 (some (.li (T.map fe++[fe r]))) .jn=some (.h8 (T.zipIdx.map λ p=>(hX p.1,E p.2))):=(bP _ _ (by simp)).trans K.i
 have O5:j9 aa (.ref (a .jn)) (fe r) (E T.length)=some (aa.set (a .jn) (.h8 ((T++[r]).zipIdx.map λ p=>(hX p.1,E p.2)))):=
  (an (rK aa (a .jn) (fe r) (E T.length)) (iT.at_ .jn _ Lu)).trans (aR (Pu r) (bb (by rw[cG,List.length_zipIdx];exact sJ) (by unfold c7;rw[br,L];rfl)))
 have jg:=iT.set (c3:=.h8 ((T++[r]).zipIdx.map λ p=>(hX p.1,E p.2))) Lu
 obtain⟨bW,wA,pN,iI⟩:=wB jg (hW:=.mn) ((pJ (by simp) (by simp)).trans K.d) (E (ku ag r)) (by rw[cG,Zz];exact sJ)
 obtain⟨eO,Jv,pO,zh⟩:=wB pN (hW:=.mo) ((bP _ _ (by simp)).trans ((pJ (by simp) (by simp)).trans K.w)) (E (kQ W r)) (by rw[cG,ZB];exact sJ)
 obtain⟨jV,Jw,QC,JL⟩:=wB pO (hW:=.kE) ((pJ (by simp) (by simp)).trans ((pJ (by simp) (by simp)).trans K.o)) (E (nf bL r)) (by rw[cG,ZA];exact sJ)
 have he:=(Ar K iT (bP _ _ (by simp))).1
 have ip:=(Ar K jg (pJ (by simp) (by simp))).2.1
 have k1:=(Ar K pN ((bP _ _ (by simp)).trans (pJ (by simp) (by simp)))).2.2.1
 have nQ:=(Ar K pO ((pJ (by simp) (by simp)).trans (pJ (by simp) (by simp)))).2.2.2
 have e:ob h (T++[r]) (ag++[ku ag r]) (W++[kQ W r]) (bL++[nf bL r])=up (up (up (up (up h .k9 (some (.li (T.map fe++[fe r])))) .jn (some (.h8 ((T++[r]).zipIdx.map λ p=>(hX p.1,E p.2))))) .mn (some (.li (ag.map E++[E (ku ag r)])))) .mo (some (.li (W.map E++[E (kQ W r)])))) .kE (some (.li (bL.map E++[E (nf bL r)]))):=by
  unfold ob
  simp only[nD,oL,List.map_nil]
 refine⟨jV,?_,e▸QC⟩
 obtain⟨b,az,pc,be⟩:=acQ (n:=n) r
 obtain⟨bm,gM⟩:∃mz,@fC (live (.tup ((gF r).map E)) ((gF r).map E)) (e0 _ _) (λ x aF J=>(dh false [7] x aF).bind λ dG=>bS ac (runN ac (z+5)) vn dG J) ((gF r).map E)
  [some (.ref (a .kt)),some (fe r),some (.ii (-1)),some (E 1),some (E 1),some (E (cond b 1 0)),some (E (x2 r)),none,none] n=some (.br [some (.ref (a .kt)),some (fe r),some (.ii (-1)),some (E (ku ag r)),some (E (kQ W r)),some (E (nf bL r)),some (E (x2 r)),mz,none],n):=by
  rw[←be];exact N9 K M 1 1 _ none (xf a4)
 have J6:rg n (.ref (a .jn))=true:=by simp only[rg,M.at_ _ _ K.i]
 have J1:cY .gt (E (ku ag r)) (.ii 24) n=some false:=an some (j2 (by omega))
 have J2:cY .gt (E (kQ W r)) (.ii 4096) n=some false:=an some (j2 (by omega))
 have rr:k' n (.ref (a .k9))=some (T.length:am):=(ro (M.at_ _ _ K.r)).trans (by rw[cG])
 have hl:((gF r).map E).length≤100000:=by have:=YS a4;rw[cG];omega
 exact match b,az,gM with
 |true,az,gM=>cN (z+5) 2 [.ref (a .kt),fe r] n rfl rfl _ c2 J6 _ rfl _ (EG K M a4 br (.ii (-1))) _ rfl _ _ (Kg (z:=z) K M a4) _ (nk r) _ az _ (nk r) _ _ (MV r) _ _ (Ak r) _ rfl hl _ _ gM _ J1 _ J2 _ eU _ rr _ eU gd _ Jt _ he _ O5 _ ip iI _ wA _ k1 zh _ Jv _ nQ JL _ Jw
 |false,az,gM=>cN (z+5) 2 [.ref (a .kt),fe r] n rfl rfl _ c2 J6 _ rfl _ (EG K M a4 br (.ii (-1))) _ rfl _ _ (Kg (z:=z) K M a4) _ (nk r) _ az _ (nk r) _ pc _ (nk r) _ _ (MV r) _ _ (Ak r) _ rfl hl _ _ gM _ J1 _ J2 _ eU _ rr _ eU gd _ Jt _ he _ O5 _ ip iI _ wA _ k1 zh _ Jv _ nQ JL _ Jw
theorem acT(K:KT a h T ag W bL)(M:Good a h n)(a4:nN T r)(fX:r∈T):∃j,T[j]? =some r∧runN ac (z+1) 2 [.ref (a .kt),fe r] n=some (E j,n):=
 let⟨j,bt,br⟩:=Mo (T:=T) (k:=0) fX
 ⟨j,bt,cN z 2 [.ref (a .kt),fe r] n rfl rfl _ (uW K M).2.1 (by simp only[rg,M.at_ _ _ K.i]) _ rfl _ (EG K M a4 (v:=some (E j)) (br.trans (by rw[jh])) (.ii (-1))) _ (an some (iK (yw j)))⟩
end
end Mine
end
section
namespace Mine
variable{α:Type}{b:C}{l:B α}{x:α}{j:C}{r bw:aP}{m:B C}{aC:B aP}{d:C}{H:aT}
section
variable{a:bH}{h:aT}{n:St}{T:B aP}{ag W bL:B C}{z:C}
inductive ap where
 |k (c:C)
 |v (i:C)
 |a (t:ap)
 |b2 (c:C)
 |g1 (c:C) (t:ap)
 |g2 (c:C) (t u:ap)
noncomputable def iz(c:C):Prop:=c=34∨(66≤c∧c≤70)
noncomputable def ba(T:B aP):C→ap→Prop
 |k,.k c=>k=c∧(c=7∨c=12∨c=13)∧T[k]? =some (.p c)
 |k,.v i=>T[k]? =some (.v i)
 |k,.a t=>∃j,T[k]? =some (.a j)∧ba T j t
 |k,.b2 c=>iz c∧T[k]? =some (.g c [])
 |k,.g1 c t=>iz c∧∃j,T[k]? =some (.g c [j])∧ba T j t
 |k,.g2 c t u=>iz c∧∃i j,T[k]? =some (.g c [i,j])∧ba T i t∧ba T j u
noncomputable def ap.size:ap→C
 | .k _=>1
 | .v _=>1
 | .a t=>t.size+1
 | .b2 _=>1
 | .g1 _ t=>t.size+1
 | .g2 _ t u=>t.size+u.size+1
noncomputable def ap.open:ap→C
 | .k _=>0
 | .v _=>1
 | .a t=>t.open
 | .b2 _=>0
 | .g1 _ t=>t.open
 | .g2 _ t u=>if t.open=1 then 1 else u.open
noncomputable def ap.sub(l:B ap):ap→ap
 | .k c=>.k c
 | .v i=>l.getD i (.v i)
 | .a t=>.a (t.sub l)
 | .b2 c=>.b2 c
 | .g1 c t=>.g1 c (t.sub l)
 | .g2 c t u=>.g2 c (t.sub l) (u.sub l)
theorem rD(t:ap):t.open=0∨t.open=1:=by
 induction t with
 |k _=>exact .inl rfl
 |v _=>exact .inr rfl
 |a _ i=>exact i
 |b2 _=>exact .inl rfl
 |g1 _ _ i=>exact i
 |g2 _ t u i j=>exact(Decidable.em (t.open=1)).elim (λ q=>.inr (if_pos q)) λ q=>(an (λ x=>x=0∨x=1) (if_neg q:(if t.open=1 then 1 else u.open)=_)).mpr j
theorem Bf(t:ap):1≤t.size:=by cases t<;>exact iE ..
theorem cD{c4 oE:Type}(f:α→c4→oE){a aY:α}{b hv:c4}(h:a=aY)(g:b=hv):f a b=f aY hv:=h▸g▸rfl
theorem Pc{l:B ap}{t:ap}:t.open=0→t.sub l=t:=by
 induction t with
 |k _=>exact λ _=>rfl
 |v _=>exact λ h=>nomatch h
 |a _ i=>exact λ h=>an ap.a (i h)
 |b2 _=>exact λ _=>rfl
 |g1 c _ i=>exact λ h=>an (ap.g1 c) (i h)
 |g2 c t u i j=>exact λ h=>(rD t).elim (λ q=>cD (ap.g2 c) (i q) (j ((if_neg (by rw[q];exact Cq):(if t.open=1 then 1 else u.open)=_).symm.trans h))) λ q=>nomatch(if_pos q:(if t.open=1 then 1 else u.open)=_).symm.trans h
theorem mq{k:C}(h:l[k]? =some x):k<l.length:=(jY.mp h).1
theorem xH{T:B aP}(cy:T.Nodup){i:C}(ax:T[i]? =some r)(aH:T[j]? =some bw)(L:r=bw):i=j:=
 (B9 (mq ax) cy).mp (ax.trans ((an some L).trans aH.symm))
theorem lj{o:Y α}{y:α}(h:o=some x)(H:o=some y):x=y:=ej (h.symm.trans H)
noncomputable def yx(T:B aP)(t:ap):aP→Prop
 | .p z=>t= .k z
 | .v i=>t= .v i
 | .a j=>∃cB,t= .a cB∧ba T j cB
 | .g c l=>match l with
  | []=>t= .b2 c
  | [j]=>∃cB,t= .g1 c cB∧ba T j cB
  | [i,j]=>∃cB GO,t= .g2 c cB GO∧ba T i cB∧ba T j GO
  |_=>False
section
variable{X:Prop}{t u:ap}{k c:C}
theorem ba.oV(h:ba T k (.a t))(f:∀j,T[k]? =some (.a j)→ba T j t→X):X:=let⟨j,e,q⟩:=h;f j e q
theorem ba.n0(h:ba T k (.g1 c t))(f:∀j,iz c→T[k]? =some (.g c [j])→ba T j t→X):X:=let⟨o,j,e,q⟩:=h;f j o e q
theorem ba.n1(h:ba T k (.g2 c t u))(f:∀i j,iz c→T[k]? =some (.g c [i,j])→ba T i t→ba T j u→X):X:=let⟨o,i,j,e,q,p⟩:=h;f i j o e q p
theorem yx.of(e:bw=r)(h:yx T t bw):yx T t r:=e▸h
theorem ba.row(e:T[k]? =some r)(h:ba T k t):yx T t r:=by
 cases t with
 |k c=>exact .of (lj h.2.2 e) (bw:=.p c) rfl
 |v i=>exact .of (lj h e) (bw:=.v i) rfl
 |a t=>exact h.oV λ j bC q=>.of (lj bC e) (bw:=.a j) ⟨t,rfl,q⟩
 |b2 c=>exact .of (lj h.2 e) (bw:=.g c []) rfl
 |g1 c t=>exact h.n0 λ j _ bC q=>.of (lj bC e) (bw:=.g c [j]) ⟨t,rfl,q⟩
 |g2 c t u=>exact h.n1 λ i j _ bC q ep=>.of (lj bC e) (bw:=.g c [i,j]) ⟨t,u,rfl,q,ep⟩
theorem ba.Ly(h:ba T k t)(f:∀r,T[k]? =some r→X):X:=by
 cases t with
 |k c=>exact f _ h.2.2
 |v i=>exact f _ h
 |a t=>exact h.oV λ _ e _=>f _ e
 |b2 c=>exact f _ h.2
 |g1 c t=>exact h.n0 λ _ _ e _=>f _ e
 |g2 c t u=>exact h.n1 λ _ _ _ e _ _=>f _ e
end
theorem ba.inj{T:B aP}(cy:T.Nodup){t:ap}:∀{k ct:C},ba T k t→ba T ct t→k=ct:=by
 induction t with
 |k c=>exact λ h H=>h.1.trans H.1.symm
 |v i=>exact λ h H=>xH cy h H rfl
 |a t i=>exact λ h H=>h.oV λ _ e q=>H.oV λ _ bC ep=>xH cy e bC (an aP.a (i q ep))
 |b2 c=>exact λ h H=>xH cy h.2 H.2 rfl
 |g1 c t i=>exact λ h H=>h.n0 λ _ _ e q=>H.n0 λ _ _ bC ep=>xH cy e bC (an (λ j=>aP.g c [j]) (i q ep))
 |g2 c t u i j=>exact λ h H=>h.n1 λ _ _ _ e q p=>H.n1 λ _ _ _ bC ep f2=>xH cy e bC (cD (λ i j=>aP.g c [i,j]) (i q ep) (j p f2))
theorem ba.a6{T:B aP}{t:ap}:∀{cB:ap} {k:C},ba T k t→ba T k cB→t=cB:=by
 induction t with
 |k c=>exact λ h H=>(H.row h.2.2).symm
 |v i=>exact λ h H=>(H.row h).symm
 |a t i=>exact λ h H=>h.oV λ _ e q=>let⟨_,L,p⟩:=H.row e;(an ap.a (i q p)).trans L.symm
 |b2 c=>exact λ h H=>(H.row h.2).symm
 |g1 c t i=>exact λ h H=>h.n0 λ _ _ e q=>let⟨_,L,p⟩:=H.row e;(an (ap.g1 c) (i q p)).trans L.symm
 |g2 c t u i j=>exact λ h H=>h.n1 λ _ _ _ e q ep=>let⟨_,_,L,p,f2⟩:=H.row e;(cD (ap.g2 c) (i q p) (j ep f2)).trans L.symm
theorem ba.lt{T:B aP}{t:ap}{k:C}(h:ba T k t):k<T.length:=h.Ly λ _=>mq
theorem o1{k:C}(h:l[k]? =some x){m:B α}:(l++m)[k]? =some x:=(qQ (mq h)).trans h
theorem ba.more{T:B aP}{t:ap}:∀{k:C},ba T k t→ba (T++aC) k t:=by
 induction t with
 |k _=>exact λ h=>⟨h.1,h.2.1,o1 h.2.2⟩
 |v _=>exact λ h=>o1 h
 |a _ i=>exact λ h=>h.oV λ j e q=>⟨j,o1 e,i q⟩
 |b2 _=>exact λ h=>⟨h.1,o1 h.2⟩
 |g1 _ _ i=>exact λ h=>h.n0 λ j o e q=>⟨o,j,o1 e,i q⟩
 |g2 _ _ _ i jM=>exact λ h=>h.n1 λ j k o e q p=>⟨o,j,k,o1 e,i q,jM p⟩
structure TI(T:B aP)(ag W bL:B C):Prop where
 nodup:T.Nodup
 prim:∀i,i<16→T[i]? =some (.p i)
 d:∀(k:C) r,T[k]? =some r→ag[k]? =some (ku ag r)∧W[k]? =some (kQ W r)∧bL[k]? =some (nf bL r)
 ins:∀(k:C) r,T[k]? =some r→∀j∈gF r,j<k
theorem DL{f g:α→C→α}{l:B C}:∀{x:α},(∀d k,k∈l→f d k=g d k)→l.foldl f x=l.foldl g x:=by
 induction l with
 |nil=>exact λ _=>rfl
 |cons k l i=>exact λ{x} h=>(an (l.foldl f) (h x k (.head _))).trans (i λ d j bt=>h d j (.tail _ bt))
theorem DV{l:B C}(h:j<l.length):(l++m).getD j 0=l.getD j 0:=by
 rw[jx,jx,qQ h]
theorem Vb(h:∀j∈gF r,j<ag.length):ku (ag++m) r=ku ag r:=DL λ d j bt=>by rw[DV (h j bt)]
theorem afR(h:∀j∈gF r,j<W.length):kQ (W++m) r=kQ W r:=DL λ d j bt=>by rw[DV (h j bt)]
theorem abL(h:∀j∈gF r,j<bL.length):nf (bL++m) r=nf bL r:=DL λ d j bt=>by rw[DV (h j bt)]
theorem iY{z:C}(h:l.length=z):(l++[x])[z]? =some x:=h▸HR ..
theorem Bh{r:α}{k:C}{X:Prop}(e:(l++[x])[k]? =some r)(f:l[k]? =some r→X)(g:k=l.length→x=r→X):X:=
 (Ck k l.length).elim (λ q=>f ((qQ q).symm.trans e)) λ q=>
  have L:k=l.length:=Rk (lq (Rm (mq e) (fg ..))) q
  g L (lj (iY L.symm) e)
theorem TI.add(I:TI T ag W bL)(qj:ag.length=T.length∧W.length=T.length∧bL.length=T.length)(a4:nN T r)(fX:r∉T)(agW:16≤T.length):TI (T++[r]) (ag++[ku ag r]) (W++[kQ W r]) (bL++[nf bL r]) where
 nodup:=Cb.mpr ⟨I.nodup,List.pairwise_singleton _ r,λ x aA y bI e=>fX (jy.mp bI▸e▸aA)⟩
 prim:=λ i ay=>o1 (I.prim i ay)
 d:=λ k bw e=>by
  obtain⟨dy,eD,pl⟩:=qj
  have f:(∀j∈gF bw,j<T.length)→ku (ag++[ku ag r]) bw=ku ag bw∧kQ (W++[kQ W r]) bw=kQ W bw∧nf (bL++[nf bL r]) bw=nf bL bw:=λ f=>⟨Vb (by rw[dy];exact f),afR (by rw[eD];exact f),abL (by rw[pl];exact f)⟩
  refine Bh e (λ e=>?_) λ L e=>?_
  ·rw[(f λ j bt=>fh (I.ins k bw e j bt) (mq e)).1,(f λ j bt=>fh (I.ins k bw e j bt) (mq e)).2.1,(f λ j bt=>fh (I.ins k bw e j bt) (mq e)).2.2]
   exact⟨o1 (I.d k bw e).1,o1 (I.d k bw e).2.1,o1 (I.d k bw e).2.2⟩
  ·subst e;subst L
   rw[(f (xf a4)).1,(f (xf a4)).2.1,(f (xf a4)).2.2]
   exact⟨iY dy,iY eD,iY pl⟩
 ins:=λ k bw e=>Bh e (λ e=>I.ins k bw e) λ L e=>by subst e;subst L;exact xf a4
theorem ba.Zt(I:TI T ag W bL){t:ap}{k:C}(h:ba T k t):k≠0∧k≠14:=by
 have p:∀i,i<16→k=i→t= .k i∧k=i:=λ i ay q=>⟨h.row (r:=.p i) (q▸I.prim i ay),q⟩
 have c:∀c,t= .k c→c=7∨c=12∨c=13:=λ c e=>by subst e;exact h.2.1
 exact⟨λ q=>(by have:=c 0 (p 0 (by decide) q).1;omega),λ q=>(by have:=c 14 (p 14 (by decide) q).1;omega)⟩
theorem kx{l:B C}{x:C}(e:l[j]? =some x):l.getD j 0=x:=by rw[jx,e];rfl
theorem rx{x s:C}(h:d≤s)(q:x≤s):(if d<x then x else d)≤s:=by split<;>assumption
theorem NR{x:C}(q:x=0∨x=1):(if x=1 then 1 else 0)=x:=by rcases q with rfl|rfl<;>rfl
theorem ba.Hc(I:TI T ag W bL){t:ap}:∀{k:C},ba T k t→W[k]? =some t.size:=by
 induction t with
 |k _=>exact λ h=>(I.d _ _ h.2.2).2.1
 |v _=>exact λ h=>(I.d _ _ h).2.1
 |b2 _=>exact λ h=>(I.d _ _ h.2).2.1
 |a t i=>exact λ h=>h.oV λ j e q=>(I.d _ _ e).2.1.trans (an some ((an (1+·) (kx (i q))).trans (qS ..)))
 |g1 c t i=>exact λ h=>h.n0 λ j _ e q=>(I.d _ _ e).2.1.trans (an some ((an (1+·) (kx (i q))).trans (qS ..)))
 |g2 c t u i jM=>exact λ h=>h.n1 λ j fR _ e q ep=>(I.d _ _ e).2.1.trans (an some (show 1+W.getD j 0+W.getD fR 0=t.size+u.size+1 by rw[kx (i q),kx (jM ep)];omega))
theorem ba.op(I:TI T ag W bL){t:ap}:∀{k:C},ba T k t→bL[k]? =some t.open:=by
 induction t with
 |k _=>exact λ h=>(I.d _ _ h.2.2).2.2
 |v _=>exact λ h=>(I.d _ _ h).2.2
 |b2 _=>exact λ h=>(I.d _ _ h.2).2.2
 |a t i=>exact λ h=>h.oV λ j e q=>(I.d _ _ e).2.2.trans (an some ((an (λ x=>if x=1 then 1 else 0) (kx (i q))).trans (NR (rD t))))
 |g1 c t i=>exact λ h=>h.n0 λ j _ e q=>(I.d _ _ e).2.2.trans (an some ((an (λ x=>if x=1 then 1 else 0) (kx (i q))).trans (NR (rD t))))
 |g2 c t u i jM=>exact λ h=>h.n1 λ j fR _ e q ep=>(I.d _ _ e).2.2.trans (an some (show(if bL.getD fR 0=1 then 1 else if bL.getD j 0=1 then 1 else 0)=if t.open=1 then 1 else u.open by rw[kx (i q),kx (jM ep)];rcases rD t with x|x<;>rcases rD u with y|y<;>rw[x,y]<;>rfl))
theorem ba.Vk(I:TI T ag W bL){t:ap}:∀{k:C},ba T k t→∃d,ag[k]? =some d∧d≤t.size:=by
 induction t with
 |k _=>exact λ h=>⟨_,(I.d _ _ h.2.2).1,cJ _⟩
 |v _=>exact λ h=>⟨_,(I.d _ _ h).1,cJ _⟩
 |b2 _=>exact λ h=>⟨_,(I.d _ _ h.2).1,cJ _⟩
 |a t i=>exact λ h=>h.oV λ j e q=>let⟨d,g,l⟩:=i q;⟨_,(I.d _ _ e).1,rx (iE ..) (gp (kx g▸l))⟩
 |g1 c t i=>exact λ h=>h.n0 λ j _ e q=>let⟨d,g,l⟩:=i q;⟨_,(I.d _ _ e).1,rx (iE ..) (gp (kx g▸l))⟩
 |g2 c t u i jM=>exact λ h=>h.n1 λ j fR _ e q ep=>let⟨d,g,l⟩:=i q;let⟨kr,hM,cf⟩:=jM ep;⟨_,(I.d _ _ e).1,rx (rx (iE ..) (gp (Nat.le_add_right_of_le (kx g▸l)))) (gp (H7 (kx hM▸cf)))⟩
structure c6(a:bH)(h:aT)(T:B aP):Prop where
 ex:∃ag W bL,KT a h T ag W bL∧TI T ag W bL
 x8:16≤T.length
theorem c6.b7(al:c6 a h T){X:Prop}(f:∀ag W bL,KT a h T ag W bL→TI T ag W bL→X):X:=let⟨ag,W,bL,K,I⟩:=al.ex;f ag W bL K I
structure jX(h:aT)(T:B aP)(H:aT)(aC:B aP)(b:C):Prop where
 ext:∃X,aC=T++X
 le:aC.length≤T.length+b
 off:∀r o,gY r=false→h r=some o→H r=some o
theorem jX.refl(h:aT)(T:B aP):jX h T h T 0:=⟨⟨[],(eX T).symm⟩,cJ _,λ _ _ _ e=>e⟩
theorem jX.trans{h aI bJ:aT}{T bX cL:B aP}(x:jX h T aI bX b)(y:jX aI bX bJ cL d):jX h T bJ cL (b+d):=
 ⟨let⟨X,e⟩:=x.ext;let⟨hd,f⟩:=y.ext;⟨X++hd,f.trans ((an (· ++hd) e).trans (jw ..))⟩,a' y.le (a' (ha x.le d) (dg (mP ..))),λ r o q e=>y.off r o q (x.off r o q e)⟩
theorem jX.mono{h:aT}{T:B aP}(x:jX h T H aC b)(q:b≤d):jX h T H aC d:=⟨x.ext,a' x.le (fz q _),x.off⟩
theorem jX.eS{h:aT}{T:B aP}(x:jX h T H aC b){k:C}{t:ap}(q:ba T k t):ba aC k t:=let⟨_,e⟩:=x.ext;e▸q.more
theorem acS(al:c6 a h T)(M:Good a h n)(a4:nN T r)(a1:∀ag W bL,TI T ag W bL→ku ag r≤24∧kQ W r≤4096)(a3:T.length<500000){X:Prop}
  (f:∀k aC H J,runN ac (z+6) 2 [.ref (a .kt),fe r] n=some (E k,J)→aC[k]? =some r→c6 a H aC→Good a H J→jX h T H aC 1→X):X:=
 al.b7 λ ag W bL K I=>(f7 (r∈T)).elim
  (λ fX=>let⟨j,bt,e⟩:=acT (z:=z+5) K M a4 fX
   f j T h n e bt al M ((jX.refl h T).mono (fs 1)))
  λ fX=>let⟨J,e,dF⟩:=acR (z:=z) K M a4 fX (a1 ag W bL I).1 (a1 ag W bL I).2 a3
   have l:∀{l:B C} {x:C},l.length=T.length→(l++[x]).length=(T++[r]).length:=λ q=>by rw[fg,fg,q];rfl
   have EM:(T++[r]).length=T.length+1:=fg ..
   f T.length (T++[r]) _ J e (iY rfl) ⟨⟨_,_,_,Zx K ⟨l K.len.1,l K.len.2.1,l K.len.2.2⟩ (EM▸a3),I.add K.len a4 fX al.x8⟩,EM▸lr al.x8⟩ dF ⟨⟨[r],rfl⟩,dg EM,λ hW o q e=>(MM q).trans e⟩
end
end Mine
end
section
namespace Mine
variable{m c:C}{α:Type}{x:α}{xs:B D}{k:C}{r:aP}{l:B D}{v:D}{t:ap}{ks:B C}{i:C}
section
variable{a:bH}{h:aT}{n:St}{T:B aP}{ag W bL:B C}{z:C}
noncomputable def sS{α:Type}(f:B D→Y α):Y a0→Y α
 |some (.li xs)=>f xs
 |_=>none
theorem Nd{x:C}{aG:B (C×D)}(e:n[m]? =some (.bF c aG)):ms ac n x (.ref m)=if(aG.lookup x).isNone then ac.ps c x else none:=an (λ o:Y a0=>match o with|some (.bF c aG)=>if(aG.lookup x).isNone then ac.ps c x else none|_=>none) e
theorem iw(e:n[m]? =some (.li xs)):hQ n (.ref m)=some xs:=an (sS λ xs=>some xs) e
theorem GG(e:n[m]? =some (.li xs)):ic n (.ref m)=some (!xs.isEmpty):=an (sS λ xs=>some (!xs.isEmpty)) e
theorem GI(e:n[m]? =some (.li xs)):rN n (.ref m)=some (.tup xs):=an (sS λ xs=>some (D.tup xs)) e
theorem Om{z:C}(h:z≤1000):z≤room:=a' h (aE rfl)
theorem c6.rt(al:c6 a h T)(M:Good a h n):ms ac n 75 (.ref (a .kt))=some 1:=al.b7 λ _ _ _ K _=>(Nd (M.at_ _ _ K.kt)).trans rfl
theorem c6.og(al:c6 a h T)(M:Good a h n):ms ac n 76 (.ref (a .kt))=some 2:=al.b7 λ _ _ _ K _=>(Nd (M.at_ _ _ K.kt)).trans rfl
theorem c6.row(al:c6 a h T)(M:Good a h n)(e:T[k]? =some r):runN ac (z+1) 1 [.ref (a .kt),E k] n=some (fe r,n):=al.b7 λ _ _ _ K _=>A3 K M e
theorem j6(e:n[m]? =some (.li l))(q:l[k]? =some v):dd n (.ref m) (E k)=some v:=(Af e).trans ((zU ..).trans q)
theorem i7{c4:Type}{f:α→c4}{l:B α}(q:l[k]? =some x):(l.map f)[k]? =some (f x):=(qR ..).trans (an (qU f) q)
theorem c6.JE(al:c6 a h T)(M:Good a h n):d7 n (.ref (a .kt)) 0=some (.ref (a .k9)):=al.b7 λ _ _ _ K _=>(uW K M).1
theorem c6.rowAt(al:c6 a h T)(M:Good a h n)(e:T[k]? =some r):dd n (.ref (a .k9)) (E k)=some (fe r):=al.b7 λ _ _ _ K _=>j6 (M.at_ _ _ K.r) (i7 e)
theorem c6.opens(al:c6 a h T)(M:Good a h n):d7 n (.ref (a .kt)) 4=some (.ref (a .kE))∧(∀{k:C} {t:ap},ba T k t→dd n (.ref (a .kE)) (E k)=some (E t.open))∧∀i,i<16→dd n (.ref (a .kE)) (E i)=some (E 0):=
 al.b7 λ _ _ _ K I=>⟨(uW K M).2.2.2.2,λ q=>j6 (M.at_ _ _ K.o) (i7 (q.op I)),λ i ay=>j6 (M.at_ _ _ K.o) (i7 ((I.d i _ (I.prim i ay)).2.2))⟩
noncomputable def kZ(T:B aP)(r:aP):ap→Prop
 | .k _=>False
 | .v i=>r= .v i
 | .a t=>∃j,r= .a j∧ba T j t
 | .b2 c=>iz c∧r= .g c []
 | .g1 c t=>iz c∧∃j,r= .g c [j]∧ba T j t
 | .g2 c t u=>iz c∧∃i j,r= .g c [i,j]∧ba T i t∧ba T j u
@[elab_as_elim] theorem kZ.b7{ak:aP→ap→Prop}(q:kZ T r t)(cP:∀i,ak (.v i) (.v i))(bO:∀j t,ba T j t→ak (.a j) (.a t))(ec:∀c,iz c→ak (.g c []) (.b2 c))(ax:∀c j t,iz c→ba T j t→ak (.g c [j]) (.g1 c t))(aH:∀c i j t u,iz c→ba T i t→ba T j u→ak (.g c [i,j]) (.g2 c t u)):ak r t:=by
 cases t with
 |k c=>exact q.elim
 |v i=>cases q;exact cP _
 |a t=>obtain⟨j,rfl,q⟩:=q;exact bO _ _ q
 |b2 c=>obtain⟨o,rfl⟩:=q;exact ec _ o
 |g1 c t=>obtain⟨o,j,rfl,q⟩:=q;exact ax _ _ _ o q
 |g2 c t u=>obtain⟨o,i,j,rfl,q,ep⟩:=q;exact aH _ _ _ _ _ o q ep
theorem kZ.eS{aC:B aP}(q:kZ T r t)(m:∀{k:C} {t:ap},ba T k t→ba aC k t):aC[k]? =some r→ba aC k t:=
 q.b7 (λ _ e=>e) (λ j _ q e=>⟨j,e,m q⟩) (λ _ o e=>⟨o,e⟩) (λ _ j _ o q e=>⟨o,j,e,m q⟩) (λ _ i j _ _ o q ep e=>⟨o,i,j,e,m q,m ep⟩)
theorem rC(o:iz c):0<c∧(o7.lookup (c:am)).isSome=false:=by
 have ag:∀k:Fin 5,0<66+k.1∧(o7.lookup ((66+k.1:C):am)).isSome=false:=by decide
 exact o.elim (λ e=>by subst e;exact⟨Rw _,rfl⟩) λ q=>(Nat.add_sub_cancel' q.1:66+(c-66)=c)▸ag ⟨c-66,Nat.sub_lt_left_of_lt_add q.1 (pV q.2)⟩
theorem kZ.ok(I:TI T ag W bL)(q:kZ T r t):nN T r:=
 have f:∀{k:C} {t:ap},ba T k t→k<T.length∧k≠0∧k≠14:=λ q=>⟨q.lt,q.Zt I⟩
 q.b7 (λ _=>trivial) (λ _ _ q=>f q) (λ _ o=>⟨(rC o).1,(rC o).2,fs _,λ _ h=>nomatch h⟩) (λ _ _ _ o q=>⟨(rC o).1,(rC o).2,aE rfl,λ _ h=>jy.mp h▸f q⟩)
  (λ _ _ _ _ _ o q ep=>⟨(rC o).1,(rC o).2,aE rfl,λ _ h=>(kg.mp h).elim (λ e=>e▸f q) λ h=>jy.mp h▸f ep⟩)
theorem kZ.Vf(I:TI T ag W bL)(q:kZ T r t):t.size≤24→ku ag r≤24∧kQ W r≤4096:=by
 have kO:∀{t:ap} {j:C},ba T j t→t.size+1≤24→1+W.getD j 0≤4096:=λ q hs=>by rw[kx (q.Hc I)];omega
 have q7:∀{t:ap} {j:C},ba T j t→t.size+1≤24→ag.getD j 0+1≤24:=λ q hs=>let⟨d,g,l⟩:=q.Vk I;a' (gp (kx g▸l)) hs
 have cT:1≤24:=aE rfl
 have bu:1≤4096:=aE rfl
 exact q.b7 (λ _ _=>⟨cT,bu⟩) (λ _ _ q hs=>⟨rx cT (q7 q hs),kO q hs⟩) (λ _ _ _=>⟨cT,bu⟩) (λ _ _ _ _ q hs=>⟨rx cT (q7 q hs),kO q hs⟩) (λ _ i j t u _ q ep (hs:t.size+u.size+1≤24)=>⟨rx (rx cT (q7 q (by omega))) (q7 ep (by omega)),show 1+W.getD i 0+W.getD j 0≤4096 by rw[kx (q.Hc I),kx (ep.Hc I)];omega⟩)
noncomputable def Gives(a:bH)(h:aT)(T:B aP)(b:C)(t:ap)(k:C)(J:St):Prop:=∃aC H,ba aC k t∧c6 a H aC∧Good a H J∧jX h T H aC b
theorem Gives.b7{b:C}{J:St}(g:Gives a h T b t k J){X:Prop}(f:∀aC H,ba aC k t→c6 a H aC→Good a H J→jX h T H aC b→X):X:=let⟨aC,H,q,al,M,r⟩:=g;f aC H q al M r
section
variable{X:Prop}
theorem rF(al:c6 a h T)(M:Good a h n)(q:kZ T r t)(hs:t.size≤24)(a3:T.length<500000)(f:∀k J,runN ac (z+6) 2 [.ref (a .kt),fe r] n=some (E k,J)→Gives a h T 1 t k J→X):X:=
 al.b7 λ _ _ _ _ I=>acS (z:=z) al M (q.ok I) (λ ag W bL I=>q.Vf I hs) a3 λ k aC H J e dp iC dF g=>f k J e ⟨aC,H,q.eS (λ q=>g.eS q) dp,iC,dF,g⟩
theorem afM(al:c6 a h T)(M:Good a h n)(i:C)(a3:T.length<500000)(f:∀k J,runN ac (z+7) 22 [.ref (a .kt),E i] n=some (E k,J)→Gives a h T 1 (.v i) k J→X):X:=
 rF (z:=z) al M (r:=.v i) (t:=.v i) rfl (aE rfl) a3 λ k J e g=>f k J (cN (z+6) 22 [D.ref (a aN.kt),E i] n rfl rfl _ (al.og M) _ _ e) g
theorem UY(al:c6 a h T)(M:Good a h n)(q:kZ T (.g c ks) t)(o:iz c)(hs:t.size≤24)(a3:T.length<500000)(f:∀k J,runN ac (z+7) 21 [.ref (a .kt),E c,.tup (ks.map E)] n=some (E k,J)→Gives a h T 1 t k J→X):X:=
 rF (z:=z) al M q hs a3 λ k J e g=>f k J (cN (z+6) 21 [D.ref (a aN.kt),E c,D.tup (eA E ks)] n rfl rfl _ (Po (rC o).2) _ (al.og M) _ _ e) g
theorem aeg(al:c6 a h T)(M:Good a h n)(e:T[k]? =some r):runN ac (z+2) 23 [.ref (a .kt),E k] n=some (E (i9 r),n):=by
 exact(cN (z+1) 23 [D.ref (a aN.kt),E k] n rfl rfl _ (al.rt M) _ _ (al.row (z:=z) M e) _ (nk r))
theorem GC(al:c6 a h T)(M:Good a h n)(e:T[k]? =some (.g c ks)):runN ac (z+2) 24 [.ref (a .kt),E k] n=some (E c,n):=by
 exact(cN (z+1) 24 [D.ref (a aN.kt),E k] n rfl rfl _ (al.rt M) _ _ (al.row (z:=z) M e) _ rfl _ rfl _ rfl)
theorem JA(al:c6 a h T)(M:Good a h n)(e:T[k]? =some (.g c ks)):runN ac (z+2) 25 [.ref (a .kt),E k] n=some (.tup (ks.map E),n):=by
 exact(cN (z+1) 25 [D.ref (a aN.kt),E k] n rfl rfl _ (al.rt M) _ _ (al.row (z:=z) M e) _ rfl _ rfl _ rfl)
theorem ZR(q:l.length≤1000):k' n (.tup l)=some (l.length:am):=if_pos (Om q)
theorem Ah(q:l.length≤1000)(e:l[k]? =some v):dd n (.tup l) (E k)=some v:=(if_pos (Om q)).trans ((zU ..).trans e)
theorem Lf{l:B α}(q:l[i]? =none):l.getD i x=x:=by rw[jx,q];rfl
theorem getD_at{l:B α}(q:i<l.length):l[i]? =some (l.getD i x):=by rw[jx,h1 q];rfl
theorem mZ{x y:C}:cY .lt (E x) (.ii y) n=some (decide (x<y)):=an some (q8.mpr B1)
theorem acC(hl:ks.length≤2):runN ac (z+1) 29 [.tup (ks.map E),E i,E k] n=some (E (ks.getD i k),n):=by
 have lL:(ks.map E).length≤1000:=cG (as:=ks) E▸a' hl (aE rfl)
 have l:k' n (.tup (ks.map E))=some (ks.length:am):=(ZR lL).trans (by rw[cG])
 by_cases q:i<ks.length
 ·have c:=jF (mZ (n:=n)) q
  have x:=Ah (n:=n) lL (i7 (f:=E) (getD_at (x:=k) q))
  exact(cN z 29 [D.tup (eA E ks),E i,E k] n rfl rfl _ l _ c _ x)
 ·have c:=iJ (mZ (n:=n)) q
  rw[Lf (B8 (Rl q))]
  exact(cN z 29 [D.tup (eA E ks),E i,E k] n rfl rfl _ l _ c)
theorem afU(al:c6 a h T)(M:Good a h n){bw:aP}(a4:(∃j fR,r= .a j∧bw= .a fR∧ks=[fR])∨∃c l,r= .g c l∧bw= .g c ks)(q:kZ T bw t)(hs:t.size≤24)(a3:T.length<500000)(f:∀k J,runN ac (z+7) 28 [.ref (a .kt),fe r,.tup (ks.map E)] n=some (E k,J)→Gives a h T 1 t k J→X):X:=
 rF (z:=z) al M q hs a3 λ k J e g=>f k J (a4.elim
  (λ⟨j,fR,au,aB,bZ⟩=>by
   subst au;subst aB;subst bZ
   exact(cN (z+6) 28 [D.ref (a aN.kt),fe (aP.a j),D.tup (eA E [fR])] n rfl rfl _ rfl _ rfl _ rfl _ rfl _ rfl _ (al.og M) _ rfl _ _ e))
  λ⟨c,l,au,aB⟩=>by
   subst au;subst aB
   exact(cN (z+6) 28 [D.ref (a aN.kt),fe (aP.g c l),D.tup (eA E ks)] n rfl rfl _ rfl _ rfl _ (al.og M) _ rfl _ _ e)) g
end
end
end Mine
end
section
namespace Mine
variable{l cf:B D}{step:D→aX→St→Y (eZ×St)}{env:aX}{x:Y a0}{r:aN}{H:aT}{m:C}{o:a0}{aC:B aP}{ks:B C}{bE:B ap}{t:ap}
section
variable{dm:Type}[ny dm][oK dm]{O:B (dm×D)}{k ct:dm}{v:D}
theorem AV{dm:Type}[ny dm]{O:B (dm×D)}{k:dm}{v:D}:(c7 O k v).length≤O.length+1:=by
 unfold c7
 split
 ·exact lr (dg (cG ..))
 ·exact dg (fg ..)
theorem pp{a:dm}{b:D}{O:B (dm×D)}:((a,b)::O).lookup k=bif k==a then some b else O.lookup k:=by
 rw[l0]
 cases k==a<;>rfl
theorem acH(L:(ct==k)=false):(O.map λ e=>if e.1==k then(e.1,v)else e).lookup ct=O.lookup ct:=by
 induction O with
 |nil=>rfl
 |cons x O aZ=>
  have f:∀b:D,(bif ct==x.1 then some b else(O.map λ e=>if e.1==k then(e.1,v)else e).lookup ct)=bif ct==x.1 then some b else O.lookup ct:=λ b=>an (λ o=>bif ct==x.1 then some b else o) aZ
  by_cases w:(x.1==k)=true
  ·have y:(ct==x.1)=false:=eq_of_beq w▸L
   exact(an (λ p=>yG ct (p::_)) (if_pos w)).trans (pp.trans (((an (λ c=>bif c then _ else _) y).trans aZ).trans (pp.trans (an (λ c=>bif c then _ else _) y)).symm))
  ·exact(an (λ p=>yG ct (p::_)) (if_neg w)).trans (pp.trans ((f x.2).trans pp.symm))
theorem acG(s:(O.lookup k).isSome=true):(O.map λ e=>if e.1==k then(e.1,v)else e).lookup k=some v:=by
 induction O with
 |nil=>exact nomatch s
 |cons x O aZ=>
  by_cases w:(x.1==k)=true
  ·exact(an (λ p=>yG k (p::_)) (if_pos w)).trans (pp.trans (an (λ c=>bif c then _ else _) (show(k==x.1)=true from eq_of_beq w▸lD k)))
  ·have y:(k==x.1)=false:=l'.mpr λ e=>w (e▸lD x.1)
   exact(an (λ p=>yG k (p::_)) (if_neg w)).trans (pp.trans ((an (λ c=>bif c then _ else _) y).trans (aZ ((an pX (pp.trans (an (λ c=>bif c then some x.2 else O.lookup k) y))).symm.trans s))))
theorem N6:(c7 O k v).lookup ct=bif ct==k then some v else O.lookup ct:=by
 unfold c7
 by_cases s:(O.lookup k).isSome=true
 ·rw[if_pos s]
  by_cases L:(ct==k)=true
  ·rw[L,eq_of_beq L];exact acG s
  ·have L:=rW.mpr L
   rw[L];exact acH L
 ·rw[if_neg s,yH]
  by_cases L:(ct==k)=true
  ·rw[L,eq_of_beq L,we.mpr λ v e=>s (an pX e)]
   exact pp.trans (an (λ c=>bif c then _ else _) (lD k))
  ·have L:=rW.mpr L
   rw[L]
   exact(an ((O.lookup ct).or) (pp.trans (an (λ c=>bif c then _ else _) L))).trans (Rz ..)
theorem qx:(c7 O k v).lookup k=some v:=N6.trans (an (λ c=>bif c then _ else _) (lD k))
theorem ni(h:ct≠k):(c7 O k v).lookup ct=O.lookup ct:=N6.trans (an (λ c=>bif c then _ else _) (l'.mpr h))
end
section
variable{a:bH}{h:aT}{n:St}{T:B aP}{ag W bL:B C}{z:C}
theorem DO: @fC (live (.tup l) cf) (e0 (.tup l) cf) step [] env n=some (.br env,n):=if_pos trivial
theorem wW{x:D}{r:B D}{aF:aX}{J:St}(e:step x env n=some (.br aF,J)): @fC (live (.tup l) cf) (e0 (.tup l) cf) step (x::r) env n= @fC (live (.tup l) cf) (e0 (.tup l) cf) step r aF J:=fc trivial e rfl
noncomputable def hR:aN→av
 | .kt=>true
 |r=>gY r
theorem c6.off(al:c6 a h T)(q:∀r o,hR r=true→h r=some o→H r=some o):c6 a H T:=
 al.b7 λ ag W bL K I=>⟨⟨ag,W,bL,⟨q _ _ rfl K.kt,q _ _ rfl K.r,q _ _ rfl K.i,q _ _ rfl K.d,q _ _ rfl K.w,q _ _ rfl K.o,K.len,K.small⟩,I⟩,al.x8⟩
theorem mI{h:aT}(e:h r=some o)(a4:r≠ .a6 m):up h (.a6 m) x r=some o:=(bP _ _ a4).trans e
theorem Zy(q:hR r=true):r≠ .a6 m:=λ e=>ju ((an hR e).symm.trans q)
theorem c6.mG(al:c6 a h T):c6 a (up h (.a6 m) x) T:=al.off λ r o q e=>mI e (Zy q)
theorem tm{c0:C}(h:m≠c0):aN.a6 m≠ .a6 c0:=λ e=>h (aN.a6.inj e)
theorem afH{h:aT}{bw:aN}(e:up h r none bw=some o)(q:bw≠r→h bw=some o→H bw=some o):up H r x bw=some o:=
 (f7 (bw=r)).elim (λ L=>nomatch(L▸cR h r none:up h r none bw=none).symm.trans e) λ L=>(bP _ _ L).trans (q L ((bP _ _ L).symm.trans e))
noncomputable def d1(T:B aP):B C→B ap→Prop
 | [],[]=>True
 |k::ks,t::bE=>ba T k t∧d1 T ks bE
 |_,_=>False
@[elab_as_elim] theorem d1.b7{ak:B C→B ap→Prop}(z:ak [] [])(c:∀k ks t bE,ba T k t→d1 T ks bE→ak ks bE→ak (k::ks) (t::bE)):∀{bE:B ap} {ks:B C},d1 T ks bE→ak ks bE
 | [],[],_=>z
 |_::_,_::_,q=>c _ _ _ _ q.1 q.2 (d1.b7 z c q.2)
 | [],_::_,q=>q.elim
 |_::_,[],q=>q.elim
theorem d1.more(m:∀{k:C} {t:ap},ba T k t→ba aC k t)(q:d1 T ks bE):d1 aC ks bE:=q.b7 trivial λ _ _ _ _ q _ i=>⟨m q,i⟩
theorem d1.len(q:d1 T ks bE):ks.length=bE.length:=q.b7 rfl λ _ _ _ _ _ _ i=>an l1 i
theorem d1.pick{i k:C}(q:d1 T ks bE)(p:ba T k t):ba T (ks.getD i k) (bE.getD i t):=
 (q.b7 (ak:=λ ks bE=>∀i,ba T (ks.getD i k) (bE.getD i t)) (λ _=>p) λ _ _ _ _ q _ r i=>match i with
  |0=>q
  |i+1=>r i) i
noncomputable def km(T:B aP)(l:B ap)(S:B (am×D)):Prop:=∀(k:C) (v:D),S.lookup (k:am)=some v→∃t e6,ba T k t∧v=E e6∧ba T e6 (t.sub l)
structure iS(a:bH)(h:aT)(T:B aP)(l:B ap)(S:B (am×D))(b m:C)(J:St)(aC:B aP)(H:aT)(fA:B (am×D)):Prop where
 bT:c6 a H aC
 good:Good a H J
 ext:∃X,aC=T++X
 le:aC.length≤T.length+b
 seen:H (.a6 m)=some (.cq fA)
 ok:km aC l fA
 dQ:fA.length≤S.length+b
 off:∀r o,gY r=false→r≠ .a6 m→h r=some o→H r=some o
theorem iS.eS{l:B ap}{S fA:B (am×D)}{b:C}(c:iS a h T l S b m n aC H fA){k:C}(q:ba T k t):ba aC k t:=let⟨_,e⟩:=c.ext;e▸q.more
noncomputable def vZ(a:bH)(nn:C)(h:aT)(n:St)(T:B aP)(k m:C)(ks:B C)(l:B ap)(S:B (am×D))(t:ap)(b:C):Prop:=∀{X:Prop},(∀fk J aC H fA,runN ac nn 27 [.ref (a .kt),E k,.tup (ks.map E),.tup [],.ref m] n=some (E fk,J)→ba aC fk (t.sub l)→iS a h T l S b m J aC H fA→X)→X
noncomputable def rY(a:bH)(t:ap):Prop:=∀{z:C} {h:aT} {n:St} {T:B aP} {k m:C} {ks:B C} {l:B ap} {S:B (am×D)},c6 a h T→Good a h n→ba T k t→d1 T ks l→ks.length≤2→(t.sub l).size≤24→T.length+t.size<500000→
 h (.a6 m)=some (.cq S)→km T l S→S.length+t.size<1000→vZ a (z+t.size+8) h n T k m ks l S t t.size
noncomputable def Do:bk:=.cons (.ex (.append (.v 6) (.call 27 (.cons (.v 0) (.cons (.v 7) (.cons (.v 2) (.cons (.v 3) (.cons (.v 4) .nil)))))))) .nil
noncomputable def sx(a:bH)(k m gN:C)(ks:B C)(r:aP)(bm:Y D):aX:=[some (.ref (a .kt)),some (E k),some (.tup (ks.map E)),some (.tup []),some (.ref m),some (fe r),some (.ref gN),bm]
theorem de(M:Good a h n)(e:h (.a6 m)=some o):n[m]? =some o:=M.a6 m▸M.at_ _ _ e
theorem UV{u:ap}(cU:rY a u){nn k j gN:C}{l:B ap}{S:B (am×D)}{r:aP}{acc:B D}{bm:Y D}(al:c6 a h T)(M:Good a h n)(q:ba T j u)(fJ:d1 T ks l)(hl:ks.length≤2)(hs:(u.sub l).size≤24)(a3:T.length+u.size<500000)
  (hm:h (.a6 m)=some (.cq S))(ok:km T l S)(dx:S.length+u.size<1000)(ay:h (.a6 gN)=some (.li acc))(ne:gN≠m)(rd:acc.length<10)(cy:nn=z+u.size+8){X:Prop}
  (f:∀fk J aC H fA,(dh false [7] (E j) (sx a k m gN ks r bm)).bind (λ dG=>bS ac (runN ac nn) Do dG n)=some (.br (sx a k m gN ks r (some (E j))),J)→ba aC fk (u.sub l)→H (.a6 gN)=some (.li (acc++[E fk]))→
   iS a (up h (.a6 gN) none) T l S u.size m J aC H fA→X):X:=by
 subst cy
 refine cU (z:=z) al M q fJ hl hs a3 hm ok dx λ fk aa bX aI bU e gk V=>?_
 have Ej:=V.off _ _ rfl (tm ne) ay
 obtain⟨ao,ez,dA,_⟩:=wB V.good Ej (E fk) (e' rd (aE rfl))
 rw[V.good.a6]at ez
 have ZV:mk n (.ref gN)=true:=by simp only[mk,Al,de M ay]
 refine f fk ao bX (up aI (.a6 gN) (some (.li (acc++[E fk])))) bU (aR (a:=sx a k m gN ks r (some (E j))) rfl ?_) gk (cR ..) ⟨V.bT.mG,dA,V.ext,V.le,mI V.seen (tm ne.symm),V.ok,V.dQ,λ hW o c2 dW bC=>afH bC λ _ e=>V.off _ _ c2 dW e⟩
 exact dk (z+u.size+8) Do (sx a k m gN ks r (some (E j))) n ZV _ _ e _ ez
end
end Mine
end
section
namespace Mine
variable{m k:C}{l:B ap}{t:ap}{b:C}{bU:B (am×D)}{bX:B aP}{aI:aT}{cL:B aP}{x y d s:C}{r:aP}{ks:B C}
section
variable{a:bH}{h:aT}{n:St}{T:B aP}{ag W bL:B C}{z:C}
theorem Aj{S:B (am×D)}(e:n[m]? =some (.cq S)):cY .pj (E k) (.ref m) n=some (S.lookup (k:am)).isSome:=by simp only[cY,Ai,E,e,jN]
theorem L0{S:B (am×D)}(e:n[m]? =some (.cq S)):dd n (.ref m) (E k)=S.lookup (k:am):=an (ri (E k)) e
theorem km.b7{S:B (am×D)}(ok:km T l S){v:D}(e:S.lookup (k:am)=some v){X:Prop}(f:∀t e6,ba T k t→v=E e6→ba T e6 (t.sub l)→X):X:=let⟨t,e6,q,L,ep⟩:=ok k v e;f t e6 q L ep
theorem km.more{aC:B aP}{S:B (am×D)}(m:∀{k:C} {t:ap},ba T k t→ba aC k t)(ok:km T l S):km aC l S:=λ k v e=>ok.b7 e λ t e6 q L ep=>⟨t,e6,m q,L,m ep⟩
theorem km.put{S:B (am×D)}(ok:km T l S){fk:C}(q:ba T k t)(ep:ba T fk (t.sub l)):km T l (c7 S (k:am) (E fk)):=λ ct v e=>
 (f7 ((ct:am)=k)).elim (λ L=>⟨t,fk,tJ L▸q,(lj (L▸qx) e).symm,ep⟩) λ L=>ok ct v ((ni L).symm.trans e)
theorem iS.refl{S:B (am×D)}(al:c6 a h T)(M:Good a h n)(hm:h (.a6 m)=some (.cq S))(ok:km T l S):iS a h T l S b m n T h S:=
 ⟨al,M,⟨[],(eX T).symm⟩,d2 ..,hm,ok,d2 ..,λ _ _ _ _ e=>e⟩
theorem iS.less{S:B (am×D)}{h₀:aT}(x:iS a h T l S b m n bX aI bU)(q:∀r o,gY r=false→r≠ .a6 m→h₀ r=some o→h r=some o):iS a h₀ T l S b m n bX aI bU:=
 ⟨x.bT,x.good,x.ext,x.le,x.seen,x.ok,x.dQ,λ r o c2 dW e=>x.off r o c2 dW (q r o c2 dW e)⟩
theorem md{T:B aP}(x:∃X,bX=T++X)(y:∃X,cL=bX++X):∃X,cL=T++X:=let⟨X,e⟩:=x;let⟨hd,f⟩:=y;⟨X++hd,f.trans ((an (· ++hd) e).trans (jw ..))⟩
theorem od{L:C}(p:y≤x+b)(q:L≤y+d):L≤x+(b+d):=a' q (a' (ha p d) (dg (mP ..)))
theorem iS.trans{S dt:B (am×D)}{aa ao:St}{bJ:aT}(x:iS a h T l S b m aa bX aI bU)(y:iS a aI bX l bU d m ao cL bJ dt):iS a h T l S (b+d) m ao cL bJ dt:=
 ⟨y.bT,y.good,md x.ext y.ext,od x.le y.le,y.seen,y.ok,od x.dQ y.dQ,λ r o c2 dW e=>y.off r o c2 dW (x.off r o c2 dW e)⟩
noncomputable def Je(r bw:aP)(fI:B C):Prop:=(∃j fR,r= .a j∧bw= .a fR∧fI=[fR])∨∃c l,r= .g c l∧bw= .g c fI
noncomputable def Kh(a:bH)(nn:C)(n:St)(k m gN:C)(ks:B C)(r:aP)(ae lX:B D)(l:B D)(bm:Y D):Y (eZ×St):=@fC (live (.tup ae) lX) (e0 (.tup ae) lX) (λ x aF J=>(dh false [7] x aF).bind λ dG=>bS ac (runN ac nn) Do dG J) l (sx a k m gN ks r bm) n
theorem E0(h:x+(s+y)<b):x+s<b:=cn (fz (d2 ..) _) h
theorem xv(p:y≤x+s)(h:x+s<b):y<b:=cn p h
theorem Az{hr:C}(p:hr≤x+s)(h:x+(s+y)<b):hr+y<b:=cn (ha p y) (cn (dg (mP ..)) h)
theorem UU{nn:C}{S:B (am×D)}(al:c6 a h T)(M:Good a h n)(q:ba T k t)(e:T[k]? =some r)(be:t.open=1)(aj:i9 r=4∨i9 r=2)
  (hm:h (.a6 m)=some (.cq S))(nl:S.lookup (k:am)=none)(dx:S.length+b<1000)(hs:(t.sub l).size≤24)(a3:T.length+b<500000)(XY:(gF r).length≤2)
  (Ay:∀{X:Prop},(∀fI bw ao cL bJ dt bm,Kh a (nn+7) (n++[.li []]) k m n.length ks r ((gF r).map E) ((gF r).map E) ((gF r).map E) none=
    some (.br (sx a k m n.length ks r bm),ao)→iS a h T l S b m ao cL bJ dt→bJ (.a6 n.length)=some (.li (fI.map E))→kZ cL bw (t.sub l)→Je r bw fI→X)→X):vZ a (nn+8) h n T k m ks l S t (b+1):=λ f=>by
 refine Ay λ fI bw ao cL bJ dt bm gM V li mD vw=>afU (z:=nn) V.bT V.good vw mD hs (xv V.le a3) λ fk bW bZ gK=>gK.b7 λ lA cQ j7 Ht d0 gK=>?_
 have LK:=gK.off _ _ rfl V.seen
 have S2:=de d0 LK
 have hY:=d0.set (c3:=.cq (c7 dt (k:am) (E fk))) LK
 rw[d0.a6]at hY
 have st:j9 bW (.ref m) (E k) (E fk)=some (bW.set m (.cq (c7 dt (k:am) (E fk)))):=
  (an (rK bW m (E k) (E fk)) S2).trans (if_pos (e' (xv V.dQ dx) (aE rfl)))
 have Wp:=(L0 (k:=k) (de hY (cR _ _ _))).trans qx
 have cm:=(al.opens M).1
 have om:=be▸(al.opens M).2.1 q
 have nq:=nl▸Aj (k:=k) (de M hm)
 have Ga:cY .eq (E (i9 r)) (.ii 6) n=some false:=by rcases aj with L|L<;>rw[L]<;>rfl
 have adE:cY .eq (E (i9 r)) (.ii 7) n=some false:=by rcases aj with L|L<;>rw[L]<;>rfl
 have XZ:((gF r).map E).length≤100000:=cG (as:=gF r) E▸a' XY (aE rfl)
 refine f fk _ lA _ (c7 dt (k:am) (E fk)) (cN (nn+7) 27 [D.ref (a aN.kt),E k,D.tup (eA E ks),D.tup [],D.ref m] n rfl rfl _ cm _ om _ rfl _ nq _ (al.JE M) _ (al.rowAt M e) _ (nk r) _ Ga _ (nk r) _ adE _ _ (Ak (z:=nn+6) r) _ rfl XZ _ _ gM _ (GI (de V.good li)) _ _ bZ _ st _ Wp) j7 ⟨Ht.mG,hY,md V.ext gK.ext,od V.le gK.le,cR _ _ _,(km.more (λ q=>gK.eS q) V.ok).put (gK.eS (V.eS q)) j7,a' AV (gp V.dQ),λ hW o c2 dW bC=>(bP _ _ dW).trans (gK.off _ _ c2 (V.off _ _ c2 dW bC))⟩
theorem GZ{h:aT}{r bw:aN}{o:a0}(e:up h r none bw=some o):bw≠r∧h bw=some o:=
 have L:bw≠r:=λ L=>nomatch(L▸cR h r none:up h r none bw=none).symm.trans e
 ⟨L,(bP _ _ L).symm.trans e⟩
noncomputable def qD:B ap→C
 | []=>0
 |t::bE=>t.size+qD bE
theorem UT{nn gN:C}{ae lX:B D}(hl:ks.length≤2)(ne:gN≠m){df:B ap}:∀{eR:B C} {h:aT} {n:St} {T:B aP} {S:B (am×D)} {acc:B D} {bm:Y D},(∀u∈df,rY a u∧(u.sub l).size≤24∧8+u.size≤nn)→c6 a h T→Good a h n→d1 T eR df→d1 T ks l→
  T.length+qD df<500000→h (.a6 m)=some (.cq S)→km T l S→S.length+qD df<1000→h (.a6 gN)=some (.li acc)→acc.length+df.length≤9→
  ∀{X:Prop},(∀fI J aC H fA mz,Kh a nn n k m gN ks r ae lX (eR.map E) bm=some (.br (sx a k m gN ks r mz),J)→
   d1 aC fI (df.map (ap.sub l))→H (.a6 gN)=some (.li (acc++fI.map E))→iS a (up h (.a6 gN) none) T l S (qD df) m J aC H fA→X)→X:=by
 induction df with
 |nil=>
  intro eR h n T S acc bm _ al M q _ _ hm ok _ ay _ X f
  cases eR with
  |nil=>exact f [] n T h S bm DO trivial (ay.trans (an (λ l=>some (a0.li l)) (eX acc).symm)) ((iS.refl al M hm ok).less λ r o _ _ e=>(GZ e).2)
  |cons _ _=>exact q.elim
 |cons u df aZ=>
  intro eR h n T S acc bm cU al M q fJ a3 hm ok dx ay rd X f
  cases eR with
  |nil=>exact q.elim
  |cons j eR=>
  have ec:=cU u (.head _)
  refine UV (z:=nn-8-u.size) (nn:=nn) (k:=k) (r:=r) (bm:=bm) ec.1 al M q.1 fJ hl ec.2.1 (E0 a3) hm ok (E0 dx) ay ne (by have:(u::df).length=df.length+1:=rfl;omega) (by have:=ec.2.2;omega) λ fk aa bX aI bU e gk Ej V=>?_
  refine aZ (bm:=some (E j)) (λ u dS=>cU u (.tail _ dS)) V.bT V.good (q.2.more λ q=>V.eS q) (fJ.more λ q=>V.eS q) (Az V.le a3) V.seen V.ok (Az V.dQ dx) Ej (by have:(u::df).length=df.length+1:=rfl;rw[fg,Q1];omega) λ fI ao cL bJ dt mz aB cO XO Hw=>?_
  refine f (fk::fI) ao cL bJ dt mz ((wW e).trans aB) ⟨Hw.eS gk,cO⟩ (XO.trans (an (λ l=>some (a0.li l)) (jw ..))) (iS.trans ⟨V.bT.mG,V.good.less λ r o e=>(GZ e).2,V.ext,V.le,mI V.seen (tm ne.symm),V.ok,V.dQ,λ r o c2 dW e=>(bP _ _ (GZ e).1).trans (V.off r o c2 dW e)⟩ Hw)
end
end Mine
end
section
namespace Mine
variable{t:ap}{k m:C}{ks:B C}{l:B ap}{b:C}{α:Type}{P:α→Prop}{x:α}{X:Prop}
section
variable{a:bH}{h:aT}{n:St}{T:B aP}{ag W bL:B C}{z:C}
theorem Kk{nn:C}{S:B (am×D)}(al:c6 a h T)(M:Good a h n)(q:ba T k t)(hm:h (.a6 m)=some (.cq S))(ok:km T l S)(c:t.open=0∨∃v,S.lookup (k:am)=some v):vZ a (nn+1) h n T k m ks l S t b:=λ f=>by
 have cm:=(al.opens M).1
 by_cases L:t.open=0
 ·have om:=L▸(al.opens M).2.1 q
  exact f k n T h S (cN nn 27 [D.ref (a aN.kt),E k,D.tup (eA E ks),D.tup [],D.ref m] n rfl rfl _ cm _ om _ rfl) ((Pc L).symm▸q) (iS.refl al M hm ok)
 ·have om:=(rD t).resolve_left L▸(al.opens M).2.1 q
  obtain⟨v,e⟩:=c.resolve_left L
  refine ok.b7 e λ cB e6 d' w cO=>?_
  have nq:=(Aj (k:=k) (de M hm)).trans (an (λ o=>some o.isSome) e)
  have ad3:=(L0 (k:=k) (de M hm)).trans (w▸e)
  exact f e6 n T h S (cN nn 27 [D.ref (a aN.kt),E k,D.tup (eA E ks),D.tup [],D.ref m] n rfl rfl _ cm _ om _ rfl _ nq _ ad3) (q.a6 d'▸cO) (iS.refl al M hm ok)
theorem Ki{nn:C}{S:B (am×D)}(al:c6 a h T)(M:Good a h n)(q:ba T k t)(hm:h (.a6 m)=some (.cq S))(ok:km T l S)(f:t.open=1→S.lookup (k:am)=none→vZ a (nn+1) h n T k m ks l S t b):vZ a (nn+1) h n T k m ks l S t b:=
 (f7 (t.open=0∨∃v,S.lookup (k:am)=some v)).elim (λ c=>Kk al M q hm ok c) λ c=>f ((rD t).resolve_left λ L=>c (.inl L)) (we.mpr λ v e=>c (.inr ⟨v,e⟩))
theorem Dp{df:B ap}(cU:∀u∈df,rY a u)(dS:df.length≤2)(uN:t.size=qD df+1)(Ym:∀l,∀u∈df,(u.sub l).size≤(t.sub l).size)(w3:∀u∈df,u.size≤qD df)
  (a4:∀{T:B aP} {k:C},ba T k t→∀{X:Prop},(∀r,T[k]? =some r→d1 T (gF r) df→(i9 r=4∨i9 r=2)→(∀{aC:B aP} {fI:B C} {l:B ap},d1 aC fI (df.map (ap.sub l))→∃bw,kZ aC bw (t.sub l)∧Je r bw fI)→X)→X):rY a t:=by
 intro z h n T k m ks l S al M q fJ hl hs a3 hm ok dx
 refine Ki al M q hm ok λ L nl=>a4 q λ r e Oe aj mD=>?_
 rw[uN]at a3 dx⊢
 refine UU (nn:=z+(qD df+1)) (b:=qD df) (ks:=ks) (l:=l) al M q e L aj hm nl (mQ dx) hs (mQ a3) (Oe.len▸dS) λ f=>?_
 have ne:n.length≠m:=λ e=>absurd (M.lt (r:=.a6 m) (by rw[hm];rfl)) (by rw[M.a6];exact Rp (dg e))
 refine UT (a:=a) (nn:=z+(qD df+1)+7) (k:=k) (m:=m) (gN:=n.length) (r:=r) (ae:=(gF r).map E) (lX:=(gF r).map E) (acc:=[]) (bm:=none) hl ne (λ u dS=>⟨cU u dS,a' (Ym l u dS) hs,by have:=w3 u dS;omega⟩) (al.mG (m:=n.length) (x:=some (.li []))) (M.mG (.li [])) Oe fJ (mQ a3) (mI hm (tm ne.symm)) ok (mQ dx) (cR _ _ _) (a' (dg (jh _)) (a' dS (aE rfl))) λ fI ao cL bJ dt bm gM gk li V=>?_
 obtain⟨bw,adi,vw⟩:=mD gk
 exact f fI bw ao cL bJ dt bm gM (V.less λ r o c2 dW e=>
  have L:r≠ .a6 n.length:=λ L=>nomatch(L▸M.fresh (cJ _):h r=none).symm.trans e
  (bP _ _ L).trans ((bP _ _ L).trans e)) li adi vw
theorem UX(i:C){nn:C}{S:B (am×D)}(al:c6 a h T)(M:Good a h n)(q:ba T k (.v i))(hl:ks.length≤2)(hm:h (.a6 m)=some (.cq S))(nl:S.lookup (k:am)=none):
  runN ac (nn+2) 27 [.ref (a .kt),E k,.tup (ks.map E),.tup [],.ref m] n=some (E (ks.getD i k),n):=by
 have cm:=(al.opens M).1
 have om:=(al.opens M).2.1 q
 have nq:=nl▸Aj (k:=k) (de M hm)
 exact(cN (nn+1) 27 [D.ref (a aN.kt),E k,D.tup (eA E ks),D.tup [],D.ref m] n rfl rfl _ cm _ om _ rfl _ nq _ (al.JE M) _ (al.rowAt M q) _ rfl _ rfl _ rfl _ _ (acC (n:=n) (z:=nn) (i:=i) (k:=k) hl))
theorem UW(i:C):rY a (.v i):=λ{z h n T k m ks l S} al M q fJ hl hs a3 hm ok dx=>Ki (nn:=z+1+7) al M q hm ok λ _ nl _ f=>f (ks.getD i k) n T h S (UX i al M q hl hm nl) (fJ.pick q) (iS.refl al M hm ok)
theorem Kj(L:t.open=0):rY a t:=λ al M q fJ hl hs a3 hm ok dx=>Kk al M q hm ok (.inl L)
theorem ji(h:P x):∀y∈ [x],P y:=λ y bI=>jy.mp bI▸h
theorem oW{L:α}(h:P x)(g:P L):∀y∈ [x,L],P y:=λ y bI=>(kg.mp bI).elim (λ e=>e▸h) λ bI=>ji g y bI
theorem d1.one(q:d1 T ks [t])(f:∀j,ks=[j]→ba T j t→X):X:=match ks,q with
 | [j],q=>f j rfl q.1
theorem d1.two{u:ap}(q:d1 T ks [t,u])(f:∀i j,ks=[i,j]→ba T i t→ba T j u→X):X:=match ks,q with
 | [i,j],q=>f i j rfl q.1 q.2.1
theorem U0(t:ap):rY a t:=by
 induction t with
 |k c=>exact Kj rfl
 |v i=>exact UW i
 |b2 c=>exact Kj rfl
 |a u aZ=>exact Dp (df:=[u]) (ji aZ) (h4 1) rfl (λ l=>ji (h4 _)) (ji (cJ _)) λ q _ f=>q.oV λ j e q=>f _ e ⟨q,trivial⟩ (.inl rfl) λ gk=>gk.one λ fR L p=>⟨.a fR,⟨fR,rfl,p⟩,.inl ⟨j,fR,rfl,rfl,L⟩⟩
 |g1 c u aZ=>exact Dp (df:=[u]) (ji aZ) (h4 1) rfl (λ l=>ji (h4 _)) (ji (cJ _)) λ q _ f=>q.n0 λ j o e q=>f _ e ⟨q,trivial⟩ (.inr rfl) λ gk=>gk.one λ fR L p=>⟨.g c [fR],⟨o,fR,rfl,p⟩,.inr ⟨c,[j],rfl,L▸rfl⟩⟩
 |g2 c u v aZ ih2=>
  exact Dp (df:=[u,v]) (oW aZ ih2) (cJ 2) rfl (λ l=>oW (lr (d2 ..)) (lr (iE ..))) (oW (d2 ..) (iE ..)) λ q _ f=>q.n1 λ i j o e q ep=>f _ e ⟨q,ep,trivial⟩ (.inr rfl) λ gk=>gk.two λ jM fR L p f2=>⟨.g c [jM,fR],⟨o,jM,fR,rfl,p,f2⟩,.inr ⟨c,[i,j],rfl,L▸rfl⟩⟩
end
end Mine
end
section
namespace Mine
variable{aI:aT}{bX:B aP}{b d:C}{aa:St}{k:C}{t:ap}{r:aN}{o:a0}{m:C}{J:St}{xs:B D}{v:D}{dq:St→Prop}{jk:qL dq}{step:D→St→Y (B D×St)}{acc:B D}{l:B ap}{ks:B C}
section
variable{a:bH}{h:aT}{n:St}{T:B aP}{ag W bL:B C}{z:C}
structure b0(a:bH)(h:aT)(T:B aP)(b:C)(J:St)(aC:B aP)(H:aT):Prop where
 good:Good a H J
 bT:c6 a H aC
 jl:jX h T H aC b
theorem b0.refl(al:c6 a h T)(M:Good a h n):b0 a h T 0 n T h:=⟨M,al,jX.refl h T⟩
theorem b0.trans{bJ:aT}{cL:B aP}{ao:St}(x:b0 a h T b aa bX aI)(y:b0 a aI bX d ao cL bJ):b0 a h T (b+d) ao cL bJ:=⟨y.good,y.bT,x.jl.trans y.jl⟩
theorem b0.mono(x:b0 a h T b aa bX aI)(q:b≤d):b0 a h T d aa bX aI:=⟨x.good,x.bT,x.jl.mono q⟩
theorem b0.eS(x:b0 a h T b aa bX aI)(q:ba T k t):ba bX k t:=x.jl.eS q
theorem b0.xl(x:b0 a h T b aa bX aI){k:B C}{t:B ap}(q:d1 T k t):d1 bX k t:=q.more λ q=>x.jl.eS q
theorem b0.le(x:b0 a h T b aa bX aI):bX.length≤T.length+b:=x.jl.le
theorem b0.off(x:b0 a h T b aa bX aI)(q:gY r=false)(e:h r=some o):aI r=some o:=x.jl.off r o q e
theorem b0.a6(x:b0 a h T b aa bX aI)(e:h (.a6 m)=some o):aI (.a6 m)=some o∧aa[m]? =some o:=⟨x.off rfl e,de x.good (x.off rfl e)⟩
theorem b0.s6(g:Gives a h T b t k J){X:Prop}(f:∀aC H,ba aC k t→b0 a h T b J aC H→X):X:=g.b7 λ aC H q al M g=>f aC H q ⟨M,al,g⟩
theorem GD{h:aT}(L:h (.a6 m)=none)(e:h r=some o):r≠ .a6 m:=λ q=>nomatch(q▸L:h r=none).symm.trans e
theorem DP(M:Good a h n)(hm:n.length≤m)(e:h r=some o):r≠ .a6 m:=GD (M.fresh hm) e
theorem b0.kD(x:b0 a h T b aa bX aI)(o:a0):b0 a h T b (aa++[o]) bX aI:=⟨x.good.kD o,x.bT,x.jl⟩
theorem b0.start(al:c6 a h T)(M:Good a h n)(o:a0):b0 a h T 0 (n++[o]) T (up h (.a6 n.length) (some o))∧(up h (.a6 n.length) (some o)) (.a6 n.length)=some o:=
 ⟨⟨M.mG o,al.mG,⟨[],(eX T).symm⟩,cJ _,λ r c3 _ e=>mI e (DP M (cJ _) e)⟩,cR _ _ _⟩
theorem b0.put{c3:a0}(x:b0 a h T b aa bX aI)(e:aI (.a6 m)=some o)(hm:h (.a6 m)=none):b0 a h T b (aa.set m c3) bX (up aI (.a6 m) (some c3))∧(up aI (.a6 m) (some c3)) (.a6 m)=some c3:=
 ⟨⟨by have M:=x.good.set (c3:=c3) e;rw[x.good.a6]at M;exact M,x.bT.mG,x.jl.ext,x.jl.le,λ r o k bC=>mI (x.jl.off r o k bC) (GD hm bC)⟩,cR _ _ _⟩
theorem mY(e:n[m]? =some (.li xs))(hl:xs.length<room):l7 n (.ref m) v=some (n.set m (.li (xs++[v]))):=(an (sS λ xs=>if xs.length<room then some (n.set m (.li (xs++[v])))else none) e).trans (if_pos hl)
theorem hP(e:n[m]? =some (.li xs)):mk n (.ref m)=true:=an (λ o:Y a0=>match o with|some (.li _)=>true|_=>false) e
theorem PA(e:n[m]? =some (.li xs)):rN n (.ref m)=some (.tup xs):=GI e
theorem hf{step:D→aX→St→Y (eZ×St)}{env:aX}(h:dq n): @fC dq jk step [] env n=some (.br env,n):=if_pos h
theorem jE(h:dq n): @lE dq jk step [] acc n=some (acc,n):=if_pos h
theorem h6{out:B D}{x:D}{r:B D}{R:Y (B D×St)}(h:dq n)(e:step x n=some (out,J))(q: @lE dq jk step r (acc++out) J=R): @lE dq jk step (x::r) acc n=R:=(if_pos h).trans (aR e q)
theorem ad5(t:ap):t.size≤(t.sub l).size:=by
 induction t with
 |k _=>exact cJ _
 |v _=>exact Bf _
 |a t i=>exact gp i
 |b2 _=>exact cJ _
 |g1 _ t i=>exact gp i
 |g2 _ t u i j=>exact gp (hu i j)
section
variable{X:Prop}
theorem Kl(al:c6 a h T)(M:Good a h n)(q:ba T k t)(fJ:d1 T ks l)(hl:ks.length≤2)(hs:(t.sub l).size≤24)(a3:T.length+24<500000)
  (f:∀fk J aC H,runN ac (z+33) 26 [.ref (a .kt),E k,.tup (ks.map E),.tup []] n=some (E fk,J)→ba aC fk (t.sub l)→b0 a h T 24 J aC H→X):X:=by
 have cm:=(al.opens M).1
 have rt:=al.rt M
 have qg:=a' (ad5 (l:=l) t) hs
 refine q.Ly λ r cH=>(rD t).elim (λ L=>?_) λ L=>?_
 ·have om:=L▸(al.opens M).2.1 q
  exact f k n T h (cN (z+32) 26 [D.ref (a aN.kt),E k,D.tup (eA E ks),D.tup []] n rfl rfl _ rt _ _ (al.row (z:=z+31) M cH) _ cm _ om _ rfl) ((Pc L).symm▸q) ((b0.refl al M).mono (fs _))
 ·have om:=L▸(al.opens M).2.1 q
  refine U0 (a:=a) t (z:=z+24-t.size) (k:=k) (m:=n.length) (ks:=ks) (l:=l) (S:=[]) (al.mG (m:=n.length) (x:=some (.cq []))) (M.mG (.cq [])) q fJ hl hs (cn (fz qg _) a3) (cR _ _ _) (λ k v e=>nomatch e) (by rw[List.length_nil,jh];omega) λ fk J aC H fA e gk V=>?_
  have e:=(an (λ m=>runN ac (m+8) 27 [.ref (a .kt),E k,.tup (ks.map E),.tup [],D.ref n.length] (n++[a0.cq []])) (Co (a' qg (iE ..):t.size≤z+24))).symm.trans e
  exact f fk J aC H (cN (z+32) 26 [D.ref (a aN.kt),E k,D.tup (eA E ks),D.tup []] n rfl rfl _ rt _ _ (al.row (z:=z+31) M cH) _ cm _ om _ rfl _ _ e) gk ⟨V.good,V.bT,V.ext,a' V.le (fz qg _),λ r o c2 e=>V.off r o c2 (DP M (cJ _) e) (mI e (DP M (cJ _) e))⟩
theorem U1(al:c6 a h T)(M:Good a h n):runN ac (z+2) 26 [.ref (a .kt),E 0,v,.tup []] n=some (E 0,n):=al.b7 λ ag W bL K I=>by
 exact(cN (z+1) 26 [D.ref (a aN.kt),E 0,v,D.tup []] n rfl rfl _ (al.rt M) _ _ (A3 (z:=z) K M (I.prim 0 (aE rfl))) _ ((al.opens M).1) _ ((al.opens M).2.2 0 (aE rfl)) _ rfl)
noncomputable def Di:bk:=.cons (.ex (.append (.v 4) (.call 26 (.cons (.v 0) (.cons (.v 5) (.cons (.v 2) (.cons (.v 3) .nil))))))) .nil
noncomputable def wK(a:bH)(k:C)(ks:B C)(m:C)(o:Y D):aX:=[some (.ref (a .kt)),some (.tup [E k]),some (.tup (ks.map E)),some (.tup []),some (.ref m),o]
theorem UZ(al:c6 a h T)(M:Good a h n)(q:ba T k t)(fJ:d1 T ks l)(hl:ks.length≤2)(hs:(t.sub l).size≤24)(a3:T.length+24<500000)
  (f:∀fk J aC H,runN ac (z+34) 30 [.ref (a .kt),.tup [E k],.tup (ks.map E),.tup []] n=some (.tup [E fk],J)→ba aC fk (t.sub l)→b0 a h T 24 J aC H→X):X:=by
 have b2:=(b0.start al M (.li [])).1
 refine Kl (z:=z) b2.bT b2.good q fJ hl hs a3 λ fk aa bX aI e gk go=>?_
 have g1:=go.a6 (cR h (.a6 n.length) (some (.li [])))
 have g2:=((b2.trans go).put (c3:=.li ([]++[E fk])) g1.1 (M.fresh (cJ _)))
 have hg:mk (n++[.li []]) (.ref n.length)=true:=hP (iY rfl)
 have ez:=mY (v:=E fk) g1.2 (aE rfl)
 have st:bS ac (runN ac (z+33)) Di (wK a k ks n.length (some (E k))) (n++[a0.li []])=some (.br (wK a k ks n.length (some (E k))),_):=dk (z+33) Di (wK a k ks n.length (some (E k))) (n++[a0.li []]) hg _ _ e _ ez
 have gM:=fc (dq:=live (.tup [E k]) [E k]) (jk:=e0 _ _) (step:=λ x aF J=>(dh false [5] x aF).bind λ dG=>bS ac (runN ac (z+33)) Di dG J) (env:=wK a k ks n.length none) trivial (aR (a:=wK a k ks n.length (some (E k))) rfl st) (hf trivial)
 exact f fk _ _ _ (cN (z+33) 30 [D.ref (a aN.kt),D.tup [E k],D.tup (eA E ks),D.tup []] n rfl rfl _ rfl (aE rfl) _ _ gM _ (PA (de g2.1.good g2.2))) gk (g2.1.mono (dg (jh _)))
end
end
end Mine
end
section
namespace Mine
variable{c:C}{α:Type}{i d ae:C}
noncomputable def bd:ap→D
 | .k c=>.tup [.ss [107],E c]
 | .v i=>.tup [.ss [118],E i]
 | .a t=>.tup [.ss [97],bd t]
 | .b2 c=>.tup [.ss [103],E c,.tup []]
 | .g1 c t=>.tup [.ss [103],E c,.tup [bd t]]
 | .g2 c t u=>.tup [.ss [103],E c,.tup [bd t,bd u]]
noncomputable def gX(c:C):B ap→ap
 | [t]=>.g1 c t
 | [t,u]=>.g2 c t u
 |_=>.b2 c
noncomputable def ap.ar(m:C):ap→Prop
 | .k _=>True
 | .v i=>i<m
 | .a t=>t.ar m
 | .b2 _=>True
 | .g1 _ t=>t.ar m
 | .g2 _ t u=>t.ar m∧u.ar m
noncomputable def ap.wf:ap→Prop
 | .k c=>c=7∨c=12∨c=13
 | .v _=>True
 | .a t=>t.wf
 | .b2 c=>iz c
 | .g1 c t=>iz c∧t.wf
 | .g2 c t u=>iz c∧t.wf∧u.wf
structure b5 where
 ah:C
 nm:C
 aM:C
 eL:av
structure cw where
 many:C→C
 up:C→B ap
noncomputable def cw.own(W:cw)(l:C):B ap:=(ck (W.many l)).map .v
noncomputable def cw.dK(W:cw)(ae:C):C→B ap
 |0=>W.own ae
 |d+1=>(W.up (ae-d)).map (ap.sub (W.dK ae d))
structure cw.ok(W:cw):Prop where
 many:∀l,W.many l≤2
 up:∀l,l<3→(W.up (l+1)).length=W.many l∧∀t∈W.up (l+1),t.ar (W.many (l+1))∧t.wf∧t.size≤2
section
variable{ak:B ap→Prop}
@[elab_as_elim] theorem uA(l:B ap)(ec:ak [])(ax:∀t,ak [t])(aH:∀t u,ak [t,u])(cI:∀t u v l,ak (t::u::v::l)):ak l:=match l with
 | []=>ec
 | [t]=>ax t
 | [t,u]=>aH t u
 |t::u::v::l=>cI t u v l
@[elab_as_elim] theorem zT(l:B ap)(h:l.length≤2)(ec:ak [])(ax:∀t,ak [t])(aH:∀t u,ak [t,u]):ak l:=
 uA (ak:=λ l=>l.length≤2→ak l) l (λ _=>ec) (λ t _=>ax t) (λ t u _=>aH t u) (λ _ _ _ l h=>absurd h (Cn (iE 3 l.length))) h
end
theorem WP{l:B ap}(h:l.length≤2):bd (gX c l)= .tup [.ss [103],E c,.tup (l.map bd)]:=zT l h rfl (λ _=>rfl) λ _ _=>rfl
theorem WO{l m:B ap}:(gX c l).sub m=gX c (l.map (ap.sub m)):=uA l rfl (λ _=>rfl) (λ _ _=>rfl) λ _ _ _ _=>rfl
noncomputable def ap.uC:ap→C
 | .b2 c=>c
 | .g1 c _=>c
 | .g2 c _ _=>c
 |_=>0
noncomputable def ap.gl:ap→B ap
 | .g1 _ t=>[t]
 | .g2 _ t u=>[t,u]
 |_=>[]
variable{l m:B ap}{t:ap}
theorem Lc:(gX c l).uC=c:=uA l rfl (λ _=>rfl) (λ _ _=>rfl) λ _ _ _ _=>rfl
theorem Li(h:l.length≤2):(gX c l).gl=l:=zT l h rfl (λ _=>rfl) λ _ _=>rfl
theorem DX{ug:C}{cf:B ap}(h:l.length≤2)(H:cf.length≤2)(e:gX c l=gX ug cf):c=ug∧l=cf:=
 ⟨Lc.symm.trans ((an ap.uC e).trans Lc),(Li h).symm.trans ((an ap.gl e).trans (Li H))⟩
theorem WR(o:iz c):(∀t∈l,t.wf)→(gX c l).wf:=uA l (λ _=>o) (λ t h=>⟨o,h t (.head _)⟩) (λ t u h=>⟨o,h t (.head _),h u (.tail _ (.head _))⟩) λ _ _ _ _ _=>o
theorem WN{s:C}:(∀t∈l,t.size≤s)→(gX c l).size≤s+s+1:=
 uA l (λ _=>iE ..) (λ t h=>gp (H7 (h t (.head _)))) (λ t u h=>gp (hu (h t (.head _)) (h u (.tail _ (.head _))))) λ _ _ _ _ _=>iE ..
theorem sC{l:B α}{x d:α}(e:l[i]? =some x):l.getD i d=x:=(jx ..).trans (an (Ct · d) e)
theorem WV(ay:i<l.length):(l.map (ap.sub m)).getD i (.v i)=(l.getD i (.v i)).sub m:=sC (i7 (getD_at ay))
theorem Pd:t.ar l.length→(t.sub l).sub m=t.sub (l.map (ap.sub m)):=by
 induction t with
 |k _=>exact λ _=>rfl
 |v i=>exact λ h=>(WV h).symm
 |a t i=>exact λ h=>an ap.a (i h)
 |b2 _=>exact λ _=>rfl
 |g1 c t i=>exact λ h=>an (ap.g1 c) (i h)
 |g2 c t u i j=>exact λ h=>cD (ap.g2 c) (i h.1) (j h.2)
theorem DZ{P:α→Prop}{l:B α}{d:α}(hl:∀t∈l,P t)(a1:i<l.length∨P d):P (l.getD i d):=by
 cases e:l[i]? with
 |none=>rw[Lf e];exact a1.elim (λ h=>nomatch(h1 h).symm.trans e) id
 |some t=>rw[sC e];exact hl _ (h2 e)
theorem PT{m:C}(hl:∀t∈l,t.ar m):t.ar l.length→(t.sub l).ar m:=by
 induction t with
 |k _=>exact λ _=>trivial
 |v i=>exact λ h=>DZ hl (.inl h)
 |a t i=>exact i
 |b2 _=>exact λ _=>trivial
 |g1 _ t i=>exact i
 |g2 _ t u i j=>exact λ h=>⟨i h.1,j h.2⟩
theorem PW(hl:∀t∈l,t.wf):t.wf→(t.sub l).wf:=by
 induction t with
 |k _=>exact id
 |v i=>exact λ h=>DZ hl (.inr trivial)
 |a t i=>exact i
 |b2 _=>exact id
 |g1 _ t i=>exact λ h=>⟨h.1,i h.2⟩
 |g2 _ t u i j=>exact λ h=>⟨h.1,i h.2.1,j h.2.2⟩
theorem OX(hc:1≤c)(hl:∀t∈l,t.size≤c):t.size≤1→(t.sub l).size≤c:=by
 have f:∀{X:Prop} {t:ap},t.size+1≤1→X:=@λ _ t h=>absurd (H8 h:t.size≤0) (Cn (Bf t))
 cases t with
 |k _=>exact λ _=>hc
 |v i=>exact λ _=>DZ (P:=λ t:ap=>t.size≤c) hl (.inr hc)
 |a t=>exact f
 |b2 _=>exact λ _=>hc
 |g1 _ t=>exact f
 |g2 _ t u=>exact λ h=>f (t:=t) (a' (gp (d2 ..)) h)
theorem OY(hc:1≤c)(hl:∀t∈l,t.size≤c):t.size≤2→(t.sub l).size≤c+1:=by
 have f:∀{t:ap},t.size≤1→(t.sub l).size≤c+1:=λ h=>lr (OX hc hl h)
 have g:∀{t:ap},t.size+1≤2→(t.sub l).size+1≤c+1:=λ h=>gp (OX hc hl (H8 h))
 cases t with
 |a t=>exact g
 |g1 _ t=>exact g
 |g2 _ t u=>exact λ h=>absurd (a' (hu (Bf t) (Bf u)) (H8 h)) (Nat.not_succ_le_self 1)
 |k c=>exact λ _=>f (t:=.k c) (cJ _)
 |v c=>exact λ _=>f (t:=.v c) (cJ _)
 |b2 c=>exact λ _=>f (t:=.b2 c) (cJ _)
theorem Jq{c4:Type}{P:c4→Prop}{f:α→c4}{l:B α}(h:∀x∈l,P (f x)):∀y∈l.map f,P y:=λ y bI=>let⟨x,aA,e⟩:=ht.mp bI;e▸h x aA
theorem Gw(h:d+1≤ae):ae- (d+1)+1=ae-d:=Nat.succ_pred_eq_of_pos (Nat.sub_pos_of_lt h)
theorem cw.NY{W:cw}{l:C}:(W.own l).length=W.many l:=(cG ..).trans gA
theorem cw.ok.arg{W:cw}(K:W.ok)(cC:ae≤3):d≤ae→(W.dK ae d).length=W.many (ae-d)∧∀t∈W.dK ae d,t.ar (W.many ae)∧t.wf∧t.size≤d+1:=by
 induction d with
 |zero=>exact λ _=>⟨W.NY,Jq λ i ay=>⟨f'.mp ay,trivial,cJ _⟩⟩
 |succ d aZ=>
  intro a1
  have h:=aZ (yL a1)
  have u:=K.up (ae- (d+1)) (e' (Cp (e' d.succ_pos a1) d.succ_pos) cC)
  rw[Gw a1]at u
  exact⟨(cG ..).trans u.1,Jq λ t bD=>⟨PT (λ t bD=>(h.2 t bD).1) (h.1▸(u.2 t bD).1),PW (λ t bD=>(h.2 t bD).2.1) (u.2 t bD).2.1,OY (iE ..) (λ t bD=>(h.2 t bD).2.2) (u.2 t bD).2.2⟩⟩
theorem cw.ok.lC{W:cw}(K:W.ok)(cC:ae≤3)(a1:d≤ae):(W.dK ae d).length≤2:=(K.arg cC a1).1▸K.many _
variable{W:cw}
theorem aaB{l:C}(h:m.length=W.many l):(W.own l).map (ap.sub m)=m:=by
 refine HL ((cG ..).trans (cw.NY.trans h.symm)) λ i ax aH=>?_
 simp only[cw.own,HU,HV]
 exact sC (h1 aH)
theorem Jz(K:W.ok)(cC:ae≤3)(a1:d≤ae){e:C}:d+e≤ae→(W.dK (ae-d) e).map (ap.sub (W.dK ae d))=W.dK ae (d+e):=by
 induction e with
 |zero=>exact λ _=>aaB (K.arg cC a1).1
 |succ e aZ=>
  intro b3
  have LG:d+e≤ae:=yL b3
  have u:=(K.up (ae- (d+e+1)) (e' (Cp (e' (d+e).succ_pos b3) (d+e).succ_pos) cC)).2
  have xo:=(K.arg (ae:=ae-d) (a' (nH ..) cC) (d:=e) (Nat.le_sub_of_add_le' LG)).1
  rw[H9]at xo
  rw[Gw (d:=d+e) b3]at u
  show((W.up (ae-d-e)).map (ap.sub (W.dK (ae-d) e))).map (ap.sub (W.dK ae d))=(W.up (ae- (d+e))).map (ap.sub (W.dK ae (d+e)))
  rw[tP,H9,←aZ LG]
  exact pR λ t bD=>Pd (xo▸(u t bD).1)
end Mine
end
section
namespace Mine
variable{b9:B a0}{aI:aT}{bX:B aP}{b:C}{aa:St}{v:D}{t u m:C}{H:aT}
section
variable{a:bH}{h:aT}{n:St}{T:B aP}{ag W bL:B C}{z:C}
theorem Good.ml:∀{n:St},Good a h n→Good a h (n++b9):=by
 induction b9 with
 |nil=>exact λ{n} M=>(eX n).symm▸M
 |cons o b9 aZ=>exact λ{n} M=>jw n [o] b9▸aZ (M.kD o)
theorem b0.ml(x:b0 a h T b aa bX aI)(b9:B a0):b0 a h T b (aa++b9) bX aI:=⟨x.good.ml,x.bT,x.jl⟩
theorem Oc:cY .eq (.ss [118]) (.ss [118]) n=some true:=rfl
theorem Oa:cY .eq (.ss [97]) (.ss [97]) n=some true:=rfl
theorem vq:cY .eq (.ss [103]) (.ss [103]) n=some true:=rfl
theorem vr:cY .eq (.ss [107]) (.ss [118]) n=some false:=rfl
theorem Ob:cY .eq (.ss [97]) (.ss [118]) n=some false:=rfl
theorem nj:cY .eq (.ss [103]) (.ss [118]) n=some false:=rfl
theorem j1{P:iV}{V:jf}{many:av}{xs:B C}{x:D}{env aF:aX}{b7:ab}{J:St}(e:dh many xs x env=some aF)(q:ci P V b7 aF n=some (v,J)):
  ((dh many xs x env).bind λ aF=>(ho P V .nil aF n).bind λ q=>if q.1=true then(ci P V b7 aF q.2).bind λ r=>some ([r.1],r.2)else some ([],q.2))=some ([v],J):=aR e (aR rfl ((if_pos rfl).trans (aR q rfl)))
theorem oY(k:C){z:C}:z+u+k+t=z+k+(t+u):=by rw[pU z u k,mP (z+k),qS u t]
theorem Jy(k:C){z:C}:z+t+k+u=z+k+(t+u):=by rw[pU z t k,mP (z+k)]
theorem qA{c0 f:C}{b6:B D}{r:Y (D×St)}(q:m=c0)(e:runN ac m f b6 n=r):runN ac c0 f b6 n=r:=q▸e
theorem nt{xs:B D}:rN (n++[.li xs]) (.ref n.length)=some (.tup xs):=GI (iY rfl)
theorem Fa{K:B a0}:some (v,n++b9++K)=some (v,n++(b9++K)):=an (λ s=>some (v,s)) (jw ..)
noncomputable def u5:ab:=.call 53 (.cons (.v 2) (.cons (.v 1) .nil))
theorem ZJ{l:B ap}(hl:l.length≤2){t:ap}:∀{z:C} {n:St},t.ar l.length→∃b9,runN ac (z+1+t.size) 53 [bd t,.tup (l.map bd)] n=some (bd (t.sub l),n++b9):=by
 induction t with
 |k c=>
  intro z n cP
  exact⟨[],v2 (b:=some (bd (.k c),n)) (cN (z+1) 53 [bd (ap.k c),D.tup (eA bd l)] n rfl rfl _ rfl _ vr _ rfl _ vr _ rfl _ vr) (an (λ s=>some (bd (.k c),s)) (eX n).symm)⟩
 |v i=>
  intro z n cP
  have x:dd n (.tup (l.map bd)) (E i)=some (bd (l.getD i (.v i))):=Ah (cG (as:=l) bd▸a' hl (aE rfl)) (i7 (getD_at cP))
  exact⟨[],v2 (b:=some (bd (l.getD i (.v i)),n)) (cN (z+1) 53 [bd (ap.v i),D.tup (eA bd l)] n rfl rfl _ rfl _ Oc _ rfl _ x) (an (λ s=>some (bd (l.getD i (.v i)),s)) (eX n).symm)⟩
 |a t aZ=>
  intro z n cP
  obtain⟨b9,e⟩:=aZ (z:=z) (n:=n) cP
  exact⟨b9,show runN ac (z+1+t.size+1) 53 [bd (.a t),.tup (l.map bd)] n=some (bd (.a (t.sub l)),n++b9)from(cN (z+1+t.size) 53 [bd t.a,D.tup (eA bd l)] n rfl rfl _ rfl _ Ob _ rfl _ Oa _ rfl _ _ e)⟩
 |b2 c=>
  intro z n cP
  exact⟨[.li []],show runN ac (z+1+0+1) 53 [bd (.b2 c),.tup (l.map bd)] n=some (bd (.b2 c),n++[.li []])from(cN (z+1) 53 [bd (ap.b2 c),D.tup (eA bd l)] n rfl rfl _ rfl _ nj _ rfl _ nj _ rfl _ vq _ rfl _ rfl _ rfl (aE rfl) _ _ (jE (acc:=[]) trivial) _ nt)⟩
 |g1 c t aZ=>
  intro z n cP
  obtain⟨b9,e⟩:=aZ (z:=z) (n:=n) cP
  have st:ci ac (runN ac (z+1+t.size)) u5 [some (bd (.g1 c t)),some (.tup (l.map bd)),some (bd t)] n=some (bd (t.sub l),n++b9):=(hH (z+1+t.size) u5 [some (bd (ap.g1 c t)),some (D.tup (eA bd l)),some (bd t)] n _ _ e)
  exact⟨b9++[.li [bd (t.sub l)]],v2 (show runN ac (z+1+t.size+1) 53 [bd (.g1 c t),.tup (l.map bd)] n=some (bd (.g1 c (t.sub l)),n++b9++[.li [bd (t.sub l)]])from(cN (z+1+t.size) 53 [bd (ap.g1 c t),D.tup (eA bd l)] n rfl rfl _ rfl _ nj _ rfl _ nj _ rfl _ vq _ rfl _ rfl _ rfl (aE rfl) _ _ (h6 trivial (j1 (aF:=[some (bd (.g1 c t)),some (.tup (l.map bd)),some (bd t)]) rfl st) (jE trivial)) _ nt)) Fa⟩
 |g2 c t u aZ ih2=>
  intro z n cP
  obtain⟨b9,e⟩:=aZ (z:=z+u.size) (n:=n) cP.1
  obtain⟨v8,aB⟩:=ih2 (z:=z+t.size) (n:=n++b9) cP.2
  have e:=qA (oY 1) e
  have aB:=qA (Jy 1) aB
  have eE:ci ac (runN ac (z+1+(t.size+u.size))) u5 [some (bd (.g2 c t u)),some (.tup (l.map bd)),some (bd t)] n=some (bd (t.sub l),n++b9):=(hH (z+1+(t.size+u.size)) u5 [some (bd (ap.g2 c t u)),some (D.tup (eA bd l)),some (bd t)] n _ _ e)
  have jT:ci ac (runN ac (z+1+(t.size+u.size))) u5 [some (bd (.g2 c t u)),some (.tup (l.map bd)),some (bd u)] (n++b9)=some (bd (u.sub l),n++b9++v8):=(hH (z+1+(t.size+u.size)) u5 [some (bd (ap.g2 c t u)),some (D.tup (eA bd l)),some (bd u)] (n++b9) _ _ aB)
  exact⟨b9++(v8++[.li [bd (t.sub l),bd (u.sub l)]]),v2 (show runN ac (z+1+(t.size+u.size)+1) 53 [bd (.g2 c t u),.tup (l.map bd)] n=some (bd (.g2 c (t.sub l) (u.sub l)),n++b9++v8++[.li [bd (t.sub l),bd (u.sub l)]])from(cN (z+1+(t.size+u.size)) 53 [bd (ap.g2 c t u),D.tup (eA bd l)] n rfl rfl _ rfl _ nj _ rfl _ nj _ rfl _ vq _ rfl _ rfl _ rfl (aE rfl) _ _ (h6 trivial (j1 (aF:=[some (bd (.g2 c t u)),some (.tup (l.map bd)),some (bd t)]) rfl eE) (h6 trivial (j1 (aF:=[some (bd (.g2 c t u)),some (.tup (l.map bd)),some (bd u)]) rfl jT) (jE trivial))) _ nt)) (Fa.trans Fa)⟩
noncomputable def qh:B Nat:=[115,116,111,114,101]
noncomputable def Ao:B Nat:=[109,97,110,121]
noncomputable def Ap:B Nat:=[117,112]
structure fN(a:bH)(h:aT)(W:cw):Prop where
 w:∃O,h .w=some (.ds O)∧O.lookup qh=some (.ref (a .store))∧O.lookup Ao=some (.ref (a .eb))∧O.lookup Ap=some (.ref (a .fy))
 store:∃aG,h .store=some (.bF 3 aG)∧aG.lookup 35=some (.ref (a .kt))
 many:h .eb=some (.li [E (W.many 0),E (W.many 1),E (W.many 2),E (W.many 3)])
 up:h .fy=some (.li [.tup [],.tup ((W.up 1).map bd),.tup ((W.up 2).map bd),.tup ((W.up 3).map bd)])
 ok:W.ok
variable{W:cw}
noncomputable def M':aN→av
 | .w| .store| .eb| .fy=>true
 |_=>false
theorem fN.keep(ae:fN a h W)(q:∀r o,M' r=true→h r=some o→H r=some o):fN a H W:=
 ⟨let⟨O,e,k⟩:=ae.w;⟨O,q _ _ rfl e,k⟩,let⟨aG,e,k⟩:=ae.store;⟨aG,q _ _ rfl e,k⟩,q _ _ rfl ae.many,q _ _ rfl ae.up,ae.ok⟩
theorem fN.mG(ae:fN a h W){x:Y a0}:fN a (Mine.up h (.a6 m) x) W:=ae.keep λ r o k e=>mI e λ L=>ju ((an M' L).symm.trans k)
theorem fN.off(ae:fN a h W)(q:∀r o,gY r=false→h r=some o→H r=some o):fN a H W:=
 ⟨let⟨O,e,k⟩:=ae.w;⟨O,q _ _ rfl e,k⟩,let⟨aG,e,k⟩:=ae.store;⟨aG,q _ _ rfl e,k⟩,q _ _ rfl ae.many,q _ _ rfl ae.up,ae.ok⟩
theorem fN.go(ae:fN a h W)(x:b0 a h T b aa bX aI):fN a aI W:=ae.off λ r o k e=>x.off k e
theorem uT{s:B C}{O:B (B C×D)}(e:n[m]? =some (.ds O)):dd n (.ref m) (.ss s)=O.lookup s:=an (ri (.ss s)) e
theorem fN.kt(ae:fN a h W)(M:Good a h n):dd n (.ref (a .w)) (.ss [115,116,111,114,101])=some (.ref (a .store))∧d7 n (.ref (a .store)) 35=some (.ref (a .kt)):=
 let⟨_,e,k,_⟩:=ae.w
 let⟨_,f,ct⟩:=ae.store
 ⟨(uT (M.at_ _ _ e)).trans k,(fj (M.at_ _ _ f)).trans ct⟩
end
end Mine
end
section
namespace Mine
section
variable{a:bH}{h:aT}{n:St}{T:B aP}{z:C}{W:cw}
theorem b0.og{aI:aT}{bX:B aP}{b:C}{aa:St}(x:b0 a h T b aa bX aI):ms ac aa 76 (.ref (a .kt))=some 2:=x.bT.og x.good
noncomputable def HJ(a:bH)(m:C)(h:aT)(n:St)(T:B aP)(t:ap)(b:C):Prop:=∀{X:Prop},(∀k J aC H,runN ac m 54 [.ref (a .w),bd t] n=some (E k,J)→ba aC k t→b0 a h T b J aC H→X)→X
noncomputable def u3:ab:=.call 54 (.cons (.v 0) (.cons (.v 3) .nil))
noncomputable def qk(a:bH)(t:ap)(o:Y D):aX:=[some (.ref (a .w)),some (bd t),some (.ref (a .kt)),o]
theorem ZF{t:ap}:∀{z:C} {h:aT} {n:St} {T:B aP},fN a h W→c6 a h T→Good a h n→t.wf→t.size≤24→T.length+t.size<500000→HJ a (z+7+t.size) h n T t t.size:=by
 induction t with
 |k c=>
  intro z h n T ae al M wf hs a3 X f
  have dy:=(ae.kt M).1
  have eD:=(ae.kt M).2
  refine f c n T h (cN (z+7) 54 [D.ref (a aN.w),bd (ap.k c)] n rfl rfl _ dy _ eD _ rfl _ vr _ rfl _ vr _ rfl _ vr _ rfl) ?_ ((b0.refl al M).mono (fs _))
  exact al.b7 λ ag y6 bL K I=>⟨rfl,wf,I.prim c (by have:c=7∨c=12∨c=13:=wf;omega)⟩
 |v i=>
  intro z h n T ae al M wf hs a3 X f
  have dy:=(ae.kt M).1
  have eD:=(ae.kt M).2
  exact rF (z:=z+1) al M (r:=.v i) (t:=.v i) rfl hs (mQ a3) λ k J e g=>b0.s6 g λ aC H q go=>f k J aC H (cN (z+7) 54 [D.ref (a aN.w),bd (ap.v i)] n rfl rfl _ dy _ eD _ rfl _ Oc _ (al.og M) _ rfl _ _ e) q go
 |a t aZ=>
  intro z h n T ae al M wf hs a3 X f
  have dy:=(ae.kt M).1
  have eD:=(ae.kt M).2
  have a3:=mQ a3
  refine aZ (z:=z) ae al M wf (yL hs) a3 λ k aa bX aI e q go=>?_
  refine rF (z:=z+1+t.size) go.bT go.good (r:=.a k) (t:=.a t) ⟨k,rfl,q⟩ hs (xv go.le a3) λ ct ao aB g=>b0.s6 g λ cL bJ cO b8=>?_
  have aB:=qA (pU (z+1) t.size 6) aB
  exact f ct ao cL bJ (show runN ac (z+7+t.size+1) 54 [.ref (a .w),bd (.a t)] n=some (E ct,ao)from(cN (z+7+t.size) 54 [D.ref (a aN.w),bd t.a] n rfl rfl _ dy _ eD _ rfl _ Ob _ rfl _ Oa _ (al.og M) _ rfl _ _ e _ _ aB)) cO (go.trans b8)
 |b2 c=>
  intro z h n T ae al M wf hs a3 X f
  have dy:=(ae.kt M).1
  have eD:=(ae.kt M).2
  have b2:=(b0.start al M (.li [])).1
  refine rF (z:=z+1) b2.bT b2.good (r:=.g c []) (t:=.b2 c) ⟨wf,rfl⟩ hs (mQ a3) λ ct ao aB g=>b0.s6 g λ cL bJ cO b8=>?_
  exact f ct ao cL bJ (cN (z+7) 54 [D.ref (a aN.w),bd (ap.b2 c)] n rfl rfl _ dy _ eD _ rfl _ nj _ rfl _ nj _ rfl _ vq _ (al.og M) _ rfl _ rfl _ rfl (aE rfl) _ _ (jE (acc:=[]) trivial) _ nt _ _ aB) cO (b2.trans b8)
 |g1 c t aZ=>
  intro z h n T ae al M wf hs a3 X f
  have dy:=(ae.kt M).1
  have eD:=(ae.kt M).2
  have a3:=mQ a3
  refine aZ (z:=z) ae al M wf.2 (yL hs) a3 λ k aa bX aI e q go=>?_
  have en:=(b0.start go.bT go.good (.li [E k])).1
  refine rF (z:=z+1+t.size) en.bT en.good (r:=.g c [k]) (t:=.g1 c t) ⟨wf.1,k,rfl,q⟩ hs (xv go.le a3) λ ct ao aB g=>b0.s6 g λ cL bJ cO b8=>?_
  have aB:=qA (pU (z+1) t.size 6) aB
  have eE:ci ac (runN ac (z+7+t.size)) u3 (qk a (.g1 c t) (some (bd t))) n=some (E k,aa):=(hH (z+7+t.size) u3 (qk a (ap.g1 c t) (some (bd t))) n _ _ e)
  exact f ct ao cL bJ (show runN ac (z+7+t.size+1) 54 [.ref (a .w),bd (.g1 c t)] n=some (E ct,ao)from(cN (z+7+t.size) 54 [D.ref (a aN.w),bd (ap.g1 c t)] n rfl rfl _ dy _ eD _ rfl _ nj _ rfl _ nj _ rfl _ vq _ (al.og M) _ rfl _ rfl _ rfl (aE rfl) _ _ (h6 trivial (j1 (aF:=qk a (.g1 c t) (some (bd t))) rfl eE) (jE trivial)) _ nt _ _ aB)) cO ((go.trans (en.trans b8)).mono (dg (an (t.size+·) (jh 1))))
 |g2 c t u aZ ih2=>
  intro z h n T ae al M wf hs a3 X f
  have dy:=(ae.kt M).1
  have eD:=(ae.kt M).2
  have a3:=mQ a3
  have jL:t.size+u.size≤24:=yL hs
  refine aZ (z:=z+u.size) ae al M wf.2.1 (a' (d2 ..) jL) (E0 a3) λ k aa bX aI e q go=>?_
  refine ih2 (z:=z+t.size) (ae.go go) go.bT go.good wf.2.2 (a' (iE ..) jL) (Az go.le a3) λ d9 ao cL bJ aB cO b8=>?_
  have en:=(b0.start b8.bT b8.good (.li [E k,E d9])).1
  have qe:=go.trans b8
  refine rF (z:=z+1+(t.size+u.size)) en.bT en.good (r:=.g c [k,d9]) (t:=.g2 c t u) ⟨wf.1,k,d9,rfl,b8.eS q,cO⟩ hs (xv qe.le a3) λ ct bW bZ g=>b0.s6 g λ lA cQ j7 jK=>?_
  have bZ:=qA (pU (z+1) (t.size+u.size) 6) bZ
  have e:=qA (oY 7) e
  have aB:=qA (Jy 7) aB
  have eE:ci ac (runN ac (z+7+(t.size+u.size))) u3 (qk a (.g2 c t u) (some (bd t))) n=some (E k,aa):=(hH (z+7+(t.size+u.size)) u3 (qk a (ap.g2 c t u) (some (bd t))) n _ _ e)
  have jT:ci ac (runN ac (z+7+(t.size+u.size))) u3 (qk a (.g2 c t u) (some (bd u))) aa=some (E d9,ao):=(hH (z+7+(t.size+u.size)) u3 (qk a (ap.g2 c t u) (some (bd u))) aa _ _ aB)
  exact f ct bW lA cQ (show runN ac (z+7+(t.size+u.size)+1) 54 [.ref (a .w),bd (.g2 c t u)] n=some (E ct,bW)from(cN (z+7+(t.size+u.size)) 54 [D.ref (a aN.w),bd (ap.g2 c t u)] n rfl rfl _ dy _ eD _ rfl _ nj _ rfl _ nj _ rfl _ vq _ (al.og M) _ rfl _ rfl _ rfl (aE rfl) _ _ (h6 trivial (j1 (aF:=qk a (.g2 c t u) (some (bd t))) rfl eE) (h6 trivial (j1 (aF:=qk a (.g2 c t u) (some (bd u))) rfl jT) (jE trivial))) _ nt _ _ bZ)) j7 ((qe.trans (en.trans jK)).mono (dg (an (t.size+u.size+·) (jh 1))))
end
end Mine
end
section
namespace Mine
variable{k l:C}{t:ap}{o:Y D}{P:C→Prop}{ae:C}{lS:aX→St→Y (av×St)}{body:aX→St→Y (eZ×St)}{f:C}{env:aX}{aa:St}
section
variable{a:bH}{h:aT}{n:St}{T:B aP}{z:C}{W:cw}
theorem Pb{s c:C}(h:s≤c):z+c-s+k+s=z+k+c:=by rw[pU,Co (H7 h),pU]
theorem EO{l:B ap}(hl:l.length≤2)(hs:t.size≤24)(cP:t.ar l.length):∃b9,runN ac (z+25) 53 [bd t,.tup (l.map bd)] n=some (bd (t.sub l),n++b9):=
 let⟨b9,e⟩:=ZJ hl (t:=t) (z:=z+24-t.size) (n:=n) cP
 ⟨b9,qA (Pb hs) e⟩
theorem xp(ae:fN a h W)(al:c6 a h T)(M:Good a h n)(wf:t.wf)(hs:t.size≤24)(a3:T.length+24<500000):HJ a (z+31) h n T t 24:=λ f=>
 ZF (z:=z+24-t.size) ae al M wf hs (cn (fz hs _) a3) λ k J aC H e q go=>f k J aC H (qA (Pb hs) e) q (go.mono hs)
noncomputable def qC(bi aV:D)(l:B ap)(aW:D)(o:Y D):aX:=[some bi,some aV,some (.tup (l.map bd)),some aW,o]
noncomputable def Gh:ab:=.call 53 (.cons (.v 4) (.cons (.v 2) .nil))
noncomputable def adR(z:C)(bi aV:D)(l:B ap)(aW:D)(aO cf df acc:B D)(o:Y D)(n:St):Y (B D×St):=@lE (live (.tup aO) cf) (e0 (.tup aO) cf) (λ x ao=>(dh false [4] x (qC bi aV l aW o)).bind λ aF=>(ho ac (runN ac (z+25)) .nil aF ao).bind λ q=>if q.1=true then(ci ac (runN ac (z+25)) Gh aF q.2).bind λ r=>some ([r.1],r.2)else some ([],q.2)) df acc n
theorem adS{l:B ap}(hl:l.length≤2){bi aV aW:D}{aO:B D}{cf:B D}{df:B ap}:∀{acc:B D} {n:St},(∀t∈df,t.ar l.length∧t.size≤24)→∃b9,adR z bi aV l aW aO cf (df.map bd) acc o n=some (acc++(df.map (ap.sub l)).map bd,n++b9):=by
 induction df with
 |nil=>exact λ{acc n} _=>⟨[],v2 (b:=some (acc,n)) (jE trivial) (by rw[eX];exact an (λ l=>some (l,n)) (eX acc).symm)⟩
 |cons u df aZ=>
  intro acc n dS
  obtain⟨b9,e⟩:=EO (z:=z) (n:=n) hl (dS u (.head _)).2 (dS u (.head _)).1
  obtain⟨v8,aB⟩:=aZ (acc:=acc++[bd (u.sub l)]) (n:=n++b9) (λ t bD=>dS t (.tail _ bD))
  have eE:ci ac (runN ac (z+25)) Gh (qC bi aV l aW (some (bd u))) n=some (bd (u.sub l),n++b9):=(hH (z+25) Gh (qC bi aV l aW (some (bd u))) n _ _ e)
  exact⟨b9++v8,(h6 trivial (j1 (aF:=qC bi aV l aW (some (bd u))) rfl eE) aB).trans (by rw[jw,jw];rfl)⟩
@[elab_as_elim] theorem na(l:C)(hl:l≤3)(rE:P 0)(gj:P 1)(fS:P 2)(eM:P 3):P l:=match l,hl with
 |0,_=>rE
 |1,_=>gj
 |2,_=>fS
 |3,_=>eM
@[elab_as_elim] theorem sR(l:C)(hl:l≤2)(rE:P 0)(gj:P 1)(fS:P 2):P l:=match l,hl with
 |0,_=>rE
 |1,_=>gj
 |2,_=>fS
theorem fN.ze(ae:fN a h W)(M:Good a h n):dd n (.ref (a .w)) (.ss [109,97,110,121])=some (.ref (a .eb))∧∀l,l≤3→dd n (.ref (a .eb)) (E l)=some (E (W.many l)):=
 ⟨let⟨_,e,_,k,_⟩:=ae.w;(uT (M.at_ _ _ e)).trans k,λ l hl=>j6 (M.at_ _ _ ae.many) (na l hl rfl rfl rfl rfl)⟩
theorem fN.JG(ae:fN a h W)(M:Good a h n):dd n (.ref (a .w)) (.ss [117,112])=some (.ref (a .fy))∧∀l,l<3→dd n (.ref (a .fy)) (E (l+1))=some (.tup ((W.up (l+1)).map bd)):=
 ⟨let⟨_,e,_,_,k⟩:=ae.w;(uT (M.at_ _ _ e)).trans k,λ l hl=>j6 (M.at_ _ _ ae.up) (sR l (lq hl) rfl rfl rfl)⟩
noncomputable def aac:ab:=.tup (.cons (.ss [118]) (.cons (.v 2) .nil))
theorem ZI(ae:fN a h W)(M:Good a h n)(hl:l≤3):∃b9,runN ac (z+1) 56 [.ref (a .w),E l] n=some (.tup ((W.own l).map bd),n++b9):=by
 have eI:=(ae.ze M).1
 have dN:=(ae.ze M).2 l hl
 have hm:=ae.ok.many l
 have st:∀i o,(dh false [2] (E i) [some (.ref (a .w)),some (E l),o]).bind _=some ([bd (.v i)],n):=λ i o=>j1 (aF:=[some (.ref (a .w)),some (E l),some (E i)]) (b7:=aac) (V:=runN ac z) (P:=ac) rfl rfl
 unfold cw.own
 generalize W.many l=m at*
 refine sR (P:=λ m=>dd n (.ref (a .eb)) (E l)=some (E m)→∃b9,runN ac (z+1) 56 [.ref (a .w),E l] n=some (.tup (((ck m).map ap.v).map bd),n++b9)) m hm (λ dN=>?_) (λ dN=>?_) (λ dN=>?_) dN
 ·exact⟨[.li []],cN z 56 [D.ref (a aN.w),E l] n rfl rfl _ eI _ dN _ rfl _ rfl (aE rfl) _ _ (jE (acc:=[]) trivial) _ nt⟩
 ·exact⟨[.li [bd (.v 0)]],cN z 56 [D.ref (a aN.w),E l] n rfl rfl _ eI _ dN _ rfl _ rfl (aE rfl) _ _ (h6 trivial (st 0 _) (jE trivial)) _ nt⟩
 ·exact⟨[.li [bd (.v 0),bd (.v 1)]],cN z 56 [D.ref (a aN.w),E l] n rfl rfl _ eI _ dN _ rfl _ rfl (aE rfl) _ _ (h6 trivial (st 0 _) (h6 trivial (st 1 _) (jE trivial))) _ nt⟩
noncomputable def lK(W:cw)(ae k:C):B D:=(ck k).map λ d=>.tup [E (ae-d),.tup ((W.dK ae d).map bd)]
theorem MY:lK W ae (k+1)=lK W ae k++[.tup [E (ae-k),.tup ((W.dK ae k).map bd)]]:=by
 unfold lK;rw[Ce,nD];rfl
theorem YZ:kC .sub (E (l+1)) (.ii 1)=some (E l):=an (λ i=>some (D.ii i)) (QH l 1)
theorem W7:cY .gt (E (l+1)) (.ii 0) n=some true:=an some (iK (QJ.mpr l.succ_pos))
theorem G7{aF:aX}{ao:St}{R:Y (eZ×St)}(t:lS env n=some (true,aa))(b:body env aa=some (.br aF,ao))(r:oA lS body f aF ao=R):oA lS body (f+1) env n=R:=aR t ((if_pos rfl).trans (aR b r))
theorem PX(t:lS env n=some (false,aa)):oA lS body (f+1) env n=some (.br env,aa):=aR t (if_neg mL)
noncomputable def M0:bk:=.cons (.asg 2 (.ja (.comp (.call 53 (.cons (.v 4) (.cons (.v 2) .nil))) [4] false (.aq (.aq (.v 0) (.ss [117,112])) (.v 1)) (.nil)))) (.cons (.aug 1 .sub (.ii 1)) (.cons (.ex (.append (.v 3) (.tup (.cons (.v 1) (.cons (.v 2) .nil))))) .nil))
noncomputable def EV:Mine.T:=.cmp .gt (.v 1) (.ii 0)
theorem Z0{m:C}(cC:ae≤3)(hm:h (.a6 m)=none){X:Prop}:∀{d f:C} {n:St} {aI:aT},l+d=ae→fN a aI W→b0 a h T 0 n T aI→aI (.a6 m)=some (.li (lK W ae (d+1)))→
  (∀v J H,oA (fr ac (runN ac (z+25)) EV) (bS ac (runN ac (z+25)) M0) (f+l+1) (qC (.ref (a .w)) (E l) (W.dK ae d) (.ref m) o) n=some (.br (qC (.ref (a .w)) (E 0) v (.ref m) o),J)→b0 a h T 0 J T H→H (.a6 m)=some (.li (lK W ae (ae+1)))→X)→X:=by
 induction l with
 |zero=>
  intro d f n aI e lY go aA k
  exact k _ n aI (PX (jc (z+25) EV (qC (.ref (a .w)) (E 0) (W.dK ae d) (.ref m) o) n _ rfl)) go ((jh d).symm.trans e▸aA)
 |succ l aZ=>
  intro d f n aI e lY go aA k
  have pa:ae-d=l+1:=Nat.sub_eq_of_eq_add e.symm
  have Vt:ae- (d+1)=l:=an Nat.pred pa
  have pl:l<3:=e' (e▸d2 (l+1) d) cC
  have afD:=(lY.JG go.good).1
  have jb:=(lY.JG go.good).2 l pl
  have he:=(lY.ok.arg cC (d:=d) (e▸iE ..)).1
  have p:=lY.ok.up l pl
  have oY:(W.up (l+1)).map (ap.sub (W.dK ae d))=W.dK ae (d+1):=pa▸rfl
  obtain⟨b9,q9⟩:=adS (z:=z) (bi:=.ref (a .w)) (aV:=E (l+1)) (aW:=.ref m) (o:=o) (aO:=(W.up (l+1)).map bd) (cf:=(W.up (l+1)).map bd) (acc:=[]) (n:=n) (l:=W.dK ae d) (df:=W.up (l+1)) (he▸lY.ok.many _) (λ t bD=>⟨he▸pa▸(p.2 t bD).1,a' (p.2 t bD).2.2 (aE rfl)⟩)
  rw[oY]at q9
  have a3:((W.up (l+1)).map bd).length≤100000:=(cG (as:=W.up (l+1)) bd).symm▸p.1.symm▸a' (lY.ok.many l) (aE rfl)
  have cW:=(go.ml b9).kD (.li ((W.dK ae (d+1)).map bd))
  have LS:=de cW.good aA
  have ez:=mY (v:=.tup [E l,.tup ((W.dK ae (d+1)).map bd)]) LS (by unfold lK;rw[cG,gA];exact cn (gp (a' (e▸iE d (l+1)) cC)) (aE rfl))
  have b8:=cW.put (c3:=.li (lK W ae (d+1)++[.tup [E l,.tup ((W.dK ae (d+1)).map bd)]])) aA hm
  refine aZ (d:=d+1) (f:=f) ((pU ..).trans e) lY.mG b8.1 (b8.2.trans (by rw[MY (k:=d+1),Vt])) λ v J H kw hM sO=>k v J H (G7 (aa:=n) ?_ ?_ kw) hM sO
  ·exact(jc (z+25) EV (qC (D.ref (a aN.w)) (E (l+1)) (W.dK ae d) (D.ref m) o) n _ W7)
  ·exact(dk (z+25) M0 (qC (D.ref (a aN.w)) (E (l+1)) (W.dK ae d) (D.ref m) o) n _ afD _ jb _ rfl a3 _ _ q9 _ nt _ YZ (hP LS) _ ez)
end
end Mine
end
section
namespace Mine
variable{x m i:C}{xs:B C}
section
variable{a:bH}{h:aT}{n:St}{T:B aP}{z:C}{W:cw}{X:Prop}
theorem K'(M:Good a h n){b9:B a0}:h (.a6 (n++b9).length)=none:=M.fresh (fg (as:=n)▸d2 ..)
theorem EN(ae:fN a h W)(al:c6 a h T)(M:Good a h n){l:C}(hl:l≤3)(f:∀m J H,runN ac (z+26) 57 [.ref (a .w),E l] n=some (.ref m,J)→b0 a h T 0 J T H→H (.a6 m)=some (.li (lK W l (l+1)))→h (.a6 m)=none→X):X:=by
 obtain⟨b9,e⟩:=ZI (z:=z+24) ae M hl
 have b2:=(b0.start al (M.ml (b9:=b9)) (.li (lK W l 1)))
 refine Z0 (z:=z) (ae:=l) (m:=(n++b9).length) (h:=h) hl (K' M) (l:=l) (d:=0) (f:=59-l) (o:=none) rfl (ae.go b2.1) b2.1 b2.2 λ v J H kw hM aA=>?_
 rw[Co (a' hl (aE rfl))]at kw
 exact f (n++b9).length J H (cN (z+25) 57 [D.ref (a aN.w),E l] n rfl rfl _ _ e _ _ kw) hM aA (K' M)
theorem zi:fF .add (E x) (.ii 1)=some (E (x+1)):=rfl
theorem sq(hm:0<m):fF .mod (E x) (E m)=some (E (x%m)):=
 (if_neg (Int.natCast_ne_zero_iff_pos.mpr hm)).trans (an (λ i=>some (D.ii i)) (Int.fmod_eq_emod_of_nonneg _ (yw m)))
noncomputable def pk:B Nat:=[105,110]
noncomputable def i5:B Nat:=[97,116]
noncomputable def K2:B Nat:=[0,1,1,0,0,1,3,0,0,2,0,1,0,0,1,1,0,0,0,0,2,0,0]
theorem Pp{l:B C}(hl:l.length≤1000)(ay:i<l.length):dd n (.tup (l.map E)) (E i)=some (E (l.getD i 0)):=Ah (cG (as:=l) E▸hl) (i7 (getD_at ay))
theorem YG(e:n[m]? =some (.li (xs.map E)))(ay:i<xs.length):dd n (.ref m) (E i)=some (E (xs.getD i 0)):=j6 e (i7 (getD_at ay))
theorem a5{r bw:aN}(h:(r.ctorIdx==bw.ctorIdx)=false):r≠bw:=λ e=>ju (((lD r.ctorIdx).symm.trans (an (λ L:aN=>r.ctorIdx==L.ctorIdx) e)).trans h)
theorem YM{α:Type}(f:am→am→Y α)(i j:am):kB f (.ii i) (.ii j)=f i j:=rfl
theorem Uj(x y:D):fF .mul x y=kB AE x y:=rfl
theorem T1(h:x<100000):fF .mul (.ii 5) (E x)=some (E (5*x)):=by
 have:(small 5&&small (x:am))=true:=by unfold small;simp;omega
 unfold E
 rw[Uj,YM,AE,if_pos this]
 congr 2
theorem MR{O:B (B C×D)}{at_:C}(M:Good a h n)(cS:h .w=some (.ds O))(aA:h .dR=some (.li (xs.map E)))(dy:O.lookup i5=some (E at_))(eD:(c7 O i5 (E (at_+1))).lookup pk=some (.ref (a .dR)))(j5:at_<100000)(sG:O.length<1000)(hm:0<m)
  (f:∀x J,x<m→runN ac (z+1) 52 [.ref (a .w),E m] n=some (E x,J)→Good a (up h .w (some (.ds (c7 O i5 (E (at_+1)))))) J→X):X:=by
 have dF:=M.set (c3:=.ds (c7 O i5 (E (at_+1)))) cS
 have jm:=(uT (s:=i5) (M.at_ _ _ cS)).trans dy
 have eE:j9 n (.ref (a .w)) (.ss i5) (E (at_+1))=some (n.set (a .w) (.ds (c7 O i5 (E (at_+1))))):=(an (rK n (a .w) (.ss i5) (E (at_+1))) (M.at_ _ _ cS)).trans (if_pos (e' sG (aE rfl)))
 have uQ:=(uT (s:=pk) (dF.at_ _ _ (cR _ _ _))).trans eD
 have kP:=dF.at_ .dR _ ((bP _ _ (a5 rfl)).trans aA)
 have len:=(ro kP).trans (an (λ z:C=>some (z:am)) (cG E))
 by_cases q:at_<xs.length
 ·exact f (xs.getD at_ 0%m) _ (tT _ hm) (cN z 52 [D.ref (a aN.w),E m] n rfl rfl _ jm _ zi _ eE _ uQ _ len _ (jF mZ q) _ uQ _ (YG kP q) _ (sq hm)) dF
 ·by_cases cO:at_<23
  ·exact f (K2.getD at_ 0%m) _ (tT _ hm) (cN z 52 [D.ref (a aN.w),E m] n rfl rfl _ jm _ zi _ eE _ uQ _ len _ (iJ mZ q) _ rfl _ (jF (mZ (y:=23)) cO) _ (Pp (l:=K2) (aE rfl) cO) _ (sq hm)) dF
  ·exact f ((5*at_+3)%m) _ (tT _ hm) (cN z 52 [D.ref (a aN.w),E m] n rfl rfl _ jm _ zi _ eE _ uQ _ len _ (iJ mZ q) _ rfl _ (iJ (mZ (y:=23)) cO) _ (T1 j5) _ zi _ (sq hm)) dF
end
end Mine
end
section
namespace Mine
variable{x y:C}{X:Prop}{m:C}{q:aN→Prop}{r bw:aN}{o:Y a0}{aI:aT}{b:C}{cx:bH}
section
variable{a:bH}{h:aT}{n:St}{T:B aP}{z:C}{W:cw}
theorem pickK:dd n (.tup [.ii 7,.ii 13,.ii 12]) (E (x%3))=some (E ([7,13,12].getD (x%3) 0)):=Pp (l:=[7,13,12]) (aE rfl) (tT _ (aE rfl))
theorem acB:ap.wf (.k ([7,13,12].getD (x%3) 0)):=sR (P:=λ k=>ap.wf (.k ([7,13,12].getD k 0))) _ (lq (tT _ (aE rfl))) (.inl rfl) (.inr (.inr rfl)) (.inr (.inl rfl))
theorem ma:cY .eq (E x) (.ii y) n=some (decide (x=y)):=an some (q8.mpr Int.ofNat_inj)
theorem nT:cY .gt (E x) (.ii y) n=some (decide (y<x)):=an some (q8.mpr B1)
theorem ZL{O:B (B C×D)}{xs:B C}{at_:C}(M:Good a h n)(cS:h .w=some (.ds O))(aA:h .dR=some (.li (xs.map E)))(dy:O.lookup i5=some (E at_))(eD:(c7 O i5 (E (at_+1))).lookup pk=some (.ref (a .dR)))(j5:at_<100000)(sG:O.length<1000)
  (f:∀t J,runN ac (z+2) 55 [.ref (a .w),E m] n=some (bd t,J)→Good a (up h .w (some (.ds (c7 O i5 (E (at_+1)))))) J→t.ar m∧t.wf∧t.size≤2→X):X:=by
 refine MR (z:=z) (m:=6) M cS aA dy eD j5 sG (aE rfl) λ x J ag2 e dF=>?_
 have iI:=sq (x:=x) (m:=3) (aE rfl)
 have q:∀p:ap,p.ar m∧p.wf∧p.size≤1→(p.ar m∧p.wf∧p.size+1≤2)∧(p.ar m∧(iz 70∧p.wf)∧p.size+1≤2)∧p.ar m∧p.wf∧p.size≤2:=λ p ⟨v,w,s⟩=>⟨⟨v,w,gp s⟩,⟨v,⟨.inr ⟨aE rfl,cJ _⟩,w⟩,gp s⟩,v,w,lr s⟩
 have gk:=q (.k ([7,13,12].getD (x%3) 0)) ⟨trivial,acB,cJ _⟩
 by_cases oD:x=3
 ·by_cases c:0<m
  ·have uh:x<4:=oD▸cJ 4
   have A0:=q (.v (x%m)) ⟨tT _ c,trivial,cJ _⟩
   exact f (.a (.v (x%m))) J (cN (z+1) 55 [D.ref (a aN.w),E m] n rfl rfl _ _ e _ iI _ pickK _ (jF (nT (y:=0)) c) _ (jF (mZ (y:=4)) uh) _ (sq c) _ (jF (ma (y:=3)) oD)) dF A0.1
  ·exact f (.a (.k ([7,13,12].getD (x%3) 0))) J (cN (z+1) 55 [D.ref (a aN.w),E m] n rfl rfl _ _ e _ iI _ pickK _ (iJ (nT (y:=0)) c) _ (jF (ma (y:=3)) oD)) dF gk.1
 ·by_cases c:0<m∧x<4
  ·have A0:=q (.v (x%m)) ⟨tT _ c.1,trivial,cJ _⟩
   by_cases d5:x=2
   ·exact f (.g1 70 (.v (x%m))) J (cN (z+1) 55 [D.ref (a aN.w),E m] n rfl rfl _ _ e _ iI _ pickK _ (jF (nT (y:=0)) c.1) _ (jF (mZ (y:=4)) c.2) _ (sq c.1) _ (iJ (ma (y:=3)) oD) _ (jF (ma (y:=2)) d5)) dF A0.2.1
   ·exact f (.v (x%m)) J (cN (z+1) 55 [D.ref (a aN.w),E m] n rfl rfl _ _ e _ iI _ pickK _ (jF (nT (y:=0)) c.1) _ (jF (mZ (y:=4)) c.2) _ (sq c.1) _ (iJ (ma (y:=3)) oD) _ (iJ (ma (y:=2)) d5)) dF A0.2.2
  ·by_cases p8:0<m
   ·have uh:¬x<4:=λ L=>c ⟨p8,L⟩
    have d5:¬x=2:=λ L=>uh (L▸aE rfl)
    exact f (.k ([7,13,12].getD (x%3) 0)) J (cN (z+1) 55 [D.ref (a aN.w),E m] n rfl rfl _ _ e _ iI _ pickK _ (jF (nT (y:=0)) p8) _ (iJ (mZ (y:=4)) uh) _ (iJ (ma (y:=3)) oD) _ (iJ (ma (y:=2)) d5)) dF gk.2.2
   ·by_cases d5:x=2
    ·exact f (.g1 70 (.k ([7,13,12].getD (x%3) 0))) J (cN (z+1) 55 [D.ref (a aN.w),E m] n rfl rfl _ _ e _ iI _ pickK _ (iJ (nT (y:=0)) p8) _ (iJ (ma (y:=3)) oD) _ (jF (ma (y:=2)) d5)) dF gk.2.1
    ·exact f (.k ([7,13,12].getD (x%3) 0)) J (cN (z+1) 55 [D.ref (a aN.w),E m] n rfl rfl _ _ e _ iI _ pickK _ (iJ (nT (y:=0)) p8) _ (iJ (ma (y:=3)) oD) _ (iJ (ma (y:=2)) d5)) dF gk.2.2
noncomputable def bY(q:aN→Prop)(a:bH)(h:aT)(aY:bH)(H:aT):Prop:=∀r,q r→aY r=a r∧∀o,h r=some o→H r=some o
theorem bY.ne(z:¬q r)(k:q bw):bw≠r:=λ e=>z (e▸k)
theorem bY.new(z:¬q r):bY q a h (up a r m) (up h r o):=λ bw k=>⟨bP _ _ (bY.ne z k),λ o e=>(bP _ _ (bY.ne z k)).trans e⟩
theorem bY.set(z:¬q r):bY q a h a (up h r o):=λ bw k=>⟨rfl,λ o e=>(bP _ _ (bY.ne z k)).trans e⟩
theorem bY.go{bX:B aP}{aa:St}(x:b0 a h T b aa bX aI)(z:∀r,q r→gY r=false):bY q a h a aI:=λ r k=>⟨rfl,λ o e=>x.off (z r k) e⟩
theorem bY.trans{ed:bH}{bJ:aT}(x:bY q a h cx aI)(y:bY q cx aI ed bJ):bY q a h ed bJ:=λ r k=>⟨(y r k).1.trans (x r k).1,λ o e=>(y r k).2 o ((x r k).2 o e)⟩
theorem bY.sub{p:aN→Prop}(x:bY q a h cx aI)(s:∀r,p r→q r):bY p a h cx aI:=λ r k=>x r (s r k)
theorem PN{α:Type}{f:aN→α}{x y:α}(e:up f r x bw=y)(p:bw=r→x=y→X)(q:bw≠r→f bw=y→X):X:=
 (f7 (bw=r)).elim (λ L=>p L ((cR f r x).symm.trans (L▸e))) λ L=>q L ((bP _ _ L).symm.trans e)
theorem Good.adopt{o:a0}(M:Good a h n)(lt:∀r,(h r).isSome=true→a r<b)(hm:b≤m)(e:n[m]? =some o)(hn:∀m,r≠ .a6 m):
  Good (up a r m) (up h r (some o)) n∧∀bw,(up h r (some o) bw).isSome=true→up a r m bw<m+1:=by
 have ae:∀bw,bw≠r→(up h r (some o) bw).isSome=true→up a r m bw<m:=λ bw L H=>by
  rw[bP _ _ L]at H⊢;exact e' (lt _ H) hm
 refine⟨⟨λ bw x bC=>PN bC (λ L w=>?_) λ L w=>?_,λ fT gO ax aH q=>?_,λ m=>(bP _ _ λ e=>hn m e.symm).trans (M.a6 m)⟩,λ bw H=>(f7 (bw=r)).elim (λ L=>?_) λ L=>pW (ae bw L H)⟩
 ·rw[L,cR];exact e.trans w
 ·rw[bP _ _ L];exact M.at_ bw x w
 ·by_cases d4:fT=r<;>by_cases d5:gO=r
  ·rw[d4,d5]
  ·have:=ae gO d5 aH
   rw[←q,d4,cR]at this
   exact absurd this (oP m)
  ·have:=ae fT d4 ax
   rw[q,d5,cR]at this
   exact absurd this (oP m)
  ·rw[bP _ _ d4]at ax q
   rw[bP _ _ d5]at aH q
   exact M.inj _ _ ax aH q
 ·rw[L,cR];exact qT m
theorem Good.EY(M:Good a h n):∀r,(h r).isSome=true→a r<n.length:=λ r e=>M.lt e
noncomputable def ac0(r:aN):Prop:=hR r=true
theorem c6.bx{aY:bH}{H:aT}(al:c6 a h T)(m:bY ac0 a h aY H):c6 aY H T:=al.b7 λ ag W bL K I=>
 have f:∀r,hR r=true→aY r=a r∧∀o,h r=some o→H r=some o:=m
 ⟨⟨ag,W,bL,⟨(f .kt rfl).2 _ (by rw[(f .k9 rfl).1,(f .jn rfl).1,(f .mn rfl).1,(f .mo rfl).1,(f .kE rfl).1];exact K.kt),(f .k9 rfl).2 _ K.r,(f .jn rfl).2 _ K.i,(f .mn rfl).2 _ K.d,(f .mo rfl).2 _ K.w,(f .kE rfl).2 _ K.o,K.len,K.small⟩,I⟩,al.x8⟩
end
end Mine
end
section
namespace Mine
variable{A:B D}{ns:B am}{al:B D}{k:C}
section
variable{z:C}
noncomputable def sQ:B Nat:=[114,111,119,115]
noncomputable def xj:B Nat:=[104,111,115,116]
noncomputable def EI:B Nat:=[103,105,118,101,110]
noncomputable def rJ(ns:B am):B Nat:=ns.map λ z=>(z.fmod 1000003).toNat
noncomputable def uk(ns:B am)(o:Y D):aX:=[some (.fu ns),none,none,none,none,none,none,none,none,none,none,none,o,none,none,none,none]
noncomputable def Ba:ab:=.bin .mod (.v 12) (.ii 1000003)
theorem aaE{z:am}:fF .mod (.ii z) (.ii 1000003)=some (E ((z.fmod 1000003).toNat)):=
 (show(if(1000003:am)=0 then none else some (D.ii (z.fmod 1000003)))=some (D.ii (((z.fmod 1000003).toNat:C):am))from(if_neg (by decide)).trans (an (λ i=>some (D.ii i)) (Int.toNat_of_nonneg (Int.fmod_nonneg_of_pos z (by decide))).symm))
theorem adN{xI:B am}{o:Y D}{n:St}(n8:n[0]? =some (.li A)):∀{acc:B D},@lE (live (.ref 0) A) (e0 (.ref 0) A) (λ x ao=>(dh false [12] x (uk xI o)).bind λ aF=>(ho ac (runN ac z) .nil aF ao).bind λ q=>if q.1=true then(ci ac (runN ac z) Ba aF q.2).bind λ r=>some ([r.1],r.2)else some ([],q.2)) (ns.map .ii) acc n=some (acc++(rJ ns).map E,n):=by
 induction ns with
 |nil=>exact λ{acc}=>(jE n8).trans (an (λ l=>some (l,n)) (eX acc).symm)
 |cons i ns aZ=>
  intro acc
  have eE:ci ac (runN ac z) Ba (uk xI (some (.ii i))) n=some (E ((i.fmod 1000003).toNat),n):=hH z Ba (uk xI (some (.ii i))) n _ aaE
  exact h6 n8 (j1 (aF:=uk xI (some (.ii i))) rfl eE) (aZ.trans (an (λ l=>some (l,n)) (jw ..)))
noncomputable def wu:B aP:=(ck 16).map .p
noncomputable def sl:bH
 | .dR=>1| .gz=>2| .store=>3| .kt=>4| .k9=>5| .jn=>6| .mn=>7| .mo=>8| .kE=>9| .meths=>12| .w=>15| .host=>16| .fD=>17
 | .a6 m=>m
 |_=>0
noncomputable def EE:C→aN
 |1=>.dR|2=>.gz|3=>.store|4=>.kt|5=>.k9|6=>.jn|7=>.mn|8=>.mo|9=>.kE|12=>.meths|15=>.w|16=>.host|_=>.fD
noncomputable def O6:B (C×D):=[(35,.ref 4),(36,.ref 10),(37,.ref 11),(15,.ref 12),(38,.ref 13),(39,.ref 14),(40,.ii 0)]
noncomputable def LL:B (C×D):=[(35,.ref 4),(70,.ref 17),(10,.ref 18),(71,.ref 19),(12,.ref 20),(72,.ref 21),(13,.ref 22),(73,.ref 23),(74,.ref 24)]
noncomputable def afQ:B (B C×D):=[(pk,.ref 1),(i5,.ii 0),(sQ,.ref 2),(qh,.ref 3),(xj,.ref 16)]
noncomputable def Zw:B (C×D):=[(0,.ref 5),(1,.ref 6),(2,.ref 7),(3,.ref 8),(4,.ref 9)]
noncomputable def Zv:B a0:=[.bF 0 Zw,.li (wu.map fe),.h8 (wu.zipIdx.map λ p=>(hX p.1,E p.2)),.li ((dw 16 1).map E),.li ((dw 16 1).map E),.li ((dw 16 0).map E)]
noncomputable def vT(A al:B D):St:=[.li A,.li al,.li [],.bF 3 O6]++Zv++[.li [.nn],.li [.nn],.li [.nn],.cq [],.li []]
noncomputable def vU(A al:B D):St:=vT A al++[.ds afQ,.bF 9 LL,.cq [],.cq [],.cq [],.cq [],.cq [],.cq [],.cq [],.cq []]
noncomputable def M8:aN→av
 | .dR| .gz| .store| .kt| .k9| .jn| .mn| .mo| .kE| .meths| .w| .host| .fD=>true
 |_=>false
noncomputable def ec(A al:B D)(r:aN):Y a0:=bif M8 r then(vU A al)[sl r]? else none
theorem aap{r:aN}(h:M8 r=true):EE (sl r)=r:=by cases r<;>first|rfl|exact nomatch h
theorem Kt{α:Type}{b:av}{x:Y α}{o:α}(h:(bif b then x else none)=some o):b=true∧x=some o:=by
 cases b
 ·exact nomatch h
 ·exact⟨rfl,h⟩
theorem W4:Good sl (ec A al) (vU A al) where
 at_:=λ r o e=>(Kt e).2
 inj:=λ r bw e bC q=>
  have f:∀r,(ec A al r).isSome=true→EE (sl r)=r:=λ r e=>let⟨_,w⟩:=oR.mp e;aap (Kt w).1
  (f r e).symm.trans ((an EE q).trans (f bw bC))
 a6:=λ _=>rfl
theorem Jh(h:k<16):wu[k]? =some (.p k):=i7 (yD h)
theorem Ji{r:aP}(e:wu[k]? =some r){X:Prop}(f:k<16→r= .p k→X):X:=
 have h:k<16:=mq e
 f h (lj e (Jh h))
theorem ae4:c6 sl (ec A al) wu where
 ex:=by
  have F4:∀{k x:C},k<16→(dw 16 x)[k]? =some x:=λ hk=>by rw[HS,if_pos hk]
  refine⟨dw 16 1,dw 16 1,dw 16 0,⟨rfl,rfl,rfl,rfl,rfl,rfl,⟨rfl,rfl,rfl⟩,aE rfl⟩,⟨?_,λ i ay=>Jh ay,λ k r e=>Ji e λ h L=>by subst L;exact⟨F4 h,F4 h,F4 h⟩,λ k r e=>Ji e λ h L=>by subst L;exact λ _ h=>nomatch h⟩⟩
  exact tQ.mpr (wc.imp λ x e=>x (aP.p.inj e))
 x8:=aE rfl
noncomputable def q'(ns:B am):aX:=some (.fu ns)::dw 16 none
theorem abe{env:aX}:oq ac (runN ac (z+5)) (.cons (.ii 0) (.cons (.lst .nil) (.cons (.new 3 .nil) .nil))) env [.li A,.li al]=some ([.ii 0,.ref 2,.ref 3],vT A al):=by kernel_rfl
noncomputable def A5:S:=.asg 1 (.m2 [[105,110],[97,116],[114,111,119,115],[115,116,111,114,101]] (.cons (.comp (.bin .mod (.v 12) (.ii 1000003)) [12] false (.mE (.v 0) (.ii 63)) (.nil)) (.cons (.ii 0) (.cons (.lst .nil) (.cons (.new 3 .nil) .nil)))))
noncomputable def Ox:S:=.asg 2 (.aq (.v 1) (.ss [115,116,111,114,101]))
noncomputable def Oy:S:=.gI (.v 1) (.ss [104,111,115,116]) (.new 9 (.cons (.at (.v 2) 35) .nil))
noncomputable def KP(ns:B am):aX:=some (.fu ns)::some (.ref 15)::dw 15 none
noncomputable def sA(ns:B am):aX:=some (.fu ns)::some (.ref 15)::some (.ref 3)::dw 14 none
noncomputable def OM:ab:=.comp Ba [12] false (.mE (.v 0) (.ii 63)) .nil
theorem aeP(hl:ns.length≤63):ci ac (runN ac z) OM (uk ns none) []=some (.ref 1,[.li (ns.map .ii),.li ((rJ ns).map E)]):=by
 have u:rQ [] (.fu ns) (.ii 63)=some (.inr (ns.map .ii)):=(if_pos ⟨by decide,by decide,a' hl (aE rfl)⟩).trans (an (λ l=>some (Sum.inr (l.map D.ii))) (Ra hl))
 have uI:(ns.map D.ii).length≤100000:=cG (as:=ns) D.ii▸a' hl (aE rfl)
 have c:=adN (z:=z) (xI:=ns) (o:=none) (A:=ns.map .ii) (n:=[.li (ns.map .ii)]) rfl (ns:=ns) (acc:=[])
 exact(hH z OM (uk ns none) [] _ u _ rfl uI _ _ c)
theorem aeL(hl:ns.length≤63):jS ac (runN ac (z+5)) A5 (q' ns) []=some (.br (KP ns),vT (ns.map .ii) ((rJ ns).map E)++[.ds [(pk,.ref 1),(i5,.ii 0),(sQ,.ref 2),(qh,.ref 3)]]):=
 aR (aR (aR (aeP (z:=z+5) hl) (aR abe rfl)) rfl) rfl
theorem aeM{V:jf}:jS ac V Ox (KP ns) (vT A al++[.ds [(pk,.ref 1),(i5,.ii 0),(sQ,.ref 2),(qh,.ref 3)]])=some (.br (sA ns),vT A al++[.ds [(pk,.ref 1),(i5,.ii 0),(sQ,.ref 2),(qh,.ref 3)]]):=by kernel_rfl
theorem aeN:jS ac (runN ac (z+5)) Oy (sA ns) (vT A al++[.ds [(pk,.ref 1),(i5,.ii 0),(sQ,.ref 2),(qh,.ref 3)]])=some (.br (sA ns),vU A al):=by kernel_rfl
theorem aeO(hl:ns.length≤63){r:bk}:bS ac (runN ac (z+5)) (.cons A5 (.cons Ox (.cons Oy r))) (q' ns) []=bS ac (runN ac (z+5)) r (sA ns) (vU (ns.map .ii) ((rJ ns).map E)):=
 (Gj (aeL hl)).trans ((Gj aeM).trans (Gj aeN))
end
end Mine
end
section
namespace Mine
variable{i:C}{o:a0}{xs:B D}{e1 name:D}{cp:B C}
section
variable{z:C}{env:aX}{n:St}{c f:C}{aG:B (C×D)}{l b9:B a0}{v:D}
theorem MU:(n++(.bF c aG::l)).length=n.length+(l.length+1):=fg
theorem NL:(n++(.bF c aG::l))[n.length]? =some (.bF c aG):=(yA (cJ _)).trans (by rw[r7];rfl)
theorem NM:(n++(.bF c aG::l))[n.length+(i+1)]? =l[i]? :=(yA (d2 ..)).trans (by rw[wd];rfl)
theorem adZ:(n++(.bF c aG::l)).set n.length o=n++(o::l):=(H4 _ _ (cJ _)).trans (by rw[r7];rfl)
theorem ad1:(n++(.bF c aG::l)).set (n.length+(i+1)) o=n++(.bF c aG::l.set i o):=(H4 _ _ (d2 ..)).trans (by rw[wd];rfl)
noncomputable def FC{α:Type}(f:C→B (C×D)→Y α):Y a0→Y α
 |some (.bF c aG)=>f c aG
 |_=>none
theorem x4{m:C}(e:n[m]? =some (.bF c aG))(ax:ac.fld c f=true)(aH:aG.length<200):lg ac n (.ref m) f v=some (n.set m (.bF c (c7 aG f v))):=
 (an (FC λ c aG=>if ac.fld c f=true∧aG.length<200 then some (n.set m (.bF c (c7 aG f v)))else none) e).trans (if_pos ⟨ax,aH⟩)
theorem eT(ax:ac.fld c f=true)(aH:H6 aG.length 200=true)(cI:(aG.lookup f).isSome=false):lg ac (n++(.bF c aG::l)) (.ref n.length) f v=some (n++(.bF c (aG++[(f,v)])::l)):=
 (x4 NL ax (Nat.blt_eq.mp aH)).trans (by rw[adZ,c7,cI];rfl)
theorem OK(ax:ac.fld c f=true)(aH:H6 aG.length 200=true)(cI:(aG.lookup f).isSome=false):lg ac (n++(.bF c aG::l)++b9) (.ref n.length) f v=some (n++(.bF c (aG++[(f,v)])::(l++b9))):=by
 rw[jw];exact eT ax aH cI
theorem gm(ax:ac.fld c f=true)(aH:H6 aG.length 200=true)(cI:(aG.lookup f).isSome=false):lg ac (n++(.bF c aG::l)++b9) (.ref n.length) f (.ref (n++(.bF c aG::l)).length)=some (n++(.bF c (aG++[(f,.ref (n.length+(l.length+1)))])::(l++b9))):=by
 rw[MU];exact OK ax aH cI
theorem C8{v:D}(h:aG.lookup f=some v):d7 (n++(.bF c aG::l)) (.ref n.length) f=some v:=(fj NL).trans h
theorem ED(h:l[i]? =some (.li xs)):mk (n++(.bF c aG::l)) (.ref (n.length+(i+1)))=true:=hP (NM.trans h)
theorem C3(h:l[i]? =some (.li xs))(aA:xs.length<room):l7 (n++(.bF c aG::l)) (.ref (n.length+(i+1))) v=some (n++(.bF c aG::l.set i (.li (xs++[v])))):=(mY (NM.trans h) aA).trans (an some ad1)
noncomputable def tx:B C→B D:=eA λ c=>.ss [c]
noncomputable def GJ(N:C)(e1 name par:D):B (C×D):=[(5,e1),(6,name),(7,.ii 1),(8,.ii 0),(9,.ii (-1)),(10,.ref (N+1)),(11,.ref (N+2)),(12,.ref (N+3)),(13,.ref (N+4)),(14,.ref (N+5)),(15,.ref (N+6)),(16,.ii 1),(17,.ii 0),(18,.ii (-1)),(19,.ref (N+7)),(20,.ref (N+8)),(21,.ref (N+9)),(22,.ii 0),(23,.ii 0)]
noncomputable def Bw(N:C)(e1 name:D)(cp:B C):B a0:=[.bF 1 (GJ N e1 name (.ss cp)),.li [],.li (tx cp),.li (cp.map λ _=>.ii 0),.li (cp.map λ _=>.tup [.ii 0,.tup []]),.li [],.li [],.li [],.li [],.li []]
noncomputable def PG:bk:=(.cons (.ex (.append (.at (.v 0) 11) (.v 8))) (.cons (.ex (.append (.at (.v 0) 12) (.gl [86,65,95,78,79,78,69] (.ii 0)))) (.cons (.ex (.append (.at (.v 0) 13) (.tup (.cons (.ii 0) (.cons (.tup .nil) .nil))))) .nil)))
noncomputable def vN(N:C)(e1 name:D)(cp:B C)(o:Y D):aX:=[some (.ref N),some e1,some name,some (.ii 1),some (.ii 0),some (.ii (-1)),some (.ss cp),some (.ii 1),o]
noncomputable def yi(N:C)(e1 name:D)(cp:B C)(kO kP ie:B D):B a0:=.bF 1 ((GJ N e1 name (.ss cp)).take 9)::[.li [],.li kO,.li kP,.li ie]
noncomputable def PH(z:C)(x:D)(env:aX)(n:St):Y (eZ×St):=(dh false [8] x env).bind λ dG=>bS ac (runN ac z) PG dG n
theorem GK{eJ:Y D}{x:D}{kO kP ie:B D}(ax:kO.length<room)(aH:kP.length<room)(cI:ie.length<room):
  PH z x (vN n.length e1 name cp eJ) (n++yi n.length e1 name cp kO kP ie)=some (.br (vN n.length e1 name cp (some x)),n++yi n.length e1 name cp (kO++[x]) (kP++[.ii 0]) (ie++[.tup [.ii 0,.tup []]])):=
 aR (a:=vN n.length e1 name cp (some x)) rfl (dk z PG (vN n.length e1 name cp (some x)) (n++yi n.length e1 name cp kO kP ie) _ (C8 rfl) (ED (i:=1) rfl) _ (C3 rfl ax) _ (C8 rfl) (ED (i:=2) rfl) _ (C3 rfl aH) _ (C8 rfl) (ED (i:=3) rfl) _ (C3 rfl cI))
theorem afw(hl:cp.length≤2):∃o,@fC (live (.ss cp) (tx cp)) (e0 _ _) (PH z) (tx cp) (vN n.length e1 name cp none) (n++yi n.length e1 name cp [] [] [])=some (.br (vN n.length e1 name cp o),n++yi n.length e1 name cp (tx cp) (cp.map λ _=>.ii 0) (cp.map λ _=>.tup [.ii 0,.tup []])):=match cp,hl with
 | [],_=>⟨_,hf trivial⟩
 | [_],_=>⟨_,fc trivial (GK (aE rfl) (aE rfl) (aE rfl)) (hf trivial)⟩
 | [_,_],_=>⟨_,fc trivial (GK (aE rfl) (aE rfl) (aE rfl)) (fc trivial (GK (aE rfl) (aE rfl) (aE rfl)) (hf trivial))⟩
theorem Za{s:B C}(h:s.all (decide<|· <128)=true):hQ n (.ss s)=some (tx s):=if_pos h
theorem PI(hl:cp.length≤2)(bM:cp.all (decide<|· <128)=true):runN ac (z+1) 3 [.ref n.length,e1,name,.ii 1,.ii 0,.ii (-1),.ss cp,.ii 1] (n++[.bF 1 []])=some (.nn,n++Bw n.length e1 name cp):=by
 obtain⟨o,gM⟩:=afw (z:=z) (n:=n) (e1:=e1) (name:=name) hl
 have uK:(tx cp).length≤100000:=cG (as:=cp) _▸a' hl (aE rfl)
 exact(cN z 3 [D.ref (f9 n),e1,name,D.ii 1,D.ii 0,D.ii (-1),D.ss cp,D.ii 1] (n++[a0.bF 1 []]) rfl rfl _ (eT rfl rfl rfl) _ (eT rfl rfl rfl) _ (eT rfl rfl rfl) _ (eT rfl rfl rfl) _ (eT rfl rfl rfl) _ (gm rfl rfl rfl) _ (gm rfl rfl rfl) _ (gm rfl rfl rfl) _ (gm rfl rfl rfl) _ (Za bM) uK _ _ gM _ (gm rfl rfl rfl) _ (gm rfl rfl rfl) _ (eT rfl rfl rfl) _ (eT rfl rfl rfl) _ rfl _ (eT rfl rfl rfl) _ (gm rfl rfl rfl) _ (gm rfl rfl rfl) _ (gm rfl rfl rfl) _ (eT rfl rfl rfl) _ (eT rfl rfl rfl))
end
end Mine
end
section
namespace Mine
variable{k:D}{s:C}{o0:D}{u:C}
section
variable{z:C}{n:St}{c:C}{aG:B (C×D)}{l:B a0}
theorem ad0{o c3:a0}:(n++[o]).set n.length c3=n++[c3]:=(H4 _ _ (cJ _)).trans (by rw[r7];rfl)
noncomputable def FQ:bk:=.cons (.ex (.append (.v 1) (.bin .add (.ss [112]) (.strOf (.v 2))))) .nil
noncomputable def xQ(m:C)(o:Y D):aX:=[some (.ii 1),some (.ref m),o]
theorem acF:runN ac (z+1) 31 [.ii 1] n=some (.tup [.ss [112,48]],n++[.li [.ss [112,48]]]):=by
 have ez:l7 (n++[.li []]) (.ref n.length) (.ss [112,48])=some (n++[.li [.ss [112,48]]]):=(mY (iY rfl) (aE rfl)).trans (an some ad0)
 have st:bS ac (runN ac z) FQ (xQ n.length (some (.ii 0))) (n++[a0.li []])=some (.br (xQ n.length (some (.ii 0))),n++[a0.li [.ss [112,48]]]):=(dk z FQ (xQ (f9 n) (some (D.ii 0))) (n++[a0.li []]) (hP (iY rfl)) _ rfl _ rfl _ ez)
 have gM:=fc (dq:=live (.ew 0 1) [.ii 0]) (jk:=e0 _ _) (step:=λ x aF J=>(dh false [2] x aF).bind λ dG=>bS ac (runN ac z) FQ dG J) (env:=xQ n.length none) (x:=.ii 0) trivial (aR (a:=xQ n.length (some (.ii 0))) rfl st) (hf trivial)
 exact(cN z 31 [D.ii 1] n rfl rfl _ rfl _ rfl (aE rfl) _ _ gM _ nt)
theorem abu{aV aQ aW bp:D}:runN ac (z+1) 6 [.ref n.length,k,aV,aQ,aW,bp] (n++[.bF 4 []])=some (.nn,n++[.bF 4 [(41,k),(42,aV),(43,aQ),(44,aW),(45,bp),(46,.ii 0)]]):=by
 exact(cN z 6 [D.ref (f9 n),k,aV,aQ,aW,bp] (n++[a0.bF 4 []]) rfl rfl _ (eT rfl rfl rfl) _ (eT rfl rfl rfl) _ (eT rfl rfl rfl) _ (eT rfl rfl rfl) _ (eT rfl rfl rfl) _ (eT rfl rfl rfl))
theorem Vh:runN ac (z+1) 7 [.ref n.length] (n++[.bF 5 []])=some (.nn,n++[.bF 5 [(0,.ref (n.length+1))],.li []]):=by
 exact(cN z 7 [D.ref (f9 n)] (n++[a0.bF 5 []]) rfl rfl _ (gm rfl rfl rfl))
noncomputable def u7(N:C)(lb vk name ua ut ret k:D):B (C×D):=[(24,lb),(25,vk),(6,name),(26,ua),(8,ut),(27,.ii 0),(28,.ref (N+1)),(29,.ref (N+2)),(30,ret),(11,.tup [k]),(31,.tup [.ss [112,48]]),(32,.tup [.ii 0]),(33,.nn),(34,.ii 0)]
theorem aaG{lb vk name ua ut ret:D}:runN ac (z+2) 4 [.ref n.length,lb,vk,name,ua,ut,ret,.tup [k]] (n++[.bF 2 []])=some (.nn,n++[.bF 2 (u7 n.length lb vk name ua ut ret k),.li [],.li [],.li [.ss [112,48]]]):=by
 exact(cN (z+1) 4 [D.ref (f9 n),lb,vk,name,ua,ut,ret,D.tup [k]] (n++[a0.bF 2 []]) rfl rfl _ (eT rfl rfl rfl) _ (eT rfl rfl rfl) _ (eT rfl rfl rfl) _ (eT rfl rfl rfl) _ (eT rfl rfl rfl) _ (eT rfl rfl rfl) _ (gm rfl rfl rfl) _ (gm rfl rfl rfl) _ (eT rfl rfl rfl) _ rfl _ (eT rfl rfl rfl) _ rfl _ _ (acF (z:=z)) _ (OK rfl rfl rfl) _ rfl _ rfl _ (eT rfl rfl rfl) _ (eT rfl rfl rfl) _ (eT rfl rfl rfl))
noncomputable def PM(N:C)(s o0:D):B (C×D):=[(47,s),(16,o0),(48,.ref (N+1)),(49,.ref (N+2)),(50,.ref (N+3)),(51,.ref (N+4)),(52,.ref (N+6)),(53,.ref (N+7)),(54,.ref (N+8))]
theorem Vg{b9:B a0}(e:(n++(.bF c aG::l)).length+1=n.length+(l.length+1)+1:=an l1 MU):runN ac (z+1) 7 [.ref (n++(.bF c aG::l)).length] (n++(.bF c aG::l)++[.bF 5 []])=some (.nn,n++(.bF c aG::l)++[.bF 5 [(0,.ref (n.length+(l.length+1)+1))],.li []]):=e▸Vh
theorem afF{s:D}:runN ac (z+2) 8 [.ref n.length,s,o0] (n++[.bF 6 []])=some (.nn,n++[.bF 6 (PM n.length s o0),.li [.nn],.li [.nn],.cq [],.bF 5 [(0,.ref (n.length+5))],.li [],.cq [],.cq [],.cq []]):=by
 exact(cN (z+1) 8 [D.ref (f9 n),s,o0] (n++[a0.bF 6 []]) rfl rfl _ (eT rfl rfl rfl) _ (eT rfl rfl rfl) _ (gm rfl rfl rfl) _ (gm rfl rfl rfl) _ (gm rfl rfl rfl) _ rfl _ (Vg (z:=z) (b9:=[])) _ (gm rfl rfl rfl) _ (gm rfl rfl rfl) _ (gm rfl rfl rfl) _ (gm rfl rfl rfl))
noncomputable def Hm(N:C)(u s k be o0:D):B (C×D):=[(55,u),(47,s),(35,k),(56,be),(16,o0),(57,.ref (N+1)),(58,.ref (N+2)),(59,.ref (N+3)),(60,.ref (N+4)),(25,.ii 0),(24,.ii 0),(61,.ii 0),(62,.ii 0)]
theorem p6{m f:C}{v:D}(e:d7 n (.ref m) f=some v):d7 (n++l) (.ref m) f=some v:=by
 have e:so f n[m]? =some v:=e
 show so f (n++l)[m]? =some v
 cases h:n[m]? with
 |none=>exact nomatch(h▸e:so f none=some v)
 |some o=>rw[qQ (mq h)];exact e
theorem agf{be:D}(au:d7 n (.ref u) 47=some (.ref s))(aB:d7 n (.ref s) 35=some k):runN ac (z+2) 9 [.ref n.length,.ref u,be,o0] (n++[.bF 7 []])=some (.nn,n++[.bF 7 (Hm n.length (.ref u) (.ref s) k be o0),.cq [],.cq [],.li [],.cq []]):=by
 exact(cN (z+1) 9 [D.ref (f9 n),D.ref u,be,o0] (n++[a0.bF 7 []]) rfl rfl _ (eT rfl rfl rfl) _ (p6 au) _ (eT rfl rfl rfl) _ (p6 au) _ (p6 aB) _ (eT rfl rfl rfl) _ (eT rfl rfl rfl) _ (eT rfl rfl rfl) _ (gm rfl rfl rfl) _ (gm rfl rfl rfl) _ (gm rfl rfl rfl) _ (gm rfl rfl rfl) _ (eT rfl rfl rfl) _ (eT rfl rfl rfl) _ (eT rfl rfl rfl) _ (eT rfl rfl rfl))
noncomputable def KA(N:C)(u nV s k:D):B (C×D):=[(55,u),(63,nV),(47,s),(35,k),(36,.ref (N+1)),(64,.ref (N+2)),(54,.ref (N+3)),(65,.ref (N+4)),(66,.ref (N+5)),(67,.ref (N+6)),(68,.ref (N+7)),(69,.ref (N+8)),(53,.ii 0)]
theorem Vd{nV:D}(au:d7 n (.ref u) 47=some (.ref s))(aB:d7 n (.ref s) 35=some k):runN ac (z+2) 10 [.ref n.length,.ref u,nV] (n++[.bF 8 []])=some (.nn,n++[.bF 8 (KA n.length (.ref u) nV (.ref s) k),.li [],.li [],.cq [],.li [],.li [],.li [],.cq [],.cq []]):=by
 exact(cN (z+1) 10 [D.ref (f9 n),D.ref u,nV] (n++[a0.bF 8 []]) rfl rfl _ (eT rfl rfl rfl) _ (eT rfl rfl rfl) _ (p6 au) _ (eT rfl rfl rfl) _ (p6 au) _ (p6 aB) _ (eT rfl rfl rfl) _ (gm rfl rfl rfl) _ (gm rfl rfl rfl) _ (gm rfl rfl rfl) _ (gm rfl rfl rfl) _ (gm rfl rfl rfl) _ (gm rfl rfl rfl) _ (gm rfl rfl rfl) _ (gm rfl rfl rfl) _ (eT rfl rfl rfl))
end
end Mine
end
section
namespace Mine
variable{l:B aN}{r:aN}{m:C}{o:Y a0}{α:Type}{x y:α}{t k:C}{xs:B C}{O:B (B C×D)}{s:B C}{v:D}{aV:Y D}
section
variable{a:bH}{h:aT}{n:St}{T:B aP}{z:C}{W:cw}{X:Prop}
noncomputable def dE(a:bH)(t k:C):B (B C×D):=[(pk,.ref (a .dR)),(i5,E t),(sQ,.ref (a .gz)),(qh,.ref (a .store)),(xj,.ref (a .host)),(Ao,.ref (a .eb)),(Ap,.ref (a .fy)),(EI,.ref (a .hG))].take k
noncomputable def dB(l:B aN)(r:aN):Prop:=r∉l
theorem bo(h:(l.all λ q=>!(q.ctorIdx==r.ctorIdx))=true):dB l r:=λ m=>ju ((an not (lD r.ctorIdx)).symm.trans (g9.mp h r m))
theorem gH{cf:B aN}(h:∀r,r∈l→r∈cf):∀r,dB cf r→dB l r:=λ r z m=>z (h r m)
theorem bY.refl{q:aN→Prop}:bY q a h a h:=λ r _=>⟨rfl,λ o e=>e⟩
theorem bY.mw(z:r∈l):bY (dB l) a h (up a r m) (up h r o):=bY.new λ k=>k z
theorem bY.kJ(z:r∈l):bY (dB l) a h a (up h r o):=bY.set λ k=>k z
theorem xx:y∈ [x,y]:=.tail _ (.head _)
theorem AB:∀r,r∈ [x]→r∈ [x,y]:=λ _ h=>jy.mp h▸.head _
theorem PU:c7 (dE a t (k+2)) i5 (E (t+1))=dE a (t+1) (k+2):=
 an (λ l=>(pk,D.ref (a .dR))::(i5,E (t+1))::l) (Q5 (f:=λ e:B C×D=>if e.1==i5 then(e.1,E (t+1))else e) (l:=[(sQ,.ref (a .gz)),(qh,.ref (a .store)),(xj,.ref (a .host)),(Ao,.ref (a .eb)),(Ap,.ref (a .fy)),(EI,.ref (a .hG))]) (i:=k))
theorem yo:(dE a t k).length<1000:=cn (List.length_take_le' ..) (aE rfl)
theorem yg(M:Good a h n)(cS:h .w=some (.ds (dE a t (k+2))))(aA:h .dR=some (.li (xs.map E)))(bD:t<100000)(hm:0<m)
  (f:∀x J H,x<m→runN ac (z+1) 52 [.ref (a .w),E m] n=some (E x,J)→Good a H J→H .w=some (.ds (dE a (t+1) (k+2)))→bY (dB [.w]) a h a H→X):X:=
 MR (z:=z) (m:=m) (at_:=t) M cS aA rfl rfl bD yo hm λ x J sO e dF=>f x J _ sO e dF ((cR _ _ _).trans (an (λ l=>some (a0.ds l)) PU)) (bY.kJ (.head _))
theorem gw(e:n[m]? =some (.ds O))(l:O.lookup s=some v):dd n (.ref m) (.ss s)=some v:=(uT e).trans l
theorem pF{z:C}(h:z<1000):z<room:=e' h (aE rfl)
theorem x7(e:n[m]? =some (.ds O))(l:O.length<1000):j9 n (.ref m) (.ss s) v=some (n.set m (.ds (c7 O s v))):=(an (rK n m (.ss s) v) e).trans (if_pos (pF l))
theorem Good.l8{xs:B D}(M:Good a h n)(e:h r=some (.li xs))(hl:xs.length<1000)(f:∀J,l7 n (.ref (a r)) v=some J→Good a (Mine.up h r (some (.li (xs++[v])))) J→X):X:=f _ (mY (M.at_ _ _ e) (pF hl)) (M.set e)
noncomputable def E4:bk:=(.cons (.ex (.append (.aq (.v 0) (.ss [109,97,110,121])) (.call 52 (.cons (.v 0) (.cons (.ii 3) .nil))))) .nil)
noncomputable def ev(w:C)(aV bu aW bp bq bh bj:Y D):aX:=[some (.ref w),aV,bu,aW,bp,bq,bh,bj]
theorem E6{fl:B D}{aW bp bq bh bj:Y D}{bu:Y D}(M:Good a h n)(cS:h .w=some (.ds (dE a t (k+6))))(aA:h .dR=some (.li (xs.map E)))(hm:h .eb=some (.li fl))(bD:t<100000)(hl:fl.length<1000)
  (f:∀x J H,x<3→(dh false [2] v (ev (a .w) aV bu aW bp bq bh bj)).bind (λ aF=>bS ac (runN ac (z+1)) E4 aF n)=some (.br (ev (a .w) aV (some v) aW bp bq bh bj),J)→Good a H J→H .w=some (.ds (dE a (t+1) (k+6)))→H .eb=some (.li (fl++[E x]))→bY (dB [.w,.eb]) a h a H→X):X:=
 yg (z:=z) (k:=k+4) (m:=3) M cS aA bD (aE rfl) λ x aa aI LV e dJ sN bx=>dJ.l8 (v:=E x) ((bx .eb (bo rfl)).2 _ hm) hl λ ao ez dA=>
  f x ao _ LV (aR (a:=ev (a .w) aV (some v) aW bp bq bh bj) rfl (dk (z+1) E4 (ev (a aN.w) aV (some v) aW bp bq bh bj) n _ (gw (M.at_ _ _ cS) rfl) (hP (M.at_ _ _ hm)) _ _ e _ ez)) dA ((bP _ _ (a5 rfl)).trans sN) (cR _ _ _) ((bx.sub (gH AB)).trans (bY.kJ xx))
noncomputable def G9:bk:=.cons (.gI (.v 0) (.ss [109,97,110,121]) (.lst (.cons (.bin .add (.ii 1) (.call 52 (.cons (.v 0) (.cons (.ii 2) .nil)))) .nil))) (.cons (.dc [2] false (.tup (.cons (.ii 1) (.cons (.ii 2) (.cons (.ii 3) .nil)))) E4) .nil)
theorem af3(M:Good a h n)(cS:h .w=some (.ds (dE a t 5)))(aA:h .dR=some (.li (xs.map E)))(bD:t<90000)
  (f:∀eI dN dH eh J H aY bu,eI≤2→dN≤2→dH≤2→eh≤2→bS ac (runN ac (z+1)) G9 (ev (a .w) aV none none none none none none) n=some (.br (ev (a .w) aV bu none none none none none),J)→Good aY H J→H .w=some (.ds (dE aY (t+4) 6))→H .eb=some (.li [E eI,E dN,E dH,E eh])→bY (dB [.w,.eb]) a h aY H→aY .w=a .w→X):X:=by
 have bD:∀{j},j≤4→t+j<100000:=λ bt=>e' (r5 bD bt) (aE rfl)
 refine yg (z:=z) (k:=3) (m:=2) M cS aA (bD (fs 4)) (aE rfl) λ x aa aI LU e dJ sN hz=>?_
 have gc:up a .eb aa.length .w=a .w:=bP _ _ (a5 rfl)
 have first:∀{X:Prop},(∀bW cQ ek,j9 (aa++[.li [E (1+x)]]) (.ref (a .w)) (.ss [109,97,110,121]) (.ref aa.length)=some bW→Good ek cQ bW→cQ .w=some (.ds (dE ek (t+1) 6))→cQ .eb=some (.li [E (1+x)])→bY (dB [.w,.eb]) a h ek cQ→ek .w=a .w→X)→X:=λ f=>by
  have dA:=dJ.new .eb (λ _=>a5 rfl) (.li [E (1+x)])
  have ph:(up aI .eb (some (.li [E (1+x)]))) .w=some (.ds (dE a (t+1) 5)):=(bP _ _ (a5 rfl)).trans sN
  have at2:=dA.at_ _ _ ph
  have d0:=dA.set (c3:=.ds (c7 (dE a (t+1) 5) [109,97,110,121] (.ref aa.length))) ph
  rw[gc]at at2 d0
  have dr:c7 (dE a (t+1) 5) [109,97,110,121] (.ref aa.length)=dE (up a .eb aa.length) (t+1) 6:=by
   unfold dE
   rw[cR,bP _ _ (a5 rfl),bP _ _ (a5 rfl),bP _ _ (a5 rfl),bP _ _ (a5 rfl)];rfl
  rw[dr]at d0
  exact f _ _ _ ((x7 at2 yo).trans (by rw[dr])) d0 (cR _ _ _) ((bP _ _ (a5 rfl)).trans (cR _ _ _)) (((hz.sub (gH AB)).trans (bY.mw xx)).trans (bY.kJ (.head _))) gc
 refine first λ bW cQ ek st d0 ie eh nc gc=>?_
 refine E6 (z:=z) (k:=0) (aV:=aV) (aW:=none) (bp:=none) (bq:=none) (bh:=none) (bj:=none) (bu:=none) (v:=.ii 1) d0 ie ((nc .dR (bo rfl)).2 _ aA) eh (bD (aE rfl)) (aE rfl) λ oB eO hO Yv dL hY tu of f0=>?_
 have f0:=nc.trans f0
 refine E6 (z:=z) (k:=0) (aV:=aV) (aW:=none) (bp:=none) (bq:=none) (bh:=none) (bj:=none) (bu:=some (.ii 1)) (v:=.ii 2) hY tu ((f0 .dR (bo rfl)).2 _ aA) of (bD (aE rfl)) (aE rfl) λ tD jV i3 Yw fG hZ tv aaw hj=>?_
 have hj:=f0.trans hj
 refine E6 (z:=z) (k:=0) (aV:=aV) (aW:=none) (bp:=none) (bq:=none) (bh:=none) (bj:=none) (bu:=some (.ii 2)) (v:=.ii 3) hZ tv ((hj .dR (bo rfl)).2 _ aA) aaw (bD (aE rfl)) (aE rfl) λ Hk qJ xb Yx j3 pP G6 aax xB=>?_
 rw[gc]at dL fG j3
 exact f (1+x) oB tD Hk qJ xb ek (some (.ii 3)) (fz (lq LU) 1) (lq Yv) (lq Yw) (lq Yx) (dk (z+1) G9 (ev (a aN.w) aV none none none none none none) n _ _ e _ rfl _ st _ rfl (aE rfl) _ _ (fc trivial dL (fc trivial fG (fc trivial j3 (hf trivial))))) pP G6 aax (hj.trans xB) gc
end
end Mine
end
section
namespace Mine
variable{xs:B C}{t k m eI dN dH eh l:C}{aV aW bp bh bj:Y D}{V:jf}{env:aX}{v:D}
section
variable{a:bH}{h:aT}{n:St}{T:B aP}{z:C}{W:cw}{X:Prop}
theorem Pm(M:Good a h n)(cS:h .w=some (.ds (dE a t (k+2))))(aA:h .dR=some (.li (xs.map E)))(bD:t<100000)
  (f:∀u J H,runN ac (z+2) 55 [.ref (a .w),E m] n=some (bd u,J)→(u.ar m∧u.wf∧u.size≤2)→Good a H J→H .w=some (.ds (dE a (t+1) (k+2)))→bY (dB [.w]) a h a H→X):X:=
 ZL (z:=z) (m:=m) (at_:=t) M cS aA rfl rfl bD yo λ u J e dF q=>f u J _ e q dF ((cR _ _ _).trans (an (λ l=>some (a0.ds l)) PU)) (bY.kJ (.head _))
theorem ads(hm:m≤2)(f:∀ae,ae.length=m→(∀n,hQ n (.ew 0 (m:am))=some ae)→ot (E m)=some (.ew 0 (m:am))→X):X:=
 sR (P:=λ m=>(∀ae,ae.length=m→(∀n,hQ n (.ew 0 (m:am))=some ae)→ot (E m)=some (.ew 0 (m:am))→X)→X) m hm (λ f=>f _ rfl (λ _=>rfl) rfl) (λ f=>f _ rfl (λ _=>rfl) rfl) (λ f=>f _ rfl (λ _=>rfl) rfl) f
noncomputable def jP(eI dN dH eh:C):C→C
 |0=>eI|1=>dN|2=>dH|3=>eh|_=>0
theorem E5(M:Good a h n)(hm:h .eb=some (.li [E eI,E dN,E dH,E eh]))(hl:l≤3):dd n (.ref (a .eb)) (E l)=some (E (jP eI dN dH eh l)):=j6 (M.at_ _ _ hm) (na l hl rfl rfl rfl rfl)
noncomputable def GA:ab:=.call 55 (.cons (.v 0) (.cons (.aq (.aq (.v 0) (.ss [109,97,110,121])) (.v 2)) .nil))
noncomputable def ae6(z:C)(w aO:C)(aV aW bp o5 bh bj:Y D)(lo ay:am)(cf n9 acc:B D)(n:St):Y (B D×St):=@lE (live (.ew lo ay) cf) (e0 (.ew lo ay) cf) (λ x ao=>(dh false [5] x (ev w aV (some (E aO)) aW bp o5 bh bj)).bind λ aF=>(ho ac (runN ac (z+2)) .nil aF ao).bind λ q=>if q.1=true then(ci ac (runN ac (z+2)) GA aF q.2).bind λ r=>some ([r.1],r.2)else some ([],q.2)) n9 acc n
theorem ae7{lo ay:am}{cf:B D}{aO:C}{o5:Y D}(hl:aO≤3){n9:B D}:∀{acc:B D} {n:St} {h:aT} {t:C},Good a h n→h .w=some (.ds (dE a t (k+6)))→h .dR=some (.li (xs.map E))→h .eb=some (.li [E eI,E dN,E dH,E eh])→t+n9.length<100000→
  (∀(df:B ap) (J:St) (H:aT),ae6 z (a .w) aO aV aW bp o5 bh bj lo ay cf n9 acc n=some (acc++df.map bd,J)→df.length=n9.length→(∀u∈df,u.ar (jP eI dN dH eh aO)∧u.wf∧u.size≤2)→Good a H J→H .w=some (.ds (dE a (t+n9.length) (k+6)))→bY (dB [.w]) a h a H→X)→X:=by
 induction n9 with
 |nil=>exact λ{acc n h t} M cS aA hm bD f=>f [] n h ((jE trivial).trans (an (λ l=>some (l,n)) (eX acc).symm)) rfl (λ u dS=>nomatch dS) M cS bY.refl
 |cons bb n9 aZ=>
  intro acc n h t M cS aA hm bD f
  refine Pm (z:=z) (k:=k+4) (m:=jP eI dN dH eh aO) M cS aA (cn (d2 ..) bD) λ u aa aI e q dJ sN hz=>?_
  have b7:t+1+n9.length=t+(n9.length+1):=pU ..
  refine aZ (acc:=acc++[bd u]) dJ sN ((hz .dR (bo rfl)).2 _ aA) ((hz .eb (bo rfl)).2 _ hm) (b7▸bD) λ df ao bJ aB eD cO dA ph sY=>?_
  have st:ci ac (runN ac (z+2)) GA (ev (a .w) aV (some (E aO)) aW bp (some bb) bh bj) n=some (bd u,aa):=(hH (z+2) GA (ev (a aN.w) aV (some (E aO)) aW bp (some bb) bh bj) n _ (gw (M.at_ _ _ cS) rfl) _ (E5 M hm hl) _ _ e)
  exact f (u::df) ao bJ (h6 trivial (j1 (aF:=ev (a .w) aV (some (E aO)) aW bp (some bb) bh bj) rfl st) (aB.trans (an (λ l=>some (l,ao)) (jw ..)))) (an l1 eD) (λ v cP=>(kg.mp cP).elim (λ L=>L▸q) λ cP=>cO v cP) dA (b7▸ph) (hz.trans sY)
theorem qy{x:C}(e:env[x]? =some (some v)):ci ac V (.v x) env n=some (v,n):=aR (an Option.join e) rfl
theorem vt{bb:ab}{b:bk}{bf:B C}{many:av}{aa:St}{l:B D}{o:Y (eZ×St)}(ay:ci ac V bb env n=some (v,aa))(hl:hQ aa v=some l)(a3:l.length≤1000)
  (hc: @fC (live v l) (e0 v l) (λ x aF J=>(dh many bf x aF).bind λ dG=>bS ac V b dG J) l env aa=o):jS ac V (.dc bf many bb b) env n=o:=aR ay (aR hl ((if_pos (a' a3 (aE rfl))).trans hc))
theorem JM:fF .sub (E (l+1)) (.ii 1)=some (E l):=an (λ i=>some (D.ii i)) (QH l 1)
noncomputable def GV:bk:=(.cons (.ex (.append (.aq (.v 0) (.ss [117,112])) (.ja (.comp (.call 55 (.cons (.v 0) (.cons (.aq (.aq (.v 0) (.ss [109,97,110,121])) (.v 2)) .nil))) [5] false (.gP (.aq (.aq (.v 0) (.ss [109,97,110,121])) (.bin .sub (.v 2) (.ii 1)))) (.nil))))) .nil)
theorem G0{df:B D}{bq:Y D}{bu:Y D}(hl:l<3)(iv:∀l,jP eI dN dH eh l≤2)(M:Good a h n)(cS:h .w=some (.ds (dE a t (k+7))))(aA:h .dR=some (.li (xs.map E)))(hm:h .eb=some (.li [E eI,E dN,E dH,E eh]))(dS:h .fy=some (.li df))(bD:t<90000)(Ys:df.length<1000)
  (f:∀(bE:B ap) (cB:C) (J:St) (H:aT),cB≤t+2→(dh false [2] (E (l+1)) (ev (a .w) aV bu aW bp bq bh bj)).bind (λ aF=>bS ac (runN ac (z+2)) GV aF n)=some (.br (ev (a .w) aV (some (E (l+1))) aW bp bq bh bj),J)→Good a H J→H .w=some (.ds (dE a cB (k+7)))→H .fy=some (.li (df++[.tup (bE.map bd)]))→bY (dB [.w,.fy]) a h a H→(bE.length=jP eI dN dH eh l∧∀u∈bE,u.ar (jP eI dN dH eh (l+1))∧u.wf∧u.size≤2)→X):X:=by
 refine ads (iv l) λ ae Lv cC a4=>?_
 have eD:ae.length≤2:=Lv▸iv l
 refine ae7 (z:=z) (a:=a) (aV:=aV) (aW:=aW) (bp:=bp) (bh:=bh) (bj:=bj) (o5:=bq) (lo:=0) (ay:=(jP eI dN dH eh l:am)) (cf:=ae) (k:=k+1) (aO:=l+1) hl (n9:=ae) (acc:=[]) M cS aA hm (e' (r5 bD eD) (aE rfl)) λ bE aa aI e dy q dJ sN hz=>?_
 refine(dJ.kD (.li (bE.map bd))).l8 (v:=.tup (bE.map bd)) ((hz .fy (bo rfl)).2 _ dS) Ys λ bW ez d0=>?_
 refine f bE (t+ae.length) bW _ (fz eD t) (aR (a:=ev (a .w) aV (some (E (l+1))) aW bp bq bh bj) rfl ?_) d0 ((bP _ _ (a5 rfl)).trans sN) (cR _ _ _) ((hz.sub (gH AB)).trans (bY.kJ xx)) ⟨dy.trans Lv,q⟩
 have a3:ae.length≤100000:=a' eD (aE rfl)
 exact(dk (z+2) GV (ev (a aN.w) aV (some (E (l+1))) aW bp bq bh bj) n _ (gw (M.at_ _ _ cS) rfl) (hP (M.at_ _ _ dS)) _ (gw (M.at_ _ _ cS) rfl) _ JM _ (E5 M hm (h3 hl)) _ a4 _ (cC _) a3 _ _ e _ nt _ ez)
end
end Mine
end
section
namespace Mine
section
variable{a:bH}{h:aT}{n:St}{T:B aP}{z:C}{W:cw}{X:Prop}
theorem tg{P:iV}{V:jf}{s:S}{r:bk}{env aF:aX}{aa ao:St}{x:eZ}(h:jS P V s env n=some (.br aF,aa))(k:bS P V r aF aa=some (x,ao)):bS P V (.cons s r) env n=some (x,ao):=aR h k
noncomputable def GW(jb kM oy:B ap):C→B ap
 |1=>jb|2=>kM|3=>oy|_=>[]
noncomputable def G':bk:=.cons (.gI (.v 0) (.ss [117,112]) (.lst (.cons (.tup .nil) .nil))) (.cons (.dc [2] false (.tup (.cons (.ii 1) (.cons (.ii 2) (.cons (.ii 3) .nil)))) GV) .nil)
theorem af4{xs:B C}{t eI dN dH eh:C}{aV bu:Y D}(iv:∀l,jP eI dN dH eh l≤2)(M:Good a h n)(cS:h .w=some (.ds (dE a t 6)))(aA:h .dR=some (.li (xs.map E)))(hm:h .eb=some (.li [E eI,E dN,E dH,E eh]))(bD:t<80000)
  (f:∀(jb kM oy:B ap) (cB:C) (J:St) (H:aT) (aY:bH) (s1:Y D),cB≤t+6→bS ac (runN ac (z+2)) G' (ev (a .w) aV bu none none none none none) n=some (.br (ev (a .w) aV s1 none none none none none),J)→Good aY H J→H .w=some (.ds (dE aY cB 7))→H .fy=some (.li [.tup [],.tup (jb.map bd),.tup (kM.map bd),.tup (oy.map bd)])→bY (dB [.w,.fy]) a h aY H→aY .w=a .w→(⟨jP eI dN dH eh,GW jb kM oy⟩:cw).ok→X):X:=by
 have le:∀{s i j},s≤t+i→t+i≤t+j→j≤10→s<90000:=λ p q r=>cn (a' p q) (e' (r5 bD r) (aE rfl))
 have first:∀{X:Prop},(∀bW cQ ek,j9 (n++[.li [.tup []]]) (.ref (a .w)) (.ss [117,112]) (.ref n.length)=some bW→Good ek cQ bW→cQ .w=some (.ds (dE ek t 7))→cQ .fy=some (.li [.tup []])→bY (dB [.w,.fy]) a h ek cQ→ek .w=a .w→X)→X:=λ f=>by
  have gc:up a .fy n.length .w=a .w:=bP _ _ (a5 rfl)
  have dA:=M.new .fy (λ _=>a5 rfl) (.li [.tup []])
  have ph:(up h .fy (some (.li [.tup []]))) .w=some (.ds (dE a t 6)):=(bP _ _ (a5 rfl)).trans cS
  have at2:=dA.at_ _ _ ph
  have d0:=dA.set (c3:=.ds (c7 (dE a t 6) [117,112] (.ref n.length))) ph
  rw[gc]at at2 d0
  have dr:c7 (dE a t 6) [117,112] (.ref n.length)=dE (up a .fy n.length) t 7:=by
   unfold dE
   rw[cR,bP _ _ (a5 rfl),bP _ _ (a5 rfl),bP _ _ (a5 rfl),bP _ _ (a5 rfl),bP _ _ (a5 rfl)];rfl
  rw[dr]at d0
  exact f _ _ _ ((x7 at2 yo).trans (by rw[dr])) d0 (cR _ _ _) ((bP _ _ (a5 rfl)).trans (cR _ _ _)) ((bY.mw xx).trans (bY.kJ (.head _))) gc
 refine first λ bW cQ ek st d0 ie oy nc gc=>?_
 refine G0 (z:=z) (k:=0) (l:=0) (aV:=aV) (aW:=none) (bp:=none) (bq:=none) (bh:=none) (bj:=none) (bu:=bu) (aE rfl) iv d0 ie ((nc .dR (bo rfl)).2 _ aA) ((nc .eb (bo rfl)).2 _ hm) oy (le (cJ (t+0)) (cJ _) (fs _)) (aE rfl) λ PQ er eO hO LQ dL hY tu afE f0 xW=>?_
 have f0:=nc.trans f0
 refine G0 (z:=z) (k:=0) (l:=1) (aV:=aV) (aW:=none) (bp:=none) (bq:=none) (bh:=none) (bj:=none) (bu:=some (.ii 1)) (aE rfl) iv hY tu ((f0 .dR (bo rfl)).2 _ aA) ((f0 .eb (bo rfl)).2 _ hm) afE (le LQ (cJ _) (aE rfl)) (aE rfl) λ PR eN jV i3 Aa fG hZ tv GQ hj jR=>?_
 have hj:=f0.trans hj
 have Aa:eN≤t+4:=a' Aa (ha LQ 2)
 refine G0 (z:=z) (k:=0) (l:=2) (aV:=aV) (aW:=none) (bp:=none) (bq:=none) (bh:=none) (bj:=none) (bu:=some (.ii 2)) (aE rfl) iv hZ tv ((hj .dR (bo rfl)).2 _ aA) ((hj .eb (bo rfl)).2 _ hm) GQ (le Aa (cJ _) (aE rfl)) (aE rfl) λ afJ hq qJ xb Yo j3 pP G6 GR xB tc=>?_
 rw[gc]at dL fG j3
 exact f PQ PR afJ hq qJ xb ek (some (.ii 3)) (a' Yo (ha Aa 2)) (dk (z+2) G' (ev (a aN.w) aV bu none none none none none) n _ st _ rfl (aE rfl) _ _ (fc trivial dL (fc trivial fG (fc trivial j3 (hf trivial))))) pP G6 GR (hj.trans xB) gc ⟨iv,λ l hl=>sR l (lq hl) xW jR tc⟩
end
end Mine
end
section
namespace Mine
variable{l:C}{r:aN}{eI dN dH eh t k:C}{bu:Y D}{aG:B (C×D)}
section
variable{a:bH}{h:aT}{n:St}{T:B aP}{z:C}{W:cw}{X:Prop}
structure l5(a:bH)(h:aT)(l m:C):Prop where
 bF:∃aG,h (.ty l)=some (.bF 1 aG)∧aG.lookup 7=some (.ii 1)∧aG.lookup 11=some (.ref (a (.tyP l)))∧aG.lookup 15=some (.ref (a (.dv l)))∧aG.lookup 19=some (.ref (a (.cM l)))
 par:∃cp,h (.tyP l)=some (.li cp)∧cp.length=m
noncomputable def AY(l:C)(r:aN):Prop:=r= .ty l∨r= .tyP l∨r= .dv l∨r= .cM l
theorem l5.bx{aY:bH}{H:aT}{l m:C}(P:l5 a h l m)(bx:bY (AY l) a h aY H):l5 aY H l m:=
 let⟨aG,au,aB,bZ,dL,fG⟩:=P.bF
 let⟨cp,gj,fS⟩:=P.par
 ⟨⟨aG,(bx _ (.inl rfl)).2 _ au,aB,by rw[(bx _ (.inr (.inl rfl))).1];exact bZ,by rw[(bx _ (.inr (.inr (.inl rfl)))).1];exact dL,by rw[(bx _ (.inr (.inr (.inr rfl)))).1];exact fG⟩,⟨cp,(bx _ (.inr (.inl rfl))).2 _ gj,fS⟩⟩
noncomputable def ka(l:C):B aN:=[.ty l,.tyP l,.dv l,.cM l]
noncomputable def da:aN→C
 | .ty l| .tyP l| .dv l| .cM l=>l+1
 |_=>0
theorem F6(m:r∈ka l):da r=l+1:=(show∀r∈ka l,da r=l+1 from yz.mpr ⟨rfl,yz.mpr ⟨rfl,oW (P:=λ r=>da r=l+1) rfl rfl⟩⟩) r m
theorem abi(h:da r≠l+1)(k:r.ctorIdx≠aN.types.ctorIdx):dB (.types::ka l) r:=λ m=>(kg.mp m).elim (λ L=>k (an aN.ctorIdx L)) λ m=>h (F6 m)
theorem AZ(q:AY l r):da r=l+1∧r.ctorIdx≠aN.types.ctorIdx:=by rcases q with rfl|rfl|rfl|rfl<;>exact⟨rfl,tU rfl⟩
theorem l9{b9:B a0}{i:C}:(n++b9)[n.length+i]? =b9[i]? :=(yA (d2 ..)).trans (by rw[wd])
theorem la{α:Type}{x y:α}{l:B α}:y∈x::y::l:=.tail _ (.head _)
theorem afv{e1 name:D}{cp:B C}(M:Good a h n)(f:∀aY H,Good aY H (n++Bw n.length e1 name cp)→aY (.ty l)=n.length→l5 aY H l cp.length→H (.dv l)=some (.li [])→H (.cM l)=some (.li [])→bY (dB (ka l)) a h aY H→X):X:=by
 have mN:Good a h (n++Bw n.length e1 name cp):=M.ml
 obtain⟨iT,dy⟩:=mN.adopt (r:=.ty l) (m:=n.length+0) (b:=n.length) M.EY (cJ _) (l9.trans rfl) (λ _=>a5 rfl)
 obtain⟨jg,eD⟩:=iT.adopt (r:=.tyP l) (m:=n.length+2) dy (h4 _) (l9.trans rfl) (λ _=>a5 rfl)
 obtain⟨pN,pl⟩:=jg.adopt (r:=.dv l) (m:=n.length+6) eD (fz (aE rfl:3≤6) n.length) (l9.trans rfl) (λ _=>a5 rfl)
 obtain⟨pO,uX⟩:=pN.adopt (r:=.cM l) (m:=n.length+7) pl (cJ _) (l9.trans rfl) (λ _=>a5 rfl)
 have iy:∀{α:Type} {g:aN→α} {x y L:α},up (up (up g (.tyP l) x) (.dv l) y) (.cM l) L (.ty l)=g (.ty l):=(bP _ _ (a5 rfl)).trans ((bP _ _ (a5 rfl)).trans (bP _ _ (a5 rfl)))
 have kG:∀{α:Type} {g:aN→α} {x y L:α},up (up (up g (.tyP l) x) (.dv l) y) (.cM l) L (.tyP l)=x:=(bP _ _ (a5 rfl)).trans ((bP _ _ (a5 rfl)).trans (cR _ _ _))
 have oi:∀{α:Type} {g:aN→α} {y L:α},up (up g (.dv l) y) (.cM l) L (.dv l)=y:=(bP _ _ (a5 rfl)).trans (cR _ _ _)
 refine f _ _ pO (iy.trans (cR _ _ _)) ⟨⟨GJ n.length e1 name (.ss cp),iy.trans (cR _ _ _),rfl,?_,?_,?_⟩,⟨tx cp,kG,cG ..⟩⟩ oi (cR _ _ _) ((((bY.mw (.head _)).trans (bY.mw la)).trans (bY.mw (.tail _ la))).trans (bY.mw (.tail _ (.tail _ la))))
 ·rw[kG];rfl
 ·rw[oi];rfl
 ·rw[cR];rfl
noncomputable def Bv:bk:=(.cons (.ex (.append (.at (.v 1) 36) (.new 1 (.cons (.bin .add (.ii 66) (.v 2)) (.cons (.aq (.ss [65,66,67,68]) (.v 2)) (.cons (.ii 1) (.cons (.ii 0) (.cons (.neg (.ii 1)) (.cons (.mE (.ss [84,85]) (.aq (.aq (.v 0) (.ss [109,97,110,121])) (.v 2))) (.cons (.ii 1) .nil)))))))))) .nil)
theorem Dd:fF .add (.ii 66) (E l)=some (E (66+l)):=rfl
theorem afl{m:C}(hm:m≤2)(f:∀cp:B C,cp.length=m→cp.all (decide<|· <128)=true→(∀n,rQ n (.ss [84,85]) (E m)=some (.inl (.ss cp)))→X):X:=
 sR (P:=λ m=>(∀cp:B C,cp.length=m→cp.all (decide<|· <128)=true→(∀n,rQ n (.ss [84,85]) (E m)=some (.inl (.ss cp)))→X)→X) m hm (λ f=>f _ rfl rfl λ _=>rfl) (λ f=>f _ rfl rfl λ _=>rfl) (λ f=>f _ rfl rfl λ _=>rfl) f
theorem afx{aW bp bq bh bj:Y D}{rO:B D}(hl:l≤3)(iv:∀l,jP eI dN dH eh l≤2)(M:Good a h n)(cS:h .w=some (.ds (dE a t (k+6))))(hm:h .eb=some (.li [E eI,E dN,E dH,E eh]))(hs:h .store=some (.bF 3 aG))(cl:aG.lookup 36=some (.ref (a .types)))(bD:h .types=some (.li rO))(Yp:rO.length<1000)
  (f:∀J H aY,(dh false [2] (E l) (ev (a .w) (some (.ref (a .store))) bu aW bp bq bh bj)).bind (λ aF=>bS ac (runN ac (z+1)) Bv aF n)=some (.br (ev (a .w) (some (.ref (a .store))) (some (E l)) aW bp bq bh bj),J)→Good aY H J→l5 aY H l (jP eI dN dH eh l)→H (.dv l)=some (.li [])→H (.cM l)=some (.li [])→H .types=some (.li (rO++[.ref (aY (.ty l))]))→bY (dB (.types::ka l)) a h aY H→aY .types=a .types→X):X:=by
 obtain⟨nm,cy⟩:∃nm,dd n (.ss [65,66,67,68]) (E l)=some nm:=na l hl ⟨_,rfl⟩ ⟨_,rfl⟩ ⟨_,rfl⟩ ⟨_,rfl⟩
 refine afl (iv l) λ cp LO bM Yt=>?_
 have e:=PI (z:=z) (n:=n) (e1:=E (66+l)) (name:=nm) (LO▸iv l) bM
 refine afv (l:=l) (e1:=E (66+l)) (name:=nm) (cp:=cp) M λ aY H dF C0 aff rc dj bx=>?_
 have JD:=(bx .types (λ m=>Rv l (F6 m).symm)).1
 refine dF.l8 (v:=.ref n.length) ((bx .types (λ m=>Rv l (F6 m).symm)).2 _ bD) Yp λ ao ez dA=>?_
 rw[JD]at ez
 exact f ao _ aY (aR (a:=ev (a .w) (some (.ref (a .store))) (some (E l)) aW bp bq bh bj) rfl (dk (z+1) Bv (ev (a aN.w) (some (D.ref (a aN.store))) (some (E l)) aW bp bq bh bj) n _ ((fj (M.at_ _ _ hs)).trans cl) (hP (M.at_ _ _ bD)) _ rfl _ Dd _ cy _ rfl _ (gw (M.at_ _ _ cS) rfl) _ (E5 M hm hl) _ (Yt n) _ e _ ez)) dA (LO▸aff.bx (bY.set λ q=>(AZ q).2 rfl)) ((bP _ _ (a5 rfl)).trans rc) ((bP _ _ (a5 rfl)).trans dj) ((cR _ _ _).trans (by rw[C0])) ((bx.sub (gH λ r a4=>.tail _ a4)).trans (bY.kJ (.head _))) JD
structure kn(a:bH)(h:aT):Prop where
 bF:∃aG,h .store=some (.bF 3 aG)∧aG.length<20∧aG.lookup 35=some (.ref (a .kt))∧aG.lookup 36=some (.ref (a .types))∧aG.lookup 15=some (.ref (a .meths))
noncomputable def vM:B aN:=.types::(ka 0++ka 1++ka 2++ka 3)
noncomputable def Ha:bk:=.cons (.cc (.v 1) 36 (.pD (.lst (.cons (.nn) .nil)) (.ii 66))) (.cons (.dc [2] false (.gP (.ii 4)) Bv) (.cons (.ex (.append (.at (.v 1) 36) (.new 1 (.cons (.ii 70) (.cons (.ss [71]) (.cons (.ii 1) (.cons (.ii 0) (.cons (.neg (.ii 1)) (.cons (.ss [84]) (.cons (.ii 1) .nil)))))))))) .nil))
theorem tw{q:B aN}{ed:bH}{bJ:aT}(bx:bY (dB q) a h ed bJ)(z:([aN.dR,.gz,.store,.host,.eb,.fy,.hG].all λ r=>q.all λ p=>!(p.ctorIdx==r.ctorIdx))=true):dE ed t k=dE a t k:=by
 have f:∀r,r∈ [aN.dR,.gz,.store,.host,.eb,.fy,.hG]→ed r=a r:=λ r m=>(bx r (bo (g9.mp z r m))).1
 unfold dE
 rw[f .dR (.head _),f .gz (.tail _ (.head _)),f .store (.tail _ (.tail _ (.head _))),f .host (.tail _ (.tail _ (.tail _ (.head _)))),f .eb (.tail _ (.tail _ (.tail _ (.tail _ (.head _))))),f .fy (.tail _ (.tail _ (.tail _ (.tail _ (.tail _ (.head _)))))),f .hG (.tail _ (.tail _ (.tail _ (.tail _ (.tail _ (.tail _ (.head _)))))))]
noncomputable def sh(a:bH)(h:aT)(l m:C):Prop:=l5 a h l m∧h (.dv l)=some (.li [])∧h (.cM l)=some (.li [])
theorem sh.bx{l m:C}{aY:bH}{H:aT}(Q:sh a h l m)(bx:bY (AY l) a h aY H):sh aY H l m:=⟨Q.1.bx bx,(bx _ (.inr (.inr (.inl rfl)))).2 _ Q.2.1,(bx _ (.inr (.inr (.inr rfl)))).2 _ Q.2.2⟩
structure CV(a:bH)(h:aT)(t k eI dN dH eh:C)(aG:B (C×D))(l:C):Prop where
 w:h .w=some (.ds (dE a t (k+6)))
 m:h .eb=some (.li [E eI,E dN,E dH,E eh])
 s:h .store=some (.bF 3 aG)
 f:aG.lookup 36=some (.ref (a .types))
 y:h .types=some (.li (dw 66 .nn++(ck l).map λ i=>.ref (a (.ty i))))
 q:∀i,i<l→sh a h i (jP eI dN dH eh i)
theorem Bx(hl:l≤3)(iv:∀l,jP eI dN dH eh l≤2)(M:Good a h n)(S:CV a h t k eI dN dH eh aG l)
  (f:∀J H aY,(dh false [2] (E l) (ev (a .w) (some (.ref (a .store))) bu none none none none none)).bind (λ aF=>bS ac (runN ac (z+1)) Bv aF n)=some (.br (ev (a .w) (some (.ref (a .store))) (some (E l)) none none none none none),J)→Good aY H J→CV aY H t k eI dN dH eh aG (l+1)→bY (dB (.types::ka l)) a h aY H→aY .w=a .w→aY .store=a .store→X):X:=by
 refine afx (z:=z) (bu:=bu) (aW:=none) (bp:=none) (bq:=none) (bh:=none) (bj:=none) hl iv M S.w S.m S.s S.f S.y (by rw[fg,cG,gA,Ca];omega) λ J H aY e dF P ak I agc bx S5=>?_
 have lo:∀{i r},i<l→AY i r→dB (.types::ka l) r:=λ ay q=>abi (λ L=>mR ay (oQ ((AZ q).1.symm.trans L))) (AZ q).2
 refine f J H aY e dF ⟨(tw bx rfl).symm▸(bx .w (bo rfl)).2 _ S.w,(bx .eb (bo rfl)).2 _ S.m,(bx .store (bo rfl)).2 _ S.s,S5▸S.f,agc.trans ?_,λ i ay=>(Ro.mp ay).elim (λ ay=>(S.q i ay).bx (bx.sub λ r q=>lo ay q)) λ L=>by subst L;exact⟨P,ak,I⟩⟩ bx (bx .w (bo rfl)).1 (bx .store (bo rfl)).1
 rw[Ce,nD,jw]
 exact an (λ ae=>some (a0.li (dw 66 .nn++(ae++[.ref (aY (.ty l))])))) (pR λ i ay=>an D.ref (bx (.ty i) (lo (f'.mp ay) (.inl rfl))).1.symm)
theorem ac5{v:D}:vs (n++[.li [v]]) (.ref n.length) (.ii 66)=some (dw 66 v):=
 (an (λ o:Y a0=>match o with|some (.li [x])=>if(0:am)≤66∧(66:am)<1000 then some (dw (66:am).toNat x)else none|_=>none) (iY rfl:(n++[a0.li [v]])[n.length]? =some (.li [v]))).trans rfl
theorem BB(hl:l≤3):∀r,r∈ .types::ka l→r∈ .store::vM:=λ r m=>.tail _ ((kg.mp m).elim (λ L=>L▸.head _) λ m=>.tail _ (na (P:=λ l=>r∈ka l→r∈ka 0++ka 1++ka 2++ka 3) l hl (λ m=>oM _ (oM _ (oM _ m))) (λ m=>oM _ (oM _ (wb _ m))) (λ m=>oM _ (wb _ m)) (λ m=>wb _ m) m))
theorem af5(iv:∀l,jP eI dN dH eh l≤2)(M:Good a h n)(cS:h .w=some (.ds (dE a t (k+6))))(hm:h .eb=some (.li [E eI,E dN,E dH,E eh]))(hs:h .store=some (.bF 3 aG))(z5:aG.length<19)(D5:aG.lookup 35=some (.ref (a .kt)))(D3:aG.lookup 15=some (.ref (a .meths)))
  (f:∀J H aY s1 x,bS ac (runN ac (z+1)) Ha (ev (a .w) (some (.ref (a .store))) bu none none none none none) n=some (.br (ev (a .w) (some (.ref (a .store))) s1 none none none none none),J)→Good aY H J→kn aY H→(∀l,l<4→sh aY H l (jP eI dN dH eh l))→H .types=some (.li (dw 66 .nn++[.ref (aY (.ty 0)),.ref (aY (.ty 1)),.ref (aY (.ty 2)),.ref (aY (.ty 3)),x]))→bY (dB (.store::vM)) a h aY H→aY .store=a .store→X):X:=by
 have first:∀{X:Prop},(∀bW cQ ek ux,lg ac (n++[.li [.nn]]++[.li (dw 66 .nn)]) (.ref (a .store)) 36 (.ref (n++[a0.li [.nn]]).length)=some bW→Good ek cQ bW→CV ek cQ t k eI dN dH eh ux 0→(ux.length<20∧ux.lookup 35=some (.ref (a .kt))∧ux.lookup 15=some (.ref (a .meths)))→bY (dB (.store::vM)) a h ek cQ→ek .w=a .w→ek .store=a .store→X)→X:=λ f=>by
  have dA:=(M.kD (.li [.nn])).new .types (λ _=>a5 rfl) (.li (dw 66 .nn))
  have as:up a .types (n++[a0.li [.nn]]).length .store=a .store:=bP _ _ (a5 rfl)
  have w9:(up h .types (some (.li (dw 66 .nn)))) .store=some (.bF 3 aG):=(bP _ _ (a5 rfl)).trans hs
  have d0:=dA.set (c3:=.bF 3 (c7 aG 36 (.ref (n++[a0.li [.nn]]).length))) w9
  have at2:=dA.at_ _ _ w9
  rw[as]at at2 d0
  have mv:bY (dB [.types]) a h (up a .types (n++[a0.li [.nn]]).length) (up h .types (some (.li (dw 66 .nn)))):=bY.mw (.head _)
  have g0:=(mv.sub (gH (AB (y:=.store)))).trans (bY.kJ (r:=.store) (o:=some (.bF 3 (c7 aG 36 (.ref (n++[a0.li [.nn]]).length)))) xx)
  refine f _ _ _ (c7 aG 36 (.ref (n++[a0.li [.nn]]).length)) (x4 at2 rfl (fh z5 (aE rfl))) d0 ⟨?_,(g0 .eb (bo rfl)).2 _ hm,cR _ _ _,?_,?_,λ i ay=>absurd ay (yM i)⟩ ⟨cn AV (Ru z5),(ni (by decide)).trans D5,(ni (by decide)).trans D3⟩ (g0.sub (gH (oW (.tail _ (.head _)) (.head _)))) (bP _ _ (a5 rfl)) as
  ·rw[tw mv rfl];exact(g0 .w (bo rfl)).2 _ cS
  ·exact qx.trans (an (λ x=>some (D.ref x)) (cR _ _ _).symm)
  ·exact(bP _ _ (a5 rfl)).trans (cR _ _ _)
 refine first λ bW cQ ek ux bZ d0 y3 cl g0 sp q1=>?_
 refine Bx (z:=z) (l:=0) (bu:=bu) (aE rfl) iv d0 y3 λ eO hO kp dL hY Sm f0 C' zb=>?_
 refine Bx (z:=z) (l:=1) (bu:=some (E 0)) (aE rfl) iv hY Sm λ jV i3 k3 fG hZ Sn hj JI C5=>?_
 refine Bx (z:=z) (l:=2) (bu:=some (E 1)) (aE rfl) iv hZ Sn λ qJ xb o4 j3 pP So xB zg JB=>?_
 refine Bx (z:=z) (l:=3) (bu:=some (E 2)) (aE rfl) iv pP So λ vV LY JK wP v6 sg aaU agS zc=>?_
 have QE:Good JK LY (vV++Bw vV.length (.ii 70) (.ss [71]) [84]):=v6.ml
 have ul:=PI (z:=z) (n:=vV) (e1:=.ii 70) (name:=.ss [71]) (cp:=[84]) (aE rfl) rfl
 have hS:=(((g0.trans (f0.sub (gH (BB (aE rfl))))).trans (hj.sub (gH (BB (aE rfl))))).trans (xB.sub (gH (BB (aE rfl))))).trans (aaU.sub (gH (BB (cJ 3))))
 have zc:=zc.trans (JB.trans (C5.trans (zb.trans q1)))
 have uS:=(fj (v6.at_ _ _ sg.s)).trans sg.f
 rw[zc]at uS
 rw[sp,q1]at dL
 rw[C',zb,sp,q1]at fG
 rw[JI,C5,C',zb,sp,q1]at j3
 rw[zg,JB,JI,C5,C',zb,sp,q1]at wP
 refine QE.l8 (v:=.ref vV.length) sg.y (aE rfl) λ agj ez QF=>?_
 exact f agj _ JK (some (E 3)) (.ref vV.length) (dk (z+1) Ha (ev (a aN.w) (some (D.ref (a aN.store))) bu none none none none none) n _ ac5 _ bZ _ rfl _ rfl (aE rfl) _ _ (fc trivial dL (fc trivial fG (fc trivial j3 (fc trivial wP (hf trivial))))) _ uS (hP (v6.at_ _ _ sg.y)) _ rfl _ rfl _ ul _ ez) QF ⟨ux,(bP _ _ (a5 rfl)).trans sg.s,cl.1,(hS .kt (bo rfl)).1.symm▸cl.2.1,sg.f,(hS .meths (bo rfl)).1.symm▸cl.2.2⟩ (λ l hl=>(sg.q l hl).bx (bY.set λ q=>(AZ q).2 rfl)) (cR _ _ _) (hS.trans (bY.kJ (.tail _ (.head _)))) zc
end
end Mine
end
section
namespace Mine
variable{l:B aN}{r:aN}{ae:C}{al:B (am×D)}{k:C}{v:D}{aC:B aP}{m:C}{aV aQ bq:Y D}{aY:bH}{H:aT}{ks:B C}{O:B (B C×D)}{bh bj:Y D}
section
variable{a:bH}{h:aT}{n:St}{T:B aP}{z:C}{W:cw}{X:Prop}
theorem nR{p:aN→av}(h:(l.all λ q=>!(p q))=true)(k:p r=true):dB l r:=λ m=>ju ((an not k).symm.trans (g9.mp h r m))
noncomputable def dM(W:cw)(ae d:C):ap:=gX (66+(ae-d)) (W.dK ae d)
theorem u0(K:W.ok)(cC:ae≤3){d:C}(a1:d≤ae):(dM W ae d).wf∧(dM W ae d).size≤9∧bd (dM W ae d)= .tup [.ss [103],E (66+(ae-d)),.tup ((W.dK ae d).map bd)]:=
 have bO:=(K.arg cC a1).2
 ⟨WR (.inr ⟨d2 ..,fz (a' (nH ..) (a' cC (h4 3))) 66⟩) λ t bD=>(bO t bD).2.1,
  a' (WN λ t bD=>(bO t bD).2.2) (gp (hu (gp (a' a1 cC)) (gp (a' a1 cC)))),WP (K.lC cC a1)⟩
noncomputable def lU(T:B aP)(W:cw)(al:B (am×D)):Prop:=∀(k:C) (v:D),al.lookup (k:am)=some v→∃l b6 e6,l<3∧b6.length≤2∧ba T k (gX (66+(l+1)) b6)∧v=E e6∧ba T e6 (gX (66+l) ((W.up (l+1)).map (ap.sub b6)))
theorem lU.b7(ok:lU T W al)(e:al.lookup (k:am)=some v)(f:∀l b6 e6,l<3→b6.length≤2→ba T k (gX (66+(l+1)) b6)→v=E e6→ba T e6 (gX (66+l) ((W.up (l+1)).map (ap.sub b6)))→X):X:=let⟨l,b6,e6,ax,aH,cI,gg,ky⟩:=ok k v e;f l b6 e6 ax aH cI gg ky
theorem lU.more(m:∀{k:C} {t:ap},ba T k t→ba aC k t)(ok:lU T W al):lU aC W al:=λ k v e=>ok.b7 e λ l b6 e6 ax aH cI gg ky=>⟨l,b6,e6,ax,aH,m cI,gg,m ky⟩
theorem lU.put(ok:lU T W al){eU c2 l:C}{b6:B ap}(ax:l<3)(aH:b6.length≤2)(cI:ba T eU (gX (66+(l+1)) b6))(ky:ba T c2 (gX (66+l) ((W.up (l+1)).map (ap.sub b6)))):lU T W (c7 al (eU:am) (E c2)):=λ k v e=>
 (f7 ((k:am)=eU)).elim (λ L=>⟨l,b6,c2,ax,aH,tJ L▸cI,(lj (L▸qx) e).symm,ky⟩) λ L=>ok k v ((ni L).symm.trans e)
noncomputable def EJ:ab:=.call 54 (.cons (.v 0) (.cons (.tup (.cons (.ss [103]) (.cons (.bin .add (.ii 66) (.v 6)) (.cons (.v 7) .nil)))) .nil))
noncomputable def Zk(z w m:C)(l:B D)(aV aQ aW bp bq bN bm:Y D)(ds acc:B D)(n:St):Y (B D×St):=@lE (live (.ref m) l) (e0 (.ref m) l) (λ x ao=>(dh true [6,7] x (ev w aV aQ aW bp bq bN bm)).bind λ aF=>(ho ac (runN ac (z+31)) .nil aF ao).bind λ q=>if q.1=true then(ci ac (runN ac (z+31)) EJ aF q.2).bind λ r=>some ([r.1],r.2)else some ([],q.2)) ds acc n
noncomputable def aaa(W:cw)(ae d:C):D:=.tup [E (ae-d),.tup ((W.dK ae d).map bd)]
theorem Zr{l:B D}{aW bp bN bm:Y D}(cC:ae≤3){ds:B C}:∀{acc:B D} {n:St} {h:aT} {T:B aP},(∀d∈ds,d≤ae)→fN a h W→c6 a h T→Good a h n→h (.a6 m)=some (.li l)→T.length+24*(ds.length+1)<500000→
  (∀(ks:B C) (J:St) (aC:B aP) (H:aT),Zk z (a .w) m l aV aQ aW bp bq bN bm (ds.map (aaa W ae)) acc n=some (acc++ks.map E,J)→d1 aC ks (ds.map (dM W ae))→b0 a h T (24*ds.length) J aC H→X)→X:=by
 induction ds with
 |nil=>exact λ{acc n h T} a1 lY al M hm a3 f=>f [] n T h ((jE (de M hm)).trans (an (λ l=>some (l,n)) (eX acc).symm)) trivial ((b0.refl al M).mono (fs _))
 |cons d ds aZ=>
  intro acc n h T a1 lY al M hm a3 f
  have hl:(d::ds).length=ds.length+1:=rfl
  have t:=u0 lY.ok cC (a1 d (.head _))
  refine xp (z:=z) lY al M t.1 (a' t.2.1 (aE rfl)) (by omega) λ k aa bX aI e q go=>?_
  refine aZ (acc:=acc++[E k]) (λ d gv=>a1 d (.tail _ gv)) (lY.go go) go.bT go.good (go.a6 hm).1 (by have:=go.le;omega) λ ks ao cL bJ aB cO b8=>?_
  rw[t.2.2]at e
  have st:ci ac (runN ac (z+31)) EJ (ev (a .w) aV aQ aW bp bq (some (E (ae-d))) (some (.tup ((W.dK ae d).map bd)))) n=some (E k,aa):=(hH (z+31) EJ (ev (a aN.w) aV aQ aW bp bq (some (E (ae-d))) (some (D.tup (eA bd (W.dK ae d))))) n _ Dd _ _ e)
  exact f (k::ks) ao cL bJ (h6 (de M hm) (j1 (aF:=ev (a .w) aV aQ aW bp bq (some (E (ae-d))) (some (.tup ((W.dK ae d).map bd)))) rfl st) (aB.trans (an (λ l=>some (l,ao)) (jw ..)))) ⟨b8.eS q,cO⟩ ((go.trans b8).mono (by omega))
structure qP(a:bH)(h:aT):Prop where
 bF:∃aG,h .host=some (.bF 9 aG)∧aG.length<20∧aG.lookup 35=some (.ref (a .kt))∧aG.lookup 70=some (.ref (a .fD))∧aG.lookup 7=none∧aG.lookup 9=none
theorem qP.bx(cU:qP a h)(dN:∀o,h .host=some o→H .host=some o)(dH:aY .kt=a .kt)(eh:aY .fD=a .fD):qP aY H:=let⟨aG,au,aB,bZ,dL,fG⟩:=cU.bF;⟨aG,dN _ au,aB,dH.symm▸bZ,eh.symm▸dL,fG⟩
theorem qP.b(cU:qP a h)(M:Good a h n):d7 n (.ref (a .host)) 70=some (.ref (a .fD)):=let⟨_,au,_,_,dL,_⟩:=cU.bF;(fj (M.at_ _ _ au)).trans dL
theorem L1{i:C}(e:n[m]? =some (.li (ks.map E)))(ay:ks[i]? =some k):dd n (.ref m) (E i)=some (E k):=j6 e (i7 ay)
theorem OV{O:B (am×D)}(e:n[m]? =some (.cq O))(l:O.length<1000):j9 n (.ref m) (E k) v=some (n.set m (.cq (c7 O (k:am) v))):=(an (rK n m (E k) v) e).trans (if_pos (pF l))
noncomputable def zk:bk:=(.cons (.gI (.at (.aq (.v 0) (.ss [104,111,115,116])) 70) (.aq (.v 3) (.bin .sub (.v 4) (.ii 1))) (.aq (.v 3) (.v 4))) .nil)
theorem d1.get{bE:B ap}(q:d1 T ks bE):∀{i k:C} {t:ap},ks[i]? =some k→bE[i]? =some t→ba T k t:=
 q.b7 (ak:=λ ks bE=>∀{i k:C} {t:ap},ks[i]? =some k→bE[i]? =some t→ba T k t) (λ e=>nomatch e) λ _ _ _ _ q _ r {i _ _}=>match i with
  |0=>λ e bC=>lj e rfl▸lj bC rfl▸q
  |_+1=>λ e bC=>r e bC
theorem EU(sH:d1 T ks ((ck (ae+1)).map (dM W ae))){p:C}(bM:p<ae+1)(f:∀k,ks[p]? =some k→ba T k (dM W ae p)→X):X:=
 have e:p<ks.length:=by rw[sH.len,cG,gA];exact bM
 f _ (h1 e) (sH.get (h1 e) (i7 (yD bM)))
theorem aaf{k ct:am}(e:(al.lookup k).isSome=true):((c7 al ct v).lookup k).isSome=true:=
 (f7 (k=ct)).elim (λ L=>L▸an pX qx) λ L=>(an pX (ni L)).trans e
noncomputable def Uq(z:C)(lo ay:am)(cf cp:B D)(env:aX)(n:St):Y (eZ×St):=@fC (live (.ew lo ay) cf) (e0 (.ew lo ay) cf) (λ x aF J=>(dh false [4] x aF).bind λ dG=>bS ac (runN ac z) zk dG J) cp env n
theorem Ug{lo ay:am}{cf:B D}(cC:ae≤3)(sH:d1 T ks ((ck (ae+1)).map (dM W ae)))(K:W.ok)(cy:T.Nodup){cp:B C}:∀{n:St} {h:aT} {al:B (am×D)} {cm:Y D},(∀p∈cp,p<ae)→Good a h n→h .w=some (.ds O)→O.lookup xj=some (.ref (a .host))→qP a h→h (.a6 m)=some (.li (ks.map E))→h .fD=some (.cq al)→al.length+cp.length<900→lU T W al→
  (∀(J:St) (H:aT) (iC:B (am×D)) (jq:Y D),Uq z lo ay cf (cp.map λ p=>E (p+1)) (ev (a .w) aV aQ (some (.ref m)) cm bq bh bj) n=some (.br (ev (a .w) aV aQ (some (.ref m)) jq bq bh bj),J)→Good a H J→H .fD=some (.cq iC)→iC.length≤al.length+cp.length→lU T W iC→bY (dB [.fD]) a h a H→(∀p∈cp,∀k,ba T k (dM W ae p)→(iC.lookup (k:am)).isSome=true)→(∀k:am,(al.lookup k).isSome=true→(iC.lookup k).isSome=true)→X)→X:=by
 induction cp with
 |nil=>exact λ{n h al cm} bM M cS sG cU hm fD hl ok f=>f n h al cm (hf trivial) M fD (cJ _) ok bY.refl (λ p bM=>nomatch bM) λ k e=>e
 |cons p cp aZ=>
  intro n h al cm bM M cS sG cU hm fD hl ok f
  have n6:=bM p (.head _)
  refine EU sH (pW n6) λ eU mc fw=>EU sH (Ru n6) λ c2 au d'=>?_
  have hz:bY (dB [.fD]) a h a (up h .fD (some (.cq (c7 al (eU:am) (E c2))))):=bY.kJ (.head _)
  have O:=Gw n6
  have abW:=ok.put (l:=ae- (p+1)) (b6:=W.dK ae p) (eU:=eU) (c2:=c2) (e' (Cp (e' p.succ_pos n6) p.succ_pos) cC) (K.lC cC (h3 n6)) (O.symm▸fw) (O.symm▸d')
  have agZ:(p::cp).length=cp.length+1:=rfl
  have lN:=AV (O:=al) (k:=(eU:am)) (v:=E c2)
  refine aZ (cm:=some (E (p+1))) (λ p rf=>bM p (.tail _ rf)) (M.set (c3:=.cq (c7 al (eU:am) (E c2))) fD) ((hz .w (bo rfl)).2 _ cS) sG (cU.bx (λ o e=>(hz .host (bo rfl)).2 _ e) rfl rfl) ((hz _ (bo rfl)).2 _ hm) (cR _ _ _) (by omega) abW λ ao bJ Hs jq aB dA Xa eD abX sY uy Lm=>?_
  have st:bS ac (runN ac z) zk (ev (a .w) aV aQ (some (.ref m)) (some (E (p+1))) bq bh bj) n=some (.br (ev (a .w) aV aQ (some (.ref m)) (some (E (p+1))) bq bh bj),n.set (a .fD) (.cq (c7 al (eU:am) (E c2)))):=(dk z zk (ev (a aN.w) aV aQ (some (D.ref m)) (some (E (p+1))) bq bh bj) n _ (L1 (de M hm) au) _ (gw (M.at_ _ _ cS) sG) _ (cU.b M) _ JM _ (L1 (de M hm) mc) _ (OV (k:=eU) (v:=E c2) (M.at_ _ _ fD) (cn (d2 ..) (fh hl (aE rfl)))))
  exact f ao bJ Hs jq (fc trivial (aR (a:=ev (a .w) aV aQ (some (.ref m)) (some (E (p+1))) bq bh bj) rfl st) aB) dA Xa (by omega) abX (hz.trans sY) (λ f2 rf k q=>(kg.mp rf).elim (λ L=>Lm _ (ba.inj cy (L▸q) fw▸an pX qx)) λ rf=>uy f2 rf k q) λ k e=>Lm k (aaf e)
noncomputable def tS(l:B aN)(r:aN):Prop:=gY r=false∧r∉l
theorem vc(k:gY r=false)(h:(l.all λ q=>!(q.ctorIdx==r.ctorIdx))=true):tS l r:=⟨k,bo h⟩
theorem b0.bx{aI:aT}{bX:B aP}{b:C}{aa:St}(x:b0 a h T b aa bX aI):bY (tS l) a h a aI:=bY.go x λ r k=>k.1
noncomputable def sV:aN→av
 | .w| .store| .eb| .fy| .kt=>true
 |_=>false
theorem fN.bx(ae:fN a h W)(m:bY (λ r=>sV r=true) a h aY H):fN aY H W:=
 ⟨let⟨O,au,aB,bZ,dL⟩:=ae.w;⟨O,(m .w rfl).2 _ au,(m .store rfl).1.symm▸aB,(m .eb rfl).1.symm▸bZ,(m .fy rfl).1.symm▸dL⟩,let⟨aG,iq,gC⟩:=ae.store;⟨aG,(m .store rfl).2 _ iq,(m .kt rfl).1.symm▸gC⟩,(m .eb rfl).2 _ ae.many,(m .fy rfl).2 _ ae.up,ae.ok⟩
structure nP(a:bH)(h:aT)(T:B aP)(W:cw)(O:B (B C×D))(al:B (am×D)):Prop where
 lw:fN a h W
 bT:c6 a h T
 w:h .w=some (.ds O)
 zF:O.lookup xj=some (.ref (a .host))
 be:qP a h
 az:h .fD=some (.cq al)
 ok:lU T W al
noncomputable def oH(T:B aP)(W:cw)(al:B (am×D))(ae:C):Prop:=∀d,d<ae→∃k,ba T k (dM W ae d)∧(al.lookup (k:am)).isSome=true
theorem oH.more{iC:B (am×D)}(m:∀{k:C} {t:ap},ba T k t→ba aC k t)(g:∀k:am,(al.lookup k).isSome=true→(iC.lookup k).isSome=true)(ok:oH T W al ae):oH aC W iC ae:=λ d a1=>let⟨k,q,e⟩:=ok d a1;⟨k,m q,g _ e⟩
noncomputable def EP:bk:=(.cons (.asg 3 (.comp (.call 54 (.cons (.v 0) (.cons (.tup (.cons (.ss [103]) (.cons (.bin .add (.ii 66) (.v 6)) (.cons (.v 7) .nil)))) .nil))) [6,7] true (.call 57 (.cons (.v 0) (.cons (.v 2) .nil))) (.nil))) (.cons (.dc [4] false (.pE (.ii 1) (.len (.v 3))) zk) .nil))
theorem Ol(cC:ae≤3):vx (.ii 1) (.ii ((ae+1:C):am))=some (.ew 1 ((ae+1:C):am))∧∀n,hQ n (.ew 1 ((ae+1:C):am))=some ((ck ae).map λ p=>E (p+1)):=
 na ae cC ⟨rfl,λ _=>rfl⟩ ⟨rfl,λ _=>rfl⟩ ⟨rfl,λ _=>rfl⟩ ⟨rfl,λ _=>rfl⟩
theorem Av{bu cX cm:Y D}(cC:ae≤3)(M:Good a h n)(wl:nP a h T W O al)(a3:T.length+200<500000)(fD:al.length<800)
  (f:∀(J:St) (aC:B aP) (H:aT) (iC:B (am×D)) (hT jq:Y D),(dh false [2] (E ae) (ev (a .w) aV bu cX cm bq bh bj)).bind (λ aF=>bS ac (runN ac (z+31)) EP aF n)=some (.br (ev (a .w) aV (some (E ae)) hT jq bq bh bj),J)→Good a H J→nP a H aC W O iC→iC.length≤al.length+3→(∃X,aC=T++X)→aC.length≤T.length+96→bY (tS [.fD]) a h a H→oH aC W iC ae→(∀k:am,(al.lookup k).isSome=true→(iC.lookup k).isSome=true)→X):X:=by
 refine EN (z:=z+5) wl.lw wl.bT M (l:=ae) cC λ m aa aI au cW hN cl=>?_
 have c':(ck (ae+1)).length=ae+1:=gA
 refine Zr (z:=z) (m:=m) (l:=lK W ae (ae+1)) (aV:=aV) (aQ:=some (E ae)) (aW:=cX) (bp:=cm) (bq:=bq) (bN:=bh) (bm:=bj) cC (ds:=ck (ae+1)) (acc:=[]) (λ d a1=>lq (f'.mp a1)) (wl.lw.go cW) cW.bT cW.good hN (by rw[c'];omega) λ ks ao cL bJ aB cO b8=>?_
 have en:=b0.start b8.bT b8.good (.li (ks.map E))
 have fW:b0 a h T 96 (ao++[.li (ks.map E)]) cL _:=((cW.trans b8).trans en.1).mono (by rw[c'];omega)
 have i1:ks.length=ae+1:=cO.len.trans ((cG ..).trans c')
 refine fW.bT.b7 λ _ _ _ _ I=>Ug (z:=z+31) (m:=ao.length) (ae:=ae) (ks:=ks) (O:=O) (aV:=aV) (aQ:=some (E ae)) (bq:=bq) (bh:=bh) (bj:=bj) (lo:=1) (ay:=((ae+1:C):am)) (cf:=(ck ae).map λ p=>E (p+1)) cC cO wl.lw.ok I.nodup (cp:=ck ae) (cm:=cm) (λ p bM=>f'.mp bM) fW.good (fW.off rfl wl.w) wl.zF (wl.be.bx (λ o e=>fW.off rfl e) rfl rfl) en.2 (fW.off rfl wl.az) (by rw[gA];omega) (wl.ok.more λ q=>fW.eS q) λ jV i3 Qs jq fG hZ Xs MP abT hj wS wY=>?_
 rw[gA]at MP
 have lL:k' (ao++[.li (ks.map E)]) (.ref ao.length)=some ((ae+1:C):am):=(ro (iY rfl)).trans (by rw[cG,i1])
 have Es:(lK W ae (ae+1)).length≤100000:=by unfold lK;rw[cG,c'];omega
 have uP:((ck ae).map λ p=>E (p+1)).length≤100000:=by rw[cG,gA];omega
 refine f jV cL i3 Qs (some (.ref ao.length)) jq (aR (a:=ev (a .w) aV (some (E ae)) cX cm bq bh bj) rfl (dk (z+31) EP (ev (a aN.w) aV (some (E ae)) cX cm bq bh bj) n _ _ au _ (iw (de cW.good hN)) Es _ _ aB _ lL _ ((Ol cC).1) _ ((Ol cC).2 _) uP _ _ fG)) hZ ⟨(wl.lw.go fW).bx (hj.sub λ r k=>nR rfl k),fW.bT.bx (hj.sub λ r k=>nR (p:=hR) rfl k),(hj .w (bo rfl)).2 _ (fW.off rfl wl.w),wl.zF,wl.be.bx (λ o e=>(hj .host (bo rfl)).2 _ (fW.off rfl e)) rfl rfl,Xs,abT⟩ (a' MP (fz cC _)) fW.jl.ext fW.le (fW.bx.trans (hj.sub λ r k=>k.2)) (λ d a1=>?_) wY
 exact EU cO (pW a1) λ k _ q=>⟨k,q,wS d (f'.mpr a1) k q⟩
end
end Mine
end
section
namespace Mine
variable{b c:av}{O:B (B C×D)}
noncomputable def bk.app:bk→bk→bk
 | .nil,r=>r
 | .cons s t,r=>.cons s (t.app r)
theorem j8{P:iV}{V:jf}{r:bk}{aF:aX}{J:St}:∀{s:bk} {env:aX} {n:St},bS P V s env n=some (.br aF,J)→bS P V (s.app r) env n=bS P V r aF J
 | .nil,env,n,e=>by cases e;rfl
 | .cons s t,env,n,e=>b1 e λ p au aB=>match p,au,aB with
  | (.br uo,aa),au,aB=>aR au (j8 (s:=t) aB)
  | (.f3 v,aa),_,aB=>nomatch aB
section
variable{a:bH}{h:aT}{n:St}{T:B aP}{z:C}{W:cw}{X:Prop}
theorem A4{f:C}{d:oJ}{b6:B D}{r:eZ}{J:St}(a1:ac.fns f=some d)(hl:b6.length=d.np)(e:bS ac (runN ac z) d.body (b6.map some++dw (d.nl-d.np) none) n=some (r,J)):runN ac (z+1) f b6 n=some (r.val,J):=aR a1 (bb hl (aR e (by cases r<;>rfl)))
noncomputable def Hb:bk:=.cons (.dc [2] false (.gP (.ii 4)) EP) .nil
noncomputable def X9:aN→av
 | .host| .fD=>true
 |_=>false
noncomputable def afZ(r:aN):Bool:=sV r||(hR r||X9 r)
theorem ab2(h:c=true):(b||c)=true:=by
 cases b
 ·exact h
 ·rfl
theorem NS(h:b=true):(b||c)=true:=an (· ||c) h
theorem nP.bx{aY:bH}{H:aT}{al:B (am×D)}(w:nP a h T W O al)(m:bY (λ r=>afZ r=true) a h aY H):nP aY H T W O al:=
 ⟨w.lw.bx (m.sub λ r k=>NS k),w.bT.bx (m.sub λ r k=>ab2 (NS k)),(m .w rfl).2 _ w.w,(m .host rfl).1.symm▸w.zF,w.be.bx (m .host rfl).2 (m .kt rfl).1 (m .fD rfl).1,(m .fD rfl).2 _ w.az,w.ok⟩
noncomputable def PZ:B aN:=[.w,.eb,.fy,.fD]++(.store::vM)
theorem DF{aC:B aP}(x:∃X,aC=T++X){k:C}{t:ap}(q:ba T k t):ba aC k t:=let⟨_,e⟩:=x;e▸q.more
theorem af6{aV bu:Y D}(M:Good a h n)(wl:nP a h T W O [])(a3:T.length<1000)
  (f:∀(J:St) (aC:B aP) (H:aT) (iC:B (am×D)) (aF:aX),bS ac (runN ac (z+31)) Hb (ev (a .w) aV bu none none none none none) n=some (.br aF,J)→Good a H J→nP a H aC W O iC→(∃X,aC=T++X)→aC.length≤T.length+400→bY (tS [.fD]) a h a H→(∀ae,ae≤3→oH aC W iC ae)→X):X:=by
 refine Av (z:=z) (ae:=0) (aV:=aV) (bq:=none) (bh:=none) (bj:=none) (bu:=bu) (cX:=none) (cm:=none) (fs 3) M wl (by omega) (aE rfl) λ aa bX aI Qr cX cm au dJ G8 dy er d4 hz iq g1=>?_
 have dy:Qr.length≤3:=dy
 refine Av (z:=z) (ae:=1) (aV:=aV) (bq:=none) (bh:=none) (bj:=none) (bu:=some (E 0)) (cX:=cX) (cm:=cm) (aE rfl) dJ G8 (by omega) (by omega) λ ao cL bJ Hs eM ach aB dA af0 eD eN d5 sY gC g2=>?_
 refine Av (z:=z) (ae:=2) (aV:=aV) (bq:=none) (bh:=none) (bj:=none) (bu:=some (E 1)) (cX:=eM) (cm:=ach) (aE rfl) dA af0 (by omega) (by omega) λ bW lA cQ Ht j7 xW bZ d0 af1 pl hq oD nc us gK=>?_
 refine Av (z:=z) (ae:=3) (aV:=aV) (bq:=none) (bh:=none) (bj:=none) (bu:=some (E 2)) (cX:=j7) (cm:=xW) (cJ 3) d0 af1 (by omega) (by omega) λ eO si hO BX oo td dL hY af2 uX kL P8 aaW sB mf=>?_
 have gM:=dk (z+31) Hb (ev (a .w) aV bu none none none none none) n _ rfl _ rfl (aE rfl) _ _ (fc (R:=some (.br (ev (a .w) aV (some (E 3)) oo td none none none),eO)) trivial au (fc trivial aB (fc trivial bZ (fc trivial dL (hf trivial)))))
 exact f eO si hO BX (ev (a .w) aV (some (E 3)) oo td none none none) gM hY af2 (md er (md eN (md hq kL))) (by omega) (((hz.trans sY).trans nc).trans aaW) λ ae cC=>na ae cC (λ d a1=>absurd a1 (yM d)) (gC.more (λ q=>DF kL (DF hq q)) λ k e=>mf k (gK k e)) (us.more (λ q=>DF kL q) λ k e=>mf k e) sB
theorem aaz{eI dN dH eh:C}(Dc:eI≤2)(gd:dN≤2)(iZ:dH≤2)(iI:eh≤2)(l:C):jP eI dN dH eh l≤2:=match l with
 |0=>Dc|1=>gd|2=>iZ|3=>iI|_+4=>fs 2
theorem ZM{xs:B C}{t:C}{aG:B (C×D)}(M:Good a h n)(al:c6 a h T)(a3:T.length<900)(cS:h .w=some (.ds (dE a t 5)))(aA:h .dR=some (.li (xs.map E)))(bD:t<10000)(hs:h .store=some (.bF 3 aG))(z5:aG.length<19)(D5:aG.lookup 35=some (.ref (a .kt)))(D3:aG.lookup 15=some (.ref (a .meths)))(be:qP a h)(az:h .fD=some (.cq []))
  (f:∀(W:cw) (J:St) (aC:B aP) (H:aT) (aY:bH) (iC:B (am×D)) (cB:C) (x:D),runN ac (z+32) 58 [.ref (a .w)] n=some (.nn,J)→Good aY H J→nP aY H aC W (dE aY cB 7) iC→cB≤t+10→kn aY H→(∀l,l<4→sh aY H l (W.many l))→H .types=some (.li (dw 66 .nn++[.ref (aY (.ty 0)),.ref (aY (.ty 1)),.ref (aY (.ty 2)),.ref (aY (.ty 3)),x]))→aC.length≤T.length+400→bY (tS PZ) a h aY H→(∀ae,ae≤3→oH aC W iC ae)→aY .w=a .w→aY .store=a .store→X):X:=by
 refine af3 (z:=z+30) (aV:=some (.ref (a .store))) M cS aA (fh bD (aE rfl)) λ eI dN dH eh aa aI cx bu Dc gd iZ iI au dJ kO Nh mv zf=>?_
 have iv:=aaz Dc gd iZ iI
 refine af4 (z:=z+29) (aV:=some (.ref (a .store))) (bu:=bu) iv dJ kO ((mv .dR (bo rfl)).2 _ aA) Nh (by omega) λ jb kM oy eN ao bJ ed s1 eD aB dA kP pJ xA wC ok=>?_
 have xz:bY (dB [.w,.eb,.fy]) a h ed bJ:=bY.trans (q:=dB [.w,.eb,.fy]) (mv.sub (gH (oW (.head _) la))) (xA.sub (gH (oW (.head _) (.tail _ la))))
 have Ni:=(xA .eb (bo rfl)).2 _ Nh
 have za:=(xz .store (bo rfl)).1
 refine af5 (z:=z+30) (k:=1) (bu:=s1) iv dA kP Ni ((xz .store (bo rfl)).2 _ hs) z5 ((xz .kt (bo rfl)).1.symm▸D5) ((xz .meths (bo rfl)).1.symm▸D3) λ bW cQ ek abJ x bZ d0 y3 afs afA g0 q1=>?_
 have u9:bY (dB ([.w,.eb,.fy]++(.store::vM))) a h ek cQ:=bY.trans (q:=dB ([.w,.eb,.fy]++(.store::vM))) (xz.sub (gH λ r m=>oM _ m)) (g0.sub (gH λ r m=>wb _ m))
 have sp:=(g0 .w (bo rfl)).1
 have afP:dE ek eN 7=dE ed eN 7:=by
  unfold dE
  rw[(g0 .dR (bo rfl)).1,(g0 .gz (bo rfl)).1,q1,(g0 .host (bo rfl)).1,(g0 .eb (bo rfl)).1,(g0 .fy (bo rfl)).1,(g0 .hG (bo rfl)).1]
 have ie:cQ .w=some (.ds (dE ek eN 7)):=afP.symm▸(g0 .w (bo rfl)).2 _ kP
 have afX:nP ek cQ T ⟨jP eI dN dH eh,GW jb kM oy⟩ (dE ek eN 7) []:=
  ⟨⟨⟨_,ie,rfl,rfl,rfl⟩,let⟨DR,eE,_,pG,_⟩:=y3.bF;⟨DR,eE,pG⟩,(g0 .eb (bo rfl)).2 _ Ni,(g0 .fy (bo rfl)).2 _ pJ,ok⟩,al.bx (u9.sub λ r k=>nR (p:=hR) rfl k),ie,rfl,be.bx (u9 .host (bo rfl)).2 (u9 .kt (bo rfl)).1 (u9 .fD (bo rfl)).1,(u9 .fD (bo rfl)).2 _ az,λ k v e=>nomatch e⟩
 refine af6 (z:=z) (aV:=some (.ref (a .store))) (bu:=abJ) d0 afX (fh a3 (aE rfl)) λ eO si hO BX KO dL hY afY bp P8 f0 sB=>?_
 have kI:jS ac (runN ac (z+31)) (.asg 1 (.aq (.v 0) (.ss [115,116,111,114,101]))) (ev (a .w) none none none none none none none) n=some (.br (ev (a .w) (some (.ref (a .store))) none none none none none none),n):=aR (aR rfl (aR rfl (aR (gw (M.at_ _ _ cS) rfl) rfl))) rfl
 rw[zf]at aB
 rw[wC,zf,za]at bZ
 rw[sp,wC,zf]at dL
 refine f ⟨jP eI dN dH eh,GW jb kM oy⟩ eO si hO ek BX eN x (A4 (z:=z+31) (f:=58) (b6:=[.ref (a .w)]) (r:=.br KO) rfl rfl (show bS ac (runN ac (z+31)) (.cons (.asg 1 (.aq (.v 0) (.ss [115,116,111,114,101]))) (G9.app (G'.app (Ha.app Hb)))) (ev (a .w) none none none none none none none) n=some (.br KO,eO)from aR kI ((j8 au).trans ((j8 aB).trans ((j8 bZ).trans dL))))) hY afY (by omega) ?_ (λ l hl=>(afs l hl).bx (f0.sub λ r k=>?_)) ((f0 .types (vc rfl rfl)).2 _ afA) P8 ?_ sB (sp.trans (wC.trans zf)) (q1.trans za)
 ·exact let⟨DR,eE,s⟩:=y3.bF;⟨DR,(f0 .store (vc rfl rfl)).2 _ eE,s⟩
 ·rcases k with rfl|rfl|rfl|rfl<;>exact vc rfl rfl
 ·exact bY.trans (q:=tS PZ) (u9.sub λ r k a4=>k.2 ((nE.mp a4).elim (λ m=>oM _ ((kg.mp m).elim (λ L=>L▸.head _) λ m=>oW (P:=(· ∈_)) la (.tail _ la) r m)) (wb _))) (f0.sub λ r k=>⟨k.1,λ a4=>k.2 (jy.mp a4▸oM _ (.tail _ (.tail _ la)))⟩)
end
end Mine
end
section
namespace Mine
variable{j:C}{r:b5}{p:b5→av}{F:C}{aY:bH}{H:aT}
noncomputable def af(R:B b5)(j:C):b5:=R.getD j ⟨0,0,0,false⟩
noncomputable def k8(R:B b5)(p:b5→av):B Nat:=(ck R.length).filter λ j=>p (af R j)
theorem ady{R:B b5}(h:j<R.length):af (R++[r]) j=af R j:=by
 unfold af;rw[jx,jx,qQ h]
theorem adx{R:B b5}:af (R++[r]) R.length=r:=sC (iY rfl)
theorem adw{R:B b5}(h:R[j]? =some r):af R j=r:=sC h
theorem LZ{R:B b5}:k8 (R++[r]) p=k8 R p++if p r then [R.length]else []:=by
 unfold k8
 rw[fg,Q1,Ce,r2]
 refine cD (· ++·) (HM λ j bt=>?_) ?_
 ·rw[ady (f'.mp bt)]
 ·rw[QV,adx];rfl
theorem E7{R:B b5}:j∈k8 R p↔j<R.length∧p (af R j)=true:=oN.trans (and_congr_left' f')
theorem Ev{R:B b5}:(k8 R p).length≤R.length:=a' (HW ..) (dg gA)
noncomputable def eC(r:b5):Nat:=(if r.eL then 2 else 6)+128*r.aM
noncomputable def jr(W:cw)(aU:C→ap)(r:b5):ap:=(aU r.nm).sub (W.dK r.ah r.ah)
noncomputable def Mt:B Nat:=[108,101,118,101,108]
noncomputable def Mv:B Nat:=[110,97,109,101]
noncomputable def My:B Nat:=[115,111,114,116]
noncomputable def Mu:B Nat:=[109,105,100]
noncomputable def Ms:B Nat:=[102,108,97,103,115]
noncomputable def Mz:B Nat:=[115,116,97,110,100,115]
noncomputable def Mx:B Nat:=[111,118,101,114]
noncomputable def ou(a:bH)(j:C)(r:b5)(F:C):B (B C×D):=[(Mt,E r.ah),(Mv,.ss [r.nm]),(My,E r.aM),(Mu,E (j+1)),(Ms,E F),(Mz,.ref (a (.st j))),(Mx,.cj r.eL)]
noncomputable def lk(p:ap×C):D:=.tup [bd p.1,E p.2]
section
variable{a:bH}{h:aT}{n:St}{T:B aP}{z:C}{W:cw}{aU:C→ap}{R:B b5}
structure pT(aG:B (C×D))(g dr j:C)(r:b5)(F:C):Prop where
 len:aG.length<30
 DG:aG.lookup 24=some (E (j+1))
 nX:aG.lookup 6=some (.ss [r.nm])
 uu:aG.lookup 26=some (.ii 6)
 f8:aG.lookup 8=some (E F)
 zJ:aG.lookup 27=some (.ii 0)
 DH:aG.lookup 29=some (.ref g)
 zK:aG.lookup 30=some (.ii 0)
 zI:aG.lookup 11=some (.tup [E dr])
 zL:aG.lookup 32=some (.tup [.ii 0])
 KW:aG.lookup 25=some (E (66+r.ah))
structure kh(a:bH)(h:aT)(T:B aP)(W:cw)(aU:C→ap)(j:C)(r:b5)(F:C):Prop where
 bF:∃aG g dr,h (.bl j)=some (.bF 2 aG)∧pT aG g dr j r F∧ba T dr (jr W aU r)∧h (.a6 g)=some (.li [])
theorem kh.b7(ak:kh a h T W aU j r F){X:Prop}(f:∀aG g dr,h (.bl j)=some (.bF 2 aG)→pT aG g dr j r F→ba T dr (jr W aU r)→h (.a6 g)=some (.li [])→X):X:=let⟨aG,g,dr,au,aB,bZ,dL⟩:=ak.bF;f aG g dr au aB bZ dL
theorem kh.bx{aC:B aP}(ak:kh a h T W aU j r F)(dN:∀o,h (.bl j)=some o→H (.bl j)=some o)(dH:∀g o,h (.a6 g)=some o→H (.a6 g)=some o)(k:∀{k:C} {t:ap},ba T k t→ba aC k t):kh aY H aC W aU j r F:=ak.b7 λ aG g dr au aB bZ dL=>⟨aG,g,dr,dN _ au,aB,k bZ,dH _ _ dL⟩
structure nL(a:bH)(h:aT)(j:C)(r:b5)(F:C)(S:B (ap×C)):Prop where
 row:h (.row j)=some (.ds (ou a j r F))
 st:h (.st j)=some (.li (S.map lk))
theorem nL.bx{S:B (ap×C)}(x:nL a h j r F S)(m:bY (λ r=>r= .row j∨r= .st j) a h aY H):nL aY H j r F S:=
 ⟨by unfold ou;rw[(m (.st j) (.inr rfl)).1];exact(m _ (.inl rfl)).2 _ x.row,(m _ (.inr rfl)).2 _ x.st⟩
structure iF(a:bH)(h:aT)(T:B aP)(W:cw)(al:B (am×D))(aU:C→ap)(R:B b5)(xs:B C)(t:C):Prop where
 wl:nP a h T W (dE a t 8) al
 dR:h .dR=some (.li (xs.map E))
 aM:kn a h
 ty:∀l,l<4→l5 a h l (W.many l)
 cM:∀l,l<4→h (.cM l)=some (.li [])
 types:∃x,h .types=some (.li (dw 66 .nn++[.ref (a (.ty 0)),.ref (a (.ty 1)),.ref (a (.ty 2)),.ref (a (.ty 3)),x]))
 given:h .hG=some (.ds [([109],bd (aU 109)),([110],bd (aU 110))])
 lG:∀c,(aU c).ar (W.many 0)∧(aU c).wf∧(aU c).size≤2
 meths:h .meths=some (.li (.nn::(ck R.length).map λ j=>.ref (a (.bl j))))
 dv:∀l,l<4→h (.dv l)=some (.li ((k8 R λ r=>r.ah==l).map λ j=>E (j+1)))
 rows:h .gz=some (.li ((ck R.length).map λ j=>.ref (a (.row j))))
 bl:∀j r,R[j]? =some r→kh a h T W aU j r (eC r)
 row:∀j r,R[j]? =some r→nL a h j r (eC r) []
 eW:∀r∈R,r.ah≤3∧(r.nm=109∨r.nm=110)∧r.aM≤1
 kq:∀ae,ae≤3→oH T W al ae
theorem GL{x:D}{l:C}(hl:l<4)(M:Good a h n)(e:h .types=some (.li (dw 66 .nn++[.ref (a (.ty 0)),.ref (a (.ty 1)),.ref (a (.ty 2)),.ref (a (.ty 3)),x]))):dd n (.ref (a .types)) (E (66+l))=some (.ref (a (.ty l))):=j6 (M.at_ _ _ e) (na l (lq hl) rfl rfl rfl rfl)
theorem fN.vQ{O:B (B C×D)}(ae:fN a h W)(w:∃O,H .w=some (.ds O)∧O.lookup qh=some (.ref (a .store))∧O.lookup Ao=some (.ref (a .eb))∧O.lookup Ap=some (.ref (a .fy)))(f:∀r o,r≠ .w→h r=some o→H r=some o):fN a H W:=
 ⟨w,let⟨aG,iq,gC⟩:=ae.store;⟨aG,f _ _ (a5 rfl) iq,gC⟩,f _ _ (a5 rfl) ae.many,f _ _ (a5 rfl) ae.up,ae.ok⟩
theorem xG{r bw:aN}(z:bw≠r):dB [r] bw:=λ m=>z (jy.mp m)
theorem iF.take{al:B (am×D)}{xs:B C}{t cB:C}(p:iF a h T W al aU R xs t)(cS:H .w=some (.ds (dE a cB 8)))(bx:bY (dB [.w]) a h a H):iF a H T W al aU R xs cB:=
 have f:∀r o,r≠ .w→h r=some o→H r=some o:=λ r o z e=>(bx r (xG z)).2 o e
 {wl:=⟨p.wl.lw.vQ (O:=[]) ⟨_,cS,rfl,rfl,rfl⟩ f,p.wl.bT.bx (bx.sub λ r k=>nR (p:=hR) rfl k),cS,rfl,p.wl.be.bx (λ o e=>f _ _ (a5 rfl) e) rfl rfl,f _ _ (a5 rfl) p.wl.az,p.wl.ok⟩
  dR:=f _ _ (a5 rfl) p.dR
  aM:=let⟨aG,eE,s⟩:=p.aM.bF;⟨aG,f _ _ (a5 rfl) eE,s⟩
  ty:=λ l hl=>(p.ty l hl).bx (bx.sub λ r k=>by rcases k with rfl|rfl|rfl|rfl<;>exact bo rfl)
  cM:=λ l hl=>f _ _ (a5 rfl) (p.cM l hl)
  types:=let⟨x,e⟩:=p.types;⟨x,f _ _ (a5 rfl) e⟩
  given:=f _ _ (a5 rfl) p.given
  lG:=p.lG
  meths:=f _ _ (a5 rfl) p.meths
  dv:=λ l hl=>f _ _ (a5 rfl) (p.dv l hl)
  rows:=f _ _ (a5 rfl) p.rows
  bl:=λ j r e=>(p.bl j r e).bx (λ o=>f _ _ (a5 rfl)) (λ g o=>f _ _ (a5 rfl)) λ q=>q
  row:=λ j r e=>(p.row j r e).bx (bx.sub λ r k=>by rcases k with rfl|rfl<;>exact bo rfl)
  eW:=p.eW
  kq:=p.kq}
end
end Mine
end
section
namespace Mine
variable{m:C}{ak:C→Prop}{F:C}{fl rO:B D}{nm j l dr:C}
section
variable{a:bH}{h:aT}{n:St}{T:B aP}{z:C}{W:cw}{aU:C→ap}{R:B b5}{X:Prop}
theorem Good.SM{b:C}{o:a0}(M:Good a h n)(lt:∀r,(h r).isSome=true→a r<b)(hm:b≤m)(e:n[m]? =some o):Good a (Mine.up h (.a6 m) (some o)) n where
 at_:=λ bw x bC=>PN bC (λ L w=>by rw[L,M.a6];exact e.trans w) λ _ w=>M.at_ bw x w
 inj:=λ fT gO ax aH q=>by
  have ae:∀bw,bw≠ .a6 m→(Mine.up h (.a6 m) (some o) bw).isSome=true→a bw<m:=λ bw L H=>by
   rw[bP _ _ L]at H;exact e' (lt _ H) hm
  by_cases d4:fT= .a6 m<;>by_cases d5:gO= .a6 m
  ·rw[d4,d5]
  ·have:=ae gO d5 aH
   rw[←q,d4,M.a6]at this
   exact absurd this (oP m)
  ·have:=ae fT d4 ax
   rw[q,d5,M.a6]at this
   exact absurd this (oP m)
  ·rw[bP _ _ d4]at ax
   rw[bP _ _ d5]at aH
   exact M.inj _ _ ax aH q
 a6:=M.a6
noncomputable def rB(F:C):Prop:=F=2∨F=6∨F=130∨F=134
theorem rB.b7(h:rB F)(rE:ak 2)(gj:ak 6)(fS:ak 130)(eM:ak 134):ak F:=by rcases h with rfl|rfl|rfl|rfl<;>assumption
theorem rn{k:C}(h:k≤1)(rE:ak 0)(gj:ak 1):ak k:=match k,h with
 |0,_=>rE
 |1,_=>gj
theorem Ww{r:b5}(h:r.aM≤1):rB (eC r):=by
 unfold eC
 cases r.eL
 ·exact rn (ak:=λ k=>rB ((if false=true then 2 else 6)+128*k)) h (.inr (.inl rfl)) (.inr (.inr (.inr rfl)))
 ·exact rn (ak:=λ k=>rB ((if true=true then 2 else 6)+128*k)) h (.inl rfl) (.inr (.inr (.inl rfl)))
theorem Zl(m6:rB F):runN ac (z+1) 32 [E F] n=some (E F,n):=by
 have gd:fF .band (E F) (.ii 96)=some (.ii 0):=m6.b7 (ak:=λ F=>fF .band (E F) (.ii 96)=some (.ii 0)) rfl rfl rfl rfl
 exact(cN z 32 [E F] n rfl rfl _ rfl _ gd _ rfl)
theorem Eu{i:C}{xs:B D}{v:D}(e:n[m]? =some (.li xs))(ay:xs[i]? =some v):dd n (.ref m) (E i)=some v:=j6 e ay
theorem kn.at_(aM:kn a h)(M:Good a h n):d7 n (.ref (a .store)) 15=some (.ref (a .meths))∧d7 n (.ref (a .store)) 36=some (.ref (a .types))∧d7 n (.ref (a .store)) 35=some (.ref (a .kt)):=
 let⟨_,eE,_,pG,te,vz⟩:=aM.bF
 ⟨(fj (M.at_ _ _ eE)).trans vz,(fj (M.at_ _ _ eE)).trans te,(fj (M.at_ _ _ eE)).trans pG⟩
theorem kn.bx{aY:bH}{H:aT}(aM:kn a h)(m:∀o,h .store=some o→H .store=some o)(au:aY .kt=a .kt)(aB:aY .types=a .types)(bZ:aY .meths=a .meths):kn aY H:=
 let⟨aG,eE,jT,pG,te,vz⟩:=aM.bF
 ⟨aG,m _ eE,jT,au.symm▸pG,aB.symm▸te,bZ.symm▸vz⟩
theorem abC{e1 lb N c:C}{k:D}{qF:D}(M:Good a h n)(aM:kn a h)(bD:h .types=some (.li rO))(Ab:rO[e1]? =some qF)(hm:h .meths=some (.li fl))(iv:fl[lb]? =some (.ref (a (.bl c))))(cy:nm=109∨nm=110)(m6:rB F)(be:h (.bl c)=some (.bF 2 (u7 N (E lb) (E e1) (.ss [nm]) (.ii 6) (E F) (.ii 0) k))):
  runN ac (z+1) 34 [.ref (a .store),E lb] n=some (.nn,n):=by
 have s:=aM.at_ M
 have YC:d7 n (.ref (a (.bl c))) 25=some (E e1):=fj (M.at_ _ _ be)
 have xc:d7 n (.ref (a (.bl c))) 8=some (E F):=fj (M.at_ _ _ be)
 have YD:d7 n (.ref (a (.bl c))) 6=some (.ss [nm]):=fj (M.at_ _ _ be)
 have gd:fF .band (E F) (.ii 64)=some (.ii 0):=m6.b7 (ak:=λ F=>fF .band (E F) (.ii 64)=some (.ii 0)) rfl rfl rfl rfl
 have cD:cY .eq (.ss [nm]) (.ss [70,105,110,97,108,105,122,101]) n=some false:=by rcases cy with rfl|rfl<;>rfl
 exact(cN z 34 [D.ref (a aN.store),E lb] n rfl rfl _ s.1 _ (Eu (M.at_ _ _ hm) iv) _ s.2.1 _ YC _ (Eu (M.at_ _ _ bD) Ab) _ xc _ gd _ rfl _ YD _ cD)
theorem aaF(M:Good a h n)(f:∀aa cx aI,n++[a0.bF 2 (u7 n.length (E (j+1)) (E (66+l)) (.ss [nm]) (.ii 6) (E F) (.ii 0) (E dr)),.li [],.li [],.li [.ss [112,48]]]=aa→Good cx aI aa→cx (.bl j)=n.length→aI (.bl j)=some (.bF 2 (u7 n.length (E (j+1)) (E (66+l)) (.ss [nm]) (.ii 6) (E F) (.ii 0) (E dr)))→aI (.a6 (n.length+2))=some (.li [])→bY (dB [.bl j]) a h cx aI→X):X:=by
 have mN:Good a h (n++[a0.bF 2 (u7 n.length (E (j+1)) (E (66+l)) (.ss [nm]) (.ii 6) (E F) (.ii 0) (E dr)),.li [],.li [],.li [.ss [112,48]]]):=M.ml
 obtain⟨iT,dy⟩:=mN.adopt (r:=.bl j) (m:=n.length+0) (b:=n.length) M.EY (cJ _) (l9.trans rfl) (λ _=>a5 rfl)
 have jg:=iT.SM (m:=n.length+2) dy (h4 _) (l9.trans rfl)
 exact f _ _ _ rfl jg (cR _ _ _) ((bP _ _ (a5 rfl)).trans (cR _ _ _)) (cR _ _ _) (bY.trans (q:=dB [.bl j]) (bY.mw (.head _)) λ r k=>⟨rfl,λ o e=>mI e (GD ((bP _ _ (a5 rfl)).trans (M.fresh (d2 ..))) e)⟩)
theorem aaJ{α:Type}{x y L:α}:∀r,r∈ [x]→r∈ [x,y,L]:=λ _ h=>jy.mp h▸.head _
theorem SK{tn:B D}(hl:l<4)(M:Good a h n)(aM:kn a h)(ty:l5 a h l (W.many l))(bD:h .types=some (.li rO))(Ab:rO[66+l]? =some (.ref (a (.ty l))))(rc:h (.dv l)=some (.li tn))(hm:h .meths=some (.li fl))(bt:fl.length=j+1)(agY:j<100)(Yq:tn.length<100)(cy:nm=109∨nm=110)(m6:rB F)
  (f:∀(J:St) (aY:bH) (H:aT) (N:C),runN ac (z+3) 33 [.ref (a .store),E (66+l),.ss [nm],.ii 6,E F,.ii 0,.tup [E dr]] n=some (E (j+1),J)→Good aY H J→H .meths=some (.li (fl++[.ref (aY (.bl j))]))→H (.dv l)=some (.li (tn++[E (j+1)]))→H (.bl j)=some (.bF 2 (u7 N (E (j+1)) (E (66+l)) (.ss [nm]) (.ii 6) (E F) (.ii 0) (E dr)))→H (.a6 (N+2))=some (.li [])→bY (dB [.bl j,.meths,.dv l]) a h aY H→aY .meths=a .meths→aY (.dv l)=a (.dv l)→X):X:=by
 obtain⟨vG,er,_,_,kL,_⟩:=ty.bF
 have e:=aaG (z:=z) (n:=n) (lb:=E (j+1)) (vk:=E (66+l)) (name:=.ss [nm]) (ua:=.ii 6) (ut:=E F) (ret:=.ii 0) (k:=E dr)
 refine aaF (j:=j) (l:=l) (nm:=nm) (F:=F) (dr:=dr) M λ aa cx aI n8 jg wv dN g1 bx=>?_
 rw[n8]at e
 have sn:cx .meths=a .meths:=(bx .meths (bo rfl)).1
 have t':cx (.dv l)=a (.dv l):=(bx (.dv l) (bo rfl)).1
 refine jg.l8 (v:=.ref n.length) ((bx .meths (bo rfl)).2 _ hm) (by omega) λ ao Ju dA=>?_
 have Ln:(up aI .meths (some (.li (fl++[.ref n.length])))) (.dv l)=some (.li tn):=(bP _ _ (a5 rfl)).trans ((bx (.dv l) (bo rfl)).2 _ rc)
 refine dA.l8 (v:=E (j+1)) Ln (fh Yq (aE rfl)) λ bW wA d0=>?_
 have Lo:(up (up aI .meths (some (.li (fl++[.ref n.length])))) (.dv l) (some (.li (tn++[E (j+1)])))) .meths=some (.li (fl++[.ref (cx (.bl j))])):=wv▸(bP _ _ (a5 rfl)).trans (cR _ _ _)
 have g0:bY (dB [.bl j,.meths,.dv l]) a h cx (up (up aI .meths (some (.li (fl++[.ref n.length])))) (.dv l) (some (.li (tn++[E (j+1)])))):=bY.trans (q:=dB [.bl j,.meths,.dv l]) (bY.trans (q:=dB [.bl j,.meths,.dv l]) (bx.sub (gH aaJ)) (bY.kJ la)) (bY.kJ (.tail _ la))
 have Lp:=(bP (up aI .meths (some (.li (fl++[.ref n.length])))) (r:=.dv l) (some (.li (tn++[E (j+1)]))) (a5 rfl)).trans ((bP (r:=.meths) _ _ (a5 rfl)).trans dN)
 have s:=aM.at_ M
 have g4:=abC (z:=z+1) (e1:=66+l) (lb:=j+1) (c:=j) d0 (aM.bx (g0 .store (bo rfl)).2 (bx .kt (bo rfl)).1 (bx .types (bo rfl)).1 sn) ((g0 .types (bo rfl)).2 _ bD) Ab Lo (iY bt) cy m6 Lp
 rw[(bx .store (bo rfl)).1]at g4
 have len:=ro (M.at_ _ _ hm)
 rw[bt]at len
 have aQ:=dA.at_ (.ty l) _ ((bP _ _ (a5 rfl)).trans ((bx (.ty l) (bo rfl)).2 _ er))
 have aW:=dA.at_ _ _ Ln
 rw[(bx (.ty l) (bo rfl)).1]at aQ
 rw[t']at wA aW
 rw[sn]at Ju
 exact f bW cx _ n.length (cN (z+2) 33 [D.ref (a aN.store),E (66+l),D.ss [nm],D.ii 6,E F,D.ii 0,D.tup [E dr]] n rfl rfl _ s.2.1 _ (Eu (M.at_ _ _ bD) Ab) _ s.1 _ len _ s.1 (hP (M.at_ _ _ hm)) _ rfl _ _ (Zl (z:=z+1) (n:=n) m6) _ e _ Ju _ ((fj aQ).trans kL) (hP aW) _ wA _ _ g4) d0 Lo (cR _ _ _) Lp ((bP _ _ (a5 rfl)).trans ((bP _ _ (a5 rfl)).trans g1)) g0 sn t'
end
end Mine
end
section
namespace Mine
variable{al:B (am×D)}{xs:B C}{t:C}{H:aT}{α:Type}{x:α}{l i j:C}
section
variable{a:bH}{h:aT}{n:St}{T:B aP}{z:C}{W:cw}{aU:C→ap}{R:B b5}
theorem iF.go{b:C}{aC:B aP}{J:St}(p:iF a h T W al aU R xs t)(x:b0 a h T b J aC H):iF a H aC W al aU R xs t:=
 have f:∀r o,gY r=false→h r=some o→H r=some o:=λ r o z e=>x.off z e
 have bx:∀{q:aN→Prop},(∀r,q r→gY r=false)→bY q a h a H:=λ k=>bY.go x k
 {wl:=⟨p.wl.lw.go x,x.bT,f _ _ rfl p.wl.w,p.wl.zF,p.wl.be.bx (λ o e=>f _ _ rfl e) rfl rfl,f _ _ rfl p.wl.az,p.wl.ok.more λ q=>x.eS q⟩
  dR:=f _ _ rfl p.dR
  aM:=p.aM.bx (λ o e=>f _ _ rfl e) rfl rfl rfl
  ty:=λ l hl=>(p.ty l hl).bx (bx λ r k=>by rcases k with rfl|rfl|rfl|rfl<;>rfl)
  cM:=λ l hl=>f _ _ rfl (p.cM l hl)
  types:=let⟨x,e⟩:=p.types;⟨x,f _ _ rfl e⟩
  given:=f _ _ rfl p.given
  lG:=p.lG
  meths:=f _ _ rfl p.meths
  dv:=λ l hl=>f _ _ rfl (p.dv l hl)
  rows:=f _ _ rfl p.rows
  bl:=λ j r e=>(p.bl j r e).bx (λ o=>f _ _ rfl) (λ g o=>f _ _ rfl) λ q=>x.eS q
  row:=λ j r e=>(p.row j r e).bx (bx λ r k=>by rcases k with rfl|rfl<;>rfl)
  eW:=p.eW
  kq:=λ ae cC=>(p.kq ae cC).more (λ q=>x.eS q) λ k e=>e}
noncomputable def qr(j l:C):B aN:=[.bl j,.row j,.st j,.meths,.gz,.dv l]
theorem mr{y:α}{l:B α}{X:Prop}(m:x∈y::l)(f:x=y→X)(g:x∈l→X):X:=(kg.mp m).elim f g
theorem NF(h:i≠j):dB (qr j l) (.bl i):=λ m=>mr m (λ e=>h (aN.bl.inj e)) (bo (l:=[.row j,.st j,.meths,.gz,.dv l]) rfl)
theorem NG(h:i≠j):dB (qr j l) (.row i):=λ m=>mr m (a5 rfl) λ m=>mr m (λ e=>h (aN.row.inj e)) (bo (l:=[.st j,.meths,.gz,.dv l]) rfl)
theorem abH(h:i≠j):dB (qr j l) (.st i):=λ m=>mr m (a5 rfl) λ m=>mr m (a5 rfl) λ m=>mr m (λ e=>h (aN.st.inj e)) (bo (l:=[.meths,.gz,.dv l]) rfl)
theorem NH(h:i≠l):dB (qr j l) (.dv i):=λ m=>mr m (a5 rfl) λ m=>mr m (a5 rfl) λ m=>mr m (a5 rfl) λ m=>mr m (a5 rfl) λ m=>mr m (a5 rfl) λ m=>h (aN.dv.inj (jy.mp m))
theorem FZ{f g:C→α}{z:C}(h:∀j,j<z→g j=f j)(e:g z=x):(ck (z+1)).map g=(ck z).map f++[x]:=by
 rw[Ce,nD]
 exact cD (· ++·) (pR λ j bt=>h j (f'.mp bt)) (an (λ x=>[x]) e)
theorem iF.add{aY:bH}{r:b5}(p:iF a h T W al aU R xs t)(a4:r.ah≤3∧(r.nm=109∨r.nm=110)∧r.aM≤1)(bx:bY (dB (qr R.length r.ah)) a h aY H)(sn:aY .gz=a .gz∧aY .meths=a .meths∧aY (.dv r.ah)=a (.dv r.ah))
  (au:H .meths=some (.li ((.nn::(ck R.length).map λ j=>.ref (a (.bl j)))++[.ref (aY (.bl R.length))])))(aB:H (.dv r.ah)=some (.li (((k8 R λ x=>x.ah==r.ah).map λ j=>E (j+1))++[E (R.length+1)])))(bZ:H .gz=some (.li (((ck R.length).map λ j=>.ref (a (.row j)))++[.ref (aY (.row R.length))])))
  (m:kh aY H T W aU R.length r (eC r))(w:nL aY H R.length r (eC r) []):iF aY H T W al aU (R++[r]) xs t:=by
 have f:∀{x o},dB (qr R.length r.ah) x→h x=some o→H x=some o:=λ{x o} k e=>(bx x k).2 o e
 have aK:∀{x},dB (qr R.length r.ah) x→aY x=a x:=λ{x} k=>(bx x k).1
 have Fb:dE aY t 8=dE a t 8:=by
  unfold dE
  rw[aK (x:=.dR) (bo rfl),sn.1,aK (x:=.store) (bo rfl),aK (x:=.host) (bo rfl),aK (x:=.eb) (bo rfl),aK (x:=.fy) (bo rfl),aK (x:=.hG) (bo rfl)]
 have len:(R++[r]).length=R.length+1:=fg ..
 have lt:∀{j:C},j<R.length→j≠R.length:=λ h=>mR h
 refine
 {wl:=Fb.symm▸p.wl.bx (bx.sub λ x k=>nR rfl k)
  dR:=f (bo rfl) p.dR
  aM:=p.aM.bx (λ o e=>f (bo rfl) e) (aK (bo rfl)) (aK (bo rfl)) sn.2.1
  ty:=λ l hl=>?_
  cM:=λ l hl=>f (bo rfl) (p.cM l hl)
  types:=?_
  given:=f (bo rfl) p.given
  lG:=p.lG
  meths:=au.trans (by rw[len,List.cons_append,FZ (f:=λ j=>D.ref (a (.bl j))) (λ j bt=>an D.ref (aK (NF (lt bt)))) rfl])
  dv:=λ l hl=>?_
  rows:=bZ.trans (by rw[len,FZ (f:=λ j=>D.ref (a (.row j))) (λ j bt=>an D.ref (aK (NG (lt bt)))) rfl])
  bl:=λ j x e=>Bh e (λ e=>(p.bl j x e).bx (λ o=>f (NF (lt (mq e)))) (λ g o=>f (bo rfl)) λ q=>q) λ L q=>by subst L;subst q;exact m
  row:=λ j x e=>Bh e (λ e=>(p.row j x e).bx (bx.sub λ q k=>k.elim (λ L=>L▸NG (lt (mq e))) λ L=>L▸abH (lt (mq e)))) λ L q=>by subst L;subst q;exact w
  eW:=λ x aA=>(nE.mp aA).elim (p.eW x) λ aA=>jy.mp aA▸a4
  kq:=p.kq}
 ·obtain⟨vG,er,eN,hq,kL,lR⟩:=(p.ty l hl).bF
  obtain⟨cp,gj,fS⟩:=(p.ty l hl).par
  have t':aY (.dv l)=a (.dv l):=(f7 (l=r.ah)).elim (λ L=>by rw[L];exact sn.2.2) λ L=>aK (NH L)
  exact⟨⟨vG,f (bo rfl) er,eN,(aK (x:=.tyP l) (bo rfl)).symm▸hq,t'.symm▸kL,(aK (x:=.cM l) (bo rfl)).symm▸lR⟩,⟨cp,f (bo rfl) gj,fS⟩⟩
 ·obtain⟨x,e⟩:=p.types
  refine⟨x,?_⟩
  rw[aK (x:=.ty 0) (bo rfl),aK (x:=.ty 1) (bo rfl),aK (x:=.ty 2) (bo rfl),aK (x:=.ty 3) (bo rfl)]
  exact f (bo rfl) e
 ·by_cases L:l=r.ah
  ·subst L
   rw[aB,LZ,if_pos (lD _),nD];rfl
  ·rw[f (NH L) (p.dv l hl),LZ,if_neg (λ q=>L (eq_of_beq q).symm),eX]
end
end Mine
end
section
namespace Mine
variable{r:b5}
section
variable{a:bH}{h:aT}{n:St}{T:B aP}{z:C}{W:cw}{aU:C→ap}{R:B b5}{X:Prop}
theorem FV(K:W.ok)(hl:r.ah≤3)(g:(aU r.nm).ar (W.many 0)∧(aU r.nm).wf∧(aU r.nm).size≤2):(jr W aU r).wf∧(jr W aU r).size≤5∧(jr W aU r).ar (W.many r.ah):=
 have a:=K.arg hl (d:=r.ah) (cJ _)
 ⟨PW (λ t bD=>(a.2 t bD).2.1) g.2.1,a' (OY (iE ..) (λ t bD=>(a.2 t bD).2.2) g.2.2) (ha hl 2),PT (λ t bD=>(a.2 t bD).1) (by rw[a.1,r7];exact g.1)⟩
theorem WX{l:B D}{x:D}:n2 (l++[x]) (-1)=some x:=by
 unfold n2
 rw[if_neg (by decide),if_pos (by rw[fg];show(0:am)≤ -1+((l.length+1:C):am);omega),fg]
 have:(-1+((l.length+1:C):am)).toNat=l.length:=by omega
 exact(an (λ z=>(l++[x])[z]?) this).trans (iY rfl)
noncomputable def oe(w:C)(aV aQ aW bp:D)(bq bh bj bK bB:Y D):aX:=[some (.ref w),some aV,some aQ,some aW,some bp,bq,bh,bj,bK,bB]
noncomputable def DJ:ab:=.bin .add (.ite (.e (.v 4)) (.ii 2) (.ii 6)) (.bin .mul (.ii 128) (.v 3))
theorem Wu{V:jf}{w s:C}{b:av}{aV aQ:D}{bq bh bj bK bB:Y D}(hs:s≤1):jS ac V (.asg 7 DJ) (oe w aV aQ (E s) (.cj b) bq bh bj bK bB) n=some (.br (oe w aV aQ (E s) (.cj b) bq bh (some (E ((if b then 2 else 6)+128*s))) bK bB),n):=
 rn (ak:=λ s=>jS ac V (.asg 7 DJ) (oe w aV aQ (E s) (.cj b) bq bh bj bK bB) n=some (.br (oe w aV aQ (E s) (.cj b) bq bh (some (E ((if b then 2 else 6)+128*s))) bK bB),n)) hs (by cases b<;>rfl) (by cases b<;>rfl)
noncomputable def F8(m j:C)(r:b5)(F:C):B (B C×D):=[(Mt,E r.ah),(Mv,.ss [r.nm]),(My,E r.aM),(Mu,E (j+1)),(Ms,E F),(Mz,.ref m),(Mx,.cj r.eL)]
theorem adz{j F:C}(M:Good a h n)(f:∀k3 i3,Good k3 i3 (n++[a0.li []]++[.ds (F8 n.length j r F)])→k3 (.row j)=(n++[a0.li []]).length→nL k3 i3 j r F []→bY (dB [.st j,.row j]) a h k3 i3→X):X:=by
 have hZ:=(M.new (.st j) (λ _=>a5 rfl) (.li [])).new (.row j) (λ _=>a5 rfl) (.ds (F8 n.length j r F))
 have S0:up (up a (.st j) n.length) (.row j) (n++[a0.li []]).length (.st j)=n.length:=(bP _ _ (a5 rfl)).trans (cR ..)
 exact f _ _ hZ (cR ..) ⟨(cR ..).trans (an (λ m=>some (a0.ds (F8 m j r F))) S0.symm),(bP _ _ (a5 rfl)).trans (cR ..)⟩ (bY.trans (q:=dB [.st j,.row j]) (bY.mw (.head _)) (bY.mw la))
noncomputable def EX:bk:=.cons (.asg 8 (.call 33 (.cons (.aq (.v 0) (.ss [115,116,111,114,101])) (.cons (.bin .add (.ii 66) (.v 1)) (.cons (.v 2) (.cons (.ii 6) (.cons (.v 7) (.cons (.gl [86,79,73,68] (.ii 0)) (.cons (.tup (.cons (.call 54 (.cons (.v 0) (.cons (.v 6) .nil))) .nil)) .nil))))))))) (.cons (.asg 9 (.m2 [[108,101,118,101,108],[110,97,109,101],[115,111,114,116],[109,105,100],[102,108,97,103,115],[115,116,97,110,100,115],[111,118,101,114]] (.cons (.v 1) (.cons (.v 2) (.cons (.v 3) (.cons (.v 8) (.cons (.v 7) (.cons (.lst .nil) (.cons (.v 4) .nil))))))))) (.cons (.ex (.append (.aq (.v 0) (.ss [114,111,119,115])) (.v 9))) .nil))
noncomputable def M3:bk:=.cons (.asg 5 (.call 57 (.cons (.v 0) (.cons (.v 1) .nil)))) (.cons (.asg 6 (.call 53 (.cons (.aq (.aq (.v 0) (.ss [103,105,118,101,110])) (.v 2)) (.cons (.aq (.aq (.v 5) (.neg (.ii 1))) (.ii 1)) .nil)))) .nil)
theorem MQ{al:B (am×D)}{xs:B C}{t:C}(p:iF a h T W al aU R xs t)(M:Good a h n)(a4:r.ah≤3∧(r.nm=109∨r.nm=110)∧r.aM≤1)(fP:R.length<50)(a3:T.length<400000)
  (f:∀(J:St) (aY:bH) (H:aT) (aC:B aP),runN ac (z+32) 59 [.ref (a .w),E r.ah,.ss [r.nm],E r.aM,.cj r.eL] n=some (.nn,J)→Good aY H J→iF aY H aC W al aU (R++[r]) xs t→aC.length≤T.length+24→aY .w=a .w→aY .store=a .store→X):X:=by
 have K:=p.wl.lw.ok
 refine EN (z:=z+5) p.wl.lw p.wl.bT M a4.1 λ m aa aI au cW hN cl=>?_
 have gj:=p.go cW
 have he:(W.dK r.ah r.ah).length=W.many 0:=(K.arg a4.1 (cJ _)).1.trans (by rw[r7])
 have g:=p.lG r.nm
 obtain⟨b9,aB⟩:=EO (z:=z+6) (n:=aa) (K.lC a4.1 (cJ r.ah)) (t:=aU r.nm) (a' g.2.2 (aE rfl)) (he▸g.1)
 have b8:=cW.ml b9
 have fS:=p.go b8
 have q:=FV K a4.1 g
 refine xp (z:=z) fS.wl.lw b8.bT b8.good q.1 (a' q.2.1 (aE rfl)) (by have:=b8.le;omega) λ dr bW lA cQ bZ gk W3=>?_
 have jK:=b8.trans W3
 have eM:=p.go jK
 obtain⟨x,ty⟩:=eM.types
 have uJ:=pV a4.1
 have u4:((.nn::(ck R.length).map λ j=>D.ref (a (.bl j))):B D).length=R.length+1:=an l1 ((cG ..).trans gA)
 refine SK (z:=z+28) (l:=r.ah) (j:=R.length) (F:=eC r) (dr:=dr) uJ jK.good eM.aM (eM.ty _ uJ) ty (na (P:=λ l=>(dw 66 D.nn++[.ref (a (.ty 0)),.ref (a (.ty 1)),.ref (a (.ty 2)),.ref (a (.ty 3)),x])[66+l]? =some (.ref (a (.ty l)))) _ a4.1 rfl rfl rfl rfl) (eM.dv _ uJ) eM.meths u4 (fh fP (aE rfl)) (cG (as:=k8 R _) _▸cn Ev (fh fP (aE rfl))) a4.2.1 (Ww a4.2.2) λ eO kp hO N dL hY of Rd cm mf f0 SR SD=>?_
 refine adz (j:=R.length) (F:=eC r) (r:=r) hY λ k3 i3 hZ oY Ot hj=>?_
 have hS:bY (dB [.bl R.length,.meths,.dv r.ah,.st R.length,.row R.length]) a cQ k3 i3:=bY.trans (q:=dB [.bl R.length,.meths,.dv r.ah,.st R.length,.row R.length]) (f0.sub (gH λ _ m=>oM [aN.st R.length,aN.row R.length] m)) (hj.sub (gH λ _ m=>wb [aN.bl R.length,aN.meths,aN.dv r.ah] m))
 have On:=(hS .gz (bo rfl)).2 _ eM.rows
 refine hZ.l8 (v:=.ref (k3 (.row R.length))) On (cG (as:=ck R.length) _▸gA▸fh fP (aE rfl)) λ qJ ez pP=>?_
 have Jk:k3 .gz=a .gz:=(hS .gz (bo rfl)).1
 have gc:k3 .w=a .w:=(hS .w (bo rfl)).1
 have xC:bY (dB (qr R.length r.ah)) a cQ k3 (up i3 .gz (some (.li (((ck R.length).map λ j=>.ref (a (.row j)))++[.ref (k3 (.row R.length))])))):=bY.trans (q:=dB (qr R.length r.ah)) (hS.sub (gH (yz.mpr ⟨.head _,yz.mpr ⟨.tail _ (.tail _ (.tail _ (.head _))),yz.mpr ⟨.tail _ (.tail _ (.tail _ (.tail _ la))),oW (.tail _ la) la⟩⟩⟩))) (bY.kJ (.tail _ (.tail _ (.tail _ la))))
 have By:∀{x o c3},dB [.st R.length,.row R.length] x→x≠ .gz→hO x=some o→up i3 .gz c3 x=some o:=λ k L e=>(bP _ _ L).trans ((hj _ k).2 _ e)
 have hU:=eM.add (r:=r) a4 xC ⟨Jk,(hj _ (bo rfl)).1.trans SR,(hj _ (bo rfl)).1.trans SD⟩ ((hj (.bl R.length) (bo rfl)).1.symm▸By (bo rfl) (a5 rfl) of) (By (bo rfl) (a5 rfl) Rd) (cR ..)
  ⟨⟨_,_,dr,By (bo rfl) (a5 rfl) cm,⟨aE rfl,rfl,rfl,rfl,rfl,rfl,rfl,rfl,rfl,rfl,rfl⟩,gk,By (bo rfl) (a5 rfl) mf⟩⟩ ⟨(bP _ _ (a5 rfl)).trans Ot.row,(bP _ _ (a5 rfl)).trans Ot.st⟩
 refine f qJ k3 _ lA ?_ pP hU jK.le gc (hS .store (bo rfl)).1
 have uQ:dd aa (.ref (a .hG)) (.ss [r.nm])=some (bd (aU r.nm)):=gw (cW.good.at_ _ _ gj.given) (by rcases a4.2.1 with q|q<;>rw[q]<;>rfl)
 have YB:dd aa (.ref m) (.ii (-1))=some (.tup [E 0,.tup ((W.dK r.ah r.ah).map bd)]):=by rw[Af (de cW.good hN),MY,r7,WX]
 have aB:runN ac (z+31) 53 [bd (aU r.nm),.tup ((W.dK r.ah r.ah).map bd)] aa=some (bd (jr W aU r),aa++b9):=aB
 have bq:=hZ.at_ _ _ ((hS .w (bo rfl)).2 _ eM.wl.w)
 have bh:=hZ.at_ _ _ On
 rw[gc]at bq
 rw[Jk]at bh ez
 rw[oY]at ez
 have eE:bS ac (runN ac (z+31)) M3 (oe (a .w) (E r.ah) (.ss [r.nm]) (E r.aM) (.cj r.eL) none none none none none) n=some (.br (oe (a .w) (E r.ah) (.ss [r.nm]) (E r.aM) (.cj r.eL) (some (.ref m)) (some (bd (jr W aU r))) none none none),aa++b9):=(dk (z+31) M3 (oe (a aN.w) (E r.ah) (D.ss [r.nm]) (E r.aM) (D.cj r.eL) none none none none none) n _ _ au _ (gw (cW.good.at_ _ _ gj.wl.w) rfl) _ uQ _ rfl _ YB _ rfl _ _ aB)
 have jT:bS ac (runN ac (z+31)) EX (oe (a .w) (E r.ah) (.ss [r.nm]) (E r.aM) (.cj r.eL) (some (.ref m)) (some (bd (jr W aU r))) (some (E (eC r))) none none) (aa++b9)=some (.br (oe (a .w) (E r.ah) (.ss [r.nm]) (E r.aM) (.cj r.eL) (some (.ref m)) (some (bd (jr W aU r))) (some (E (eC r))) (some (E (R.length+1))) (some (.ref (eO++[a0.li []]).length))),qJ):=(dk (z+31) EX (oe (a aN.w) (E r.ah) (D.ss [r.nm]) (E r.aM) (D.cj r.eL) (some (D.ref m)) (some (bd (jr W aU r))) (some (E (eC r))) none none) (aa++b9) _ (gw (b8.good.at_ _ _ fS.wl.w) rfl) _ Dd _ _ bZ _ _ dL _ (gw bq rfl) (hP bh) _ ez)
 exact A4 (z:=z+31) (f:=59) (b6:=[.ref (a .w),E r.ah,.ss [r.nm],E r.aM,.cj r.eL]) (r:=.br (oe (a .w) (E r.ah) (.ss [r.nm]) (E r.aM) (.cj r.eL) (some (.ref m)) (some (bd (jr W aU r))) (some (E (eC r))) (some (E (R.length+1))) (some (.ref (eO++[a0.li []]).length)))) rfl rfl ((j8 (r:=.cons (.asg 7 DJ) EX) eE).trans (aR (Wu a4.2.2) jT))
end
end Mine
end
section
namespace Mine
variable{r:b5}{x j y:C}
noncomputable def ix(r:b5):C×C×Nat:=(r.ah,r.nm,r.aM)
structure ik(R:B b5)(c:C):Prop where
 uniq:(R.map ix).Nodup
 low:∀r∈R,109≤r.nm∧2*r.ah+(r.nm-109)<c
 sorted:R.Pairwise λ x y=>x.ah≤y.ah
 C1:∀r∈R,r.eL=true→∃q∈R,q.ah<r.ah∧q.nm=r.nm∧q.aM=r.aM
 cnt:∀l,(R.filter λ r=>r.ah==l).length≤4∧(R.filter λ r=>r.ah==l).length≤2*(c-2*l)
theorem ik.nil:ik [] 0:=⟨Cc,(λ r h=>nomatch h),agl,(λ r h=>nomatch h),λ l=>⟨fs _,fs _⟩⟩
theorem MJ{q:b5}(e:ix r=ix q):r.ah=q.ah∧r.nm=q.nm∧r.aM=q.aM:=⟨an Ia e,an (·.2.1) e,an (·.2.2) e⟩
theorem ik.block{R Q:B b5}{l:C}(I:ik R (2*l+x))(aA:x=0∨x=1)(bz:∀r∈Q,r.ah=l∧r.nm=109+x)(hs:(Q.map λ r=>r.aM).Nodup)(hl:Q.length≤2)(bO:∀r∈Q,r.eL=true→∃q∈R,q.ah<r.ah∧q.nm=r.nm∧q.aM=r.aM):ik (R++Q) (2*l+x+1):=by
 have KH:∀r∈Q,2*r.ah+(r.nm-109)=2*l+x:=λ r a4=>by rw[(bz r a4).1,(bz r a4).2,wd]
 have old:∀r∈R,∀q∈Q,r.ah=q.ah→r.nm=q.nm→False:=λ r a4 q du au aB=>oP _ (KH q du▸au▸aB▸(I.low r a4).2)
 have aV:x≤1:=aA.elim (λ e=>e▸fs 1) λ e=>dg e
 refine⟨?_,λ r a4=>(nE.mp a4).elim (λ a4=>⟨(I.low r a4).1,pW (I.low r a4).2⟩) λ a4=>⟨(bz r a4).2▸d2 ..,KH r a4▸qT _⟩,?_,λ r a4 be=>?_,λ k=>?_⟩
 ·rw[nD,Cb]
  refine⟨I.uniq,tQ.mpr ((tQ.mp hs).imp λ q e=>q (MJ e).2.2),λ k hk ct n4 e=>?_⟩
  obtain⟨r,a4,au⟩:=ht.mp hk
  obtain⟨q,du,aB⟩:=ht.mp n4
  have e:=MJ (au.trans (e.trans aB.symm))
  exact old r a4 q du e.1 e.2.1
 ·refine List.pairwise_append.mpr ⟨I.sorted,List.pairwise_of_forall_mem_list λ r a4 q du=>dg ((bz r a4).1.trans (bz q du).1.symm),λ r a4 q du=>(bz q du).1.symm▸?_⟩
  have ax:2*r.ah<2*l+x:=cn (d2 ..) (I.low r a4).2
  exact Nat.le_of_mul_le_mul_left (lq (e' ax (fz aV _))) (Nat.succ_pos 1)
 ·obtain⟨q,du,L⟩:=(nE.mp a4).elim (λ a4=>I.C1 r a4 be) λ a4=>bO r a4 be
  exact⟨q,oM _ du,L⟩
 ·have c:=I.cnt k
  rw[r2,fg]
  by_cases L:k=l
  ·subst L
   have aH:=a' (HW (λ r=>r.ah==k) Q) hl
   have ax:=c.2
   rw[wd]at ax
   rw[mP,wd]
   have:=hu ax aH
   exact⟨a' this (ha (gT 2 aV) 2),this⟩
  ·rw[tN.mpr λ r a4 e=>L ((bz r a4).1▸(eq_of_beq e).symm)]
   exact⟨c.1,a' c.2 (gT 2 (Nat.sub_le_sub_right (h4 _) _))⟩
section
variable{a:bH}{h:aT}{n:St}{T:B aP}{z:C}{W:cw}{aU:C→ap}{R:B b5}
theorem sy{V:jf}{m:C}{l:B D}{env:aX}{f g:C→D}{p:C→av}{eo:fb}{b7:ab}(n8:n[m]? =some (.li l)){eR:B C}:∀{acc:B D},(∀j∈eR,ho ac V eo (iO env x (f j)) n=some (p j,n)∧ci ac V b7 (iO env x (f j)) n=some (g j,n))→
  @lE (live (.ref m) l) (e0 (.ref m) l) (λ y ao=>(dh false [x] y env).bind λ aF=>(ho ac V eo aF ao).bind λ q=>if q.1=true then(ci ac V b7 aF q.2).bind λ r=>some ([r.1],r.2)else some ([],q.2)) (eR.map f) acc n=some (acc++(eR.filter p).map g,n):=by
 induction eR with
 |nil=>exact λ{acc} _=>(jE n8).trans (an (λ l=>some (l,n)) (eX acc).symm)
 |cons j eR aZ=>
  intro acc cU
  have h:=cU j (.head _)
  have aZ:=λ acc=>aZ (acc:=acc) λ j bt=>cU j (.tail _ bt)
  rw[QV]
  cases q:p j with
  |true=>
   rw[q]at h
   exact h6 n8 (aR rfl (aR h.1 ((if_pos rfl).trans (aR h.2 rfl)))) ((aZ _).trans (an (λ l=>some (l,n)) (jw ..)))
  |false=>
   rw[q]at h
   exact h6 n8 (aR rfl (aR h.1 (if_neg mL))) ((aZ _).trans (by rw[eX];rfl))
theorem nL.at_{F:C}{S:B (ap×C)}(x:nL a h j r F S)(M:Good a h n):dd n (.ref (a (.row j))) (.ss [108,101,118,101,108])=some (E r.ah)∧dd n (.ref (a (.row j))) (.ss [110,97,109,101])=some (.ss [r.nm])∧dd n (.ref (a (.row j))) (.ss [115,111,114,116])=some (E r.aM)∧dd n (.ref (a (.row j))) (.ss [109,105,100])=some (E (j+1))∧dd n (.ref (a (.row j))) (.ss [102,108,97,103,115])=some (E F)∧dd n (.ref (a (.row j))) (.ss [115,116,97,110,100,115])=some (.ref (a (.st j)))∧dd n (.ref (a (.row j))) (.ss [111,118,101,114])=some (.cj r.eL):=by
 have e:=M.at_ _ _ x.row
 exact⟨gw e rfl,gw e rfl,gw e rfl,gw e rfl,gw e rfl,gw e rfl,gw e rfl⟩
theorem qc:cY .eq (E x) (E y) n=some (decide (x=y)):=ma
theorem M7:cY .lt (E x) (E y) n=some (decide (x<y)):=mZ
theorem iL{R:B b5}(h:j<R.length):R[j]? =some (af R j):=getD_at h
end
end Mine
end
section
namespace Mine
variable{V:jf}{t:C}{env:aX}{gd iZ:av}{x y:C}{al:B (am×D)}{xs:B C}{nm aM ah:C}{bu bN bm:Y D}{d m c0:C}{l:B D}
section
variable{a:bH}{h:aT}{n:St}{T:B aP}{z:C}{W:cw}{aU:C→ap}{R:B b5}{X:Prop}
theorem qG{t:Mine.T}{r:fb}{b c:av}(h:fr ac V t env n=some (b,n))(k:ho ac V r env n=some (c,n)):ho ac V (.cons t r) env n=some (b&&c,n):=aR h (by
 cases b
 ·exact if_neg mL
 ·exact(if_pos rfl).trans k)
theorem SU{er eN hq:Mine.T}{iI:av}(ax:fr ac V er env n=some (gd,n))(aH:fr ac V eN env n=some (iZ,n))(cI:fr ac V hq env n=some (iI,n)):ho ac V (.cons (.and (.cons er (.cons eN (.cons hq .nil)))) .nil) env n=some (gd&&iZ&&iI,n):=
 (qG (t:=.and _) (qG ax (qG aH (qG cI rfl))) rfl).trans (by rw[vY,vY,Bool.and_assoc])
theorem SS{er eN:Mine.T}(ax:fr ac V er env n=some (gd,n))(aH:fr ac V eN env n=some (iZ,n)):ho ac V (.cons (.and (.cons er (.cons eN .nil))) .nil) env n=some (gd&&iZ,n):=
 (qG (t:=.and _) (qG ax (qG aH rfl)) rfl).trans (by rw[vY,vY])
theorem NO(aA:x<128):vf [x]=true:=an (λ b=>true&&(b&&true)) (iK aA)
theorem aep(aA:x<128)(bI:y<128):cY .eq (.ss [x]) (.ss [y]) n=some (decide (x=y)):=(if_pos (dI.mpr ⟨NO aA,NO bI⟩)).trans (an some (q8.mpr ⟨λ e=>(B4 e).1,λ e=>e▸rfl⟩))
theorem Nw(aA:x=109∨x=110):x<128:=aA.elim (λ e=>e▸aE rfl) λ e=>e▸aE rfl
theorem Fo(aA:x=109∨x=110)(bI:y=109∨y=110):cY .eq (.ss [x]) (.ss [y]) n=some (decide (x=y)):=aep (Nw aA) (Nw bI)
noncomputable def SG:fb:=.cons (.and (.cons (.cmp .eq (.aq (.v 7) (.ss [110,97,109,101])) (.v 1)) (.cons (.cmp .eq (.aq (.v 7) (.ss [115,111,114,116])) (.v 3)) (.cons (.cmp .lt (.aq (.v 7) (.ss [108,101,118,101,108])) (.v 4)) .nil)))) .nil
noncomputable def CX:ab:=(.comp (.v 7) [7] false (.aq (.v 0) (.ss [114,111,119,115])) (.cons (.and (.cons (.cmp .eq (.aq (.v 7) (.ss [110,97,109,101])) (.v 1)) (.cons (.cmp .eq (.aq (.v 7) (.ss [115,111,114,116])) (.v 3)) (.cons (.cmp .lt (.aq (.v 7) (.ss [108,101,118,101,108])) (.v 4)) .nil)))) .nil))
noncomputable def q0(R:B b5)(nm aM ah:C):B Nat:=k8 R λ r=>decide (r.nm=nm)&&decide (r.aM=aM)&&decide (r.ah<ah)
noncomputable def k2(w nm aM ah:C)(bu o5 bN bm:Y D):aX:=[some (.ref w),some (.ss [nm]),bu,some (E aM),some (E ah),o5,bN,bm]
theorem SH{o5:Y D}(p:iF a h T W al aU R xs t)(M:Good a h n)(cy:nm=109∨nm=110)(fP:R.length<100):
  ci ac (runN ac z) CX (k2 (a .w) nm aM ah bu o5 bN bm) n=some (.ref n.length,n++[.li ((q0 R nm aM ah).map λ j=>.ref (a (.row j)))]):=by
 have gM:=sy (V:=runN ac z) (x:=7) (env:=k2 (a .w) nm aM ah bu o5 bN bm) (eo:=SG) (b7:=.v 7) (acc:=[]) (eR:=ck R.length) (f:=λ j=>.ref (a (.row j))) (M.at_ _ _ p.rows) (p:=λ j=>(λ r:b5=>decide (r.nm=nm)&&decide (r.aM=aM)&&decide (r.ah<ah)) (af R j)) (g:=λ j=>.ref (a (.row j))) λ j bt=>by
  have e:=iL (f'.mp bt)
  have r:=(p.row j _ e).at_ M
  have hV:=p.eW _ (h2 e)
  have er:fr ac (runN ac z) (.cmp .eq (.aq (.v 7) (.ss [110,97,109,101])) (.v 1)) (k2 (a .w) nm aM ah bu o5 bN (some (.ref (a (.row j))))) n=some (decide ((af R j).nm=nm),n):=(jc z (Mine.T.cmp je.eq ((ab.v 7).aq (ab.ss [110,97,109,101])) (ab.v 1)) (k2 (a aN.w) nm aM ah bu o5 bN (some (D.ref (a (aN.row j))))) n _ r.2.1 _ (Fo hV.2.1 cy))
  have eN:fr ac (runN ac z) (.cmp .eq (.aq (.v 7) (.ss [115,111,114,116])) (.v 3)) (k2 (a .w) nm aM ah bu o5 bN (some (.ref (a (.row j))))) n=some (decide ((af R j).aM=aM),n):=(jc z (Mine.T.cmp je.eq ((ab.v 7).aq (ab.ss [115,111,114,116])) (ab.v 3)) (k2 (a aN.w) nm aM ah bu o5 bN (some (D.ref (a (aN.row j))))) n _ r.2.2.1 _ qc)
  have hq:fr ac (runN ac z) (.cmp .lt (.aq (.v 7) (.ss [108,101,118,101,108])) (.v 4)) (k2 (a .w) nm aM ah bu o5 bN (some (.ref (a (.row j))))) n=some (decide ((af R j).ah<ah),n):=(jc z (Mine.T.cmp je.lt ((ab.v 7).aq (ab.ss [108,101,118,101,108])) (ab.v 4)) (k2 (a aN.w) nm aM ah bu o5 bN (some (D.ref (a (aN.row j))))) n _ r.1 _ M7)
  exact⟨SU er eN hq,qy rfl⟩
 have hl:((ck R.length).map λ j=>D.ref (a (.row j))).length≤100000:=by rw[cG,gA];exact a' (h3 fP) (aE rfl)
 exact(hH z CX (k2 (a aN.w) nm aM ah bu o5 bN bm) n _ (gw (M.at_ _ _ p.wl.w) rfl) _ (iw (M.at_ _ _ p.rows)) hl _ _ gM)
noncomputable def KC(d:C):Bool:=!(decide ((4:am)=d)||(decide ((5:am)=d)||false))
theorem Ve:cY .mx (E d) (.tup [.ii 4,.ii 5]) n=some (KC d):=rfl
noncomputable def AU:bk:=(.cons (.ex (.call 59 (.cons (.v 0) (.cons (.v 4) (.cons (.v 1) (.cons (.v 3) (.cons (.and (.cons (.cmp .ne (.v 6) (.lst .nil)) (.cons (.cmp .mx (.v 5) (.tup (.cons (.ii 4) (.cons (.ii 5) .nil)))) .nil))) .nil))))))) .nil)
noncomputable def AT:bk:=.cons (.asg 6 CX) AU
theorem SI(h:(q0 R nm aM ah).isEmpty=false):∃q∈R,q.ah<ah∧q.nm=nm∧q.aM=aM:=by
 obtain⟨j,bt⟩:=List.exists_mem_of_ne_nil _ (λ e=>nomatch(e▸h:([]:B C).isEmpty=false))
 have m:=E7.mp bt
 have dH:=(dI.mp m.2)
 have dN:=(dI.mp dH.1)
 exact⟨af R j,h2 (iL m.1),gh dH.2,gh dN.1,gh dN.2⟩
theorem abm(e:n[m]? =some (.li l))(bC:n[c0]? =some (.li [])):s0 n (.ref m) (.ref c0)=some (!l.isEmpty):=
 (an (λ o:Y a0=>match o,n[c0]? with|some (.li xs),some (.li [])=>some (!xs.isEmpty)|_,_=>none) e).trans (an (λ o:Y a0=>match some (a0.li l),o with|some (.li xs),some (.li [])=>some (!xs.isEmpty)|_,_=>none) bC)
theorem Fh(e:n[m]? =some (.li l))(bC:n[c0]? =some (.li [])):cY .ne (.ref m) (.ref c0) n=some (!l.isEmpty):=an (λ o:Y av=>match o with|some r=>some r|none=>(m3 4 n (.ref m) (.ref c0)).map (!·)) (abm e bC)
theorem acL(p:iF a h T W al aU R xs t)(M:Good a h n)(cy:nm=109∨nm=110)(hs:aM≤1)(hl:ah≤3)(a1:d<8)(fP:R.length<50)(a3:T.length<400000)
  (f:∀(J:St) (aY:bH) (H:aT) (aC:B aP) (r:b5) (gx:Y D),bS ac (runN ac (z+32)) AT (k2 (a .w) nm aM ah bu (some (E d)) bN bm) n=some (.br (k2 (a .w) nm aM ah bu (some (E d)) gx bm),J)→Good aY H J→iF aY H aC W al aU (R++[r]) xs t→aC.length≤T.length+24→aY .w=a .w→aY .store=a .store→(r.ah=ah∧r.nm=nm∧r.aM=aM∧(r.eL=true→∃q∈R,q.ah<ah∧q.nm=nm∧q.aM=aM))→X):X:=by
 have au:=SH (z:=z+32) (bu:=bu) (aM:=aM) (ah:=ah) (o5:=some (E d)) (bN:=bN) (bm:=bm) p M cy (fh fP (aE rfl))
 have g1:=(b0.start p.wl.bT M (.li ((q0 R nm aM ah).map λ j=>.ref (a (.row j)))))
 have g2:=(b0.start g1.1.bT g1.1.good (.li []))
 have ne:=Fh (de g2.1.good (g2.1.a6 g1.2).1) (de g2.1.good g2.2)
 rw[QZ]at ne
 have go:∀b:av,(∀{J:St},runN ac (z+32) 59 [.ref (a .w),E ah,.ss [nm],E aM,.cj b] (n++[a0.li ((q0 R nm aM ah).map λ j=>.ref (a (.row j)))]++[.li []])=some (D.nn,J)→bS ac (runN ac (z+32)) AU (k2 (a .w) nm aM ah bu (some (E d)) (some (.ref n.length)) bm) (n++[.li ((q0 R nm aM ah).map λ j=>.ref (a (.row j)))])=some (.br (k2 (a .w) nm aM ah bu (some (E d)) (some (.ref n.length)) bm),J))→(b=true→∃q∈R,q.ah<ah∧q.nm=nm∧q.aM=aM)→X:=λ b st wy=>
  MQ (z:=z) (r:=⟨ah,nm,aM,b⟩) ((p.go g1.1).go g2.1) g2.1.good ⟨hl,cy,hs⟩ fP a3 λ J aY H aC e dF pY L gc as=>f J aY H aC _ (some (.ref n.length)) (aR (aR au rfl) (st e)) dF pY L gc as ⟨rfl,rfl,rfl,wy⟩
 cases cP:(q0 R nm aM ah).isEmpty with
 |true=>
  rw[cP]at ne
  exact go false (λ e=>(dk (z+32) AU (k2 (a aN.w) nm aM ah bu (some (E d)) (some (D.ref (f9 n))) bm) (n++[a0.li (eA (λ j=>D.ref (a (aN.row j))) (q0 R nm aM ah))]) _ ne _ rfl _ _ e)) (λ e=>nomatch e)
 |false=>
  rw[cP]at ne
  exact go (KC d) (λ e=>(dk (z+32) AU (k2 (a aN.w) nm aM ah bu (some (E d)) (some (D.ref (f9 n))) bm) (n++[a0.li (eA (λ j=>D.ref (a (aN.row j))) (q0 R nm aM ah))]) _ ne _ rfl _ Ve _ _ e)) λ _=>SI cP
end
end Mine
end
section
namespace Mine
variable{x:C}{l:B (B C)}{d w s nm:C}{bu cm o5 bm:Y D}{ah k:C}{b:bk}{cf:B D}{N ib fM kI:C}{cX bN:Y D}{env:aX}
section
variable{a:bH}{h:aT}{n:St}{T:B aP}{z:C}{W:cw}{aU:C→ap}{R:B b5}{al:B (am×D)}{xs:B C}{t:C}{X:Prop}
noncomputable def AS:bk:=(.cons (.ex (.call 59 (.cons (.v 0) (.cons (.ii 0) (.cons (.v 1) (.cons (.v 3) (.cons (.cj false) .nil))))))) .nil)
noncomputable def t9(s:B C):Prop:=(∀x∈s,x≤1)∧s.Nodup∧s.length≤2
theorem ad7:t9 []:=⟨(λ _ h=>nomatch h),.nil,fs _⟩
theorem ti(h:x≤1):t9 [x]:=⟨ji h,.cons (λ _ h=>nomatch h) .nil,h4 1⟩
theorem Bg{y:C}(h:x≤1)(g:y≤1)(k:x≠y):t9 [x,y]:=⟨oW h g,.cons (ji k) (.cons (λ _ h=>nomatch h) .nil),cJ 2⟩
theorem pr{α:Type}{P:α→Prop}{x:α}{l:B α}(h:P x)(g:∀y∈l,P y):∀y∈x::l,P y:=λ y m=>mr m (λ e=>e▸h) (g y)
noncomputable def Pq:B (B C):=[[0],[1],[0,1],[1,0]]
noncomputable def Pr:B (B C):=[[],[0],[1],[0,1],[0],[1],[1,0],[0]]
theorem ad8:∀s∈Pq,t9 s:=have L:=fs 1;have o:=cJ 1
 pr (ti L) (pr (ti o) (pr (Bg L o Cq) (ji (Bg o L Rq))))
theorem ad9:∀s∈Pr,t9 s:=have L:=fs 1;have o:=cJ 1
 pr ad7 (pr (ti L) (pr (ti o) (pr (Bg L o Cq) (pr (ti L) (pr (ti o) (pr (Bg o L Rq) (ji (ti L))))))))
noncomputable def Ps(l:B (B C)):D:=.tup (l.map λ l=>.tup (l.map E))
theorem afc(a1:d<l.length)(hl:l.length≤1000):dd n (Ps l) (E d)=some (.tup ((l.getD d []).map E)):=Ah ((cG ..).symm▸hl) (i7 (getD_at a1))
noncomputable def jO(w nm:C)(bu cX cm o5 bN bm:Y D):aX:=[some (.ref w),some (.ss [nm]),bu,cX,cm,o5,bN,bm]
noncomputable def y2(z:C)(W:cw)(al:B (am×D))(aU:C→ap)(xs:B C)(t w s nm ah:C)(b:bk)(bu cm o5 bm:Y D):Prop:=
 ∀{a:bH} {h:aT} {n:St} {T:B aP} {R:B b5} {aM:C} {bN:Y D} {X:Prop},iF a h T W al aU R xs t→Good a h n→a .w=w→a .store=s→R.length<50→T.length<400000→aM≤1→
  (∀(J:St) (aY:bH) (H:aT) (aC:B aP) (r:b5) (gx:Y D),bS ac (runN ac (z+32)) b (jO w nm bu (some (E aM)) cm o5 bN bm) n=some (.br (jO w nm bu (some (E aM)) cm o5 gx bm),J)→Good aY H J→iF aY H aC W al aU (R++[r]) xs t→aC.length≤T.length+24→aY .w=w→aY .store=s→(r.ah=ah∧r.nm=nm∧r.aM=aM∧(r.eL=true→∃q∈R,q.ah<ah∧q.nm=nm∧q.aM=aM))→X)→X
theorem adu(cy:nm=109∨nm=110):y2 z W al aU xs t w s nm 0 AS bu cm o5 bm:=λ{a h n T R aM bN X} p M cS n7 fP a3 hs f=>
 MQ (z:=z) (r:=⟨0,nm,aM,false⟩) p M ⟨fs _,cy,hs⟩ fP a3 λ J aY H aC e dF pY L gc as=>f J aY H aC _ bN (by subst cS;exact(dk (z+32) AS (jO (a aN.w) nm bu (some (E aM)) cm o5 bN bm) n _ _ e)) dF pY L (gc.trans cS) (as.trans n7) ⟨rfl,rfl,rfl,λ e=>nomatch e⟩
theorem adv(cy:nm=109∨nm=110)(hl:ah≤3)(a1:d<8):y2 z W al aU xs t w s nm ah AT bu (some (E ah)) (some (E d)) bm:=λ{a h n T R aM bN X} p M cS n7 fP a3 hs f=>by
 subst cS
 exact acL p M cy hs hl a1 fP a3 λ J aY H aC r gx e dF pY L gc as q=>f J aY H aC r gx e dF pY L gc (as.trans n7) q
theorem ZP{r:b5}:(R++[r]).length+k=R.length+(k+1):=by rw[fg,mP,qS k];rfl
theorem ae0{hr b:C}(L:hr≤x+24)(h:x+24*(k+1)<b):hr+24*k<b:=Az L (cn (dg (an (x+·) (qS ..))) h)
theorem aah(P:y2 z W al aU xs t w s nm ah b bu cm o5 bm){l:B D}(ss:B C):∀{a:bH} {h:aT} {n:St} {T:B aP} {R:B b5} {cX bN:Y D} {X:Prop},(∀s∈ss,s≤1)→iF a h T W al aU R xs t→Good a h n→a .w=w→a .store=s→R.length+ss.length<50→T.length+24*ss.length<400000→
  (∀(J:St) (aY:bH) (H:aT) (aC:B aP) (Q:B b5) (hT gx:Y D),@fC (live (.tup l) cf) (e0 (.tup l) cf) (λ x aF J=>(dh false [3] x aF).bind λ dG=>bS ac (runN ac (z+32)) b dG J) (ss.map E) (jO w nm bu cX cm o5 bN bm) n=some (.br (jO w nm bu hT cm o5 gx bm),J)→Good aY H J→iF aY H aC W al aU (R++Q) xs t→aC.length≤T.length+24*ss.length→aY .w=w→aY .store=s→(Q.map λ r=>r.aM)=ss→(∀r∈Q,(r.ah=ah∧r.nm=nm)∧(r.eL=true→∃q∈R,q.ah<r.ah∧q.nm=r.nm∧q.aM=r.aM))→X)→X:=by
 induction ss with
 |nil=>exact λ{a h n T R cX bN X} hs p M cS n7 fP a3 f=>f n a h T [] cX bN DO M ((eX R).symm▸p) (cJ _) cS n7 rfl (λ _ h=>nomatch h)
 |cons aM ss aZ=>
  exact λ{a h n T R cX bN X} hs p M cS n7 fP a3 f=>P p M cS n7 (cn (d2 ..) fP) (cn (d2 ..) a3) (hs aM (.head _)) λ aa cx aI bX r gx e dJ acV L gc as q=>
   aZ (λ x m=>hs x (.tail _ m)) acV dJ gc as (ZP▸fP) (ae0 L a3) λ ao ed bJ cL Q hT abK aB dA FY d5 wC za d' cO=>
    f ao ed bJ cL (r::Q) hT abK ((wW e).trans aB) dA (mO R r Q▸FY) (a' (od L d5) (dg (an (T.length+·) (qS ..)))) wC za (q.2.2.1▸d'▸rfl) λ x aA=>mr aA
     (λ k=>k▸⟨⟨q.1,q.2.1⟩,q.1▸q.2.1▸q.2.2.1▸q.2.2.2⟩)
     λ aA=>⟨(cO x aA).1,λ o=>((cO x aA).2 o).elim λ y v=>(nE.mp v.1).elim (λ m=>⟨y,m,v.2⟩) λ m=>absurd v.2.1 (by rw[jy.mp m,q.1,(cO x aA).1.1];exact oP _)⟩
structure oO(N ib fM kI:C)(W:cw)(al:B (am×D))(aU:C→ap)(xs:B C)(c:C)(a:bH)(h:aT)(T:B aP)(R:B b5)(t:C)(n:St):Prop where
 cp:iF a h T W al aU R xs t
 good:Good a h n
 inv:ik R c
 w:a .w=fM
 s:a .store=kI
 da:R.length≤2*c
 ll:T.length≤N+48*c
 tt:t≤ib+c
theorem JU{m i:C}{bT:ab}{st:S}{q':aX}{cO jR:C→Y D}(aA:x=0∨x=1)(pc:2*ah+x≤7)(u:oO N ib fM kI W al aU xs (2*ah+x) a h T R t n)(k7:N<3000)(bD:ib<9000)(hl:l.length=m)(hm:0<m)(iu:m≤1000)(ad6:∀s∈l,t9 s)
  (hW:∀d<m,y2 z W al aU xs (t+1) fM kI (109+x) ah b (cO d) cm (jR d) bm)
  (afV:∀d aa,runN ac (z+32) 52 [.ref fM,E m] n=some (E d,aa)→jS ac (runN ac (z+32)) st q' n=some (.br (jO fM (109+x) (cO d) cX cm (jR d) bN bm),aa))(ae5:∀{env n},ci ac (runN ac (z+32)) bT env n=some (Ps l,n))(un:∀d,(jO fM (109+x) (cO d) cX cm (jR d) bN bm)[i]? =some (some (E d)))
  (f:∀(J:St) (aY:bH) (H:aT) (aC:B aP) (hI:B b5) (cB d:C) (hT gx:Y D),bS ac (runN ac (z+32)) (.cons st (.cons (.dc [3] false (.aq bT (.v i)) b) .nil)) q' n=some (.br (jO fM (109+x) (cO d) hT cm (jR d) gx bm),J)→oO N ib fM kI W al aU xs (2*ah+x+1) aY H aC hI cB J→X):X:=by
 refine yg (z:=z+31) (k:=6) (m:=m) u.good u.cp.wl.w u.cp.dR (cn (a' u.tt (hu (h3 bD) pc)) (aE rfl)) hm λ d aa aI a1 au dJ vR bx=>?_
 have S:=ad6 (l.getD d []) (h2 (getD_at (hl▸a1)))
 have d4:R.length+(l.getD d []).length<50:=cn (hu (a' u.da (gT 2 pc)) S.2.2) (aE rfl)
 have d5:T.length+24*(l.getD d []).length<400000:=cn (hu (a' u.ll (hu (h3 k7) (gT 48 pc))) (gT 24 S.2.2)) (aE rfl)
 refine aah (hW d a1) (l:=(l.getD d []).map E) (cf:=(l.getD d []).map E) (cX:=cX) (bN:=bN) _ S.1 (u.cp.take vR bx) dJ u.w u.s d4 d5 λ ao ed bJ cL Q hT gx aB dA FY L gc as d' cO=>?_
 have M4:Q.length≤2:=by have:=S.2.2;rwa [←d',cG]at this
 refine f ao ed bJ cL (R++Q) (t+1) d hT gx (tg (afV d aa (u.w▸au)) (tg (vt (aR ae5 (aR (qy (un d)) (aR (afc (hl▸a1) (hl▸iu)) rfl))) rfl (a' (a' (dg (cG ..)) S.2.2) (aE rfl)) aB) rfl)) ⟨FY,dA,u.inv.block aA (λ r a4=>(cO r a4).1) (d'▸S.2.1) M4 (λ r a4 o=>(cO r a4).2 o),gc,as,?_,a' L (a' (hu u.ll (gT 24 S.2.2)) (dg (mP ..))),ha u.tt 1⟩
 rw[fg]
 exact hu u.da M4
noncomputable def Pk:ab:=(.tup (.cons (.tup (.cons (.ii 0) .nil)) (.cons (.tup (.cons (.ii 1) .nil)) (.cons (.tup (.cons (.ii 0) (.cons (.ii 1) .nil))) (.cons (.tup (.cons (.ii 1) (.cons (.ii 0) .nil))) .nil)))))
noncomputable def Pl:ab:=(.tup (.cons (.tup .nil) (.cons (.tup (.cons (.ii 0) .nil)) (.cons (.tup (.cons (.ii 1) .nil)) (.cons (.tup (.cons (.ii 0) (.cons (.ii 1) .nil))) (.cons (.tup (.cons (.ii 0) .nil)) (.cons (.tup (.cons (.ii 1) .nil)) (.cons (.tup (.cons (.ii 1) (.cons (.ii 0) .nil))) (.cons (.tup (.cons (.ii 0) .nil)) .nil)))))))))
noncomputable def abr:bk:=(.cons (.asg 2 (.call 52 (.cons (.v 0) (.cons (.ii 4) .nil)))) (.cons (.dc [3] false (.aq Pk (.v 2)) AS) .nil))
noncomputable def Nu:bk:=(.cons (.asg 5 (.call 52 (.cons (.v 0) (.cons (.ii 8) .nil)))) (.cons (.dc [3] false (.aq Pl (.v 5)) AT) .nil))
theorem JV(aA:x=0∨x=1)(Ep:x≤7)(m:oO N ib fM kI W al aU xs (2*0+x) a h T R t n)(k7:N<3000)(bD:ib<9000)
  (f:∀(J:St) (aY:bH) (H:aT) (aC:B aP) (hI:B b5) (cB:C) (s1 hT gx:Y D),bS ac (runN ac (z+32)) abr (jO fM (109+x) bu cX cm o5 bN bm) n=some (.br (jO fM (109+x) s1 hT cm o5 gx bm),J)→oO N ib fM kI W al aU xs (2*0+x+1) aY H aC hI cB J→X):X:=
 JU (z:=z) (ah:=0) (i:=2) (st:=.asg 2 (.call 52 (.cons (.v 0) (.cons (.ii 4) .nil)))) (b:=AS) (q':=jO fM (109+x) bu cX cm o5 bN bm) (cm:=cm) (bm:=bm) (l:=Pq) (bT:=Pk) (cO:=λ d=>some (E d)) (jR:=λ _=>o5) (cX:=cX) (bN:=bN) aA (a' (dg (jh _)) Ep) m k7 bD rfl (aE rfl) (aE rfl) ad8 (λ d _=>adu (aA.elim (λ e=>.inl (e▸rfl)) λ e=>.inr (e▸rfl))) (λ d aa e=>aR (show ci ac (runN ac (z+32)) (.call 52 (.cons (.v 0) (.cons (.ii 4) .nil))) (jO fM (109+x) bu cX cm o5 bN bm) n=some (E d,aa)from(hH (z+32) (ab.call 52 (d6.cons (ab.v 0) (d6.cons (ab.ii 4) d6.nil))) (jO fM (109+x) bu cX cm o5 bN bm) n _ _ e)) rfl) rfl (λ d=>rfl) λ J aY H aC hI cB d hT gx=>f J aY H aC hI cB _ hT gx
theorem JW(aA:x=0∨x=1)(hl:ah≤3)(Ep:2*ah+x≤7)(m:oO N ib fM kI W al aU xs (2*ah+x) a h T R t n)(k7:N<3000)(bD:ib<9000)
  (f:∀(J:St) (aY:bH) (H:aT) (aC:B aP) (hI:B b5) (cB:C) (hT Fw gx:Y D),bS ac (runN ac (z+32)) Nu (jO fM (109+x) bu cX (some (E ah)) o5 bN bm) n=some (.br (jO fM (109+x) bu hT (some (E ah)) Fw gx bm),J)→oO N ib fM kI W al aU xs (2*ah+x+1) aY H aC hI cB J→X):X:=
 JU (z:=z) (i:=5) (st:=.asg 5 (.call 52 (.cons (.v 0) (.cons (.ii 8) .nil)))) (b:=AT) (q':=jO fM (109+x) bu cX (some (E ah)) o5 bN bm) (cm:=some (E ah)) (bm:=bm) (l:=Pr) (bT:=Pl) (cO:=λ _=>bu) (jR:=λ d=>some (E d)) (cX:=cX) (bN:=bN) aA Ep m k7 bD rfl (aE rfl) (aE rfl) ad9 (λ d a1=>adv (aA.elim (λ e=>.inl (e▸rfl)) λ e=>.inr (e▸rfl)) hl a1) (λ d aa e=>aR (show ci ac (runN ac (z+32)) (.call 52 (.cons (.v 0) (.cons (.ii 8) .nil))) (jO fM (109+x) bu cX (some (E ah)) o5 bN bm) n=some (E d,aa)from(hH (z+32) (ab.call 52 (d6.cons (ab.v 0) (d6.cons (ab.ii 8) d6.nil))) (jO fM (109+x) bu cX (some (E ah)) o5 bN bm) n _ _ e)) rfl) rfl (λ d=>rfl) λ J aY H aC hI cB d hT gx=>f J aY H aC hI cB hT _ gx
noncomputable def aaq:bk:=(.cons (.dc [1] false (.ss [109,110]) Nu) .nil)
theorem zR{s:B C}{step:D→aX→St→Y (eZ×St)}{x:D}{r:B D}{aF:aX}{J:St}(e:step x env n=some (.br aF,J)): @fC (live (.ss s) cf) (e0 (.ss s) cf) step (x::r) env n= @fC (live (.ss s) cf) (e0 (.ss s) cf) step r aF J:=fc trivial e rfl
theorem PC{KL KN:aX}{aa ao:St}(au:bS ac (runN ac (z+32)) b (iO env 1 (.ss [109])) n=some (.br KL,aa))(aB:bS ac (runN ac (z+32)) b (iO KL 1 (.ss [110])) aa=some (.br KN,ao)):jS ac (runN ac (z+32)) (.dc [1] false (.ss [109,110]) b) env n=some (.br KN,ao):=
 vt (v:=.ss [109,110]) (l:=[.ss [109],.ss [110]]) rfl rfl (aE rfl) ((zR au).trans ((zR aB).trans (hf trivial)))
theorem ER{cT:Y D}(hl:ah≤3)(m:oO N ib fM kI W al aU xs (2*ah) a h T R t n)(k7:N<3000)(bD:ib<9000)
  (f:∀(J:St) (aY:bH) (H:aT) (aC:B aP) (hI:B b5) (cB:C) (abI hT Fw gx:Y D),(dh false [4] (E ah) [some (.ref fM),cT,bu,cX,cm,o5,bN,bm]).bind (λ aF=>bS ac (runN ac (z+32)) aaq aF n)=some (.br [some (.ref fM),abI,bu,hT,some (E ah),Fw,gx,bm],J)→oO N ib fM kI W al aU xs (2*(ah+1)) aY H aC hI cB J→X):X:=by
 refine JW (z:=z) (x:=0) (bu:=bu) (cX:=cX) (o5:=o5) (bN:=bN) (bm:=bm) (.inl rfl) hl (a' (gT 2 hl) (h4 6)) m k7 bD λ aa cx aI bX Si jU eM gy hU au AF=>?_
 exact JW (z:=z) (x:=1) (bu:=bu) (cX:=eM) (o5:=gy) (bN:=hU) (bm:=bm) (.inr rfl) hl (gp (gT 2 hl)) AF k7 bD λ ao ed bJ cL Jf yk j7 jR tc aB pu=>
  f ao ed bJ cL Jf yk _ j7 jR tc (tg (PC au aB) rfl) pu
theorem ZG(m:oO N ib fM kI W al aU xs 0 a h T R t n)(k7:N<3000)(bD:ib<9000)
  (f:∀(J:St) (aY:bH) (H:aT) (aC:B aP) (hI:B b5) (cB:C),runN ac (z+33) 60 [.ref fM] n=some (.nn,J)→oO N ib fM kI W al aU xs 8 aY H aC hI cB J→X):X:=by
 refine JV (z:=z) (x:=0) (bu:=none) (cX:=none) (cm:=none) (o5:=none) (bN:=none) (bm:=none) (.inl rfl) (fs _) m k7 bD λ aa cx aI bX Si jU fS eM hU au AF=>?_
 refine JV (z:=z) (x:=1) (bu:=fS) (cX:=eM) (cm:=none) (o5:=none) (bN:=hU) (bm:=none) (.inr rfl) (aE rfl) AF k7 bD λ ao ed bJ cL Jf yk cO j7 tc aB pu=>?_
 refine ER (z:=z) (ah:=1) (cT:=some (.ss [110])) (bu:=cO) (cX:=j7) (cm:=none) (o5:=none) (bN:=tc) (bm:=none) (aE rfl) pu k7 bD λ bW ek cQ lA agQ qI fT oo ac3 ac4 bZ oh=>?_
 refine ER (z:=z) (ah:=2) (cT:=fT) (bu:=cO) (cX:=oo) (cm:=some (E 1)) (o5:=ac3) (bN:=ac4) (bm:=none) (aE rfl) oh k7 bD λ eO kp hO si agR ahk eE pG vz Ga dL aaX=>?_
 refine ER (z:=z) (ah:=3) (cT:=eE) (bu:=cO) (cX:=pG) (cm:=some (E 2)) (o5:=vz) (bN:=Ga) (bm:=none) (cJ 3) aaX k7 bD λ jV k3 i3 CT Sj GN jb oy GQ GR fG aaY=>?_
 exact f jV k3 i3 CT Sj GN (A4 (z:=z+32) (f:=60) (b6:=[.ref fM]) (r:=.br [some (.ref fM),jb,cO,oy,some (E 3),GQ,GR,none]) rfl rfl (tg (PC au aB) (tg (vt (v:=.tup [E 1,E 2,E 3]) (l:=[E 1,E 2,E 3]) rfl rfl (aE rfl) ((wW bZ).trans ((wW dL).trans ((wW fG).trans DO)))) rfl))) aaY
end
end Mine
end
section
namespace Mine
variable{H:aT}{aC:B aP}{r:aN}{m:C}{J:St}{b l c k:C}{bE:B ap}{ks:B C}
section
variable{a:bH}{h:aT}{n:St}{T:B aP}{z:C}{W:cw}{aU:C→ap}{R:B b5}{al:B (am×D)}{X:Prop}
noncomputable def Qv(a:bH)(aG en:B (C×D)):Prop:=aG.lookup 47=some (.ref (a .store))∧aG.lookup 35=some (.ref (a .kt))∧aG.lookup 63=some (.ref (a .ig))∧aG.lookup 65=some (.ref (a .h7))∧en.lookup 56=some (.ref (a .host))∧en.lookup 59=some (.ref (a .jt))
noncomputable def Hx(a:bH)(aG:B (C×D)):Prop:=aG.lookup 35=some (.ref (a .kt))∧aG.lookup 70=some (.ref (a .fD))∧aG.lookup 71=some (.ref (a .dx))∧aG.lookup 7=none∧aG.lookup 9=none
structure Hy(W:cw)(aU:C→ap)(R:B b5):Prop where
 iQ:W.ok
 lG:∀c,(aU c).ar (W.many 0)∧(aU c).wf∧(aU c).size≤2
 eW:∀r∈R,r.ah≤3∧(r.nm=109∨r.nm=110)∧r.aM≤1
 inv:ik R 8
 da:R.length≤16
structure c8(a:bH)(h:aT)(T:B aP)(W:cw)(al:B (am×D))(aU:C→ap)(R:B b5):Prop extends Hy W aU R where
 aM:kn a h
 bT:c6 a h T
 ty:∀l,l<4→l5 a h l (W.many l)
 types:∃x,h .types=some (.li (dw 66 .nn++[.ref (a (.ty 0)),.ref (a (.ty 1)),.ref (a (.ty 2)),.ref (a (.ty 3)),x]))
 meths:h .meths=some (.li (.nn::(ck R.length).map λ j=>.ref (a (.bl j))))
 dv:∀l,l<4→h (.dv l)=some (.li ((k8 R λ r=>r.ah==l).map λ j=>E (j+1)))
 be:∃aG,h .host=some (.bF 9 aG)∧Hx a aG
 az:h .fD=some (.cq al)
 hs:h .dx=some (.cq [(34,.ii 3)])
 o6:lU T W al
 kq:∀ae,ae≤3→oH T W al ae
 qa:∃aG en,h .eH=some (.bF 8 aG)∧h .ig=some (.bF 7 en)∧Qv a aG en
noncomputable def aa0:aN→av
 | .bl _| .cM _| .a6 _| .w| .h7=>false
 |_=>true
noncomputable def pB(r:aN):Bool:=!gY r&&aa0 r
theorem c8.keep(ag:c8 a h T W al aU R)(f:∀r o,pB r=true→h r=some o→H r=some o)(bT:c6 a H aC)(k:∀{k:C} {t:ap},ba T k t→ba aC k t):c8 a H aC W al aU R:=
 let⟨aG,eE,s⟩:=ag.aM.bF
 let⟨x,ex⟩:=ag.types
 let⟨cl,ax,aH⟩:=ag.be
 let⟨ds,bf,q7,oB,Dx⟩:=ag.qa
 ⟨ag.toHy,⟨aG,f _ _ rfl eE,s⟩,bT,λ l hl=>let⟨⟨aG,au,e⟩,⟨cp,gj,p⟩⟩:=ag.ty l hl;⟨⟨aG,f _ _ rfl au,e⟩,⟨cp,f _ _ rfl gj,p⟩⟩,⟨x,f _ _ rfl ex⟩,f _ _ rfl ag.meths,λ l hl=>f _ _ rfl (ag.dv l hl),⟨cl,f _ _ rfl ax,aH⟩,f _ _ rfl ag.az,f _ _ rfl ag.hs,ag.o6.more k,λ ae cC=>(ag.kq ae cC).more k λ k e=>e,⟨ds,bf,f _ _ rfl q7,f _ _ rfl oB,Dx⟩⟩
theorem N'(h:pB r=true):gY r=false:=(tH _).mp (dI.mp h).1
theorem acY(h:pB r=true):r≠ .a6 m:=λ e=>nomatch(e▸h:pB (.a6 m)=true)
theorem c8.go(ag:c8 a h T W al aU R)(x:b0 a h T b J aC H):c8 a H aC W al aU R:=ag.keep (λ r o q e=>x.off (N' q) e) x.bT λ q=>x.eS q
theorem c8.put{o:a0}(ag:c8 a h T W al aU R)(bT:c6 a (up h (.a6 m) (some o)) T):c8 a (up h (.a6 m) (some o)) T W al aU R:=ag.keep (λ r o q e=>mI e (acY q)) bT λ q=>q
noncomputable def jZ(a:bH)(h:aT)(T:B aP)(W:cw)(aU:C→ap)(R:B b5)(F:C→C):Prop:=∀j,j<R.length→kh a h T W aU j (af R j) (F j)
theorem jZ.go{F:C→C}(ak:jZ a h T W aU R F)(x:b0 a h T b J aC H):jZ a H aC W aU R F:=λ j bt=>(ak j bt).bx (λ o e=>x.off rfl e) (λ g o e=>x.off rfl e) λ q=>x.eS q
theorem c8.yj(ag:c8 a h T W al aU R)(M:Good a h n)(hl:l<4):dd n (.ref (a .types)) (E (66+l))=some (.ref (a (.ty l))):=let⟨_,tp⟩:=ag.types;GL hl M tp
theorem c8.qn(ag:c8 a h T W al aU R)(M:Good a h n){j:C}(bt:j<R.length):dd n (.ref (a .meths)) (E (j+1))=some (.ref (a (.bl j))):=j6 (M.at_ _ _ ag.meths) (i7 (f:=λ j=>D.ref (a (.bl j))) (yD bt))
theorem c8.aft(ag:c8 a h T W al aU R)(M:Good a h n)(hl:l<4):d7 n (.ref (a (.ty l))) 7=some (.ii 1):=let⟨⟨_,er,eN,_⟩,_⟩:=ag.ty l hl;(fj (M.at_ _ _ er)).trans eN
theorem c8.afr(ag:c8 a h T W al aU R)(M:Good a h n)(hl:l<4):d7 n (.ref (a (.ty l))) 11=some (.ref (a (.tyP l))):=let⟨⟨_,er,_,hq,_⟩,_⟩:=ag.ty l hl;(fj (M.at_ _ _ er)).trans hq
theorem c8.afu(ag:c8 a h T W al aU R)(M:Good a h n)(hl:l<4):k' n (.ref (a (.tyP l)))=some ((W.many l:C):am):=let⟨_,_,gj,fS⟩:=ag.ty l hl;fS▸ro (M.at_ _ _ gj)
theorem c8.mb(ag:c8 a h T W al aU R)(M:Good a h n):d7 n (.ref (a .eH)) 47=some (.ref (a .store)):=let⟨_,_,e,_,d⟩:=ag.qa;(fj (M.at_ _ _ e)).trans d.1
theorem c8.zy(ag:c8 a h T W al aU R)(M:Good a h n):d7 n (.ref (a .eH)) 35=some (.ref (a .kt)):=let⟨_,_,e,_,d⟩:=ag.qa;(fj (M.at_ _ _ e)).trans d.2.1
theorem c8.zz(ag:c8 a h T W al aU R)(M:Good a h n):d7 n (.ref (a .eH)) 63=some (.ref (a .ig)):=let⟨_,_,e,_,d⟩:=ag.qa;(fj (M.at_ _ _ e)).trans d.2.2.1
theorem c8.zA(ag:c8 a h T W al aU R)(M:Good a h n):d7 n (.ref (a .eH)) 65=some (.ref (a .h7)):=let⟨_,_,e,_,d⟩:=ag.qa;(fj (M.at_ _ _ e)).trans d.2.2.2.1
theorem c8.BO(ag:c8 a h T W al aU R)(M:Good a h n):d7 n (.ref (a .ig)) 56=some (.ref (a .host)):=let⟨_,_,_,e,d⟩:=ag.qa;(fj (M.at_ _ _ e)).trans d.2.2.2.2.1
theorem c8.ahp(ag:c8 a h T W al aU R)(M:Good a h n):d7 n (.ref (a .ig)) 59=some (.ref (a .jt)):=let⟨_,_,_,e,d⟩:=ag.qa;(fj (M.at_ _ _ e)).trans d.2.2.2.2.2
theorem v'(hl:bE.length≤2)(f:∀ks,T[k]? =some (.g c ks)→d1 T ks bE→ks.length≤2→iz c→X):ba T k (gX c bE)→X:=
 zT (ak:=λ bE=>(∀ks,T[k]? =some (.g c ks)→d1 T ks bE→ks.length≤2→iz c→X)→ba T k (gX c bE)→X) bE hl (λ f q=>f [] q.2 trivial (fs _) q.1)
  (λ t f q=>q.n0 λ j o e q=>f [j] e ⟨q,trivial⟩ (h4 1) o) (λ t u f q=>q.n1 λ i j o e q ep=>f [i,j] e ⟨q,ep,trivial⟩ (cJ 2) o) f
theorem WM(o:iz c)(hl:bE.length≤2):d1 T ks bE→kZ T (.g c ks) (gX c bE):=
 zT (ak:=λ bE=>d1 T ks bE→kZ T (.g c ks) (gX c bE)) bE hl (λ q=>⟨o,by rw[List.length_eq_zero_iff.mp (d1.len q)]⟩) (λ t q=>q.one λ j e q=>e▸⟨o,j,rfl,q⟩) (λ t u q=>q.two λ i j e q ep=>e▸⟨o,i,j,rfl,q,ep⟩)
theorem FH(hl:l<4):iz (66+l):=.inr ⟨d2 ..,fz (h3 hl) 66⟩
theorem afb(hl:l<4):cY .pj (E (66+l)) (.cd o7) n=some false:=an some (rC (FH hl)).2
theorem Zq(ag:c8 a h T W al aU R)(M:Good a h n)(hl:l<4)(q:d1 T ks bE)(qg:bE.length≤2)(hs:(gX (66+l) bE).size≤24)(a3:T.length<500000)
  (f:∀k J aC H,runN ac (z+8) 38 [.ref (a .store),E (66+l),.tup (ks.map E)] n=some (E k,J)→ba aC k (gX (66+l) bE)→b0 a h T 1 J aC H→X):X:=
 UY (z:=z) ag.bT M (WM (FH hl) qg q) (FH hl) hs a3 λ k J e g=>b0.s6 g λ aC H gk go=>
  f k J aC H (cN (z+7) 38 [D.ref (a aN.store),E (66+l),D.tup (eA E ks)] n rfl rfl _ ((ag.aM.at_ M).2.1) _ (ag.yj M hl) _ (ag.aft M hl) _ ((rfl:cY .eq (.ii 1) (.ii 2) n=some false)) _ ((rfl:cY .eq (.ii 1) (.ii 2) n=some false)) _ ((ag.aM.at_ M).2.2) _ _ e) gk go
noncomputable def Gm:bk:=(.cons (.ex (.append (.v 3) (.call 22 (.cons (.at (.v 0) 35) (.cons (.v 4) .nil))))) .nil)
theorem d1.snoc{t:ap}(q:d1 T ks bE)(p:ba T k t):d1 T (ks++[k]) (bE++[t]):=d1.b7 (ak:=λ ks bE=>d1 T (ks++[k]) (bE++[t])) ⟨p,trivial⟩ (λ _ _ _ _ q _ i=>⟨q,i⟩) q
theorem Gq{α c4:Type}{f:α→c4}{l:B α}{x:α}:l.map f++[f x]=(l++[x]).map f:=(nD (l₂:=[x])).symm
noncomputable def x9(a:bH)(aV aQ:Y D)(m:C)(cm:Y D):aX:=[some (.ref (a .store)),aV,aQ,some (.ref m),cm]
theorem ad'{h₀:aT}{CS:B aP}{aV aQ:Y D}{lo ay:am}{cf:B D}(cy:h₀ (.a6 m)=none)(a3:CS.length<490000)(is:B C):∀{n:St} {T:B aP} {h:aT} {ks:B C} {bE:B ap} {b:C} {cm:Y D},b+is.length<10→ks.length+is.length<10→c8 a h T W al aU R→b0 a h₀ CS b n T h→h (.a6 m)=some (.li (ks.map E))→d1 T ks bE→
  (∀fI J aC H jq,@fC (live (.ew lo ay) cf) (e0 (.ew lo ay) cf) (λ x aF J=>(dh false [4] x aF).bind λ dG=>bS ac (runN ac (z+8)) Gm dG J) (is.map E) (x9 a aV aQ m cm) n=some (.br (x9 a aV aQ m jq),J)→b0 a h₀ CS (b+is.length) J aC H→H (.a6 m)=some (.li (fI.map E))→d1 aC fI (bE++is.map .v)→c8 a H aC W al aU R→X)→X:=by
 induction is with
 |nil=>exact λ{n T h ks bE b cm} az hk ag go hm q f=>f ks n T h cm (hf trivial) go hm ((eX bE).symm▸q) ag
 |cons i is aZ=>
  exact λ{n T h ks bE b cm} az hk ag go hm q f=>afM (z:=z+1) ag.bT go.good i (cn go.le (fh (Nat.add_lt_add a3 (cn (d2 ..) az:b<10)) (aE rfl))) λ k aa e g=>b0.s6 g λ bX aI gk cW=>
   have au:=cW.a6 hm
   have L:=(go.trans cW).put (c3:=.li (ks.map E++[E k])) au.1 cy
   aZ (cn (dg (jz ..)) az) (cn (dg (by rw[fg];exact jz ..)) hk) ((ag.go cW).put L.1.bT) L.1 (L.2.trans (an (λ l=>some (a0.li l)) Gq)) ((cW.xl q).snoc gk) λ fI J aC H jq bC wZ h' ep oI=>
    have st:bS ac (runN ac (z+8)) Gm (x9 a aV aQ m (some (E i))) n=some (.br (x9 a aV aQ m (some (E i))),aa.set m (.li (ks.map E++[E k]))):=(dk (z+8) Gm (x9 a aV aQ m (some (E i))) n (hP (de go.good hm)) _ ((ag.aM.at_ go.good).2.2) _ _ e _ (mY au.2 (pF (fh (cn (dg (cG ..)) (cn (d2 ..) hk)) (aE rfl)))))
    f fI J aC H jq (fc trivial st bC) (wZ.mono (dg (jz ..))) h' (mO bE (.v i) (is.map .v)▸ep) oI
theorem adr(hm:m≤2)(f:(∀n,hQ n (.ew 0 (m:am))=some ((ck m).map E))→ot (E m)=some (.ew 0 (m:am))→X):X:=
 sR (P:=λ m=>((∀n,hQ n (.ew 0 (m:am))=some ((ck m).map E))→ot (E m)=some (.ew 0 (m:am))→X)→X) m hm (λ f=>f (λ _=>rfl) rfl) (λ f=>f (λ _=>rfl) rfl) (λ f=>f (λ _=>rfl) rfl) f
theorem OP(ag:c8 a h T W al aU R)(M:Good a h n)(hl:l<4)(a3:T.length<490000)
  (f:∀k J aC H,runN ac (z+9) 37 [.ref (a .store),E (66+l)] n=some (E k,J)→ba aC k (dM W l 0)→b0 a h T 3 J aC H→X):X:=by
 have b2:=b0.start ag.bT M (.li [])
 have hm:=ag.iQ.many l
 refine adr hm λ ay a4=>?_
 refine ad' (z:=z) (aV:=some (E (66+l))) (aQ:=some (.ref (a (.ty l)))) (lo:=0) (ay:=(W.many l:C)) (cf:=(ck (W.many l)).map E) (cm:=none) (ks:=[]) (bE:=[]) (M.fresh (cJ _)) a3 (ck (W.many l)) (cn (dg (by rw[gA,jh])) (cn hm (aE rfl))) (cn (dg (by rw[gA];exact jh _)) (cn hm (aE rfl))) (ag.go b2.1) b2.1 b2.2 trivial λ fI aa bX aI jq au cW hN d' pL=>?_
 have QN:(W.own l).length=W.many l:=by unfold cw.own;rw[cG,gA]
 have iZ:0+(ck (W.many l)).length≤2:=by rw[gA,jh];exact hm
 refine Zq (z:=z) pL cW.good hl (bE:=W.own l) d' (QN.symm▸hm) (a' (u0 ag.iQ (ae:=l) (lq hl) (fs _)).2.1 (aE rfl)) (cn cW.le (e' (r5 a3 iZ) (aE rfl))) λ k ao cL bJ aB gk b8=>?_
 have g6:=ag.go b2.1
 have mN:=b2.1.good
 have agh:((ck (W.many l)).map E).length≤100000:=a' (dg (cG ..)) (a' (a' (dg gA) hm) (aE rfl))
 exact f k ao cL bJ (cN (z+8) 37 [D.ref (a aN.store),E (66+l)] n rfl rfl _ (afb hl) _ ((ag.aM.at_ M).2.1) _ (ag.yj M hl) _ (g6.afr mN hl) _ (g6.afu mN hl) _ a4 _ (ay _) agh _ _ au _ (PA (de cW.good hN)) _ _ aB) gk ((cW.trans b8).mono (gp iZ))
end
end Mine
end
section
namespace Mine
variable{m k:C}{O:B (am×D)}{d ae fl:C}
section
variable{a:bH}{h:aT}{n:St}{T:B aP}{z:C}{W:cw}{aU:C→ap}{R:B b5}{al:B (am×D)}{X:Prop}
theorem Ld{d:D}(e:n[m]? =some (.cq O)):uD n (.ref m) (E k) d=some ((O.lookup (k:am)).getD d):=an (w0 (E k) d) e
theorem Mg(e:n[m]? =some (.cq O)):rg n (.ref m)=true:=an (λ o:Y a0=>match o with|some (.cq _)|some (.h8 _)=>true|_=>false) e
theorem Ue(ag:c8 a h T W al aU R)(M:Good a h n):ms ac n 9 (.ref (a .host))=some 12:=let⟨_,iq,_,_,_,_,nX⟩:=ag.be;(an (FC λ c aG=>if(aG.lookup 9).isNone then ac.ps c 9 else none) (M.at_ _ _ iq)).trans (if_pos (an Ry nX))
theorem c8.W'(ag:c8 a h T W al aU R)(M:Good a h n):d7 n (.ref (a .host)) 70=some (.ref (a .fD)):=let⟨_,iq,_,us,_⟩:=ag.be;(fj (M.at_ _ _ iq)).trans us
theorem Uf(ag:c8 a h T W al aU R)(M:Good a h n):runN ac (z+1) 12 [.ref (a .host),E k] n=some ((al.lookup (k:am)).getD (.ii (-1)),n):=by
 exact(cN z 12 [D.ref (a aN.host),E k] n rfl rfl _ (ag.W' M) (Mg (M.at_ _ _ ag.az)) _ rfl _ (Ld (M.at_ _ _ ag.az)))
theorem ZZ(K:W.ok)(cC:ae≤3){kr:C}(a1:d≤ae)(gv:kr≤ae)(e:dM W ae d=dM W ae kr):d=kr:=by
 rw[←r8 a1,←r8 gv,H5 (DX (K.lC cC a1) (K.lC cC gv) e).1]
theorem abg(ag:c8 a h T W al aU R)(cC:ae≤3)(a1:d<ae)(q:ba T k (dM W ae d))(f:∀ct,al.lookup (k:am)=some (E ct)→ba T ct (dM W ae (d+1))→X):X:=
 ag.bT.b7 λ _ _ _ _ I=>let⟨eU,fw,mc⟩:=ag.kq ae cC d a1
  let⟨v,e⟩:=oR.mp (ba.inj I.nodup q fw▸mc)
  ag.o6.b7 e λ l b6 e6 dy eD d' DD cO=>f e6 (e.trans (an some DD)) (by
   have L:=DX (ag.iQ.lC cC (h3 a1)) eD (q.a6 d')
   show ba T e6 (gX (66+Nat.pred (ae-d)) ((W.up (ae-d)).map (ap.sub (W.dK ae d))))
   rw[H5 L.1,L.2]
   exact cO)
theorem ZC(ag:c8 a h T W al aU R)(cC:ae≤3)(q:ba T k (dM W ae ae)):al.lookup (k:am)=none:=
 we.mpr λ v e=>ag.o6.b7 e λ l b6 e6 dy eD d' _ _=>nomatch(r7 ae).symm.trans (H5 (DX (ag.iQ.lC cC (cJ _)) eD (q.a6 d')).1)
noncomputable def wF:Mine.T:=(.and (.cons (.cmp .ne (.v 1) (.neg (.ii 1))) (.cons (.cmp .mx (.v 1) (.v 3)) .nil)))
noncomputable def zm:bk:=(.cons (.gI (.v 3) (.v 1) (.ii 1)) (.cons (.ex (.append (.v 2) (.v 1))) (.cons (.asg 1 (.hi (.v 0) 9 (.cons (.v 1) .nil))) .nil)))
theorem abb:cY .ne (E k) (.ii (-1)) n=some true:=an (λ b=>some (!b)) (j2 (QK (QI (by decide:(-1:am)<0) (yw k))))
theorem abc:cY .ne (.ii (-1)) (.ii (-1)) n=some false:=rfl
theorem abo{S:B (am×D)}(e:n[m]? =some (.cq S))(nl:(S.lookup (k:am)).isSome=false):cY .mx (E k) (.ref m) n=some true:=an (qU (!·)) ((Aj e).trans (an some nl))
noncomputable def o8(a:bH)(m fl:C)(v:D):aX:=[some (.ref (a .host)),some v,some (.ref m),some (.ref fl)]
theorem Oi{α:Type}{f:C→α}:(ck d).map f++[f d]=(ck (d+1)).map f:=(FZ (λ _ _=>rfl) rfl).symm
theorem Kf{aI:aT}{ks:B C}{S:B (am×D)}(cC:ae≤3)(nn:m≠fl)(kA:h (.a6 m)=none)(z7:h (.a6 fl)=none)(a1:d≤ae)(ag:c8 a aI T W al aU R)(go:b0 a h T 0 n T aI)(hm:aI (.a6 m)=some (.li (ks.map E)))(hs:aI (.a6 fl)=some (.cq S))(fJ:d1 T ks ((ck d).map (dM W ae)))(q:ba T k (dM W ae d))(nq:∀ct:C,(S.lookup (ct:am)).isSome=true→∃kr,kr<d∧ba T ct (dM W ae kr))(dQ:S.length≤d)
  (f:∀(J:St) (H:aT),fr ac (runN ac (z+1)) wF (o8 a m fl (E k)) n=some (true,n)→(∀v,(al.lookup (k:am)).getD (.ii (-1))=v→bS ac (runN ac (z+1)) zm (o8 a m fl (E k)) n=some (.br (o8 a m fl v),J))→b0 a h T 0 J T H→H (.a6 m)=some (.li ((ks++[k]).map E))→H (.a6 fl)=some (.cq (c7 S (k:am) (.ii 1)))→c8 a H T W al aU R→X):X:=by
 have ag3:=de go.good hm
 have LX:=de go.good hs
 have nl:(S.lookup (k:am)).isSome=false:=rW.mpr λ e=>let⟨kr,gv,ep⟩:=nq k e;Cm gv (ZZ ag.iQ cC a1 (h3 (e' gv a1)) (q.a6 ep))
 have Kx:=a' a1 cC
 have g1:=go.put (c3:=.cq (c7 S (k:am) (.ii 1))) hs z7
 have hN:=mI (x:=some (.cq (c7 S (k:am) (.ii 1)))) hm (tm nn)
 have u1:(ks.map E).length<1000:=by rw[cG,fJ.len,cG,gA];exact cn Kx (aE rfl)
 have g2:=g1.1.put (c3:=.li (ks.map E++[E k])) hN kA
 have mM:=(ag.put g1.1.bT).put g2.1.bT
 have ez:=mY (v:=E k) (de g1.1.good hN) (pF u1)
 refine f _ _ (jc (z+1) wF (o8 a m fl (E k)) n _ rfl _ abb _ (abo LX nl)) (λ v DD=>?_) g2.1 (g2.2.trans (an (λ l=>some (a0.li l)) Gq)) (mI g1.2 (tm nn.symm)) mM
 subst DD
 exact(dk (z+1) zm (o8 a m fl (E k)) n _ (OV (k:=k) (v:=.ii 1) LX (cn (a' dQ Kx) (aE rfl))) (hP (de g1.1.good hN)) _ ez _ (Ue mM g2.1.good) _ _ (Uf mM g2.1.good))
theorem UO(cC:ae≤3)(nn:m≠fl)(kA:h (.a6 m)=none)(z7:h (.a6 fl)=none){g:C}(r:C):∀{d:C} {n:St} {aI:aT} {k:C} {ks:B C} {S:B (am×D)},r+d=ae→c8 a aI T W al aU R→b0 a h T 0 n T aI→aI (.a6 m)=some (.li (ks.map E))→aI (.a6 fl)=some (.cq S)→d1 T ks ((ck d).map (dM W ae))→ba T k (dM W ae d)→(∀ct:C,(S.lookup (ct:am)).isSome=true→∃kr,kr<d∧ba T ct (dM W ae kr))→S.length≤d→
  (∀(v:D) (J:St) (H:aT) (fI:B C),oA (fr ac (runN ac (z+1)) wF) (bS ac (runN ac (z+1)) zm) (g+r+2) (o8 a m fl (E k)) n=some (.br (o8 a m fl v),J)→b0 a h T 0 J T H→H (.a6 m)=some (.li (fI.map E))→d1 T fI ((ck (ae+1)).map (dM W ae))→X)→X:=by
 induction r with
 |zero=>
  intro d n aI k ks S a4 ag go hm hs fJ q nq dQ f
  have pa:d=ae:=(jh d).symm.trans a4
  subst pa
  exact Kf cC nn kA z7 (cJ _) ag go hm hs fJ q nq dQ λ J H t b wZ h' jL oI=>
   f (.ii (-1)) J H _ (G7 t (b _ (an (Ct · (.ii (-1))) (ZC ag cC q))) (PX (jc (z+1) wF (o8 a m fl (D.ii (-1))) J _ rfl _ abc))) wZ h' (Oi▸fJ.snoc q)
 |succ r aZ=>
  intro d n aI k ks S a4 ag go hm hs fJ q nq dQ f
  have uM:r+(d+1)=ae:=(jz r d).symm.trans a4
  have a1:d<ae:=uM▸iE ..
  exact Kf cC nn kA z7 (h3 a1) ag go hm hs fJ q nq dQ λ J H t b wZ h' jL oI=>
   abg ag cC a1 q λ ct bC ep=>aZ uM oI wZ h' jL (Oi▸fJ.snoc q) ep (λ Mp e=>(f7 ((Mp:am)=k)).elim (λ L=>⟨d,qT d,tJ L▸q⟩) λ L=>let⟨kr,ax,aH⟩:=nq Mp (ni L▸e);⟨kr,pW ax,aH⟩) (a' AV (gp dQ))
    λ v ao bJ fI aB b8 iu cO=>f v ao bJ fI (G7 t (b (E ct) (an (Ct · (.ii (-1))) bC)) aB) b8 iu cO
theorem Ke(ag:c8 a h T W al aU R)(M:Good a h n)(cC:ae≤3)(q:ba T k (dM W ae 0))
  (f:∀(m:C) (J:St) (H:aT) (ks:B C),runN ac (z+2) 43 [.ref (a .host),E k] n=some (.ref m,J)→b0 a h T 0 J T H→H (.a6 m)=some (.li (ks.map E))→h (.a6 m)=none→d1 T ks ((ck (ae+1)).map (dM W ae))→X):X:=by
 have b2:=b0.start ag.bT M (.li [])
 have g1:=b0.start b2.1.bT b2.1.good (.cq [])
 have ne:n.length≠(n++[a0.li []]).length:=λ e=>mR (qT _) (e.trans fg)
 have Vp:58-ae+ae+2=60:=an (· +2) (Co (a' cC (aE rfl)))
 exact UO (z:=z) (g:=58-ae) cC ne (M.fresh (cJ _)) (M.fresh (a' (d2 ..) (dg fg.symm))) ae (d:=0) (ks:=[]) (S:=[]) (Rh ae) ((ag.go b2.1).go g1.1) (b2.1.trans g1.1) (g1.1.a6 b2.2).1 g1.2 trivial q (λ ct e=>nomatch e) (fs _) λ v J H ks e go hm fJ=>
  have e:oA (fr ac (runN ac (z+1)) wF) (bS ac (runN ac (z+1)) zm) 60 (o8 a n.length (n++[a0.li []]).length (E k)) (n++[a0.li []]++[a0.cq []])=some (.br (o8 a n.length (n++[a0.li []]).length v),J):=Vp▸e
  f n.length J H ks (cN (z+1) 43 [D.ref (a aN.host),E k] n rfl rfl _ _ e) go hm (M.fresh (cJ _)) fJ
end
end Mine
end
section
namespace Mine
variable{l k:C}{ks:B C}{j nm:C}
section
variable{a:bH}{h:aT}{n:St}{T:B aP}{z:C}{W:cw}{aU:C→ap}{R:B b5}{al:B (am×D)}{F:C→C}{X:Prop}
theorem afz(ag:c8 a h T W al aU R)(M:Good a h n)(hl:l<4)(q:T[k]? =some (.g (66+l) ks)):runN ac (z+3) 39 [.ref (a .store),E k] n=some (.ref (a (.ty l)),n):=by
 have e:=GC (z:=z) ag.bT M q
 have len:k' n (.ref (a .types))=some 71:=let⟨_,tp⟩:=ag.types;ro (M.at_ _ _ tp)
 have LJ:=lq hl
 have cz:cY .le (E (66+l)) (.ii 0) n=some false:=na (P:=λ l=>cY .le (E (66+l)) (.ii 0) n=some false) l LJ rfl rfl rfl rfl
 have cD:cY .ge (E (66+l)) (.ii 71) n=some false:=na (P:=λ l=>cY .ge (E (66+l)) (.ii 71) n=some false) l LJ rfl rfl rfl rfl
 exact(cN (z+2) 39 [D.ref (a aN.store),E k] n rfl rfl _ ((ag.aM.at_ M).2.2) _ _ e _ cz _ ((ag.aM.at_ M).2.1) _ len _ cD _ ((ag.aM.at_ M).2.1) _ (ag.yj M hl))
theorem kh.at_{F:C}{r:b5}(ak:kh a h T W aU j r F)(M:Good a h n)(f:∀aG g dr,pT aG g dr j r F→ba T dr (jr W aU r)→(∀{i:C} {v:D},aG.lookup i=some v→d7 n (.ref (a (.bl j))) i=some v)→X):X:=
 ak.b7 λ aG g dr au aB bZ _=>f aG g dr aB bZ λ q=>(fj (M.at_ _ _ au)).trans q
noncomputable def wU:bk:=(.cons (.b4 (.cmp .eq (.at (.aq (.at (.v 0) 15) (.v 4)) 6) (.v 2)) (.cons (.ex (.append (.v 3) (.v 4))) .nil) (.nil)) .nil)
noncomputable def ra(a:bH)(aV:Y D)(nm m:C)(cm:Y D):aX:=[some (.ref (a .store)),aV,some (.ss [nm]),some (.ref m),cm]
theorem WB{m:C}{da:aN}{l:B D}{aV:Y D}(g6:c8 a h T W al aU R)(r3:jZ a h T W aU R F)(w6:gY da=false)(hl:h da=some (.li l))(cy:nm=109∨nm=110)(kA:h (.a6 m)=none)(eR:B C):∀{n:St} {aI:aT} {acc:B D} {cm:Y D},(∀j∈eR,j<R.length)→b0 a h T 0 n T aI→aI (.a6 m)=some (.li acc)→acc.length+eR.length<900→
  (∀(J:St) (H:aT) (jq:Y D),@fC (live (.ref (a da)) l) (e0 (.ref (a da)) l) (λ x aF J=>(dh false [4] x aF).bind λ dG=>bS ac (runN ac z) wU dG J) (eR.map λ j=>E (j+1)) (ra a aV nm m cm) n=some (.br (ra a aV nm m jq),J)→b0 a h T 0 J T H→H (.a6 m)=some (.li (acc++(eR.filter λ j=>decide ((af R j).nm=nm)).map λ j=>E (j+1)))→X)→X:=by
 induction eR with
 |nil=>exact λ{n aI acc cm} bt go hm bO f=>f n aI cm (hf (go.good.at_ _ _ (go.off w6 hl))) go ((eX acc).symm▸hm)
 |cons j eR aZ=>
  intro n aI acc cm bt go hm bO f
  have ag:=g6.go go
  have kz:=bt j (.head _)
  have lH:∀j∈eR,j<R.length:=λ j m=>bt j (.tail _ m)
  have dq:=go.good.at_ _ _ (go.off w6 hl)
  refine((r3.go go) j kz).at_ go.good λ aG g dr bl rG at_=>?_
  have cz:=Fo (n:=n) (ag.eW _ (h2 (iL kz))).2.1 cy
  cases q:decide ((af R j).nm=nm)with
  |false=>
   rw[q]at cz
   have st:bS ac (runN ac z) wU (ra a aV nm m (some (E (j+1)))) n=some (.br (ra a aV nm m (some (E (j+1)))),n):=(dk z wU (ra a aV nm m (some (E (j+1)))) n _ ((ag.aM.at_ go.good).1) _ (ag.qn go.good kz) _ (at_ bl.nX) _ cz)
   exact aZ lH go hm (cn (h4 _) bO) λ J H jq e hM h'=>f J H jq (fc dq st e) hM ((B5 (p:=λ j=>decide ((af R j).nm=nm)) (a:=j) (rW.mp q)).symm▸h')
  |true=>
   rw[q]at cz
   have L:=go.put (c3:=.li (acc++[E (j+1)])) hm kA
   have st:bS ac (runN ac z) wU (ra a aV nm m (some (E (j+1)))) n=some (.br (ra a aV nm m (some (E (j+1)))),n.set m (.li (acc++[E (j+1)]))):=(dk z wU (ra a aV nm m (some (E (j+1)))) n _ ((ag.aM.at_ go.good).1) _ (ag.qn go.good kz) _ (at_ bl.nX) _ cz (hP (de go.good hm)) _ (mY (de go.good hm) (pF (fh (cn (d2 ..) bO) (aE rfl)))))
   exact aZ lH L.1 L.2 (cn (dg (by rw[fg];exact jz ..)) bO) λ J H jq e hM h'=>f J H jq (fc dq st e) hM (by rw[B6 (p:=λ j=>decide ((af R j).nm=nm)) (a:=j) q,oL,mO];exact h')
noncomputable def hh(R:B b5)(l nm:C):B Nat:=k8 R λ r=>r.ah==l&&decide (r.nm=nm)
theorem ZX:(k8 R λ r=>r.ah==l).filter (λ j=>decide ((af R j).nm=nm))=hh R l nm:=List.filter_filter.trans (HM λ _ _=>Bool.and_comm ..)
theorem Wq(ag:c8 a h T W al aU R)(ak:jZ a h T W aU R F)(M:Good a h n)(hl:l<4)(cy:nm=109∨nm=110)
  (f:∀(m:C) (J:St) (H:aT),runN ac (z+1) 40 [.ref (a .store),E (66+l),.ss [nm]] n=some (.ref m,J)→b0 a h T 0 J T H→H (.a6 m)=some (.li ((hh R l nm).map λ j=>E (j+1)))→h (.a6 m)=none→X):X:=by
 have b2:=b0.start ag.bT M (.li [])
 have g6:=ag.go b2.1
 have rc:=ag.dv l hl
 have kL:d7 (n++[a0.li []]) (.ref (a (.ty l))) 15=some (.ref (a (.dv l))):=let⟨⟨_,er,_,_,kL,_⟩,_⟩:=g6.ty l hl;(fj (b2.1.good.at_ _ _ er)).trans kL
 have len:(k8 R λ r=>r.ah==l).length≤16:=a' Ev ag.da
 refine WB (z:=z) (F:=F) (aV:=some (E (66+l))) (cm:=none) (m:=n.length) (da:=.dv l) ag ak rfl rc cy (M.fresh (cJ _)) (k8 R λ r=>r.ah==l) (λ j bt=>(E7.mp bt).1) b2.1 b2.2 (cn (dg (jh _)) (cn len (aE rfl))) λ J H jq e go hm=>?_
 exact f n.length J H (cN z 40 [D.ref (a aN.store),E (66+l),D.ss [nm]] n rfl rfl _ ((g6.aM.at_ b2.1.good).2.1) _ (g6.yj b2.1.good hl) _ kL _ (iw (b2.1.good.at_ _ _ (b2.1.off rfl rc))) (a' (dg (cG ..)) (a' len (aE rfl))) _ _ e) go (hm.trans (by rw[ZX];rfl)) (M.fresh (cJ _))
theorem OW(ag:c8 a h T W al aU R)(ak:jZ a h T W aU R F)(M:Good a h n){bE:B ap}(hl:l<4)(bt:j<R.length)(qg:bE.length≤2)(q:ba T k (gX (66+l) bE))(hs:((jr W aU (af R j)).sub bE).size≤24)(a3:T.length+24<500000)
  (f:∀(dr:C) (J:St) (aC:B aP) (H:aT),runN ac (z+35) 41 [.ref (a .store),.tup [E k,E (j+1),.tup []]] n=some (.tup [E 0,.tup [E dr]],J)→ba aC dr ((jr W aU (af R j)).sub bE)→b0 a h T 24 J aC H→X):X:=by
 refine v' qg (λ ks e fJ xn _=>?_) q
 refine(ak j bt).at_ M λ aG g dr bl rG at_=>?_
 have oY:=JA (z:=z+32) ag.bT M e
 have U':runN ac (z+34) 26 [.ref (a .kt),.ii 0,.tup (ks.map E),.tup []] n=some (E 0,n):=U1 (z:=z+32) (v:=.tup (ks.map E)) ag.bT M
 have p8:cY .eq (E (j+1)) (.ii 0) n=some false:=rfl
 refine UZ (z:=z) ag.bT M rG fJ xn hs a3 λ fk J aC H q9 xX go=>f fk J aC H (cN (z+34) 41 [D.ref (a aN.store),D.tup [E k,E (j+1),D.tup []]] n rfl rfl _ rfl _ p8 _ ((ag.aM.at_ M).1) _ rfl _ (ag.qn M bt) _ p8 _ ((ag.aM.at_ M).2.2) _ rfl _ _ oY _ ((ag.aM.at_ M).2.2) _ (at_ bl.zK) _ rfl _ _ U' _ ((ag.aM.at_ M).2.2) _ (at_ bl.zI) _ rfl _ _ q9) xX go
theorem Xh(c:C)(f:∀i,(([(34,D.ii 3)]:B (am×D)).lookup (c:am)).getD (.ii 0)= .ii i→cY .eq (.ii i) (.ii 3) n=some (decide (c=34))→X):X:=
 (f7 (c=34)).elim (λ L=>f 3 (L▸rfl) (an some (iK L).symm)) λ L=>f 0 (an (Ct · (.ii 0)) (pp.trans (an (λ c=>bif c then _ else _) (l'.mpr λ e=>L (tJ e))))) (an some (j2 L).symm)
theorem L3(ag:c8 a h T W al aU R)(M:Good a h n){c:C}(q:T[k]? =some (.g c ks)):runN ac (z+4) 42 [.ref (a .host),E k] n=some (.cj (decide (c=34)),n):=by
 have⟨aG,iq,gC,us,sB,wS,nX⟩:=ag.be
 have at_:=M.at_ _ _ iq
 have Kz:=M.at_ _ _ ag.hs
 have mt:ms ac n 7 (.ref (a .host))=some 13:=(an (FC λ c aG=>if(aG.lookup 7).isNone then ac.ps c 7 else none) at_).trans (if_pos (an Ry wS))
 refine Xh (n:=n) c λ i en dn=>?_
 have O:runN ac (z+3) 13 [.ref (a .host),E k] n=some (.ii i,n):=by
  rw[←en]
  exact(cN (z+2) 13 [D.ref (a aN.host),E k] n rfl rfl _ ((fj at_).trans sB) (Mg Kz) _ ((fj at_).trans gC) _ _ (GC (z:=z) ag.bT M q) _ (Ld Kz))
 exact(cN (z+3) 42 [D.ref (a aN.host),E k] n rfl rfl _ ((fj at_).trans gC) _ _ (aeg (z:=z+1) ag.bT M q) _ ((rfl:cY .eq (E (i9 (.g c ks))) (.ii 2) n=some true)) _ rfl _ mt _ _ O _ dn)
end
end Mine
end
section
namespace Mine
variable{x y:D}{m k:C}{xs:B D}{c0:C}{bf:B D}{d dr i l nm:C}
section
variable{a:bH}{h:aT}{n:St}{T:B aP}{z:C}{W:cw}{aU:C→ap}{R:B b5}{al:B (am×D)}{F:C→C}{X:Prop}
theorem ad4{m:D}(e:d7 n m 26=some (.ii 6)):runN ac (z+1) 49 [x,y,m] n=some (.cj true,n):=by
 exact(cN z 49 [x,y,m] n rfl rfl _ e _ ((rfl:cY .eq (.ii 6) (.ii 1) n=some false)) _ e _ ((rfl:cY .mx (.ii 6) (.tup [.ii 3,.ii 2]) n=some true)) _ rfl)
theorem AM(e:n[m]? =some (.li xs)):eK n (k+1) (.ref m)=xs.all (eK n k):=an (λ o:Y a0=>match o with|some (.li xs)=>xs.all (eK n k)|_=>false) e
theorem KQ(e:n[m]? =some (.li xs))(bC:n[c0]? =some (.li bf)):fH n (k+1) (.ref m) (.ref c0)=k4 (fH n k) xs bf:=
 (an (λ o:Y a0=>match o,n[c0]? with|some (.li xs),some (.li bf)=>k4 (fH n k) xs bf|_,_=>false) e).trans (an (λ o:Y a0=>match some (a0.li xs),o with|some (.li xs),some (.li bf)=>k4 (fH n k) xs bf|_,_=>false) bC)
theorem DC(e:n[m]? =some (.li xs))(bC:n[c0]? =some (.li bf))(o:xs.all (eK n 3)=true)(c3:bf.all (eK n 3)=true):cY .eq (.ref m) (.ref c0) n=some (k4 (fH n 3) xs bf):=(if_pos (dI.mpr ⟨(AM e).trans o,(AM bC).trans c3⟩)).trans (an some (KQ e bC))
theorem ab7(au:d7 n x 32=some (.tup [.ii 0]))(aB:∀b9,d7 (n++b9) y 32=some (.tup [.ii 0])):runN ac (z+1) 50 [x,y] n=some (.cj true,n++[.li [.ii 0]]++[.li [.ii 0]]):=by
 have dy:(n++[a0.li [.ii 0]]++[a0.li [.ii 0]])[n.length]? =some (.li [.ii 0]):=(an (·[n.length]?) (jw ..)).trans (l9 (i:=0))
 have gd:fF .band (.ii 0) (.ii 1)=some (.ii 0):=rfl
 have eE:ci ac (runN ac z) (.bin .band (.v 2) (.gl [80,70,95,79,85,84] (.ii 1))) [some x,some y,some (.ii 0),none] n=some (.ii 0,n):=(hH z (ab.bin iR.band (ab.v 2) (ab.gl [80,70,95,79,85,84] (D.ii 1))) [some x,some y,some (D.ii 0),none] n _ gd)
 have jT:ci ac (runN ac z) (.bin .band (.v 3) (.gl [80,70,95,79,85,84] (.ii 1))) [some x,some y,none,some (.ii 0)] (n++[.li [.ii 0]])=some (.ii 0,n++[.li [.ii 0]]):=(hH z (ab.bin iR.band (ab.v 3) (ab.gl [80,70,95,79,85,84] (D.ii 1))) [some x,some y,none,some (D.ii 0)] (n++[a0.li [D.ii 0]]) _ gd)
 exact(cN z 50 [x,y] n rfl rfl _ au _ rfl (aE rfl) _ _ (h6 trivial (j1 rfl eE) (jE trivial)) _ (aB _) _ rfl (aE rfl) _ _ (h6 trivial (j1 rfl jT) (jE trivial)) _ (DC dy (iY rfl) rfl rfl))
noncomputable def qN(R:B b5)(F:C→C):Prop:=∀j,j<R.length→F j=2+128*(af R j).aM∨F j=6+128*(af R j).aM
theorem agb{x y s a9:C}(aA:x=2+128*s∨x=6+128*s)(bI:y=2+128*a9∨y=6+128*a9)(hs:s≤1)(jL:a9≤1):(∀L w,fF .bxor (E x) (E y)=some L→fF .band L (.ii 128)=some w→ic n w=some (!decide (s=a9))→X)→X:=
 rn (ak:=λ s=>(x=2+128*s∨x=6+128*s)→(∀L w,fF .bxor (E x) (E y)=some L→fF .band L (.ii 128)=some w→ic n w=some (!decide (s=a9))→X)→X) hs
  (rn (ak:=λ a9=>(y=2+128*a9∨y=6+128*a9)→(x=2∨x=6)→(∀L w,fF .bxor (E x) (E y)=some L→fF .band L (.ii 128)=some w→ic n w=some (!decide (0=a9))→X)→X) jL
   (λ bI aA f=>by rcases aA with rfl|rfl<;>rcases bI with rfl|rfl<;>exact f _ _ rfl rfl rfl) (λ bI aA f=>by rcases aA with rfl|rfl<;>rcases bI with rfl|rfl<;>exact f _ _ rfl rfl rfl) bI)
  (rn (ak:=λ a9=>(y=2+128*a9∨y=6+128*a9)→(x=130∨x=134)→(∀L w,fF .bxor (E x) (E y)=some L→fF .band L (.ii 128)=some w→ic n w=some (!decide (1=a9))→X)→X) jL
   (λ bI aA f=>by rcases aA with rfl|rfl<;>rcases bI with rfl|rfl<;>exact f _ _ rfl rfl rfl) (λ bI aA f=>by rcases aA with rfl|rfl<;>rcases bI with rfl|rfl<;>exact f _ _ rfl rfl rfl) bI) aA
theorem N4(K:W.ok){r bw:b5}(cC:r.ah≤3)(a1:d≤r.ah)(hl:bw.ah=r.ah-d)(cy:bw.nm=r.nm)(g:(aU r.nm).ar (W.many 0)):(jr W aU bw).sub (W.dK r.ah d)=jr W aU r:=by
 unfold jr
 have e:=Rg a1
 have xo:=(K.arg (ae:=r.ah-d) (a' (nH ..) cC) (d:=r.ah-d) (cJ _)).1
 rw[r7]at xo
 rw[cy,hl,Pd (xo.symm▸g),Jz K cC a1 (dg e),e]
noncomputable def Gr:bk:=(.cons (.b4 (.and (.cons (.cmp .eq (.at (.aq (.at (.at (.v 0) 47) 15) (.v 6)) 27) (.v 3)) (.cons (.cmp .eq (.aq (.call 41 (.cons (.at (.v 0) 47) (.cons (.tup (.cons (.v 1) (.cons (.v 6) (.cons (.tup .nil) .nil)))) .nil))) (.ii 1)) (.v 4)) .nil))) (.cons (.ex (.append (.v 5) (.v 6))) .nil) (.nil)) .nil)
noncomputable def x'(a:bH)(k:C)(aQ:Y D)(dr m:C)(bN:Y D):aX:=[some (.ref (a .eH)),some (E k),aQ,some (.ii 0),some (.tup [E dr]),some (.ref m),bN]
theorem VI:cY .eq (.tup [E k]) (.tup [E k]) n=some true:=an (λ b=>some (b&&true)) (iK rfl)
theorem rv{b x:C}:b+24+24*x=b+24*(x+1):=(mP b 24 _).trans (an (b+·) (qS ..))
theorem aek{dH:C}{l:B D}{aQ:Y D}(g6:c8 a h T W al aU R)(r3:jZ a h T W aU R F)(ay:i<R.length)(a1:d≤(af R i).ah)(fw:ba T k (dM W (af R i).ah d))(rG:ba T dr (jr W aU (af R i)))(kA:h (.a6 m)=none)(ne:dH≠m)(eR:B C):∀{n:St} {bX:B aP} {aI:aT} {acc:B D} {bN:Y D} {b:C},(∀j∈eR,j<R.length∧(af R j).ah=(af R i).ah-d∧(af R j).nm=(af R i).nm)→b0 a h T b n bX aI→aI (.a6 m)=some (.li acc)→aI (.a6 dH)=some (.li l)→acc.length+eR.length<900→T.length+b+24*eR.length<480000→
  (∀(J:St) (aC:B aP) (H:aT) (gx:Y D),@fC (live (.ref dH) l) (e0 (.ref dH) l) (λ x aF J=>(dh false [6] x aF).bind λ dG=>bS ac (runN ac (z+35)) Gr dG J) (eR.map λ j=>E (j+1)) (x' a k aQ dr m bN) n=some (.br (x' a k aQ dr m gx),J)→b0 a h T (b+24*eR.length) J aC H→H (.a6 m)=some (.li (acc++eR.map λ j=>E (j+1)))→X)→X:=by
 induction eR with
 |nil=>exact λ{n bX aI acc bN b} bt go hm iu bO a3 f=>f n bX aI bN (hf (de go.good iu)) go ((eX acc).symm▸hm)
 |cons j eR aZ=>
  intro n bX aI acc bN b bt go hm iu bO a3 f
  have kz:=bt j (.head _)
  have ag:=g6.go go
  have ak:=r3.go go
  have hV:=ag.eW _ (h2 (iL ay))
  have g:=ag.lG (af R i).nm
  have cp:=N4 (aU:=aU) ag.iQ hV.1 a1 kz.2.1 kz.2.2 g.1
  refine(ak j kz.1).at_ go.good λ aG qe ahd bl _ at_=>?_
  refine OW (z:=z) ag ak go.good (l:=(af R i).ah-d) (j:=j) (k:=k) (bE:=W.dK (af R i).ah d) (pV (a' (nH ..) hV.1)) kz.1 (ag.iQ.lC hV.1 a1) (go.eS fw) (cp.symm▸a' (FV (aU:=aU) ag.iQ hV.1 g).2.1 (aE rfl)) (cn (ha go.le 24) (e' (nG (cn (d2 ..) a3) 24) (aE rfl))) λ AQ ao cL bJ aB cO b8=>?_
  rw[cp]at cO
  refine b8.bT.b7 λ _ _ _ _ I=>?_
  have hK:AQ=dr:=ba.inj I.nodup cO (b8.eS (go.eS rG))
  subst hK
  have h':=b8.a6 hm
  have L:=(go.trans b8).put (c3:=.li (acc++[E (j+1)])) h'.1 kA
  have st:bS ac (runN ac (z+35)) Gr (x' a k aQ AQ m (some (E (j+1)))) n=some (.br (x' a k aQ AQ m (some (E (j+1)))),ao.set m (.li (acc++[E (j+1)]))):=(dk (z+35) Gr (x' a k aQ AQ m (some (E (j+1)))) n _ (ag.mb go.good) _ ((ag.aM.at_ go.good).1) _ (ag.qn go.good kz.1) _ (at_ bl.zJ) _ ((rfl:cY .eq (.ii 0) (.ii 0) n=some true)) _ (ag.mb go.good) _ _ aB _ rfl _ VI (hP h'.2) _ (mY h'.2 (pF (fh (cn (d2 ..) bO) (aE rfl)))))
  exact aZ (λ j m=>bt j (.tail _ m)) L.1 L.2 (mI (b8.a6 iu).1 (tm ne)) (cn (dg (by rw[fg];exact jz ..)) bO) (cn (dg rv) a3)
   λ J aC H gx e hM X0=>f J aC H gx (fc (de go.good iu) st e) (hM.mono (dg rv)) (X0.trans (an (λ l=>some (a0.li l)) (mO ..).symm))
theorem xy{j:C}:j∈hh R l nm↔j<R.length∧(af R j).ah=l∧(af R j).nm=nm:=E7.trans (and_congr_right' ((dI).trans (and_congr jj Vc)))
theorem Aw(h:R.length≤16):(hh R l nm).length≤16:=a' Ev h
theorem acm(ag:c8 a h T W al aU R)(ak:jZ a h T W aU R F)(M:Good a h n)(ay:i<R.length)(a1:d≤(af R i).ah)(fw:ba T k (dM W (af R i).ah d))(rG:ba T dr (jr W aU (af R i)))(a3:T.length<400000)
  (f:∀(m:C) (J:St) (aC:B aP) (H:aT),runN ac (z+36) 51 [.ref (a .eH),E k,.ss [(af R i).nm],.ii 0,.tup [E dr]] n=some (.ref m,J)→b0 a h T 400 J aC H→H (.a6 m)=some (.li ((hh R ((af R i).ah-d) (af R i).nm).map λ j=>E (j+1)))→X):X:=by
 have hV:=ag.eW _ (h2 (iL ay))
 refine v' (ag.iQ.lC hV.1 a1) (λ ks um fJ xn _=>?_) fw
 have b2:=b0.start ag.bT M (.li [])
 have g6:=ag.go b2.1
 have mN:=b2.1.good
 refine Wq (z:=z+34) (F:=F) g6 (ak.go b2.1) mN (l:=(af R i).ah-d) (pV (a' (nH ..) hV.1)) hV.2.1 λ dH ao bJ aB b8 iu cl=>?_
 have ne:dH≠n.length:=λ L=>nomatch(L▸cl).symm.trans b2.2
 have Pn:=GC (z:=z+33) g6.bT mN um
 have lL:(hh R ((af R i).ah-d) (af R i).nm).length≤16:=Aw ag.da
 refine aek (z:=z) (F:=F) (m:=n.length) (dH:=dH) (l:=(hh R ((af R i).ah-d) (af R i).nm).map λ j=>E (j+1)) (aQ:=some (.ss [(af R i).nm])) ag ak ay a1 fw rG (M.fresh (cJ _)) ne (hh R ((af R i).ah-d) (af R i).nm) (bN:=none) (λ j bt=>xy.mp bt) (b2.1.trans b8) (b8.a6 b2.2).1 iu (cn (dg (jh _)) (cn lL (aE rfl))) (e' (r5 a3 (gT 24 lL)) (aE rfl)) λ bW lA cQ bN bZ fW pg=>?_
 have qF:ic (n++[a0.li []]) (E (66+((af R i).ah-d)))=some true:=an some (iK (QK (QJ.mpr (e' (Rw 65) (d2 ..)))))
 exact f n.length bW lA cQ (cN (z+35) 51 [D.ref (a aN.eH),E k,D.ss [(af R i).nm],D.ii 0,D.tup [E dr]] n rfl rfl _ (g6.zy mN) _ _ Pn _ qF _ (g6.mb mN) _ (g6.zy mN) _ _ Pn _ _ aB _ (iw (de b8.good iu)) (a' (dg (cG ..)) (a' lL (aE rfl))) _ _ bZ) (fW.mono (a' (fz (gT 24 lL) 0) (aE rfl))) pg
end
end Mine
end
section
namespace Mine
variable{V:jf}{r:fb}{env:aX}{aa:St}{many:av}{xs:B C}{x:D}{aF:aX}{b7:ab}{eo:fb}{m i:C}{aV aQ bp bh bj bK:Y D}{k d:C}{bB:Y D}
noncomputable def gu(R:B b5)(l nm aM:C):B Nat:=(hh R l nm).filter λ j=>decide ((af R j).aM=aM)
noncomputable def scan(R:B b5)(nm aM:C):C→av→Y (C×C×av)
 |0,_=>none
 |l+1,p=>match gu R l nm aM with
  |j::_=>some (l,j,p||decide ((gu R l nm aM).length< (hh R l nm).length))
  | []=>scan R nm aM l (p||decide (0< (hh R l nm).length))
section
variable{a:bH}{h:aT}{n:St}{T:B aP}{z:C}{W:cw}{aU:C→ap}{R:B b5}{al:B (am×D)}{F:C→C}{X:Prop}
noncomputable def K4:fb:=(.cons (.and (.cons (.e (.call 49 (.cons (.v 0) (.cons (.v 3) (.cons (.v 9) .nil))))) (.cons (.g4 (.e (.bin .band (.bin .bxor (.at (.v 9) 8) (.at (.v 3) 8)) (.gl [77,70,95,83,80,69,67,73,65,76] (.ii 128))))) (.cons (.e (.call 50 (.cons (.v 3) (.cons (.v 9) .nil)))) .nil)))) .nil)
theorem vL{t:Mine.T}{hd:Y (av×St)}(e:fr ac V t env n=some (true,aa))(k:ho ac V r env aa=hd):ho ac V (.cons t r) env n=hd:=aR e ((if_pos rfl).trans k)
theorem Py{t:Mine.T}(e:fr ac V t env n=some (false,aa)):ho ac V (.cons t r) env n=some (false,aa):=aR e (if_neg mL)
theorem UE{v:D}{ao:St}(e:dh many xs x env=some aF)(t:ho ac V eo aF n=some (true,aa))(q:ci ac V b7 aF aa=some (v,ao)):
  ((dh many xs x env).bind λ aF=>(ho ac V eo aF n).bind λ q=>if q.1=true then(ci ac V b7 aF q.2).bind λ r=>some ([r.1],r.2)else some ([],q.2))=some ([v],ao):=aR e (aR t ((if_pos rfl).trans (aR q rfl)))
theorem UH(e:dh many xs x env=some aF)(t:ho ac V eo aF n=some (false,aa)):
  ((dh many xs x env).bind λ aF=>(ho ac V eo aF n).bind λ q=>if q.1=true then(ci ac V b7 aF q.2).bind λ r=>some ([r.1],r.2)else some ([],q.2))=some ([],aa):=aR e (aR t (if_neg mL))
noncomputable def gs(a:bH)(aV aQ:Y D)(i:C)(bp bq bh bj bK bB:Y D):aX:=[some (.ref (a .eH)),aV,aQ,some (.ref (a (.bl i))),bp,bq,bh,bj,bK,bB]
noncomputable def K3(z m:C)(l xs acc:B D)(env:aX)(n:St):Y (B D×St):=@lE (live (.ref m) l) (e0 (.ref m) l) (λ x ao=>(dh false [9] x env).bind λ aF=>(ho ac (runN ac (z+1)) K4 aF ao).bind λ q=>if q.1=true then(ci ac (runN ac (z+1)) (.at (.v 9) 24) aF q.2).bind λ r=>some ([r.1],r.2)else some ([],q.2)) xs acc n
theorem Ws{b:C}{l:B D}{bq hB:Y D}(g6:c8 a h T W al aU R)(r3:jZ a h T W aU R F)(hx:qN R F)(ay:i<R.length)(eR:B C):∀{n:St} {bX:B aP} {aI:aT} {acc:B D},(∀j∈eR,j<R.length)→b0 a h T b n bX aI→aI (.a6 m)=some (.li l)→
  (∀(J:St),K3 z m l (eR.map λ j=>.ref (a (.bl j))) acc (gs a aV aQ i bp bq bh bj bK hB) n=some (acc++(eR.filter λ j=>decide ((af R j).aM=(af R i).aM)).map λ j=>E (j+1),J)→b0 a h T b J bX aI→X)→X:=by
 induction eR with
 |nil=>exact λ{n bX aI acc} bt go hm f=>f n ((jE (de go.good hm)).trans (an (λ l=>some (l,n)) (eX acc).symm)) go
 |cons j eR aZ=>
  intro n bX aI acc bt go hm f
  have kz:=bt j (.head _)
  have lH:∀j∈eR,j<R.length:=λ j m=>bt j (.tail _ m)
  have ag:=g6.go go
  have ak:=r3.go go
  refine(ak j kz).at_ go.good λ aG g dr bl _ at_=>?_
  refine(ak i ay).at_ go.good λ agV uE ahe gN _ CZ=>?_
  have dq:=de go.good hm
  have er:fr ac (runN ac (z+1)) (.e (.call 49 (.cons (.v 0) (.cons (.v 3) (.cons (.v 9) .nil))))) (gs a aV aQ i bp bq bh bj bK (some (.ref (a (.bl j))))) n=some (true,n):=(jc (z+1) (Mine.T.e (ab.call 49 (d6.cons (ab.v 0) (d6.cons (ab.v 3) (d6.cons (ab.v 9) d6.nil))))) (gs a aV aQ i bp bq bh bj bK (some (D.ref (a (aN.bl j))))) n _ _ (ad4 (z:=z) (x:=.ref (a .eH)) (y:=.ref (a (.bl i))) (at_ bl.uu)) _ rfl)
  refine agb (n:=n) (hx j kz) (hx i ay) (ag.eW _ (h2 (iL kz))).2.2 (ag.eW _ (h2 (iL ay))).2.2 λ L w au aB bZ=>?_
  cases q:decide ((af R j).aM=(af R i).aM)with
  |false=>
   rw[q]at bZ
   have eN:fr ac (runN ac (z+1)) (.g4 (.e (.bin .band (.bin .bxor (.at (.v 9) 8) (.at (.v 3) 8)) (.gl [77,70,95,83,80,69,67,73,65,76] (.ii 128))))) (gs a aV aQ i bp bq bh bj bK (some (.ref (a (.bl j))))) n=some (false,n):=(jc (z+1) ((Mine.T.e (ab.bin iR.band (ab.bin iR.bxor ((ab.v 9).at 8) ((ab.v 3).at 8)) (ab.gl [77,70,95,83,80,69,67,73,65,76] (D.ii 128)))).g4) (gs a aV aQ i bp bq bh bj bK (some (D.ref (a (aN.bl j))))) n _ (at_ bl.f8) _ (CZ gN.f8) _ au _ aB _ bZ)
   exact aZ (acc:=acc++[]) lH go hm λ J e hM=>f J (h6 dq (UH rfl (Py (t:=.and _) (vL er (Py eN)))) (e.trans (by rw[B5 (p:=λ j=>decide ((af R j).aM=(af R i).aM)) (a:=j) (rW.mp q),eX]))) hM
  |true=>
   rw[q]at bZ
   have b8:=(go.kD (.li [.ii 0])).kD (.li [.ii 0])
   have eN:fr ac (runN ac (z+1)) (.g4 (.e (.bin .band (.bin .bxor (.at (.v 9) 8) (.at (.v 3) 8)) (.gl [77,70,95,83,80,69,67,73,65,76] (.ii 128))))) (gs a aV aQ i bp bq bh bj bK (some (.ref (a (.bl j))))) n=some (true,n):=(jc (z+1) ((Mine.T.e (ab.bin iR.band (ab.bin iR.bxor ((ab.v 9).at 8) ((ab.v 3).at 8)) (ab.gl [77,70,95,83,80,69,67,73,65,76] (D.ii 128)))).g4) (gs a aV aQ i bp bq bh bj bK (some (D.ref (a (aN.bl j))))) n _ (at_ bl.f8) _ (CZ gN.f8) _ au _ aB _ bZ)
   have jT:=ab7 (z:=z) (n:=n) (x:=.ref (a (.bl i))) (y:=.ref (a (.bl j))) (CZ gN.zL) λ b9=>(ak j kz).at_ (go.ml b9).good λ _ _ _ bl _ at_=>at_ bl.zL
   have hq:fr ac (runN ac (z+1)) (.e (.call 50 (.cons (.v 3) (.cons (.v 9) .nil)))) (gs a aV aQ i bp bq bh bj bK (some (.ref (a (.bl j))))) n=some (true,n++[.li [.ii 0]]++[.li [.ii 0]]):=(jc (z+1) (Mine.T.e (ab.call 50 (d6.cons (ab.v 3) (d6.cons (ab.v 9) d6.nil)))) (gs a aV aQ i bp bq bh bj bK (some (D.ref (a (aN.bl j))))) n _ _ jT _ rfl)
   have b7:ci ac (runN ac (z+1)) (.at (.v 9) 24) (gs a aV aQ i bp bq bh bj bK (some (.ref (a (.bl j))))) (n++[.li [.ii 0]]++[.li [.ii 0]])=some (E (j+1),n++[.li [.ii 0]]++[.li [.ii 0]]):=aR rfl ((ak j kz).at_ b8.good λ _ _ _ bl _ at_=>aR (at_ bl.DG) rfl)
   exact aZ (acc:=acc++[E (j+1)]) lH b8 hm λ J e hM=>f J (h6 dq (UE rfl (vL (t:=.and _) (vL er (vL eN (vL hq rfl))) rfl) b7) (e.trans (an (λ l=>some (l,J)) ((mO ..).symm.trans (an (λ l=>acc++eA (λ j=>E (j+1)) l) (B6 (p:=λ j=>decide ((af R j).aM=(af R i).aM)) (a:=j) q).symm))))) hM
noncomputable def ES:ab:=(.comp (.aq (.at (.at (.v 0) 47) 15) (.v 8)) [8] false (.call 51 (.cons (.v 0) (.cons (.v 5) (.cons (.at (.v 3) 6) (.cons (.at (.v 3) 27) (.cons (.at (.v 3) 11) .nil)))))) (.cons (.cmp .ne (.at (.aq (.at (.at (.v 0) 47) 15) (.v 8)) 26) (.gl [65,95,80,82,73,86,65,84,69] (.ii 1))) .nil))
noncomputable def DI:ab:=(.comp (.at (.v 9) 24) [9] false (.v 6) K4)
noncomputable def ue:bk:=(.cons (.b4 (.e (.v 7)) (.cons (.ret (.tup (.cons (.v 5) (.cons (.aq (.v 7) (.ii 0)) (.cons (.len (.v 7)) (.cons (.or (.cons (.v 4) (.cons (.cmp .gt (.len (.v 6)) (.len (.v 7))) .nil))) .nil)))))) .nil) (.nil)) (.cons (.asg 4 (.or (.cons (.v 4) (.cons (.cmp .gt (.len (.v 6)) (.ii 0)) .nil)))) .nil))
noncomputable def zo:bk:=(.cons (.asg 6 ES) (.cons (.asg 7 DI) ue))
noncomputable def po(R:B b5)(i d:C):B Nat:=hh R ((af R i).ah-d) (af R i).nm
noncomputable def it(R:B b5)(i d:C):B Nat:=gu R ((af R i).ah-d) (af R i).nm (af R i).aM
theorem ZY(ag:c8 a h T W al aU R)(ak:jZ a h T W aU R F)(M:Good a h n)(ay:i<R.length)(a1:d≤(af R i).ah)(fw:ba T k (dM W (af R i).ah d))(a3:T.length<400000)
  (f:∀(m:C) (J:St) (aC:B aP) (H:aT),ci ac (runN ac (z+36)) ES (gs a aV aQ i bp (some (E k)) bh bj bK bB) n=some (.ref m,J)→b0 a h T 400 J aC H→H (.a6 m)=some (.li ((po R i d).map λ j=>.ref (a (.bl j))))→X):X:=by
 refine(ak i ay).at_ M λ aG g dr bl rG at_=>?_
 refine acm (z:=z) ag ak M ay a1 fw rG a3 λ m aa bX aI au cW hN=>?_
 have pL:=ag.go cW
 have en:=b0.start cW.bT cW.good (.li ((po R i d).map λ j=>.ref (a (.bl j))))
 have n8:=de cW.good hN
 have gM:=sy (V:=runN ac (z+36)) (env:=gs a aV aQ i bp (some (E k)) bh bj bK bB) (x:=8) (eo:=.cons (.cmp .ne (.at (.aq (.at (.at (.v 0) 47) 15) (.v 8)) 26) (.gl [65,95,80,82,73,86,65,84,69] (.ii 1))) .nil) (b7:=.aq (.at (.at (.v 0) 47) 15) (.v 8)) (f:=λ j=>E (j+1)) (acc:=[]) (eR:=po R i d) n8 (p:=λ _=>true) (g:=λ j=>.ref (a (.bl j))) λ j bt=>by
  have lH:=(xy.mp bt).1
  have aq:=pL.qn cW.good lH
  have he:=pL.mb cW.good
  have ip:=(pL.aM.at_ cW.good).1
  refine(ak.go cW j lH).at_ cW.good λ _ _ _ bl _ at_=>⟨vL (aa:=aa) ?_ rfl,?_⟩
  ·have t:fr ac (runN ac (z+36)) (.cmp .ne (.at (.aq (.at (.at (.v 0) 47) 15) (.v 8)) 26) (.gl [65,95,80,82,73,86,65,84,69] (.ii 1))) (gs a aV aQ i bp (some (E k)) bh bj (some (E (j+1))) bB) aa=some (true,aa):=(jc (z+36) (Mine.T.cmp je.ne (((((ab.v 0).at 47).at 15).aq (ab.v 8)).at 26) (ab.gl [65,95,80,82,73,86,65,84,69] (D.ii 1))) (gs a aV aQ i bp (some (E k)) bh bj (some (E (j+1))) bB) aa _ he _ ip _ aq _ (at_ bl.uu) _ ((rfl:cY .ne (.ii 6) (.ii 1) aa=some true)))
   exact t
  ·have t:ci ac (runN ac (z+36)) (.aq (.at (.at (.v 0) 47) 15) (.v 8)) (gs a aV aQ i bp (some (E k)) bh bj (some (E (j+1))) bB) aa=some (.ref (a (.bl j)),aa):=(hH (z+36) ((((ab.v 0).at 47).at 15).aq (ab.v 8)) (gs a aV aQ i bp (some (E k)) bh bj (some (E (j+1))) bB) aa _ he _ ip _ aq)
   exact t
 rw[B7.mpr (λ _ _=>rfl)]at gM
 exact f aa.length _ bX _ (hH (z+36) ES (gs a aV aQ i bp (some (E k)) bh bj bK bB) n _ (at_ bl.nX) _ (at_ bl.zJ) _ (at_ bl.zI) _ _ au _ (iw n8) (a' (dg (cG ..)) (a' (Aw ag.da) (aE rfl))) _ _ gM) ((cW.trans en.1).mono (cJ _)) en.2
theorem uY{α:Type}{f:α→D}{l:B α}(e:n[m]? =some (.li (l.map f))):k' n (.ref m)=some (l.length:am):=(ro e).trans (an (λ z:C=>some (z:am)) (cG f))
theorem Ux(ag:c8 a h T W al aU R)(ak:jZ a h T W aU R F)(hx:qN R F)(M:Good a h n){p:av}{bN bm:Y D}(ay:i<R.length)(a1:d≤(af R i).ah)(fw:ba T k (dM W (af R i).ah d))(a3:T.length<400000)
  (f:∀(J:St) (aC:B aP) (H:aT) (gx mz:Y D),b0 a h T 400 J aC H→
   (∀j r,it R i d=j::r→bS ac (runN ac (z+36)) zo (gs a aV aQ i (some (.cj p)) (some (E k)) bN bm bK bB) n=some (.f3 (.tup [E k,E (j+1),E (it R i d).length,.cj (p||decide ((it R i d).length< (po R i d).length))]),J))→
   (it R i d=[]→bS ac (runN ac (z+36)) zo (gs a aV aQ i (some (.cj p)) (some (E k)) bN bm bK bB) n=some (.br (gs a aV aQ i (some (.cj (p||decide (0< (po R i d).length)))) (some (E k)) gx mz bK bB),J))→X):X:=by
 refine ZY (z:=z) (aV:=aV) (aQ:=aQ) (bp:=some (.cj p)) (bh:=bN) (bj:=bm) (bK:=bK) (bB:=bB) ag ak M ay a1 fw a3 λ m aa bX aI au cW hN=>?_
 refine Ws (z:=z+35) (m:=m) (l:=(po R i d).map λ j=>.ref (a (.bl j))) (aV:=aV) (aQ:=aQ) (bp:=some (.cj p)) (bq:=some (E k)) (bh:=some (.ref m)) (bj:=bm) (bK:=bK) (hB:=bB) ag ak hx ay (po R i d) (acc:=[]) (λ j bt=>(xy.mp bt).1) cW hN λ ao aB b8=>?_
 have en:=b0.start b8.bT b8.good (.li ((it R i d).map λ j=>E (j+1)))
 have u4:=uY (de en.1.good (en.1.off (r:=.a6 m) rfl hN))
 have Ac:=de en.1.good en.2
 have xq:=uY Ac
 have aB:K3 (z+35) m ((po R i d).map λ j=>.ref (a (.bl j))) ((po R i d).map λ j=>.ref (a (.bl j))) [] (gs a aV aQ i (some (.cj p)) (some (E k)) (some (.ref m)) bm bK bB) aa=some ((it R i d).map λ j=>E (j+1),ao):=aB
 have DA:ci ac (runN ac (z+36)) DI (gs a aV aQ i (some (.cj p)) (some (E k)) (some (.ref m)) bm bK bB) aa=some (.ref ao.length,ao++[.li ((it R i d).map λ j=>E (j+1))]):=(hH (z+36) DI (gs a aV aQ i (some (D.cj p)) (some (E k)) (some (D.ref m)) bm bK bB) aa _ (iw (de cW.good hN)) (a' (dg (cG ..)) (a' (Aw ag.da) (aE rfl))) _ _ aB)
 have a1:∀{hd},bS ac (runN ac (z+36)) ue (gs a aV aQ i (some (.cj p)) (some (E k)) (some (.ref m)) (some (.ref ao.length)) bK bB) (ao++[.li ((it R i d).map λ j=>E (j+1))])=hd→bS ac (runN ac (z+36)) zo (gs a aV aQ i (some (.cj p)) (some (E k)) bN bm bK bB) n=hd:=λ e=>aR (aR au rfl) (aR (aR DA rfl) e)
 refine f _ bX _ (some (.ref m)) (some (.ref ao.length)) (b8.trans en.1) (λ j r cl=>a1 ?_) λ cl=>a1 ?_
 ·have qF:=(GG Ac).trans (an (λ l=>some (!(eA (λ j=>E (j+1)) l).isEmpty)) cl)
  have Mm:=j6 (k:=0) Ac (i7 (cl▸rfl:(it R i d)[0]? =some j))
  cases p with
  |false=>exact(dk (z+36) ue (gs a aV aQ i (some (D.cj false)) (some (E k)) (some (D.ref m)) (some (D.ref (f9 ao))) bK bB) (ao++[a0.li (eA (λ j=>E (j+1)) (it R i d))]) _ qF _ Mm _ xq _ rfl _ u4 _ xq _ nT)
  |true=>exact(dk (z+36) ue (gs a aV aQ i (some (D.cj true)) (some (E k)) (some (D.ref m)) (some (D.ref (f9 ao))) bK bB) (ao++[a0.li (eA (λ j=>E (j+1)) (it R i d))]) _ qF _ Mm _ xq _ rfl)
 ·have qF:=(GG Ac).trans (an (λ l=>some (!(eA (λ j=>E (j+1)) l).isEmpty)) cl)
  cases p with
  |false=>exact(dk (z+36) ue (gs a aV aQ i (some (D.cj false)) (some (E k)) (some (D.ref m)) (some (D.ref (f9 ao))) bK bB) (ao++[a0.li (eA (λ j=>E (j+1)) (it R i d))]) _ qF _ rfl _ u4 _ (nT (y:=0)))
  |true=>exact(dk (z+36) ue (gs a aV aQ i (some (D.cj true)) (some (E k)) (some (D.ref m)) (some (D.ref (f9 ao))) bK bB) (ao++[a0.li (eA (λ j=>E (j+1)) (it R i d))]) _ qF _ rfl)
end
end Mine
end
section
namespace Mine
variable{l nm aM j:C}{p:av}{m i:C}
section
variable{a:bH}{h:aT}{n:St}{T:B aP}{z:C}{W:cw}{aU:C→ap}{R:B b5}{al:B (am×D)}{F:C→C}{X:Prop}
theorem ru:j∈gu R l nm aM↔j<R.length∧(af R j).ah=l∧(af R j).nm=nm∧(af R j).aM=aM:=
 oN.trans ((and_congr xy Vc).trans ⟨λ L=>⟨L.1.1,L.1.2.1,L.1.2.2,L.2⟩,λ L=>⟨⟨L.1,L.2.1,L.2.2.1⟩,L.2.2.2⟩⟩)
theorem K7{dq:St→Prop}{jk:qL dq}{step:D→aX→St→Y (eZ×St)}{x v:D}{r:B D}{env:aX}{J:St}(h:dq n)(e:step x env n=some (.f3 v,J)): @fC dq jk step (x::r) env n=some (.f3 v,J):=(if_pos h).trans (aR e rfl)
theorem d1.sz{ks:B C}{t:ap}{bE:B ap}(q:d1 T ks (t::bE))(f:∀k fI,ks=k::fI→ba T k t→d1 T fI bE→X):X:=match ks,q with
 |k::ks,q=>f k ks rfl q.1 q.2
theorem pt{k b x:C}:b+k+k*x=b+k*(x+1):=(mP b k _).trans (an (b+·) (qS ..))
theorem Bb{r:B C}(cl:gu R l nm aM=j::r):scan R nm aM (l+1) p=some (l,j,p||decide ((gu R l nm aM).length< (hh R l nm).length)):=
 an (λ x:B C=>match x with|j::_=>some (l,j,p||decide ((gu R l nm aM).length< (hh R l nm).length))| []=>scan R nm aM l (p||decide (0< (hh R l nm).length))) cl
theorem x5(cl:gu R l nm aM=[]):scan R nm aM (l+1) p=scan R nm aM l (p||decide (0< (hh R l nm).length)):=
 an (λ x:B C=>match x with|j::_=>some (l,j,p||decide ((gu R l nm aM).length< (hh R l nm).length))| []=>scan R nm aM l (p||decide (0< (hh R l nm).length))) cl
theorem bm_loop{l:B D}{aV aQ bK bB:Y D}(g6:c8 a h T W al aU R)(r3:jZ a h T W aU R F)(hx:qN R F)(ay:i<R.length)(c:C):∀{d b:C} {p f2:av} {aO j:C} {ks:B C} {n:St} {bX:B aP} {aI:aT} {o5 bN bm:Y D},c+d=(af R i).ah+1→d1 bX ks ((pS d c).map (dM W (af R i).ah))→b0 a h T b n bX aI→aI (.a6 m)=some (.li l)→scan R (af R i).nm (af R i).aM c p=some (aO,j,f2)→T.length+b+400*c<400000→
  (∀(J:St) (aC:B aP) (H:aT) (k:C),@fC (live (.ref m) l) (e0 (.ref m) l) (λ x aF J=>(dh false [5] x aF).bind λ dG=>bS ac (runN ac (z+36)) zo dG J) (ks.map E) (gs a aV aQ i (some (.cj p)) o5 bN bm bK bB) n=some (.f3 (.tup [E k,E (j+1),E (gu R aO (af R i).nm (af R i).aM).length,.cj f2]),J)→ba aC k (dM W (af R i).ah ((af R i).ah-aO))→aO<c→j∈gu R aO (af R i).nm (af R i).aM→b0 a h T (b+400*c) J aC H→X)→X:=by
 induction c with
 |zero=>exact λ{d b p f2 aO j ks n bX aI o5 bN bm} hc fJ go hm hs=>nomatch hs
 |succ c aZ=>
  intro d b p f2 aO j ks n bX aI o5 bN bm hc fJ go hm hs a3 f
  refine d1.sz (bE:=(pS (d+1) c).map (dM W (af R i).ah)) fJ λ k fI dp fw xX=>?_
  subst dp
  have a1:=oQ ((Rt c d).symm.trans hc)
  have hl:(af R i).ah-d=c:=by rw[←a1,Rf]
  have Es:bX.length<400000:=cn (a' go.le (d2 ..)) a3
  refine Ux (z:=z) (p:=p) (aV:=aV) (aQ:=aQ) (bN:=bN) (bm:=bm) (bK:=bK) (bB:=bB) (g6.go go) (r3.go go) hx go.good ay (a1▸iE ..) fw Es λ ao cL bJ gx mz b8 m7 Ng=>?_
  have Vs:it R i d=gu R c (af R i).nm (af R i).aM:=an (λ l=>gu R l (af R i).nm (af R i).aM) hl
  have pa:po R i d=hh R c (af R i).nm:=an (λ l=>hh R l (af R i).nm) hl
  rw[Vs,pa]at m7 Ng
  have dq:=de go.good hm
  have jK:=go.trans b8
  cases cl:gu R c (af R i).nm (af R i).aM with
  |cons fR r=>
   have L:=lj (Bb cl) hs
   cases L
   exact f ao cL bJ k (K7 dq (m7 _ _ cl)) ((by rw[←hl,r8 (a1▸iE ..)]:d=(af R i).ah-c)▸b8.eS fw) (qT c) (cl▸.head _) (jK.mono (fz (iE 400 (400*c)) b))
  |nil=>
   exact aZ (d:=d+1) (b:=b+400) (o5:=some (E k)) (bN:=gx) (bm:=mz) ((jz c d).symm.trans hc) (xX.more λ q=>b8.eS q) jK (b8.a6 hm).1 ((x5 cl).symm.trans hs) (pt (k:=400) (b:=T.length+b)▸a3) λ J aC H ct aB cO eD dH g2=>
    f J aC H ct (fc dq (Ng cl) aB) cO (pW eD) dH (g2.mono (dg pt))
theorem DQ{l:B D}(e:n[m]? =some (.li l)):uw n (.ref m) (.ii 1)=some (l.drop 1):=an (sS λ l=>some (l.drop 1)) e
theorem aaC(ag:c8 a h T W al aU R)(ak:jZ a h T W aU R F)(hx:qN R F)(M:Good a h n){aO:C}(ay:i<R.length)(hs:scan R (af R i).nm (af R i).aM (af R i).ah false=some (aO,j,p))(a3:T.length<300000)
  (f:∀(J:St) (aC:B aP) (H:aT) (k:C),runN ac (z+37) 48 [.ref (a .eH),E (66+(af R i).ah),E (i+1)] n=some (.tup [E k,E (j+1),E (gu R aO (af R i).nm (af R i).aM).length,.cj p],J)→ba aC k (dM W (af R i).ah ((af R i).ah-aO))→aO< (af R i).ah→j∈gu R aO (af R i).nm (af R i).aM→b0 a h T 1300 J aC H→X):X:=by
 have hV:=ag.eW _ (h2 (iL ay))
 refine OP (z:=z+27) ag M (l:=(af R i).ah) (pV hV.1) (fh a3 (aE rfl)) λ eU aa bX aI au d' cW=>?_
 refine Ke (z:=z+34) (ag.go cW) cW.good hV.1 d' λ m ao bJ ks aB b8 hm cl fJ=>?_
 rw[Cd]at fJ
 refine d1.sz (bE:=(pS 1 (af R i).ah).map (dM W (af R i).ah)) fJ λ eU fI dp _ Od=>?_
 subst dp
 have sE:=cW.trans b8
 have en:=b0.start sE.bT sE.good (.li (fI.map E))
 have uP:T.length+(3+0+0)+400*(af R i).ah<400000:=e' (r5 (nG a3 3) (gT 400 hV.1)) (aE rfl)
 refine bm_loop (z:=z) (m:=ao.length) (l:=fI.map E) (aV:=some (E (66+(af R i).ah))) (aQ:=some (E (i+1))) (bK:=none) (bB:=none) (o5:=none) (bN:=none) (bm:=none) ag ak hx ay (af R i).ah (d:=1) rfl Od (sE.trans en.1) en.2 hs uP λ J aC H k bZ j7 pl eh fW=>?_
 have xn:(fI.map E).length≤100000:=by rw[cG,Od.len,cG,Q0];exact a' hV.1 (aE rfl)
 exact f J aC H k (cN (z+36) 48 [D.ref (a aN.eH),E (66+(af R i).ah),E (i+1)] n rfl rfl _ (ag.mb M) _ ((ag.aM.at_ M).1) _ (ag.qn M ay) _ (ag.zz M) _ (ag.BO M) _ (ag.mb M) _ _ au _ _ aB _ (DQ (de b8.good hm)) _ (iw (de en.1.good en.2)) xn _ _ bZ) j7 pl eh (fW.mono (a' (fz (gT 400 hV.1) _) (aE rfl)))
end
end Mine
end
section
namespace Mine
variable{c i j l x s k:C}{xs:B D}{O:B (C×ap×C)}{e:C×ap×C}
section
variable{a:bH}{h:aT}{n:St}{T:B aP}{z:C}{W:cw}{aU:C→ap}{R:B b5}{al:B (am×D)}{F:C→C}{X:Prop}
theorem ik.same(I:ik R c)(ay:i<R.length)(bt:j<R.length)(au:(af R i).ah=(af R j).ah)(aB:(af R i).nm=(af R j).nm)(bZ:(af R i).aM=(af R j).aM):i=j:=
 (B9 (l:=R.map ix) (by rw[cG];exact ay) I.uniq).mp ((i7 (iL ay)).trans (BY ((i7 (iL bt)).trans (an some (by unfold ix;rw[au,aB,bZ])))))
theorem Wt{nm aM:C}(I:ik R c):(gu R l nm aM).length≤1:=
 Rl λ h=>absurd ((B9 (l:=gu R l nm aM) (i:=0) (j:=1) (mQ h) ((wc.filter _).filter _)).mp ((h1 (mQ h)).trans (BY ((h1 h).trans (an some
  (have p:=ru.mp (yF h);have q:=ru.mp (yF (mQ h));I.same p.1 q.1 (p.2.1.trans q.2.1.symm) (p.2.2.1.trans q.2.2.1.symm) (p.2.2.2.trans q.2.2.2.symm))))))) Cq
@[elab_as_elim] theorem WA{ak:C→Prop}(aA:x=2+128*s∨x=6+128*s)(hs:s≤1)(rE:ak 2)(gj:ak 6)(fS:ak 130)(eM:ak 134):ak x:=
 rn (ak:=λ s=>(x=2+128*s∨x=6+128*s)→ak x) hs (λ aA=>aA.elim (λ e=>e▸rE) λ e=>e▸gj) (λ aA=>aA.elim (λ e=>e▸fS) λ e=>e▸eM) aA
theorem K5(aA:x=2+128*s∨x=6+128*s)(hs:s≤1):fF .band (E x) (.ii 2)=some (.ii 2)∧fF .band (E x) (.ii 1)=some (.ii 0)∧fF .band (E x) (.ii 16)=some (.ii 0)∧fF .band (E x) (.ii 8)=some (.ii 0):=
 WA (ak:=λ x=>fF .band (E x) (.ii 2)=some (.ii 2)∧fF .band (E x) (.ii 1)=some (.ii 0)∧fF .band (E x) (.ii 16)=some (.ii 0)∧fF .band (E x) (.ii 8)=some (.ii 0)) aA hs ⟨rfl,rfl,rfl,rfl⟩ ⟨rfl,rfl,rfl,rfl⟩ ⟨rfl,rfl,rfl,rfl⟩ ⟨rfl,rfl,rfl,rfl⟩
theorem abD(ag:c8 a h T W al aU R)(ak:jZ a h T W aU R F)(hx:qN R F)(M:Good a h n){aO len:C}{p:av}(ay:i<R.length)(bt:j<R.length)(e5:aO< (af R i).ah)(n3:(af R j).ah=aO)(XQ:(af R j).nm=(af R i).nm)(q:ba T k (dM W (af R i).ah ((af R i).ah-aO)))(i1:len≤1)(a3:T.length<400000)
  (f:∀(J:St) (aC:B aP) (H:aT),runN ac (z+36) 47 [.ref (a .eH),.ref (a (.bl i)),.ref (a (.bl j)),.tup [E k,E (j+1),E len,.cj p]] n=some (.ii 0,J)→b0 a h T 24 J aC H→X):X:=by
 have hE:=ag.eW _ (h2 (iL ay))
 have adj:=ag.eW _ (h2 (iL bt))
 have b:=K5 (hx j bt) adj.2.2
 have pa:=r8 (h3 e5)
 have a1:=nH (af R i).ah aO
 have cp:=N4 (aU:=aU) ag.iQ (r:=af R i) (bw:=af R j) hE.1 a1 (n3.trans pa.symm) XQ (ag.lG (af R i).nm).1
 have q:ba T k (gX (66+aO) (W.dK (af R i).ah ((af R i).ah-aO))):=by unfold dM at q;rwa [pa]at q
 refine(ak i ay).at_ M λ _ _ _ gN _ SO=>?_
 refine(ak j bt).at_ M λ _ _ _ E9 _ wv=>?_
 refine OW (z:=z) ag ak M (l:=aO) (j:=j) (k:=k) (bE:=W.dK (af R i).ah ((af R i).ah-aO)) (e' e5 (lr hE.1)) bt (ag.iQ.lC hE.1 a1) q (cp.symm▸a' (FV (aU:=aU) ag.iQ hE.1 (ag.lG (af R i).nm)).2.1 (aE rfl)) (e' (nG a3 24) (aE rfl)) λ dr J aC H e cO go=>?_
 refine((ak.go go) i ay).at_ go.good λ _ _ _ Nf _ Jp=>?_
 refine((ak.go go) j bt).at_ go.good λ _ _ _ aaS _ SP=>?_
 have cz:cY .eq (.ss [(af R i).nm]) (.ss [70,105,110,97,108,105,122,101]) n=some false:=hE.2.1.elim (λ L=>by rw[L];rfl) λ L=>by rw[L];rfl
 exact f J aC H (cN (z+35) 47 [D.ref (a aN.eH),D.ref (a (aN.bl i)),D.ref (a (aN.bl j)),D.tup [E k,E (j+1),E len,D.cj p]] n rfl rfl _ (SO gN.nX) _ cz _ rfl _ (iJ (nT (y:=1)) (r6.mpr i1)) _ (wv E9.f8) _ b.1 _ rfl _ (wv E9.f8) _ b.2.1 _ rfl _ (wv E9.f8) _ b.2.2.1 _ rfl _ (ag.mb M) _ rfl _ rfl _ _ e _ rfl _ (Jp Nf.zK) _ ((rfl:cY .ne (E 0) (.ii 0) J=some false)) _ (SP aaS.uu) _ ((rfl:cY .ne (E 0) (.ii 0) J=some false)) _ (Jp Nf.uu) _ ((rfl:cY .ne (E 0) (.ii 0) J=some false))) go
noncomputable def es(T:B aP):B D→B (C×ap×C)→Prop
 | [],[]=>True
 |x::xs,e::O=>(∃k,x= .tup [E e.1,E k,E e.2.2]∧ba T k e.2.1)∧es T xs O
 |_,_=>False
noncomputable def iM(e:C×ap×C)(k:C):D:=.tup [E e.1,E k,E e.2.2]
@[elab_as_elim] theorem es.b7{ak:B D→B (C×ap×C)→Prop}(z:ak [] [])(c:∀k e xs O,ba T k e.2.1→es T xs O→ak xs O→ak (iM e k::xs) (e::O)):∀{O:B (C×ap×C)} {xs:B D},es T xs O→ak xs O
 | [],[],_=>z
 |e::O,x::xs,⟨⟨k,L,q⟩,r⟩=>L▸c k e xs O q r (es.b7 z c r)
theorem es.more{aC:B aP}(m:∀{k:C} {t:ap},ba T k t→ba aC k t)(I:es T xs O):es aC xs O:=I.b7 trivial λ k _ _ _ q _ r=>⟨⟨k,rfl,m q⟩,r⟩
theorem es.len(I:es T xs O):xs.length=O.length:=I.b7 rfl λ _ _ _ _ _ _ r=>an l1 r
theorem es.add(q:ba T k e.2.1)(I:es T xs O):es T (xs++[iM e k]) (O++[e]):=I.b7 (ak:=λ xs O=>es T (xs++[iM e k]) (O++[e])) ⟨⟨k,rfl,q⟩,trivial⟩ λ k _ _ _ q _ r=>⟨⟨k,rfl,q⟩,r⟩
theorem YR{f:C×ap×C}{ct:C}(cy:T.Nodup)(q:ba T k e.2.1)(ep:ba T ct f.2.1)(aaZ:¬(f.1=e.1∧f.2.1=e.2.1∧f.2.2=e.2.2)):fH n 2 (iM f ct) (iM e k)=false:=rW.mpr λ L=>by
 have L:(decide ((f.1:am)=e.1)&&(decide ((ct:am)=k)&&(decide ((f.2.2:am)=e.2.2)&&true)))=true:=L
 have d4:=dI.mp L
 have d5:=dI.mp d4.2
 have dp:=tJ (gh d5.1)
 exact aaZ ⟨tJ (gh d4.1),(dp▸ep).a6 q,tJ (gh (dI.mp d5.2).1)⟩
theorem es.eK(I:es T xs O):xs.all (Mine.eK n 2)=true:=I.b7 rfl λ _ _ _ _ _ _ r=>r
theorem es.abB(cy:T.Nodup)(q:ba T k e.2.1)(I:es T xs O):(∀x∈O,¬(x.1=e.1∧x.2.1=e.2.1∧x.2.2=e.2.2))→(xs.any λ x=>fH n 2 x (iM e k))=false:=
 I.b7 (ak:=λ xs O=>(∀x∈O,¬(x.1=e.1∧x.2.1=e.2.1∧x.2.2=e.2.2))→(xs.any λ x=>fH n 2 x (iM e k))=false) (λ _=>rfl) λ ct f xs O ep _ r ne=>Qp.mpr ⟨YR cy q ep (ne f (.head _)),r λ x m=>ne x (.tail _ m)⟩
theorem abp{m:C}{v:D}(e:n[m]? =some (.li xs))(o:xs.all (eK n 2)=true)(c3:eK n 2 v=true)(f:(xs.any λ x=>fH n 2 x v)=false):cY .mx v (.ref m) n=some true:=
 (an (λ o:Y a0=>qU (!·) (match o with|some (.li xs)=>xe n v xs|some (.cq O)=>jN (λ i=>some (O.lookup i).isSome) v|_=>none)) e).trans (an (qU (!·)) ((if_pos (dI.mpr ⟨o,c3⟩)).trans (an some f)))
theorem L5{e1:C}(M:Good a h n)(bT:c6 a h T)(jT:d7 n (.ref (a .store)) 36=some (.ref (a .types)))(te:dd n (.ref (a .types)) (E e1)=some (.ref (a (.ty l))))(lR:d7 n (.ref (a (.ty l))) 19=some (.ref (a (.cM l))))(dj:h (.cM l)=some (.li xs))(im:es T xs O)(q:ba T k e.2.1)(hl:O.length<900)(ne:∀x∈O,¬(x.1=e.1∧x.2.1=e.2.1∧x.2.2=e.2.2))
  (f:∀J,runN ac (z+2) 36 [.ref (a .store),E e1,E e.1,E k,E e.2.2] n=some (.nn,J)→Good a (up h (.cM l) (some (.li (xs++[iM e k])))) J→X):X:=
 bT.b7 λ _ _ _ _ I=>M.l8 (v:=iM e k) dj (im.len▸fh hl (aE rfl)) λ J ez dF=>by
  have at_:=M.at_ _ _ dj
  have hK:runN ac (z+1) 35 [.ref (a (.cM l)),iM e k] n=some (.nn,J):=(cN z 35 [D.ref (a (aN.cM l)),iM e k] n rfl rfl _ (abp at_ im.eK rfl (im.abB I.nodup q ne)) (hP at_) _ ez)
  exact f J (cN (z+1) 36 [D.ref (a aN.store),E e1,E e.fst,E k,E e.snd.snd] n rfl rfl _ jT _ te _ lR _ _ hK) dF
end
end Mine
end
section
namespace Mine
variable{e:C×ap×C}{I:C→B (C×ap×C)}{c aO i j:C}{p:av}{xs:B D}{O:B (ap×C)}
section
variable{T:B aP}{W:cw}{R:B b5}{X:Prop}
structure nB(W:cw)(R:B b5)(I:C→B (C×ap×C))(c:C):Prop where
 each:∀l,l<4→∀e∈I l,(e.2.1= .b2 34∧e.2.2=900)∨∃r,r<R.length∧e.2.2=r+1∧(af R r).ah<l∧e.2.1=dM W l (l- (af R r).ah)
 dist:∀l,l<4→∀m,(((I l).filter λ e=>e.1==m&&e.2.2 != 900).map λ e=>e.2.2).Nodup
 cnt:∀l,l<4→∀m,((I l).filter λ e=>e.1==m&&e.2.2 != 900).length≤l
 len:∀l,l<4→(I l).length≤20+3*c
noncomputable def hn(W:cw)(R:B b5)(I:C→B (C×ap×C))(i aO j:C)(p:av):B (ap×C):=
 (if p=true then [(dM W (af R i).ah ((af R i).ah-aO),j+1)]else [])++((I aO).filter λ e=>e.1==j+1&&e.2.2 != 900).map λ e=>(e.2.1.sub (W.dK (af R i).ah ((af R i).ah-aO)),e.2.2)
theorem ET(K:W.ok){ae:C}(cC:ae≤3){d e:C}(LF:d+e≤ae):(dM W (ae-d) e).sub (W.dK ae d)=dM W ae (d+e):=by
 unfold dM
 rw[WO,Jz K cC (a' (d2 ..) LF) LF,H9]
theorem AC{m:C}{l:B (C×ap×C)}(h:e∈l.filter λ e=>e.1==m&&e.2.2 != 900):e∈l∧e.1=m∧e.2.2≠900:=
 have p:=oN.mp h;have q:=dI.mp p.2;⟨p.1,eq_of_beq q.1,p7.mp q.2⟩
theorem nB.own(ok:nB W R I c)(h:aO<4)(m:e∈I aO)(z:e.2.2≠900):∃r,r<R.length∧e.2.2=r+1∧(af R r).ah<aO∧e.2.1=dM W aO (aO- (af R r).ah):=(ok.each aO h e m).elim (λ L=>absurd L.2 z) id
theorem Ft(K:W.ok)(ok:nB W R I c)(cC:(af R i).ah≤3)(e5:aO< (af R i).ah)(bt:j<R.length)(n3:(af R j).ah=aO):∀x∈hn W R I i aO j p,∃r,r<R.length∧x.2=r+1∧(af R r).ah< (af R i).ah∧x.1=dM W (af R i).ah ((af R i).ah- (af R r).ah):=λ x aA=>
 (nE.mp aA).elim
  (λ aA=>match p,aA with
   |true,aA=>jy.mp aA▸⟨j,bt,rfl,n3.symm▸e5,n3.symm▸rfl⟩
   |false,aA=>nomatch(aA:x∈ []))
  λ aA=>(ht.mp aA).elim λ e L=>L.2▸(ok.own (e' e5 (lr cC)) (AC L.1).1 (AC L.1).2.2).elim λ r q=>⟨r,q.1,q.2.1,fh q.2.2.1 e5,by
   have s:=Rr (h3 e5) (h3 q.2.2.1)
   have t:=ET K cC (d:=(af R i).ah-aO) (e:=aO- (af R r).ah) (s▸nH ..)
   rw[r8 (h3 e5),s]at t
   exact(an (ap.sub _) q.2.2.2).trans t⟩
theorem NC(ok:nB W R I c)(e5:aO<4)(n3:(af R j).ah=aO):((hn W R I i aO j p).map λ x=>x.2).Nodup:=by
 have nd:=ok.dist aO e5 (j+1)
 have e:(((I aO).filter λ e=>e.1==j+1&&e.2.2 != 900).map λ e=>(e.2.1.sub (W.dK (af R i).ah ((af R i).ah-aO)),e.2.2)).map (λ x=>x.2)=((I aO).filter λ e=>e.1==j+1&&e.2.2 != 900).map λ e=>e.2.2:=tP
 cases p with
 |false=>exact e▸nd
 |true=>exact nF.mpr ⟨λ m=>(ht.mp (e▸m)).elim λ x L=>(ok.own e5 (AC L.1).1 (AC L.1).2.2).elim λ r q=>mR q.2.2.1 (oQ (q.2.1.symm.trans L.2)▸n3),e▸nd⟩
theorem ND(ok:nB W R I c)(e5:aO<4):(hn W R I i aO j p).length≤aO+1:=by
 have k:=ok.cnt aO e5 (j+1)
 rw[←cG (f:=λ e:C×ap×C=>(e.2.1.sub (W.dK (af R i).ah ((af R i).ah-aO)),e.2.2))]at k
 cases p with
 |false=>exact lr k
 |true=>exact gp k
noncomputable def mH(R:B b5)(I:C→B (C×ap×C))(i:C)(d3:B (ap×C)):C→B (C×ap×C):=λ l=>if l=(af R i).ah then I l++d3.map λ x=>(i+1,x.1,x.2)else I l
theorem ts{l:C}{d3:B (ap×C)}(P:B (C×ap×C)→Prop)(y:l=(af R i).ah→P (I l)→P (I l++d3.map λ x=>(i+1,x.1,x.2)))(z:P (I l)):P (mH R I i d3 l):=
 (f7 (l=(af R i).ah)).elim (λ e=>(an P (if_pos e)).mpr (y e z)) λ e=>(an P (if_neg e)).mpr z
theorem PO(K:W.ok)(ok:nB W R I c)(cC:(af R i).ah≤3)(e5:aO< (af R i).ah)(bt:j<R.length)(n3:(af R j).ah=aO)(fP:R.length≤16)(rP:∀e∈I (af R i).ah,e.1=i+1→e.2.2=900):nB W R (mH R I i (hn W R I i aO j p)) (c+1):=by
 have uJ:=e' e5 (lr cC)
 have ne:=Ft (p:=p) K ok cC e5 bt n3
 have nd:=NC (W:=W) (i:=i) (p:=p) ok uJ n3
 have nl:=ND (W:=W) (R:=R) (i:=i) (j:=j) (p:=p) ok uJ
 have Wm:((hn W R I i aO j p).map λ x=>(i+1,x.1,x.2)).filter (λ e=>e.1==i+1&&e.2.2 != 900)=(hn W R I i aO j p).map λ x=>(i+1,x.1,x.2):=B7.mpr λ e b3=>(ht.mp b3).elim λ x L=>L.2▸(ne x L.1).elim λ r q=>dI.mpr ⟨lD (i+1),p7.mpr (mR (q.2.1▸cn (a' q.1 fP) (aE rfl)))⟩
 have Wl:∀{m},m≠i+1→((hn W R I i aO j p).map λ x=>(i+1,x.1,x.2)).filter (λ e=>e.1==m&&e.2.2 != 900)=[]:=λ z=>tN.mpr λ e b3 y=>(ht.mp b3).elim λ x L=>z ((eq_of_beq (dI.mp y).1).symm.trans (an Ia L.2).symm)
 have Wn:(I (af R i).ah).filter (λ e=>e.1==i+1&&e.2.2 != 900)=[]:=tN.mpr λ e b3 y=>p7.mp (dI.mp y).2 (rP e b3 (eq_of_beq (dI.mp y).1))
 have zM:∀{l m},l=(af R i).ah→(m=i+1→(I l++(hn W R I i aO j p).map λ x=>(i+1,x.1,x.2)).filter (λ e=>e.1==m&&e.2.2 != 900)=(hn W R I i aO j p).map λ x=>(i+1,x.1,x.2))∧(m≠i+1→(I l++(hn W R I i aO j p).map λ x=>(i+1,x.1,x.2)).filter (λ e=>e.1==m&&e.2.2 != 900)=(I l).filter λ e=>e.1==m&&e.2.2 != 900):=λ L=>⟨λ y=>by rw[r2,y,Wm,L,Wn,H1],λ y=>by rw[r2,Wl y,eX]⟩
 exact{
  each:=λ l hl=>ts (λ cf=>∀e∈cf,(e.2.1= .b2 34∧e.2.2=900)∨∃r,r<R.length∧e.2.2=r+1∧(af R r).ah<l∧e.2.1=dM W l (l- (af R r).ah)) (λ L k e b3=>(nE.mp b3).elim (k e) λ b3=>(ht.mp b3).elim λ x w=>w.2▸.inr (L▸ne x w.1)) (ok.each l hl)
  dist:=λ l hl m=>ts (λ cf=>((cf.filter λ e=>e.1==m&&e.2.2 != 900).map λ e=>e.2.2).Nodup) (λ L k=>(f7 (m=i+1)).elim (λ y=>by rw[(zM L).1 y,tP];exact nd) λ y=>by rw[(zM L).2 y];exact k) (ok.dist l hl m)
  cnt:=λ l hl m=>ts (λ cf=>(cf.filter λ e=>e.1==m&&e.2.2 != 900).length≤l) (λ L k=>(f7 (m=i+1)).elim (λ y=>by rw[(zM L).1 y,cG];exact a' nl (L▸e5)) λ y=>by rw[(zM L).2 y];exact k) (ok.cnt l hl m)
  len:=λ l hl=>ts (λ cf=>cf.length≤20+3*(c+1)) (λ L _=>by rw[fg,cG];exact(hu (ok.len l hl) (a' nl (a' e5 cC)):_≤20+3*c+3)) (a' (ok.len l hl) (d2 _ 3))}
noncomputable def gU(T:B aP):B D→B (ap×C)→Prop
 | [],[]=>True
 |x::xs,e::O=>(∃k,x= .tup [E k,E e.2]∧ba T k e.1)∧gU T xs O
 |_,_=>False
@[elab_as_elim] theorem gU.b7{ak:B D→B (ap×C)→Prop}(z:ak [] [])(c:∀k e xs O,ba T k e.1→gU T xs O→ak xs O→ak (.tup [E k,E e.2]::xs) (e::O)):∀{O:B (ap×C)} {xs:B D},gU T xs O→ak xs O
 | [],[],_=>z
 |e::O,x::xs,⟨⟨k,L,q⟩,r⟩=>L▸c k e xs O q r (gU.b7 z c r)
theorem gU.more{aC:B aP}(m:∀{k:C} {t:ap},ba T k t→ba aC k t)(I:gU T xs O):gU aC xs O:=I.b7 trivial λ k _ _ _ q _ r=>⟨⟨k,rfl,m q⟩,r⟩
theorem gU.len(I:gU T xs O):xs.length=O.length:=I.b7 rfl λ _ _ _ _ _ _ r=>an l1 r
theorem gU.add{e:ap×C}{k:C}(q:ba T k e.1)(I:gU T xs O):gU T (xs++[.tup [E k,E e.2]]) (O++[e]):=I.b7 (ak:=λ xs O=>gU T (xs++[D.tup [E k,E e.2]]) (O++[e])) ⟨⟨k,rfl,q⟩,trivial⟩ λ k _ _ _ q _ r=>⟨⟨k,rfl,q⟩,r⟩
end
end Mine
end
section
namespace Mine
variable{xs:B D}{e:C×ap×C}{p:av}{ae aO j eU m len:C}{aV aQ bp bB:Y D}
section
variable{a:bH}{h:aT}{n:St}{T:B aP}{z:C}{W:cw}{aU:C→ap}{R:B b5}{al:B (am×D)}{F:C→C}{X:Prop}
noncomputable def vE:bk:=(.cons (.b4 (.and (.cons (.cmp .eq (.v 6) (.aq (.v 3) (.ii 1))) (.cons (.g4 (.e (.call 42 (.cons (.at (.at (.v 0) 63) 56) (.cons (.v 7) .nil))))) .nil))) (.cons (.ex (.append (.v 5) (.tup (.cons (.call 26 (.cons (.at (.v 0) 35) (.cons (.v 7) (.cons (.call 25 (.cons (.at (.v 0) 35) (.cons (.aq (.v 3) (.ii 0)) .nil))) (.cons (.tup .nil) .nil))))) (.cons (.v 8) .nil))))) .nil) (.nil)) .nil)
theorem es.sz{O:B (C×ap×C)}(I:es T xs (e::O))(f:∀k tC,xs=iM e k::tC→ba T k e.2.1→es T tC O→X):X:=match xs,I with
 |x::xs,⟨⟨k,L,q⟩,r⟩=>f k xs (L▸rfl) q r
theorem es.AJ(I:es T xs []):xs=[]:=match xs,I with
 | [],_=>rfl
noncomputable def eV(eU j len:C)(p:av):D:=.tup [E eU,E (j+1),E len,.cj p]
noncomputable def hp(a:bH)(aV aQ:Y D)(v:D)(bp:Y D)(m:C)(bN bm eJ bB:Y D):aX:=[some (.ref (a .eH)),aV,aQ,some v,bp,some (.ref m),bN,bm,eJ,bB]
noncomputable def xP(W:cw)(ae aO:C)(e:C×ap×C):ap×Nat:=(e.2.1.sub (W.dK ae (ae-aO)),e.2.2)
noncomputable def own(j:C)(e:C×ap×C):Bool:=e.1==j+1&&e.2.2 != 900
theorem Wo{α c4:Type}{p:α→av}{g:α→c4}{e:α}{O:B α}{l:B c4}:l++(if p e=true then [g e]else [])++(O.filter p).map g=l++((e::O).filter p).map g:=by
 cases h:p e with
 |true=>rw[B6 h,if_pos rfl];exact(mO ..).symm
 |false=>rw[B5 (rW.mp h),if_neg mL,eX]
noncomputable def HA(W:cw)(R:B b5)(aO:C)(e:C×ap×C):Prop:=(e.2.1= .b2 34∧e.2.2=900)∨∃r,r<R.length∧e.2.2=r+1∧(af R r).ah<aO∧e.2.1=dM W aO (aO- (af R r).ah)
theorem aet{k b:C}{aI:aT}{bX:B aP}{acc:B D}{d3:B (ap×C)}(g6:c8 a h T W al aU R)(cC:ae≤3)(e5:aO<ae)(fw:ba T eU (dM W ae (ae-aO)))(kA:h (.a6 m)=none)(q:ba T k e.2.1)(nW:HA W R aO e)(go:b0 a h T b n bX aI)(hm:aI (.a6 m)=some (.li acc))(pA:gU bX acc d3)(rd:acc.length<900)(a3:T.length+b<400000)(fP:R.length≤16)
  (f:∀(ao:St) (cL:B aP) (bJ:aT) (y8:B D),bS ac (runN ac (z+33)) vE (hp a aV aQ (eV eU j len p) bp m (some (E e.1)) (some (E k)) (some (E e.2.2)) bB) n=some (.br (hp a aV aQ (eV eU j len p) bp m (some (E e.1)) (some (E k)) (some (E e.2.2)) bB),ao)→b0 a h T (b+24) ao cL bJ→bJ (.a6 m)=some (.li y8)→gU cL y8 (d3++if own j e=true then [xP W ae aO e]else [])→y8.length≤acc.length+1→X):X:=by
 have ag:=g6.go go
 have d':=go.eS q
 have jm:dd n (eV eU j len p) (.ii 1)=some (E (j+1)):=rfl
 have YA:dd n (eV eU j len p) (.ii 0)=some (E eU):=rfl
 have no:own j e=false→gU bX acc (d3++if own j e=true then [xP W ae aO e]else []):=λ L=>by rw[L];exact(eX d3).symm▸pA
 cases c:decide (e.1=j+1)with
 |false=>
  have cz:=(qc (n:=n) (x:=e.1) (y:=j+1)).trans (an some c)
  exact f n bX aI acc (dk (z+33) vE (hp a aV aQ (eV eU j len p) bp m (some (E e.fst)) (some (E k)) (some (E e.snd.snd)) bB) n _ jm _ cz) (go.mono (d2 ..)) hm (no (an (· &&e.2.2 != 900) (l'.mpr (of_decide_eq_false c)))) (h4 _)
 |true=>
  have cz:=(qc (n:=n) (x:=e.1) (y:=j+1)).trans (an some c)
  refine nW.elim (λ t=>?_) λ⟨r,fT,gO,oo,td⟩=>?_
  ·have d':ba bX k (.b2 34):=t.1▸d'
   have Ey:=L3 (z:=z+29) ag go.good d'.2
   exact f n bX aI acc (dk (z+33) vE (hp a aV aQ (eV eU j len p) bp m (some (E e.fst)) (some (E k)) (some (E e.snd.snd)) bB) n _ jm _ cz _ (ag.zz go.good) _ (ag.BO go.good) _ _ Ey _ ((rfl:ic n (.cj (decide (34=34)))=some true))) (go.mono (d2 ..)) hm (no ((an (λ x=>e.1==j+1&&x != 900) t.2).trans (Qm _))) (h4 _)
  ·have d':ba bX k (dM W aO (aO- (af R r).ah)):=td▸d'
   refine v' (ag.iQ.lC (ae:=aO) (h3 (e' e5 cC)) (d:=aO- (af R r).ah) (nH ..)) (λ ag5 um ahf ag4 abS=>?_) d'
   refine v' (ag.iQ.lC cC (d:=ae-aO) (nH ..)) (λ Zu Vy ac2 Zs ahc=>?_) (go.eS fw)
   have Ey:=L3 (z:=z+29) ag go.good um
   have tt:ic n (.cj (decide (66+(aO- (aO- (af R r).ah))=34)))=some false:=an some (j2 (Cm (e' (aE rfl:34<66) (d2 ..))))
   have oY:=JA (z:=z+31) ag.bT go.good Vy
   have s:=Rr (h3 e5) (h3 oo)
   have hs:=s▸nH ae (af R r).ah
   have mp:=ET ag.iQ cC (d:=ae-aO) (e:=aO- (af R r).ah) hs
   rw[r8 (h3 e5)]at mp
   refine Kl (z:=z) (k:=k) (t:=dM W aO (aO- (af R r).ah)) (ks:=Zu) (l:=W.dK ae (ae-aO)) ag.bT go.good d' ac2 Zs (mp.symm▸a' (u0 ag.iQ cC hs).2.1 (aE rfl)) (cn (ha go.le 24) (e' (nG a3 24) (aE rfl))) λ fk ao cL bJ q9 xX b8=>?_
   have iu:=b8.a6 hm
   have jK:=(go.trans b8).put (c3:=.li (acc++[.tup [E fk,E e.2.2]])) iu.1 kA
   have Fc:own j e=true:=dI.mpr ⟨jj.mpr (gh c),p7.mpr (mR (gO▸cn (a' fT fP) (aE rfl)))⟩
   refine f _ cL _ _ (dk (z+33) vE (hp a aV aQ (eV eU j len p) bp m (some (E e.fst)) (some (E k)) (some (E e.snd.snd)) bB) n _ jm _ cz _ (ag.zz go.good) _ (ag.BO go.good) _ _ Ey _ tt (hP (de go.good hm)) _ (ag.zy go.good) _ (ag.zy go.good) _ YA _ _ oY _ _ q9 _ (mY iu.2 (pF (fh rd (aE rfl))))) jK.1 jK.2 ?_ (dg fg)
   rw[if_pos Fc]
   exact(pA.more λ q=>b8.eS q).add (e:=xP W ae aO e) ((an (λ t:ap=>ba cL fk (t.sub (W.dK ae (ae-aO)))) td).mpr xX)
noncomputable def aer(z:C)(a:bH)(da:aN)(l xs:B D)(env:aX)(n:St):Y (eZ×St):=@fC (live (.ref (a da)) l) (e0 (.ref (a da)) l) (λ x aF J=>(dh true [6,7,8] x aF).bind λ dG=>bS ac (runN ac (z+33)) vE dG J) xs env n
theorem aes{da:aN}{l:B D}(g6:c8 a h T W al aU R)(cC:ae≤3)(e5:aO<ae)(fw:ba T eU (dM W ae (ae-aO)))(w6:gY da=false)(hl:h da=some (.li l))(kA:h (.a6 m)=none)(fP:R.length≤16)(O:B (C×ap×C)):∀{xs:B D} {n:St} {bX:B aP} {aI:aT} {acc:B D} {d3:B (ap×C)} {b:C} {bN bm eJ:Y D},es T xs O→(∀e∈O,HA W R aO e)→b0 a h T b n bX aI→aI (.a6 m)=some (.li acc)→gU bX acc d3→acc.length+O.length<900→T.length+b+24*O.length<400000→
  (∀(J:St) (aC:B aP) (H:aT) (lB:B D) (hU gE hD:Y D),aer z a da l xs (hp a aV aQ (eV eU j len p) bp m bN bm eJ bB) n=some (.br (hp a aV aQ (eV eU j len p) bp m hU gE hD bB),J)→b0 a h T (b+24*O.length) J aC H→H (.a6 m)=some (.li lB)→gU aC lB (d3++(O.filter (own j)).map (xP W ae aO))→X)→X:=by
 induction O with
 |nil=>exact λ{xs n bX aI acc d3 b bN bm eJ} im nW go hm pA rd a3 f=>f n bX aI acc bN bm eJ (im.AJ▸hf (go.good.at_ _ _ (go.off w6 hl))) go hm ((eX d3).symm▸pA)
 |cons e O aZ=>
  intro xs n bX aI acc d3 b bN bm eJ im nW go hm pA rd a3 f
  refine im.sz λ k tC ex q sP=>?_
  subst ex
  exact aet g6 cC e5 fw kA q (nW e (.head _)) go hm pA (cn (d2 ..) rd) (cn (d2 ..) a3) fP λ ao cL bJ y8 st b8 iu FU C0=>
   aZ sP (λ e m=>nW e (.tail _ m)) b8 iu FU (cn (a' (ha C0 _) (dg (jz ..))) rd) (rv (b:=T.length+b)▸a3) λ J aC H lB hU gE hD aB g2 h' FT=>
    f J aC H lB hU gE hD (fc (go.good.at_ _ _ (go.off w6 hl)) st aB) (g2.mono (dg rv)) h' (Wo (p:=own j) (g:=xP W ae aO)▸FT)
end
end Mine
end
section
namespace Mine
variable{xs:B D}{r:b5}{m:C}{aG:B (C×D)}{g dr j qM hM:C}
section
variable{a:bH}{h:aT}{n:St}{T:B aP}{z:C}{W:cw}{aU:C→ap}{R:B b5}{al:B (am×D)}{F:C→C}{X:Prop}
noncomputable def Bk:bk:=(.cons (.ex (.call 36 (.cons (.at (.v 0) 47) (.cons (.v 1) (.cons (.v 2) (.cons (.v 7) (.cons (.v 8) .nil))))))) .nil)
noncomputable def yb(a:bH)(ae i:C)(aW bp:Y D)(m:C)(bN bm eJ bB:Y D):aX:=[some (.ref (a .eH)),some (E (66+ae)),some (E (i+1)),aW,bp,some (.ref m),bN,bm,eJ,bB]
theorem gU.sz{e:ap×C}{O:B (ap×C)}(I:gU T xs (e::O))(f:∀k tC,xs= .tup [E k,E e.2]::tC→ba T k e.1→gU T tC O→X):X:=match xs,I with
 |x::xs,⟨⟨k,L,q⟩,r⟩=>f k xs (L▸rfl) q r
theorem gU.AJ(I:gU T xs []):xs=[]:=match xs,I with
 | [],_=>rfl
theorem acZ{r:aN}(h:pB r=true):r≠ .cM m:=λ e=>nomatch(e▸h:pB (.cM m)=true)
theorem c8.PF(ag:c8 a h T W al aU R)(M:Good a h n){l:C}(hl:l<4):d7 n (.ref (a (.ty l))) 19=some (.ref (a (.cM l))):=let⟨⟨_,er,_,_,_,lR⟩,_⟩:=ag.ty l hl;(fj (M.at_ _ _ er)).trans lR
noncomputable def aeu(z m:C)(l xs:B D)(env:aX)(n:St):Y (eZ×St):=@fC (live (.ref m) l) (e0 (.ref m) l) (λ x aF J=>(dh true [7,8] x aF).bind λ dG=>bS ac (runN ac (z+2)) Bk dG J) xs env n
noncomputable def jQ(i:C)(x:ap×C):C×ap×Nat:=(i+1,x.1,x.2)
theorem aev{ae i:C}{aW bp bN bB:Y D}{l:B D}(cC:ae<4)(d3:B (ap×C)):∀{xs:B D} {n:St} {aI:aT} {bf:B D} {O:B (C×ap×C)} {bm eJ:Y D},gU T xs d3→c8 a aI T W al aU R→Good a aI n→aI (.cM ae)=some (.li bf)→es T bf O→aI (.a6 m)=some (.li l)→(d3.map λ x=>x.2).Nodup→(∀x∈O,x.1=i+1→∀y∈d3,x.2.2≠y.2)→O.length+d3.length<800→
  (∀(J:St) (H:aT) (kb:B D) (gE hD:Y D),aeu z m l xs (yb a ae i aW bp m bN bm eJ bB) n=some (.br (yb a ae i aW bp m bN gE hD bB),J)→Good a H J→H (.cM ae)=some (.li kb)→es T kb (O++d3.map (jQ i))→(∀r,r≠ .cM ae→H r=aI r)→c8 a H T W al aU R→X)→X:=by
 induction d3 with
 |nil=>exact λ{xs n aI bf O bm eJ} pA ag M dj im hm nd bo hl f=>f n aI bf bm eJ (pA.AJ▸hf (de M hm)) M dj ((eX O).symm▸im) (λ _ _=>rfl) ag
 |cons r d3 aZ=>
  intro xs n aI bf O bm eJ pA ag M dj im hm nd bo hl f
  refine pA.sz λ k tC ex q FT=>?_
  subst ex
  have nd:=nF.mp nd
  refine L5 (z:=z) (e1:=66+ae) (l:=ae) (e:=jQ i r) (k:=k) M ag.bT (ag.aM.at_ M).2.1 (ag.yj M cC) (ag.PF M cC) dj im q (cn (d2 ..) (fh hl (aE rfl))) (λ x aA L=>bo x aA L.1 r (.head _) L.2.2) λ aa au dJ=>?_
  have fq:∀hW,hW≠ .cM ae→(up aI (.cM ae) (some (.li (bf++[iM (jQ i r) k])))) hW=aI hW:=λ hW L=>bP _ _ L
  have Qw:=ag.keep (λ hW o k e=>(fq hW (acZ k)).trans e) (ag.bT.off λ hW o k e=>(fq hW λ L=>nomatch(L▸k:hR (.cM ae)=true)).trans e) λ q=>q
  have st:bS ac (runN ac (z+2)) Bk (yb a ae i aW bp m bN (some (E k)) (some (E r.2)) bB) n=some (.br (yb a ae i aW bp m bN (some (E k)) (some (E r.2)) bB),aa):=(dk (z+2) Bk (yb a ae i aW bp m bN (some (E k)) (some (E r.snd)) bB) n _ (ag.mb M) _ _ au)
  refine aZ (O:=O++[jQ i r]) (bm:=some (E k)) (eJ:=some (E r.2)) FT Qw dJ (cR _ _ _) (im.add (e:=jQ i r) q) ((fq _ (a5 rfl)).trans hm) nd.2 (λ x aA L y bI=>(nE.mp aA).elim (λ aA=>bo x aA L y (.tail _ bI)) λ aA w=>nd.1 (ht.mpr ⟨y,bI,w.symm.trans (jy.mp aA▸rfl)⟩)) (cn (dg (by rw[fg];exact jz ..)) hl) λ J H kb gE hD aB dF Xc sP ab6 oI=>
   f J H kb gE hD (fc (de M hm) st aB) dF Xc (mO O (jQ i r) (d3.map (jQ i))▸sP) (λ hW L=>(ab6 hW L).trans (fq hW L)) oI
theorem N8{O:B (C×D)}{k:C}{v w:D}(h:O.lookup k=some w):(c7 O k v).length=O.length:=by
 unfold c7
 exact(an f9 (if_pos (an pX h))).trans (cG ..)
theorem pT.adV{g8:C}(m:pT aG g dr j r qM):pT (c7 aG 8 (E g8)) g dr j r g8:=
 have z:∀{f:C} {v:D},(ki f 8)=false→aG.lookup f=some v→(c7 aG 8 (E g8)).lookup f=some v:=λ L e=>(ni (tU L)).trans e
 ⟨(N8 m.f8).symm▸m.len,z rfl m.DG,z rfl m.nX,z rfl m.uu,qx,z rfl m.zJ,z rfl m.DH,z rfl m.zK,z rfl m.zI,z rfl m.zL,z rfl m.KW⟩
theorem pT.adU(m:pT aG g dr j r qM):pT (c7 aG 29 (.ref hM)) hM dr j r qM:=
 have z:∀{f:C} {v:D},(ki f 29)=false→aG.lookup f=some v→(c7 aG 29 (.ref hM)).lookup f=some v:=λ L e=>(ni (tU L)).trans e
 ⟨(N8 m.DH).symm▸m.len,z rfl m.DG,z rfl m.nX,z rfl m.uu,z rfl m.f8,z rfl m.zJ,qx,z rfl m.zK,z rfl m.zI,z rfl m.zL,z rfl m.KW⟩
theorem aaI(g8:C)(ak:kh a h T W aU j r qM)(M:Good a h n)(f:∀(J:St) (o:a0),lg ac n (.ref (a (.bl j))) 8 (E g8)=some J→Good a (up h (.bl j) (some o)) J→kh a (up h (.bl j) (some o)) T W aU j r g8→X):X:=
 ak.b7 λ aG g dr au aB bZ dL=>f _ _ (x4 (M.at_ _ _ au) rfl (fh aB.len (aE rfl))) (M.set au) ⟨_,g,dr,cR _ _ _,aB.adV,bZ,(bP _ _ (a5 rfl)).trans dL⟩
theorem aaH(ak:kh a h T W aU j r qM)(M:Good a h n)(i0:h (.a6 hM)=some (.li []))(f:∀(J:St) (o:a0),lg ac n (.ref (a (.bl j))) 29 (.ref hM)=some J→Good a (up h (.bl j) (some o)) J→kh a (up h (.bl j) (some o)) T W aU j r qM→X):X:=
 ak.b7 λ aG g dr au aB bZ dL=>f _ _ (x4 (M.at_ _ _ au) rfl (fh aB.len (aE rfl))) (M.set au) ⟨_,hM,dr,cR _ _ _,aB.adU,bZ,(bP _ _ (a5 rfl)).trans i0⟩
structure lV(a:bH)(h:aT)(T:B aP)(W:cw)(al:B (am×D))(aU:C→ap)(R:B b5)(F:C→C)(I:C→B (C×ap×C))(c:C):Prop where
 fQ:c8 a h T W al aU R
 bl:jZ a h T W aU R F
 hx:qN R F
 im:∀l,l<4→∃xs,h (.cM l)=some (.li xs)∧es T xs (I l)
 io:nB W R I c
theorem ab1{s:C}(hs:s≤1):kC .bor (E (2+128*s)) (.ii 4)=some (E (6+128*s)):=rn (ak:=λ s=>kC .bor (E (2+128*s)) (.ii 4)=some (E (6+128*s))) hs rfl rfl
noncomputable def kN(F:C→C)(i x:C):C→Nat:=λ j=>if j=i then x else F j
end
end Mine
end
section
namespace Mine
variable{k j len aO:C}{p:av}{aV aQ bp:Y D}{i x:C}
section
variable{a:bH}{h:aT}{n:St}{T:B aP}{z:C}{W:cw}{aU:C→ap}{R:B b5}{al:B (am×D)}{F:C→C}{I:C→B (C×ap×C)}{X:Prop}
structure QD(h:aT)(T:B aP)(H:aT)(aC:B aP)(b i ae:C):Prop where
 ext:∃X,aC=T++X
 le:aC.length≤T.length+b
 off:∀r o,gY r=false→r≠ .bl i→r≠ .cM ae→h r=some o→H r=some o
theorem c8.but{rH:aN}{H:aT}(ag:c8 a h T W al aU R)(fq:∀r,r≠rH→H r=h r)(c2:pB rH=false)(dW:hR rH=false):c8 a H T W al aU R:=
 ag.keep (λ r o k e=>(fq r λ L=>nomatch(L.symm▸c2:pB r=false).symm.trans k).trans e) (ag.bT.off λ r o k e=>(fq r λ L=>nomatch(L.symm▸dW:hR r=false).symm.trans k).trans e) λ q=>q
noncomputable def Gi:bk:=.cons (.asg 5 (.lst .nil)) (.cons (.b4 (.e (.aq (.v 3) (.ii 3))) (.cons (.ex (.append (.v 5) (.tup (.cons (.aq (.v 3) (.ii 0)) (.cons (.aq (.v 3) (.ii 1)) .nil))))) .nil) (.nil)) .nil)
noncomputable def OO:bk:=.cons (.dc [6,7,8] true (.at (.call 39 (.cons (.at (.v 0) 47) (.cons (.aq (.v 3) (.ii 0)) .nil))) 19) vE) .nil
noncomputable def x6:bk:=.cons (.b4 (.e (.aq (.v 3) (.ii 3))) (.cons (.o2 (.v 9) 8 .bor (.gl [77,70,95,78,69,87,83,76,79,84] (.ii 4))) .nil) (.nil)) .nil
noncomputable def Bc:bk:=.cons (.dc [7,8] true (.v 5) Bk) .nil
theorem adO{ae:C}(bT:c6 a h T)(M:Good a h n)(q:ba T k (dM W ae (ae-aO)))
  (f:∀aa aI acc,bS ac (runN ac z) Gi [some (.ref (a .eH)),aV,aQ,some (eV k j len p),bp,none,none,none,none,none] n=some (.br (hp a aV aQ (eV k j len p) bp n.length none none none none),aa)→b0 a h T 0 aa T aI→aI (.a6 n.length)=some (.li acc)→gU T acc (if p=true then [(dM W ae (ae-aO),j+1)]else [])→acc.length≤1→X):X:=by
 have b2:=b0.start bT M (.li [])
 cases p with
 |false=>exact f _ _ [] (dk z Gi [some (D.ref (a aN.eH)),aV,aQ,some (eV k j len false),bp,none,none,none,none,none] n _ ((rfl:dd (n++[a0.li []]) (eV k j len false) (.ii 3)=some (.cj false))) _ rfl) b2.1 b2.2 trivial (fs _)
 |true=>
  have g1:=b2.1.put (c3:=.li ([]++[.tup [E k,E (j+1)]])) b2.2 (M.fresh (cJ _))
  have s:=de b2.1.good b2.2
  exact f _ _ _ (dk z Gi [some (D.ref (a aN.eH)),aV,aQ,some (eV k j len true),bp,none,none,none,none,none] n _ ((rfl:dd (n++[a0.li []]) (eV k j len true) (.ii 3)=some (.cj true))) _ rfl (hP s) _ ((rfl:dd (n++[a0.li []]) (eV k j len true) (.ii 0)=some (E k))) _ ((rfl:dd (n++[a0.li []]) (eV k j len true) (.ii 1)=some (E (j+1)))) _ (mY s (pF (aE rfl)))) g1.1 g1.2 ⟨⟨k,rfl,q⟩,trivial⟩ (cJ _)
theorem adP{m:C}{bN bm eJ:Y D}(ak:kh a h T W aU i (af R i) (F i))(M:Good a h n)(hs:(af R i).aM≤1)(m6:F i=2+128*(af R i).aM)
  (f:∀(bW:St) (cQ:aT),bS ac (runN ac z) x6 (hp a aV aQ (eV k j len p) bp m bN bm eJ (some (.ref (a (.bl i))))) n=some (.br (hp a aV aQ (eV k j len p) bp m bN bm eJ (some (.ref (a (.bl i))))),bW)→Good a cQ bW→kh a cQ T W aU i (af R i) (if p=true then 6+128*(af R i).aM else F i)→(∀r,r≠ .bl i→cQ r=h r)→X):X:=by
 cases p with
 |false=>exact f n h (dk z x6 (hp a aV aQ (eV k j len false) bp m bN bm eJ (some (D.ref (a (aN.bl i))))) n _ ((rfl:dd n (eV k j len false) (.ii 3)=some (.cj false))) _ rfl) M ak λ _ _=>rfl
 |true=>
  exact aaI (6+128*(af R i).aM) ak M λ bW o O d0 r4=>ak.at_ M λ _ _ _ bl _ at_=>
   have Sv:d7 n (.ref (a (.bl i))) 8=some (E (2+128*(af R i).aM)):=(at_ bl.f8).trans (an (λ x=>some (E x)) m6);
   f bW _ (dk z x6 (hp a aV aQ (eV k j len true) bp m bN bm eJ (some (D.ref (a (aN.bl i))))) n _ ((rfl:dd n (eV k j len true) (.ii 3)=some (.cj true))) _ rfl _ Sv _ (ab1 hs) _ O) d0 r4 λ r L=>bP _ _ L
theorem GX{F:C→C}:kN F i x i=x:=if_pos rfl
theorem Bz{F:C→C}(h:j≠i):kN F i x j=F j:=if_neg h
theorem Nl(h:j≠i):aN.bl j≠ .bl i:=λ e=>h (aN.bl.inj e)
theorem No(h:j≠i):aN.cM j≠ .cM i:=λ e=>h (aN.cM.inj e)
theorem aeK{c:C}{nd:D}(S:lV a h T W al aU R F I c)(M:Good a h n)(ay:i<R.length)(e5:aO< (af R i).ah)(bt:j∈gu R aO (af R i).nm (af R i).aM)(q:ba T k (dM W (af R i).ah ((af R i).ah-aO)))(rP:∀e∈I (af R i).ah,e.1=i+1→e.2.2=900)(m6:F i=2+128*(af R i).aM)(hc:c≤20)(a3:T.length<300000)
  (f:∀(J:St) (aC:B aP) (H:aT),runN ac (z+34) 46 [.ref (a .eH),E (66+(af R i).ah),E (i+1),eV k j len p,nd] n=some (.nn,J)→Good a H J→lV a H aC W al aU R (kN F i (if p=true then 6+128*(af R i).aM else F i)) (mH R I i (hn W R I i aO j p)) (c+1)→QD h T H aC 2400 i (af R i).ah→X):X:=by
 have ag:=S.fQ
 have hE:=ag.eW _ (h2 (iL ay))
 have fY:=ru.mp bt
 have uG:=hE.1
 have qm:aO<4:=e' e5 (lr uG)
 have tM:(af R i).ah<4:=pV uG
 have J3:20+3*c≤80:=fz (gT 3 hc) 20
 have kA:h (.a6 n.length)=none:=M.fresh (cJ _)
 refine adO (z:=z+33) (j:=j) (len:=len) (p:=p) (aV:=some (E (66+(af R i).ah))) (aQ:=some (E (i+1))) (bp:=some nd) ag.bT M q λ aa aI acc au cW hN acJ ji=>?_
 have⟨xs,hxs,imx⟩:=S.im aO qm
 have uK:=a' (S.io.len aO qm) J3
 have d4:acc.length+(I aO).length<900:=cn (hu ji uK) (aE rfl)
 have d5:T.length+0+24*(I aO).length<400000:=e' (r5 a3 (gT 24 uK)) (aE rfl)
 refine aes (z:=z) (ae:=(af R i).ah) (aO:=aO) (j:=j) (eU:=k) (m:=n.length) (len:=len) (p:=p) (aV:=some (E (66+(af R i).ah))) (aQ:=some (E (i+1))) (bp:=some nd) (bB:=none) (da:=.cM aO) (l:=xs) (bN:=none) (bm:=none) (eJ:=none) ag uG e5 q rfl hxs kA ag.da (I aO) imx (S.io.each aO qm) cW hN acJ d4 d5 λ ao cL bJ lB hU gE hD aB b8 iu FU=>?_
 have N5:gU cL lB (hn W R I i aO j p):=FU
 have pL:=ag.go cW
 have mM:=ag.go b8
 have Cg:=S.bl.go b8
 have NE:=ND (W:=W) (R:=R) (i:=i) (j:=j) (p:=p) S.io qm
 have Fu:=Ft (p:=p) ag.iQ S.io uG e5 fY.1 fY.2.1
 refine v' (ag.iQ.lC uG (d:=(af R i).ah-aO) (nH ..)) (λ ks um fJ xn abS=>?_) (cW.eS q)
 rw[r8 (h3 e5)]at um
 have Vr:bS ac (runN ac (z+33)) OO (hp a (some (E (66+(af R i).ah))) (some (E (i+1))) (eV k j len p) (some nd) n.length none none none none) aa=some (.br (hp a (some (E (66+(af R i).ah))) (some (E (i+1))) (eV k j len p) (some nd) n.length hU gE hD none),ao):=(dk (z+33) OO (hp a (some (E (66+(af R i).ah))) (some (E (i+1))) (eV k j len p) (some nd) (f9 n) none none none none) aa _ (pL.mb cW.good) _ ((rfl:dd aa (eV k j len p) (.ii 0)=some (E k))) _ _ (afz (z:=z+30) pL cW.good qm um) _ (pL.PF cW.good qm) _ (iw (cW.good.at_ _ _ (cW.off rfl hxs))) (imx.len▸a' uK (aE rfl)) _ _ aB)
 have S9:=(K5 (S.hx i ay) hE.2.2).2.2.2
 have ll:=GG (de b8.good iu)
 have Vu:∀{hd},bS ac (runN ac (z+33)) (x6.app Bc) (hp a (some (E (66+(af R i).ah))) (some (E (i+1))) (eV k j len p) (some nd) n.length hU gE hD (some (.ref (a (.bl i))))) ao=hd→bS ac (runN ac (z+33)) (.cons (.asg 9 (.aq (.at (.at (.v 0) 47) 15) (.v 2))) (.cons (.b4 (.and (.cons (.e (.v 5)) (.cons (.e (.bin .band (.at (.v 9) 8) (.gl [77,70,95,65,66,83,84,82,65,67,84] (.ii 8)))) .nil))) (.cons (.bad) .nil) (.nil)) (x6.app Bc))) (hp a (some (E (66+(af R i).ah))) (some (E (i+1))) (eV k j len p) (some nd) n.length hU gE hD none) ao=hd:=λ e=>
  (Cg i ay).at_ b8.good λ _ _ _ bl _ at_=>by
   have Vq:ci ac (runN ac (z+33)) (.aq (.at (.at (.v 0) 47) 15) (.v 2)) (hp a (some (E (66+(af R i).ah))) (some (E (i+1))) (eV k j len p) (some nd) n.length hU gE hD none) ao=some (.ref (a (.bl i)),ao):=(hH (z+33) ((((ab.v 0).at 47).at 15).aq (ab.v 2)) (hp a (some (E (66+(af R i).ah))) (some (E (i+1))) (eV k j len p) (some nd) (f9 n) hU gE hD none) ao _ (mM.mb b8.good) _ ((mM.aM.at_ b8.good).1) _ (mM.qn b8.good ay))
   have t:fr ac (runN ac (z+33)) (.and (.cons (.e (.v 5)) (.cons (.e (.bin .band (.at (.v 9) 8) (.gl [77,70,95,65,66,83,84,82,65,67,84] (.ii 8)))) .nil))) (hp a (some (E (66+(af R i).ah))) (some (E (i+1))) (eV k j len p) (some nd) n.length hU gE hD (some (.ref (a (.bl i))))) ao=some (false,ao):=by
    cases w:lB.isEmpty with
    |true=>rw[w]at ll;exact(jc (z+33) (Mine.T.and (fb.cons (Mine.T.e (ab.v 5)) (fb.cons (Mine.T.e (ab.bin iR.band ((ab.v 9).at 8) (ab.gl [77,70,95,65,66,83,84,82,65,67,84] (D.ii 8)))) fb.nil))) (hp a (some (E (66+(af R i).ah))) (some (E (i+1))) (eV k j len p) (some nd) (f9 n) hU gE hD (some (D.ref (a (aN.bl i))))) ao _ ll)
    |false=>rw[w]at ll;exact(jc (z+33) (Mine.T.and (fb.cons (Mine.T.e (ab.v 5)) (fb.cons (Mine.T.e (ab.bin iR.band ((ab.v 9).at 8) (ab.gl [77,70,95,65,66,83,84,82,65,67,84] (D.ii 8)))) fb.nil))) (hp a (some (E (66+(af R i).ah))) (some (E (i+1))) (eV k j len p) (some nd) (f9 n) hU gE hD (some (D.ref (a (aN.bl i))))) ao _ ll _ (at_ bl.f8) _ S9 _ ((rfl:ic ao (.ii 0)=some false)))
   exact aR (aR Vq rfl) (aR (aR t (if_neg mL)) e)
 refine adP (z:=z+33) (k:=k) (j:=j) (len:=len) (m:=n.length) (p:=p) (aV:=some (E (66+(af R i).ah))) (aQ:=some (E (i+1))) (bp:=some nd) (bN:=hU) (bm:=gE) (eJ:=hD) (Cg i ay) b8.good hE.2.2 m6 λ bW cQ bZ d0 r4 lM=>?_
 have Qt:=mM.but lM rfl rfl
 have⟨bf,hys,imy⟩:=S.im (af R i).ah tM
 have XV:=a' (S.io.len (af R i).ah tM) J3
 have pg:cQ (.a6 n.length)=some (.li lB):=(lM _ (a5 rfl)).trans iu
 refine aev (z:=z+31) (ae:=(af R i).ah) (i:=i) (m:=n.length) (aW:=some (eV k j len p)) (bp:=some nd) (bN:=hU) (bB:=some (.ref (a (.bl i)))) (l:=lB) (bm:=gE) (eJ:=hD) tM _ N5 Qt d0 ((lM _ (a5 rfl)).trans (b8.off rfl hys)) (imy.more λ q=>b8.eS q) pg (NC (W:=W) (i:=i) (p:=p) S.io qm fY.2.1) (λ x aA L y bI=>?_) (cn (hu XV (a' NE qm)) (aE rfl)) λ eO hO kb Og Oh dL hY Xd YO vh Qu=>?_
 ·have⟨r,fT,gO,_⟩:=Fu y bI
  rw[rP x aA L,gO]
  exact Cm (cn (a' fT ag.da) (aE rfl))
 have zE:bS ac (runN ac (z+33)) Bc (hp a (some (E (66+(af R i).ah))) (some (E (i+1))) (eV k j len p) (some nd) n.length hU gE hD (some (.ref (a (.bl i))))) bW=some (.br (hp a (some (E (66+(af R i).ah))) (some (E (i+1))) (eV k j len p) (some nd) n.length hU Og Oh (some (.ref (a (.bl i))))),eO):=(dk (z+33) Bc (hp a (some (E (66+(af R i).ah))) (some (E (i+1))) (eV k j len p) (some nd) (f9 n) hU gE hD (some (D.ref (a (aN.bl i))))) bW _ (iw (de d0 pg)) (N5.len▸a' NE (a' qm (aE rfl))) _ _ dL)
 refine f eO cL hO (A4 (z:=z+33) (f:=46) (b6:=[.ref (a .eH),E (66+(af R i).ah),E (i+1),eV k j len p,nd]) (r:=.br (hp a (some (E (66+(af R i).ah))) (some (E (i+1))) (eV k j len p) (some nd) n.length hU Og Oh (some (.ref (a (.bl i)))))) rfl rfl ((j8 au).trans ((j8 Vr).trans (Vu ((j8 bZ).trans zE))))) hY ⟨Qu,λ fR lH=>?_,λ fR lH=>?_,λ l hl=>?_,PO ag.iQ S.io uG e5 fY.1 fY.2.1 ag.da rP⟩ ⟨b8.jl.ext,a' b8.le (fz (a' (fz (gT 24 uK) 0) (aE rfl)) _),λ r o k iy kG e=>(vh r kG).trans ((lM r iy).trans (b8.off k e))⟩
 ·exact(f7 (fR=i)).elim (λ L=>by rw[L,GX];exact r4.bx (λ o e=>(vh _ (a5 rfl)).trans e) (λ g o e=>(vh _ (a5 rfl)).trans e) λ q=>q)
   λ L=>by rw[Bz L];exact(Cg fR lH).bx (λ o e=>(vh _ (a5 rfl)).trans ((lM _ (Nl L)).trans e)) (λ g o e=>(vh _ (a5 rfl)).trans ((lM _ (a5 rfl)).trans e)) λ q=>q
 ·refine(f7 (fR=i)).elim (λ L=>?_) λ L=>by rw[Bz L];exact S.hx fR lH
  rw[L,GX]
  cases p with
  |false=>exact S.hx i ay
  |true=>exact .inr rfl
 ·exact(f7 (l=(af R i).ah)).elim (λ L=>⟨kb,L▸Xd,(an (es cL kb) (if_pos L)).mpr (L▸YO)⟩)
   λ L=>let⟨bR,Et,EA⟩:=S.im l hl;⟨bR,(vh _ (No L)).trans ((lM _ (a5 rfl)).trans (b8.off rfl Et)),(an (es cL bR) (if_neg L)).mpr (EA.more λ q=>b8.eS q)⟩
end
end Mine
end
section
namespace Mine
variable{aO:B C}
noncomputable def mB(aO:B C)(x:C):D:=.tup [E (aO.getD x 0+1),E x]
noncomputable def hF(aO:B C):B D:=(ck aO.length).map (mB aO)
noncomputable def hC(aO:B C):B Nat:=(ck 4).flatMap λ l=>(ck aO.length).filter λ x=>aO.getD x 0==l
noncomputable def gW(rev:av)(cz cD dn:C):B Nat:=if rev then dw dn 3++dw cD 2++dw cz 1 else dw cz 1++dw cD 2++dw dn 3
noncomputable def Ag(aO:B C):Y (B C):=if aO.length<2 then some (ck aO.length)else(oa (λ i j=>EZ ((hF aO).getD i .nn) ((hF aO).getD j .nn)) aO.length (CF aO.length)).map λ p=>p.toList
theorem Oq{i:C}(h:i<aO.length):(hF aO).getD i .nn=mB aO i:=sC (i7 (yD h))
theorem aee:pI (hF aO)=(Ag aO).map λ is=>is.map λ i=>(hF aO).getD i .nn:=by
 have len:(hF aO).length=aO.length:=(cG ..).trans gA
 unfold pI Ag
 rw[len]
 exact(f7 (aO.length<2)).elim (λ L=>by rw[if_pos L,if_pos L];exact an some (pR λ i m=>(Oq (f'.mp m)).symm)) λ L=>by rw[if_neg L,if_neg L];exact(Option.map_map ..).symm
noncomputable def sw(rev:av)(cz cD dn:C):Bool:=decide (Ag (gW rev cz cD dn)=some (hC (gW rev cz cD dn)))
theorem UQ:((ck 5).all λ cz=>(ck 5).all λ cD=>(ck 5).all λ dn=>sw true cz cD dn&&sw false cz cD dn)=true:=by kernel_rfl
theorem ub{p:C→av}(a:(ck 5).all p=true){c:C}(h:c≤4):p c=true:=g9.mp a c (f'.mpr (pV h))
theorem FI{x:C}:x∈hC aO↔x<aO.length∧aO.getD x 0<4:=
 List.mem_flatMap.trans ⟨λ⟨l,ax,aH⟩=>have q:=oN.mp aH;⟨f'.mp q.1,eq_of_beq q.2▸f'.mp ax⟩,λ h=>⟨aO.getD x 0,f'.mpr h.2,oN.mpr ⟨f'.mpr h.1,lD _⟩⟩⟩
theorem aed{rev:av}{cz cD dn:C}(ax:cz≤4)(aH:cD≤4)(cI:dn≤4):pI (hF (gW rev cz cD dn))=some ((hC (gW rev cz cD dn)).map (mB (gW rev cz cD dn))):=by
 have a:=dI.mp (ub (p:=λ dn=>sw true cz cD dn&&sw false cz cD dn) (ub (p:=λ cD=>(ck 5).all λ dn=>sw true cz cD dn&&sw false cz cD dn) (ub UQ ax) aH) cI)
 have b:Ag (gW rev cz cD dn)=some (hC (gW rev cz cD dn)):=gh (Qq (motive:=λ rev=>sw rev cz cD dn=true) a.2 a.1 rev)
 rw[aee,b]
 exact an some (pR λ i m=>Oq (FI.mp m).1)
end Mine
end
section
namespace Mine
variable{nm aM j c aO i:C}
section
variable{a:bH}{h:aT}{n:St}{T:B aP}{z:C}{W:cw}{aU:C→ap}{R:B b5}{al:B (am×D)}{F:C→C}{I:C→B (C×ap×C)}{X:Prop}
theorem adM(ax:j<R.length)(cI:(af R j).nm=nm)(gg:(af R j).aM=aM):∀{p:av},(af R j).ah<c→(∀aO j f2,scan R nm aM c p=some (aO,j,f2)→X)→X:=by
 induction c with
 |zero=>exact λ h=>nomatch h
 |succ c aZ=>
  intro p aH f
  cases e:gu R c nm aM with
  |cons x r=>exact f _ _ _ (Bb e)
  |nil=>
   have ne:(af R j).ah≠c:=λ L=>nomatch(e▸ru.mpr ⟨ax,L,cI,gg⟩:j∈ [])
   exact aZ (Nat.lt_of_le_of_ne (lq aH) ne) λ aO j f2 s=>f aO j f2 ((x5 e).trans s)
theorem ON{f2:av}:∀{p:av},scan R nm aM c p=some (aO,j,f2)→aO<c∧j∈gu R aO nm aM:=by
 induction c with
 |zero=>exact λ e=>nomatch e
 |succ c aZ=>
  intro p e
  cases cl:gu R c nm aM with
  |cons x r=>
   have L:=lj (Bb cl) e
   cases L
   exact⟨qT _,cl▸.head _⟩
  |nil=>exact⟨pW (aZ ((x5 cl).symm.trans e)).1,(aZ ((x5 cl).symm.trans e)).2⟩
theorem AO(b9:ik R c)(ay:i<R.length)(be:(af R i).eL=true)(f:∀aO j p,scan R (af R i).nm (af R i).aM (af R i).ah false=some (aO,j,p)→X):X:=
 have⟨q,du,d',cO,j7⟩:=b9.C1 _ (h2 (iL ay)) be
 have⟨j,bt⟩:=List.getElem?_of_mem du
 have e:=adw bt
 adM (mq bt) (e.symm▸cO) (e.symm▸j7) (e.symm▸d') f
noncomputable def j'(W:cw)(R:B b5)(s:(C→C)×(C→B (C×ap×C)))(i:C):(C→C)×(C→B (C×ap×C)):=
 match scan R (af R i).nm (af R i).aM (af R i).ah false with
 |some (aO,j,p)=>(kN s.1 i (if p=true then 6+128*(af R i).aM else s.1 i),mH R s.2 i (hn W R s.2 i aO j p))
 |none=>s
theorem Gs{s:(C→C)×(C→B (C×ap×C))}{p:av}(e:scan R (af R i).nm (af R i).aM (af R i).ah false=some (aO,j,p)):j' W R s i=(kN s.1 i (if p=true then 6+128*(af R i).aM else s.1 i),mH R s.2 i (hn W R s.2 i aO j p)):=
 an (λ x:Y (C×C×av)=>match x with|some (aO,j,p)=>(kN s.1 i (if p=true then 6+128*(af R i).aM else s.1 i),mH R s.2 i (hn W R s.2 i aO j p))|none=>s) e
theorem lV.go{H:aT}{aC:B aP}{J:St}{b:C}(S:lV a h T W al aU R F I c)(x:b0 a h T b J aC H):lV a H aC W al aU R F I c:=
 ⟨S.fQ.go x,S.bl.go x,S.hx,λ l hl=>let⟨xs,e,im⟩:=S.im l hl;⟨xs,x.off rfl e,im.more λ q=>x.eS q⟩,S.io⟩
noncomputable def aa2:aN→av
 | .bl _| .cM _=>false
 |_=>true
noncomputable def rk(r:aN):Bool:=!gY r&&aa2 r
theorem xm{r:aN}(h:rk r=true):gY r=false:=(tH _).mp (dI.mp h).1
theorem aca{nd:D}(S:lV a h T W al aU R F I c)(M:Good a h n)(ay:i<R.length)(be:(af R i).eL=true)(rP:∀e∈I (af R i).ah,e.1=i+1→e.2.2=900)(m6:F i=2+128*(af R i).aM)(hc:c≤20)(a3:T.length<200000)
  (f:∀(J:St) (aC:B aP) (H:aT),runN ac (z+38) 45 [.ref (a .eH),E (66+(af R i).ah),E (i+1),nd] n=some (.nn,J)→Good a H J→lV a H aC W al aU R (j' W R (F,I) i).1 (j' W R (F,I) i).2 (c+1)→(∃X,aC=T++X)→aC.length≤T.length+4000→(∀r o,rk r=true→h r=some o→H r=some o)→X):X:=by
 refine AO S.fQ.inv ay be λ aO j p aS=>?_
 refine aaC (z:=z) S.fQ S.bl S.hx M ay aS (fh a3 (aE rfl)) λ aa bX aI k au d' e5 bt cW=>?_
 have fY:=ru.mp bt
 have oU:=S.go cW
 have iq:=Wt (l:=aO) (nm:=(af R i).nm) (aM:=(af R i).aM) S.fQ.inv
 have d4:bX.length<201300:=cn cW.le (nG a3 1300)
 refine abD (z:=z+1) (len:=(gu R aO (af R i).nm (af R i).aM).length) (p:=p) oU.fQ oU.bl oU.hx cW.good ay fY.1 e5 fY.2.1 fY.2.2.1 d' iq (fh d4 (aE rfl)) λ ao cL bJ aB b8=>?_
 have Sl:=oU.go b8
 have sE:=cW.trans b8
 refine aeK (z:=z+3) (p:=p) (len:=(gu R aO (af R i).nm (af R i).aM).length) (nd:=nd) Sl b8.good ay e5 bt (b8.eS d') rP m6 hc (cn b8.le (e' (nG d4 24) (aE rfl))) λ bW lA cQ bZ d0 il ge=>?_
 have mf:=b0.start il.fQ.bT d0 (.li [])
 have lz:=il.go mf.1
 refine aaH (lz.bl i ay) mf.1.good mf.2 λ jV o O hZ Cj=>?_
 have fq:∀r,r≠ .bl i→(up (up cQ (.a6 bW.length) (some (.li []))) (.bl i) (some o)) r=(up cQ (.a6 bW.length) (some (.li []))) r:=λ r L=>bP _ _ L
 have qZ:lV a (up (up cQ (.a6 bW.length) (some (.li []))) (.bl i) (some o)) lA W al aU R (kN F i (if p=true then 6+128*(af R i).aM else F i)) (mH R I i (hn W R I i aO j p)) (c+1):=
  ⟨lz.fQ.but fq rfl rfl,λ fR lH=>(f7 (fR=i)).elim (λ L=>L.symm▸Cj) λ L=>(lz.bl fR lH).bx (λ o e=>(fq _ (Nl L)).trans e) (λ g o e=>(fq _ (a5 rfl)).trans e) λ q=>q,il.hx,λ l hl=>let⟨xs,e,im⟩:=lz.im l hl;⟨xs,(fq _ (a5 rfl)).trans e,im⟩,il.io⟩
 have ib:ic ao (.ii 0)=some false:=rfl
 have hL:runN ac (z+38) 45 [.ref (a .eH),E (66+(af R i).ah),E (i+1),nd] n=some (.nn,jV):=(qZ.bl j fY.1).b7 λ aG g dr aV bl _ bp=>by
  have MW:=de hZ bp
  exact(cN (z+37) 45 [D.ref (a aN.eH),E (66+(af R i).ah),E (i+1),nd] n rfl rfl _ _ au _ ((rfl:cY .is (eV k j (gu R aO (af R i).nm (af R i).aM).length p) .nn aa=some false)) _ (oU.fQ.mb cW.good) _ ((oU.fQ.aM.at_ cW.good).1) _ (oU.fQ.qn cW.good ay) _ (oU.fQ.mb cW.good) _ ((oU.fQ.aM.at_ cW.good).1) _ ((rfl:dd aa (eV k j (gu R aO (af R i).nm (af R i).aM).length p) (.ii 1)=some (E (j+1)))) _ (oU.fQ.qn cW.good fY.1) _ _ aB _ ib _ ((rfl:cY .eq (.ii 0) (.ii 0) ao=some true)) _ _ bZ _ O _ ((fj (hZ.at_ _ _ aV)).trans bl.DH) _ (iw MW) (aE rfl) _ _ (hf MW))
 exact f jV lA _ hL hZ ((Gs (W:=W) (s:=(F,I)) aS).symm▸qZ) (md sE.jl.ext ge.ext) (a' ge.le (a' (ha sE.le _) (fz (aE rfl:1300+24+2400≤4000) _))) λ r c3 k e=>(fq r λ L=>nomatch(L▸k:rk (.bl i)=true)).trans (mf.1.off (xm k) (ge.off r c3 (xm k) (λ L=>nomatch(L▸k:rk (.bl i)=true)) (λ L=>nomatch(L▸k:rk (.cM (af R i).ah)=true)) (sE.off (xm k) e)))
end
end Mine
end
section
namespace Mine
variable{m:C}{lo ay:am}{os:B C}{x:C}{nd:C→D}{i:C}
section
variable{a:bH}{h:aT}{n:St}{T:B aP}{z:C}{W:cw}{aU:C→ap}{R:B b5}{al:B (am×D)}{F:C→C}{I:C→B (C×ap×C)}{X:Prop}
theorem afG(z:C):∀{lo:C},upTo (lo:am) z=(pS lo z).map E:=by
 induction z with
 |zero=>exact rfl
 |succ z aZ=>exact λ{lo}=>an (E lo::·) (aZ (lo:=lo+1))
theorem Gp(hm:m≤1000):small (m:am)=true:=dI.mpr ⟨iK (QI (by decide: -(2:am)^62<0) (yw m)),iK (Int.lt_of_le_of_lt (QL.mpr hm) (by decide:((1000:C):am)<2^62))⟩
theorem adl{m:am}(h:small m=true):ot (.ii m)=some (.ew 0 m):=if_pos h
theorem Y'(h:small lo=true)(H:small ay=true):hQ n (.ew lo ay)=some (upTo lo (ay-lo).toNat):=if_pos (dI.mpr ⟨h,H⟩)
theorem adq(hm:m≤1000):ot (.ii (m:am))=some (.ew 0 (m:am)):=adl (Gp hm)
theorem adp(hm:m≤1000):hQ n (.ew 0 (m:am))=some ((ck m).map E):=(Y' (Gp (fs 1000)) (Gp hm)).trans (an some ((an (upTo 0) (an HG (Int.sub_zero (m:am)))).trans ((afG m).trans (an (eA E) Cd.symm))))
noncomputable def px(R:B b5)(nd:C→D)(os:B C):B D:=os.map λ j=>.tup [E (66+(af R j).ah),E (j+1),nd j]
noncomputable def fv(R:B b5)(os:B C):B Nat:=os.map λ j=>(af R j).ah
theorem M9(aA:x<os.length):(fv R os).getD x 0=(af R (os.getD x 0)).ah:=sC (i7 (getD_at aA))
theorem mem_getD(aA:x<os.length):os.getD x 0∈os:=h2 (getD_at aA)
noncomputable def FK:bk:=(.cons (.asg 3 (.call 37 (.cons (.at (.v 0) 47) (.cons (.aq (.aq (.at (.v 0) 65) (.v 2)) (.ii 0)) .nil)))) (.cons (.ex (.append (.v 1) (.tup (.cons (.len (.call 43 (.cons (.at (.at (.v 0) 63) 56) (.cons (.v 3) .nil)))) (.cons (.v 2) .nil))))) .nil))
noncomputable def qw(a:bH)(aV bu cX cm o5 bN bm:Y D):aX:=[some (.ref (a .eH)),aV,bu,cX,cm,o5,bN,bm]
noncomputable def ab8(z:C)(lo ay:am)(cf xs:B D)(env:aX)(n:St):Y (eZ×St):=@fC (live (.ew lo ay) cf) (e0 (.ew lo ay) cf) (λ x aF J=>(dh false [2] x aF).bind λ dG=>bS ac (runN ac (z+38)) FK dG J) xs env n
theorem ab9{cf:B D}{cm o5 bN bm:Y D}(g6:c8 a h T W al aU R)(mg:∀i∈os,i<R.length)(qf:h .h7=some (.li (px R nd os)))(kA:h (.a6 m)=none)(xs:B C):∀{n:St} {bX:B aP} {aI:aT} {acc:B D} {b:C} {bu cX:Y D},(∀x∈xs,x<os.length)→b0 a h T b n bX aI→aI (.a6 m)=some (.li acc)→acc.length+xs.length<900→T.length+b+24*xs.length<300000→
  (∀(J:St) (aC:B aP) (H:aT) (fS eM:Y D),ab8 z lo ay cf (xs.map E) (qw a (some (.ref m)) bu cX cm o5 bN bm) n=some (.br (qw a (some (.ref m)) fS eM cm o5 bN bm),J)→b0 a h T (b+24*xs.length) J aC H→H (.a6 m)=some (.li (acc++xs.map (mB (fv R os))))→X)→X:=by
 induction xs with
 |nil=>exact λ{n bX aI acc b bu cX} aA go hm bO a3 f=>f n bX aI bu cX (hf trivial) go ((eX acc).symm▸hm)
 |cons x xs aZ=>
  intro n bX aI acc b bu cX aA go hm bO a3 f
  have xa:=aA x (.head _)
  have re:os.getD x 0<R.length:=mg _ (mem_getD xa)
  have ag:=g6.go go
  have hE:=ag.eW _ (h2 (iL re))
  refine OP (z:=z+29) ag go.good (l:=(af R (os.getD x 0)).ah) (pV hE.1) (cn go.le (cn (d2 ..) (fh a3 (aE rfl)))) λ k ao cL bJ au d' b8=>?_
  have mM:=ag.go b8
  refine Ke (z:=z+36) mM b8.good hE.1 d' λ aaD bW cQ ks aB jK X2 cl fJ=>?_
  have len:=uY (de jK.good X2)
  rw[fJ.len,cG,gA]at len
  have aq:=j6 (go.good.at_ _ _ (go.off (r:=.h7) rfl qf)) (i7 (f:=λ j=>D.tup [E (66+(af R j).ah),E (j+1),nd j]) (getD_at (x:=0) xa))
  have Lk:=b8.trans jK
  have pg:=Lk.a6 hm
  have VF:D.tup [E ((af R (os.getD x 0)).ah+1),E x]=mB (fv R os) x:=an (λ l=>D.tup [E (l+1),E x]) (M9 xa).symm
  have fW:=(go.trans Lk).put (c3:=.li (acc++[mB (fv R os) x])) pg.1 kA
  have st:bS ac (runN ac (z+38)) FK (qw a (some (.ref m)) (some (E x)) cX cm o5 bN bm) n=some (.br (qw a (some (.ref m)) (some (E x)) (some (E k)) cm o5 bN bm),bW.set m (.li (acc++[mB (fv R os) x]))):=by
   rw[←VF]
   exact(dk (z+38) FK (qw a (some (D.ref m)) (some (E x)) cX cm o5 bN bm) n _ (ag.mb go.good) _ (ag.zA go.good) _ aq _ rfl _ _ au (hP (b8.a6 hm).2) _ (mM.zz b8.good) _ (mM.BO b8.good) _ _ aB _ len _ (mY pg.2 (pF (fh (cn (d2 ..) bO) (aE rfl)))))
  exact aZ (λ y m=>aA y (.tail _ m)) (fW.1.mono (fz (aE rfl:3+0≤24) b)) fW.2 (cn (dg (by rw[fg];exact jz ..)) bO) (rv (b:=T.length+b)▸a3) λ J aC H fS eM e hM h'=>
   f J aC H fS eM (fc trivial st e) (hM.mono (dg rv)) (h'.trans (an (λ l=>some (a0.li l)) (mO ..).symm))
noncomputable def FL:bk:=(.cons (.oZ [5,6,7] (.aq (.at (.v 0) 65) (.v 2))) (.cons (.ex (.call 45 (.cons (.v 0) (.cons (.v 5) (.cons (.v 6) (.cons (.v 7) .nil)))))) .nil))
theorem WH{s:(C→C)×(C→B (C×ap×C))}(b9:ik R 8)(ay:i<R.length)(be:(af R i).eL=true):(∀jM,jM≠i→(j' W R s i).1 jM=s.1 jM)∧∀l,∀e∈(j' W R s i).2 l,e.1=i+1∨e∈s.2 l:=
 AO b9 ay be λ aO j p aS=>(Gs (W:=W) (s:=s) aS).symm▸⟨λ jM z=>Bz z,λ l=>ts (λ cf=>∀e∈cf,e.1=i+1∨e∈s.2 l) (λ _ _ e b3=>(nE.mp b3).elim .inr λ b3=>(ht.mp b3).elim λ x w=>.inl (w.2▸rfl)) λ e b3=>.inr b3⟩
noncomputable def nM(R:B b5)(F:C→C)(I:C→B (C×ap×C))(i:C):Prop:=i<R.length∧(af R i).eL=true∧F i=2+128*(af R i).aM∧∀e∈I (af R i).ah,e.1=i+1→e.2.2=900
theorem nM.step{j:C}(b9:ik R 8)(ay:nM R F I i)(ne:j≠i)(p:nM R F I j):nM R (j' W R (F,I) i).1 (j' W R (F,I) i).2 j:=
 have s:=WH (W:=W) (s:=(F,I)) b9 ay.1 ay.2.1
 ⟨p.1,p.2.1,(s.1 _ ne).trans p.2.2.1,λ e b3 L=>(s.2 _ e b3).elim (λ w=>absurd (oQ (L.symm.trans w)) ne) λ b3=>p.2.2.2 e b3 L⟩
noncomputable def abM(z m:C)(l xs:B D)(env:aX)(n:St):Y (eZ×St):=@fC (live (.ref m) l) (e0 (.ref m) l) (λ x aF J=>(dh true [4,2] x aF).bind λ dG=>bS ac (runN ac (z+38)) FL dG J) xs env n
theorem ab'{l:B D}{aV aW:Y D}(xs:B C):∀{n:St} {T:B aP} {h:aT} {F:C→C} {I:C→B (C×ap×C)} {c:C} {bu cm o5 bN bm:Y D},(∀x∈xs,x<os.length)→(xs.map λ x=>os.getD x 0).Nodup→(∀x∈xs,nM R F I (os.getD x 0))→lV a h T W al aU R F I c→Good a h n→h .h7=some (.li (px R nd os))→h (.a6 m)=some (.li l)→c+xs.length≤20→T.length+4000*xs.length<200000→
  (∀(J:St) (aC:B aP) (H:aT) (aF:aX),abM z m l (xs.map (mB (fv R os))) (qw a aV bu aW cm o5 bN bm) n=some (.br aF,J)→Good a H J→lV a H aC W al aU R ((xs.map λ x=>os.getD x 0).foldl (j' W R) (F,I)).1 ((xs.map λ x=>os.getD x 0).foldl (j' W R) (F,I)).2 (c+xs.length)→(∃X,aC=T++X)→aC.length≤T.length+4000*xs.length→(∀r o,rk r=true→h r=some o→H r=some o)→X)→X:=by
 induction xs with
 |nil=>exact λ{n T h F I c bu cm o5 bN bm} aA oj bM S M qf hm hc a3 f=>f n T h _ (hf (de M hm)) M S ⟨[],(eX T).symm⟩ (cJ _) λ r o _ e=>e
 |cons x xs aZ=>
  intro n T h F I c bu cm o5 bN bm aA oj bM S M qf hm hc a3 f
  have oj:=nF.mp oj
  have xa:=aA x (.head _)
  have n6:=bM x (.head _)
  refine aca (z:=z) (nd:=nd (os.getD x 0)) S M n6.1 n6.2.1 n6.2.2.2 n6.2.2.1 (a' (d2 ..) hc) (cn (d2 ..) a3) λ aa bX aI au dJ bU ex pm qu=>?_
  have aq:=j6 (M.at_ _ _ qf) (i7 (f:=λ j=>D.tup [E (66+(af R j).ah),E (j+1),nd j]) (getD_at (x:=0) xa))
  have st:bS ac (runN ac (z+38)) FL (qw a aV (some (E x)) aW (some (E ((fv R os).getD x 0+1))) o5 bN bm) n=some (.br (qw a aV (some (E x)) aW (some (E ((fv R os).getD x 0+1))) (some (E (66+(af R (os.getD x 0)).ah))) (some (E (os.getD x 0+1))) (some (nd (os.getD x 0)))),aa):=(dk (z+38) FL (qw a aV (some (E x)) aW (some (E ((fv R os).getD x 0+1))) o5 bN bm) n _ (S.fQ.zA M) _ aq _ rfl _ _ au)
  exact aZ (λ y bI=>aA y (.tail _ bI)) oj.2 (λ y bI=>nM.step S.fQ.inv n6 (λ L=>oj.1 (ht.mpr ⟨y,bI,L⟩)) (bM y (.tail _ bI))) bU dJ (qu _ _ rfl qf) (qu _ _ rfl hm) (a' (dg (jz ..)) hc) (cn (a' (ha pm _) (dg pt)) a3) λ J aC H aF aB dF fA wR od FG=>
   f J aC H aF (fc (de M hm) st aB) dF ((jz c xs.length)▸fA) (md ex wR) (a' od (a' (ha pm _) (dg pt))) λ r o k e=>FG r o k (qu r o k e)
end
end Mine
end
section
namespace Mine
variable{aO:B C}{rev:av}{cz dn:C}{os:B C}
theorem NU:(hC aO).Nodup:=by
 unfold hC List.Nodup
 rw[List.pairwise_flatMap]
 exact⟨λ l _=>wc.filter _,wc.imp_of_mem λ _ _ ne x aA y bI e=>ne ((eq_of_beq (oN.mp aA).2).symm.trans (e▸eq_of_beq (oN.mp bI).2))⟩
theorem UR:((ck 5).all λ cz=>(ck 5).all λ cD=>(ck 5).all λ dn=>(kj (hC (gW true cz cD dn)).length 12&&kj (gW true cz cD dn).length 12)&&(kj (hC (gW false cz cD dn)).length 12&&kj (gW false cz cD dn).length 12))=true:=by kernel_rfl
theorem ab4{cD:C}(ax:cz≤4)(aH:cD≤4)(cI:dn≤4):(hC (gW rev cz cD dn)).length≤12∧(gW rev cz cD dn).length≤12:=
 have a:=dI.mp (ub (p:=λ dn=>(kj (hC (gW true cz cD dn)).length 12&&kj (gW true cz cD dn).length 12)&&(kj (hC (gW false cz cD dn)).length 12&&kj (gW false cz cD dn).length 12)) (ub (p:=λ cD=>(ck 5).all λ dn=>(kj (hC (gW true cz cD dn)).length 12&&kj (gW true cz cD dn).length 12)&&(kj (hC (gW false cz cD dn)).length 12&&kj (gW false cz cD dn).length 12)) (ub UR ax) aH) cI);
 have g:∀{x y:C},(kj x 12&&kj y 12)=true→x≤12∧y≤12:=λ h=>⟨aE (dI.mp h).1,aE (dI.mp h).2⟩;
 Qq (motive:=λ rev=>(hC (gW rev cz cD dn)).length≤12∧(gW rev cz cD dn).length≤12) (g a.2) (g a.1) rev
theorem Nb(h:os.Nodup){xs:B C}(nd:xs.Nodup)(aA:∀x∈xs,x<os.length):(xs.map λ x=>os.getD x 0).Nodup:=
 tQ.mpr (nd.imp_of_mem λ ax aH ne e=>ne ((B9 (aA _ ax) h).mp ((getD_at (aA _ ax)).trans ((an some e).trans (getD_at (aA _ aH)).symm))))
section
variable{a:bH}{h:aT}{n:St}{T:B aP}{z:C}{W:cw}{aU:C→ap}{R:B b5}{al:B (am×D)}{F:C→C}{I:C→B (C×ap×C)}{X:Prop}
theorem aef{m:C}{bf:B D}(e:n[m]? =some (.li (hF aO)))(hl:aO.length<64)(s:pI (hF aO)=some bf)(bI:bf.length<64):vD n (.ref m)=some bf:=
 (an (sS λ xs=>if xs.length<64∧xs.all m8=true then(pI xs).bind λ bf=>if bf.length<64 then some bf else none else none) e).trans ((if_pos ⟨by unfold hF;rw[cG,gA];exact hl,g9.mpr λ x m=>(ht.mp m).elim λ y w=>w.2▸rfl⟩).trans (aR s (if_pos bI)))
noncomputable def mA(R:B b5)(os:B C):B Nat:=(hC (fv R os)).map λ x=>os.getD x 0
theorem acb{nd:C→D}{cD:C}(S:lV a h T W al aU R F I 0)(M:Good a h n)(mg:∀i∈os,nM R F I i)(Ek:os.Nodup)(e5:fv R os=gW rev cz cD dn)(ax:cz≤4)(aH:cD≤4)(cI:dn≤4)(qf:h .h7=some (.li (px R nd os)))(a3:T.length<100000)
  (f:∀(J:St) (aC:B aP) (H:aT),runN ac (z+39) 44 [.ref (a .eH)] n=some (.nn,J)→Good a H J→lV a H aC W al aU R ((mA R os).foldl (j' W R) (F,I)).1 ((mA R os).foldl (j' W R) (F,I)).2 ((mA R os).length)→(∃X,aC=T++X)→aC.length≤T.length+60000→(∀r o,rk r=true→h r=some o→H r=some o)→X):X:=by
 have lL:(fv R os).length=os.length:=cG ..
 have qj:=ab4 (rev:=rev) ax aH cI
 rw[←e5]at qj
 have on:os.length≤12:=lL▸qj.2
 have da:(ck os.length).length≤12:=gA.symm▸on
 have b2:=b0.start S.fQ.bT M (.li [])
 have Of:=a' on (aE rfl:12≤1000)
 refine ab9 (z:=z) (nd:=nd) (os:=os) (m:=n.length) (lo:=0) (ay:=(os.length:am)) (cf:=(ck os.length).map E) (cm:=none) (o5:=none) (bN:=none) (bm:=none) (bu:=none) (cX:=none) S.fQ (λ i ay=>(mg i ay).1) qf (M.fresh (cJ _)) (ck os.length) (λ x aA=>f'.mp aA) b2.1 b2.2 (cn (dg (jh _)) (cn da (aE rfl))) (e' (r5 a3 (gT 24 da)) (aE rfl)) λ aa bX aI fS eM au cW hN=>?_
 have pm:bX.length≤T.length+288:=a' cW.le (fz (a' (fz (gT 24 da) 0) (aE rfl)) _)
 have hN:aI (.a6 n.length)=some (.li (hF (fv R os))):=hN.trans (an (λ z=>some (a0.li ((ck z).map (mB (fv R os))))) lL.symm)
 have ael:pI (hF (fv R os))=some ((hC (fv R os)).map (mB (fv R os))):=e5▸aed ax aH cI
 have g2:=b0.start cW.bT cW.good (.li ((hC (fv R os)).map (mB (fv R os))))
 have vS:∀x∈hC (fv R os),x<os.length:=λ x aA=>lL▸(FI.mp aA).1
 have uP:bX.length+4000*(hC (fv R os)).length<200000:=cn (hu pm (gT 4000 qj.1)) (e' (nG (nG a3 288) (4000*12)) (aE rfl))
 refine ab' (z:=z) (nd:=nd) (os:=os) (m:=aa.length) (l:=(hC (fv R os)).map (mB (fv R os))) (aV:=some (.ref n.length)) (aW:=eM) (hC (fv R os)) (bu:=fS) (cm:=none) (o5:=none) (bN:=none) (bm:=none) vS (Nb Ek NU vS) (λ x aA=>mg _ (mem_getD (vS x aA))) ((S.go cW).go g2.1) g2.1.good (g2.1.off rfl (cW.off rfl qf)) g2.2 (a' (dg (jh _)) (a' qj.1 (aE rfl))) uP λ J aC H aF aB dF fA ex od FG=>?_
 have ZO:=uY (b2.1.good.at_ _ _ (b2.1.off (r:=.h7) rfl qf))
 have E3:∀{α c4:Type} {f:α→c4} {l:B α} {b:C},l.length≤12→12≤b→(l.map f).length≤b:=λ p q=>(cG ..).symm▸a' p q
 have A5:=aef (de cW.good hN) (lL.symm▸cn on (aE rfl)) ael (pV (E3 qj.1 (aE rfl)))
 have abY:(mA R os).length=0+(hC (fv R os)).length:=(cG ..).trans (jh _).symm
 have ZN:aC.length≤T.length+60000:=a' od (a' (hu pm (gT 4000 qj.1)) (fz (aE rfl:288+4000*12≤60000) _))
 have oB:((ck os.length).map E).length≤100000:=E3 da (aE rfl)
 have tD:((hC (fv R os)).map (mB (fv R os))).length≤100000:=E3 qj.1 (aE rfl)
 have Hk:=adq Of
 have agd:hQ (n++[a0.li []]) (.ew 0 (os.length:am))=some ((ck os.length).map E):=adp Of
 exact f J aC H (cN (z+38) 44 [D.ref (a aN.eH)] n rfl rfl _ ((S.fQ.go b2.1).zA b2.1.good) _ ZO _ Hk _ agd oB _ _ au _ A5 _ (iw (de g2.1.good g2.2)) tD _ _ aB) dF (abY.symm▸fA) (md cW.jl.ext ex) ZN λ r o k e=>FG r o k (g2.1.off (xm k) (cW.off (xm k) e))
end
end Mine
end
section
namespace Mine
variable{t i c:C}{aQ bp bq bh bj bK bB cE:Y D}{m:C}{bi aW:Y D}
section
variable{a:bH}{h:aT}{n:St}{T:B aP}{z:C}{W:cw}{R:B b5}{c5:C→C}{S:C→B (ap×C)}{X:Prop}
structure ff(a:bH)(h:aT)(T:B aP)(W:cw)(R:B b5)(c5:C→C)(S:C→B (ap×C))(t:C):Prop where
 lw:fN a h W
 bT:c6 a h T
 w:h .w=some (.ds (dE a t 8))
 rows:h .gz=some (.li ((ck R.length).map λ j=>.ref (a (.row j))))
 row:∀j,j<R.length→nL a h j (af R j) (c5 j) (S j)
 eW:∀r∈R,r.ah≤3∧(r.nm=109∨r.nm=110)∧r.aM≤1
 da:R.length≤16
 lQ:∀j,j<R.length→∀x∈S j,∃e,e≤(af R j).ah∧x.1=dM W (af R j).ah e
 mF:∀j,j<R.length→(S j).length≤(af R j).ah
theorem ff.go{H:aT}{aC:B aP}{J:St}{b:C}(ae:ff a h T W R c5 S t)(x:b0 a h T b J aC H):ff a H aC W R c5 S t:=
 ⟨ae.lw.go x,x.bT,x.off rfl ae.w,x.off rfl ae.rows,λ j bt=>(ae.row j bt).bx (bY.go x λ r k=>k.elim (λ e=>e▸rfl) λ e=>e▸rfl),ae.eW,ae.da,ae.lQ,ae.mF⟩
theorem ff.ok(ae:ff a h T W R c5 S t)(ay:i<R.length):(af R i).ah≤3∧((af R i).nm=109∨(af R i).nm=110)∧(af R i).aM≤1:=ae.eW _ (h2 (iL ay))
noncomputable def E1:ab:=(.comp (.v 9) [9] false (.aq (.v 0) (.ss [114,111,119,115])) (.cons (.and (.cons (.cmp .eq (.aq (.v 9) (.ss [108,101,118,101,108])) (.v 3)) (.cons (.cmp .eq (.aq (.v 9) (.ss [110,97,109,101])) (.aq (.v 1) (.ss [110,97,109,101]))) .nil))) .nil))
noncomputable def DS:ab:=(.comp (.v 10) [10] false (.v 5) (.cons (.cmp .eq (.aq (.v 10) (.ss [115,111,114,116])) (.aq (.v 1) (.ss [115,111,114,116]))) .nil))
noncomputable def i6(a:bH)(i:C)(bi aQ aW bp bq bh bj bK bB cE:Y D):aX:=[bi,some (.ref (a (.row i))),aQ,aW,bp,bq,bh,bj,bK,bB,cE]
theorem Z'(ae:ff a h T W R c5 S t)(M:Good a h n)(ay:i<R.length):ci ac (runN ac z) E1 (i6 a i (some (.ref (a .w))) aQ (some (E c)) bp bq bh bj bK bB cE) n=some (.ref n.length,n++[.li ((hh R c (af R i).nm).map λ j=>.ref (a (.row j)))]):=by
 have q:=(ae.row i ay).at_ M
 have gM:=sy (V:=runN ac z) (x:=9) (env:=i6 a i (some (.ref (a .w))) aQ (some (E c)) bp bq bh bj bK bB cE) (acc:=[]) (eR:=ck R.length) (f:=λ j=>.ref (a (.row j))) (b7:=.v 9) (eo:=.cons (.and (.cons (.cmp .eq (.aq (.v 9) (.ss [108,101,118,101,108])) (.v 3)) (.cons (.cmp .eq (.aq (.v 9) (.ss [110,97,109,101])) (.aq (.v 1) (.ss [110,97,109,101]))) .nil))) .nil) (M.at_ _ _ ae.rows) (p:=λ j=>(af R j).ah==c&&decide ((af R j).nm=(af R i).nm)) (g:=λ j=>.ref (a (.row j))) λ j bt=>by
  have bt:=f'.mp bt
  have r:=(ae.row j bt).at_ M
  have er:fr ac (runN ac z) (.cmp .eq (.aq (.v 9) (.ss [108,101,118,101,108])) (.v 3)) (i6 a i (some (.ref (a .w))) aQ (some (E c)) bp bq bh bj bK (some (.ref (a (.row j)))) cE) n=some (decide ((af R j).ah=c),n):=(jc z (Mine.T.cmp je.eq ((ab.v 9).aq (ab.ss [108,101,118,101,108])) (ab.v 3)) (i6 a i (some (D.ref (a aN.w))) aQ (some (E c)) bp bq bh bj bK (some (D.ref (a (aN.row j)))) cE) n _ r.1 _ qc)
  have eN:fr ac (runN ac z) (.cmp .eq (.aq (.v 9) (.ss [110,97,109,101])) (.aq (.v 1) (.ss [110,97,109,101]))) (i6 a i (some (.ref (a .w))) aQ (some (E c)) bp bq bh bj bK (some (.ref (a (.row j)))) cE) n=some (decide ((af R j).nm=(af R i).nm),n):=(jc z (Mine.T.cmp je.eq ((ab.v 9).aq (ab.ss [110,97,109,101])) ((ab.v 1).aq (ab.ss [110,97,109,101]))) (i6 a i (some (D.ref (a aN.w))) aQ (some (E c)) bp bq bh bj bK (some (D.ref (a (aN.row j)))) cE) n _ r.2.1 _ q.2.1 _ (Fo (ae.ok bt).2.1 (ae.ok ay).2.1))
  exact⟨SS er eN,qy rfl⟩
 have hl:((ck R.length).map λ j=>D.ref (a (.row j))).length≤100000:=by rw[cG,gA];exact a' ae.da (aE rfl)
 exact(hH z E1 (i6 a i (some (D.ref (a aN.w))) aQ (some (E c)) bp bq bh bj bK bB cE) n _ (gw (M.at_ _ _ ae.w) rfl) _ (iw (M.at_ _ _ ae.rows)) hl _ _ gM)
theorem WJ(ae:ff a h T W R c5 S t)(M:Good a h n)(ay:i<R.length)(hm:n[m]? =some (.li ((hh R c (af R i).nm).map λ j=>.ref (a (.row j))))):ci ac (runN ac z) DS (i6 a i bi aQ aW bp (some (.ref m)) bh bj bK bB cE) n=some (.ref n.length,n++[.li ((gu R c (af R i).nm (af R i).aM).map λ j=>.ref (a (.row j)))]):=by
 have q:=(ae.row i ay).at_ M
 have gM:=sy (V:=runN ac z) (x:=10) (env:=i6 a i bi aQ aW bp (some (.ref m)) bh bj bK bB cE) (acc:=[]) (eR:=hh R c (af R i).nm) (f:=λ j=>.ref (a (.row j))) (b7:=.v 10) (eo:=.cons (.cmp .eq (.aq (.v 10) (.ss [115,111,114,116])) (.aq (.v 1) (.ss [115,111,114,116]))) .nil) hm (p:=λ j=>decide ((af R j).aM=(af R i).aM)) (g:=λ j=>.ref (a (.row j))) λ j bt=>by
  have r:=(ae.row j (xy.mp bt).1).at_ M
  have er:fr ac (runN ac z) (.cmp .eq (.aq (.v 10) (.ss [115,111,114,116])) (.aq (.v 1) (.ss [115,111,114,116]))) (i6 a i bi aQ aW bp (some (.ref m)) bh bj bK bB (some (.ref (a (.row j))))) n=some (decide ((af R j).aM=(af R i).aM),n):=(jc z (Mine.T.cmp je.eq ((ab.v 10).aq (ab.ss [115,111,114,116])) ((ab.v 1).aq (ab.ss [115,111,114,116]))) (i6 a i bi aQ aW bp (some (D.ref m)) bh bj bK bB (some (D.ref (a (aN.row j))))) n _ r.2.2.1 _ q.2.2.1 _ qc)
  exact⟨(qG er rfl).trans (by rw[vY]),qy rfl⟩
 have hl:((hh R c (af R i).nm).map λ j=>D.ref (a (.row j))).length≤100000:=by rw[cG];exact a' (Aw ae.da) (aE rfl)
 exact(hH z DS (i6 a i bi aQ aW bp (some (D.ref m)) bh bj bK bB cE) n _ (iw hm) hl _ _ gM)
noncomputable def vi:bk:=(.cons (.ex (.append (.aq (.v 1) (.ss [115,116,97,110,100,115])) (.tup (.cons (.call 53 (.cons (.v 7) (.cons (.v 4) .nil))) (.cons (.v 8) .nil))))) .nil)
theorem WQ{l:B ap}:(∀t∈l,t.ar m)→(gX c l).ar m:=uA (ak:=λ l=>(∀t∈l,t.ar m)→(gX c l).ar m) l (λ _=>trivial) (λ t h=>h t (.head _)) (λ t u h=>⟨h t (.head _),h u (.tail _ (.head _))⟩) λ _ _ _ _ _=>trivial
noncomputable def vB(W:cw)(ae d:C)(x:ap×C):ap×Nat:=(x.1.sub (W.dK ae d),x.2)
theorem ace{j d:C}{qM:C}(K:W.ok)(cC:(af R i).ah≤3)(a1:d≤(af R i).ah)(bt:(af R j).ah=(af R i).ah-d)(ne:j≠i){l:B D}(xs:B (ap×C)):∀{n:St} {aI:aT} {acc:B (ap×C)} {bm eJ:Y D},(∀x∈xs,∃e,e≤(af R j).ah∧x.1=dM W (af R j).ah e)→Good a aI n→aI (.row i)=some (.ds (ou a i (af R i) qM))→aI (.st i)=some (.li (acc.map lk))→aI (.st j)=some (.li l)→acc.length+xs.length<900→
  (∀(J:St) (H:aT) (gE hD:Y D),@fC (live (.ref (a (.st j))) l) (e0 (.ref (a (.st j))) l) (λ x aF J=>(dh true [7,8] x aF).bind λ dG=>bS ac (runN ac (z+25)) vi dG J) (xs.map lk) (i6 a i bi aQ aW (some (.tup ((W.dK (af R i).ah d).map bd))) bq bh bm eJ bB cE) n=some (.br (i6 a i bi aQ aW (some (.tup ((W.dK (af R i).ah d).map bd))) bq bh gE hD bB cE),J)→Good a H J→H (.st i)=some (.li ((acc++xs.map (vB W (af R i).ah d)).map lk))→(∀r,r≠ .st i→H r=aI r)→X)→X:=by
 induction xs with
 |nil=>exact λ{n aI acc bm eJ} aA M a4 hs z' hl f=>f n aI bm eJ (hf (M.at_ _ _ z')) M ((eX acc).symm▸hs) λ _ _=>rfl
 |cons x xs aZ=>
  intro n aI acc bm eJ aA M a4 hs z' hl f
  have⟨e,b3,ex⟩:=aA x (.head _)
  have MZ:(af R j).ah≤3:=bt▸a' (nH ..) cC
  have ar:x.1.ar (W.dK (af R i).ah d).length:=by rw[(K.arg cC a1).1,ex,←bt];exact WQ λ t bD=>((K.arg MZ b3).2 t bD).1
  have aeZ:x.1.size≤24:=ex▸a' (u0 K MZ b3).2.1 (aE rfl)
  have⟨b9,O⟩:=EO (z:=z) (n:=n) (K.lC cC a1) aeZ ar
  have jm:dd n (.ref (a (.row i))) (.ss [115,116,97,110,100,115])=some (.ref (a (.st i))):=gw (M.at_ _ _ a4) rfl
  refine(M.ml (b9:=b9)).l8 (v:=lk (vB W (af R i).ah d x)) hs ((cG (as:=acc) lk).symm▸fh (cn (d2 ..) hl) (aE rfl)) λ ao ez dA=>?_
  have st:bS ac (runN ac (z+25)) vi (i6 a i bi aQ aW (some (.tup ((W.dK (af R i).ah d).map bd))) bq bh (some (bd x.1)) (some (E x.2)) bB cE) n=some (.br (i6 a i bi aQ aW (some (.tup ((W.dK (af R i).ah d).map bd))) bq bh (some (bd x.1)) (some (E x.2)) bB cE),ao):=(dk (z+25) vi (i6 a i bi aQ aW (some (D.tup (eA bd (W.dK (af R i).ah d)))) bq bh (some (bd x.fst)) (some (E x.snd)) bB cE) n _ jm (hP (M.at_ _ _ hs)) _ _ O _ ez)
  exact aZ (acc:=acc++[vB W (af R i).ah d x]) (bm:=some (bd x.1)) (eJ:=some (E x.2)) (λ y bI=>aA y (.tail _ bI)) dA ((bP _ _ (a5 rfl)).trans a4) ((cR _ _ _).trans (an (λ l=>some (a0.li l)) (Gq (f:=lk)))) ((bP _ _ λ L=>ne (aN.st.inj L)).trans z') (cn (dg (by rw[fg];exact jz ..)) hl) λ J H gE hD aB dF jL fq=>
   f J H gE hD (fc (M.at_ _ _ z') st aB) dF (mO acc (vB W (af R i).ah d x) (xs.map (vB W (af R i).ah d))▸jL) λ r L=>(fq r L).trans (bP _ _ L)
end
end Mine
end
section
namespace Mine
variable{i:C}{d3:B (ap×C)}{x j d mu:C}{p:av}{r:B C}{bi bq bj bK bB cE:Y D}{t:C}
section
variable{a:bH}{h:aT}{n:St}{T:B aP}{z:C}{W:cw}{R:B b5}{c5:C→C}{S:C→B (ap×C)}{X:Prop}
noncomputable def i8(W:cw)(R:B b5)(S:C→B (ap×C))(i aO j:C)(p:av):B (ap×C):=
 (if p=true then [(dM W (af R i).ah ((af R i).ah-aO),j+1)]else [])++(S j).map λ x=>(x.1.sub (W.dK (af R i).ah ((af R i).ah-aO)),x.2)
noncomputable def oz(S:C→B (ap×C))(i:C)(d3:B (ap×C)):C→B (ap×C):=λ x=>if x=i then d3 else S x
theorem yl:oz S i d3 i=d3:=if_pos rfl
theorem ym(h:x≠i):oz S i d3 x=S x:=if_neg h
noncomputable def zO:bk:=.cons (.o3 (.v 1) (.ss [102,108,97,103,115]) .add (.ii 4)) (.cons (.ex (.append (.aq (.v 1) (.ss [115,116,97,110,100,115])) (.tup (.cons (.tup (.cons (.ss [103]) (.cons (.bin .add (.ii 66) (.v 3)) (.cons (.v 4) .nil)))) (.cons (.aq (.aq (.v 6) (.ii 0)) (.ss [109,105,100])) .nil))))) .nil)
noncomputable def Ei:bk:=(.cons (.b4 (.e (.v 2)) zO .nil) (.cons (.dc [7,8] true (.aq (.aq (.v 6) (.ii 0)) (.ss [115,116,97,110,100,115])) vi) (.cons (.mC) .nil)))
noncomputable def M5:bk:=(.cons (.asg 5 E1) (.cons (.asg 6 DS) (.cons (.asg 2 (.or (.cons (.v 2) (.cons (.cmp .gt (.len (.v 5)) (.len (.v 6))) .nil)))) (.cons (.b4 (.cmp .ne (.v 6) (.lst .nil)) Ei .nil) .nil))))
noncomputable def xt(W:cw)(ae d:C):D:=.tup [E (ae-d),.tup ((W.dK ae d).map bd)]
theorem SJ:kC .add (E x) (.ii 4)=some (E (x+4)):=rfl
theorem Fi(h:j≠i):aN.row j≠ .row i:=λ e=>h (aN.row.inj e)
theorem Nn(h:j≠i):aN.st j≠ .st i:=λ e=>h (aN.st.inj e)
noncomputable def pf(a:bH)(i:C)(bi:Y D)(p:av)(W:cw)(ae d:C)(bq:Y D)(mu:C)(bj bK bB cE:Y D):aX:=i6 a i bi (some (.cj p)) (some (E (ae-d))) (some (.tup ((W.dK ae d).map bd))) bq (some (.ref mu)) bj bK bB cE
theorem XM(K:W.ok)(M:Good a h n)(cC:(af R i).ah≤3)(a1:d≤(af R i).ah)(ne:j≠i)(t8:nL a h i (af R i) (c5 i) [])(wr:h (.row j)=some (.ds (ou a j (af R j) (c5 j))))(hm:h (.a6 mu)=some (.li ((j::r).map λ j=>.ref (a (.row j)))))
  (f:∀(aa:St) (aI:aT),bS ac (runN ac z) (.cons (.b4 (.e (.v 2)) zO .nil) .nil) (pf a i bi p W (af R i).ah d bq mu bj bK bB cE) n=some (.br (pf a i bi p W (af R i).ah d bq mu bj bK bB cE),aa)→Good a aI aa→aI (.row i)=some (.ds (ou a i (af R i) (if p=true then c5 i+4 else c5 i)))→aI (.st i)=some (.li ((if p=true then [(dM W (af R i).ah d,j+1)]else []).map lk))→(∀r,r≠ .row i→r≠ .st i→aI r=h r)→X):X:=by
 cases p with
 |false=>exact f n h (dk z (bk.cons (S.b4 (T.e (ab.v 2)) zO bk.nil) bk.nil) (pf a i bi false W (af R i).ah d bq mu bj bK bB cE) n _ ((rfl:ic n (.cj false)=some false))) M t8.row t8.st λ _ _ _=>rfl
 |true=>
  have q:=t8.at_ M
  have qB:vv n (.ref (a (.row i))) (.ss [102,108,97,103,115])=some (E (c5 i)):=q.2.2.2.2.1
  have dJ:=M.set (c3:=.ds (ou a i (af R i) (c5 i+4))) t8.row
  have adQ:j9 n (.ref (a (.row i))) (.ss [102,108,97,103,115]) (E (c5 i+4))=some (n.set (a (.row i)) (.ds (ou a i (af R i) (c5 i+4)))):=x7 (M.at_ _ _ t8.row) (aE rfl)
  have O4:(up h (.row i) (some (.ds (ou a i (af R i) (c5 i+4))))) (.st i)=some (.li (([]:B (ap×C)).map lk)):=(bP _ _ (a5 rfl)).trans t8.st
  have bl:dd (n.set (a (.row i)) (.ds (ou a i (af R i) (c5 i+4)))) (.ref (a (.row j))) (.ss [109,105,100])=some (E (j+1)):=gw (dJ.at_ _ _ ((bP _ _ (Fi ne)).trans wr)) rfl
  have EF:=j6 (k:=0) (de dJ ((bP _ _ (a5 rfl)).trans hm)) rfl
  have xc:dd (n.set (a (.row i)) (.ds (ou a i (af R i) (c5 i+4)))) (.ref (a (.row i))) (.ss [115,116,97,110,100,115])=some (.ref (a (.st i))):=gw (dJ.at_ _ _ (cR _ _ _)) rfl
  refine dJ.l8 (v:=.tup [bd (dM W (af R i).ah d),E (j+1)]) O4 (aE rfl) λ ao ez dA=>?_
  rw[(u0 K cC a1).2.2]at ez
  exact f ao _ (dk z (bk.cons (S.b4 (T.e (ab.v 2)) zO bk.nil) bk.nil) (pf a i bi true W (af R i).ah d bq mu bj bK bB cE) n _ ((rfl:ic n (.cj true)=some true)) _ qB _ SJ _ adQ _ xc (hP (dJ.at_ _ _ O4)) _ rfl _ EF _ bl _ ez) dA ((bP _ _ (a5 rfl)).trans (cR _ _ _)) (cR _ _ _) λ r d4 d5=>(bP _ _ d5).trans (bP _ _ d4)
theorem Nt{r:aN}(k:sV r=true):r≠ .row i∧r≠ .st i:=⟨λ L=>(nomatch(L▸k:sV (.row i)=true)),λ L=>(nomatch(L▸k:sV (.st i)=true))⟩
theorem Ns{r:aN}(k:hR r=true):r≠ .row i∧r≠ .st i:=⟨λ L=>(nomatch(L▸k:hR (.row i)=true)),λ L=>(nomatch(L▸k:hR (.st i)=true))⟩
theorem ff.upd{H:aT}{g8:C}(ae:ff a h T W R c5 S t)(a4:H (.row i)=some (.ds (ou a i (af R i) g8)))(hs:H (.st i)=some (.li (d3.map lk)))(fq:∀r,r≠ .row i→r≠ .st i→H r=h r)(aM:∀x∈d3,∃e,e≤(af R i).ah∧x.1=dM W (af R i).ah e)(dQ:d3.length≤(af R i).ah):ff a H T W R (kN c5 i g8) (oz S i d3) t where
 lw:=ae.lw.bx λ r k=>⟨rfl,λ o e=>(fq r (Nt k).1 (Nt k).2).trans e⟩
 bT:=ae.bT.off λ r o k e=>(fq r (Ns k).1 (Ns k).2).trans e
 w:=(fq _ (a5 rfl) (a5 rfl)).trans ae.w
 rows:=(fq _ (a5 rfl) (a5 rfl)).trans ae.rows
 row:=λ x aA=>(f7 (x=i)).elim (λ L=>by rw[L,GX,yl];exact⟨a4,hs⟩) λ L=>by rw[Bz L,ym L];exact⟨(fq _ (Fi L) (a5 rfl)).trans (ae.row x aA).row,(fq _ (a5 rfl) (Nn L)).trans (ae.row x aA).st⟩
 eW:=ae.eW
 da:=ae.da
 lQ:=λ x aA=>(f7 (x=i)).elim (λ L=>by rw[L,yl];exact aM) λ L=>by rw[ym L];exact ae.lQ x aA
 mF:=λ x aA=>(f7 (x=i)).elim (λ L=>by rw[L,yl];exact dQ) λ L=>by rw[ym L];exact ae.mF x aA
theorem XN(ae:ff a h T W R c5 S t)(M:Good a h n)(ay:i<R.length)(a1:d≤(af R i).ah)(LC:1≤d)(dx:S i=[])(cl:gu R ((af R i).ah-d) (af R i).nm (af R i).aM=j::r)(hm:h (.a6 mu)=some (.li ((gu R ((af R i).ah-d) (af R i).nm (af R i).aM).map λ j=>.ref (a (.row j)))))
  (f:∀(J:St) (H:aT),bS ac (runN ac (z+31)) Ei (pf a i bi p W (af R i).ah d bq mu bj bK bB cE) n=some (.f3 .nn,J)→Good a H J→ff a H T W R (kN c5 i (if p=true then c5 i+4 else c5 i)) (oz S i (i8 W R S i ((af R i).ah-d) j p)) t→(∀r,r≠ .row i→r≠ .st i→H r=h r)→X):X:=by
 have K:=ae.lw.ok
 have hE:=ae.ok ay
 have fY:=ru.mp (cl▸.head _:j∈gu R ((af R i).ah-d) (af R i).nm (af R i).aM)
 have lt:(af R j).ah< (af R i).ah:=fY.2.1▸Cp (e' LC a1) LC
 have ne:j≠i:=λ L=>oP _ (L▸lt)
 have wr:=ae.row j fY.1
 rw[cl]at hm
 refine XM (z:=z+31) (p:=p) (bi:=bi) (bq:=bq) (bj:=bj) (bK:=bK) (bB:=bB) (cE:=cE) K M hE.1 a1 ne (dx▸ae.row i ay) wr.row hm λ aa aI au dJ LP w7 xN=>?_
 have O':=(xN _ (a5 rfl) (Nn ne)).trans wr.st
 have Gn:=ae.mF j fY.1
 have first:(if p=true then [(dM W (af R i).ah d,j+1)]else []).length≤1:=match p with|true=>cJ _|false=>fs _
 refine ace (z:=z+6) (i:=i) (j:=j) (d:=d) (bi:=bi) (aQ:=some (.cj p)) (aW:=some (E ((af R i).ah-d))) (bq:=bq) (bh:=some (.ref mu)) (bB:=bB) (cE:=cE) (l:=(S j).map lk) K hE.1 a1 fY.2.1 ne (S j) (bm:=bj) (eJ:=bK) (ae.lQ j fY.1) dJ LP w7 O' (cn (hu first (a' Gn (ae.ok fY.1).1)) (aE rfl)) λ ao bJ gE hD aB dA z8 FJ=>?_
 have ac9:=r8 a1
 have F9:i8 W R S i ((af R i).ah-d) j p=(if p=true then [(dM W (af R i).ah d,j+1)]else [])++(S j).map (vB W (af R i).ah d):=by unfold i8;rw[ac9];rfl
 have xc:dd aa (.ref (a (.row j))) (.ss [115,116,97,110,100,115])=some (.ref (a (.st j))):=gw (dJ.at_ _ _ ((xN _ (Fi ne) (a5 rfl)).trans wr.row)) rfl
 have EF:=j6 (k:=0) (de dJ ((xN _ (a5 rfl) (a5 rfl)).trans hm)) rfl
 have bZ:bS ac (runN ac (z+31)) (.cons (.dc [7,8] true (.aq (.aq (.v 6) (.ii 0)) (.ss [115,116,97,110,100,115])) vi) (.cons (.mC) .nil)) (pf a i bi p W (af R i).ah d bq mu bj bK bB cE) aa=some (.f3 .nn,ao):=(dk (z+31) (bk.cons (Mine.S.dc [7,8] true (((ab.v 6).aq (ab.ii 0)).aq (ab.ss [115,116,97,110,100,115])) vi) (bk.cons Mine.S.mC bk.nil)) (pf a i bi p W (af R i).ah d bq mu bj bK bB cE) aa _ EF _ xc _ (iw (dJ.at_ _ _ O')) ((cG (as:=S j) lk).symm▸a' Gn (a' (ae.ok fY.1).1 (aE rfl))) _ _ aB)
 refine f ao bJ ((j8 au).trans bZ) dA (ae.upd ((FJ _ (a5 rfl)).trans LP) (F9▸z8) (λ r d4 d5=>(FJ r d5).trans (xN r d4 d5)) ?_ ?_) λ r d4 d5=>(FJ r d5).trans (xN r d4 d5)
 ·rw[F9]
  exact λ y bI=>(nE.mp bI).elim (λ bI=>match p,bI with
   |true,bI=>⟨d,a1,(jy.mp bI).symm▸rfl⟩
   |false,bI=>nomatch(bI:y∈ [])) λ bI=>(ht.mp bI).elim λ w L=>L.2▸(ae.lQ j fY.1 w L.1).elim λ e q=>
    have le:d+e≤(af R i).ah:=a' (fz (fY.2.1▸q.1) d) (dg (Rg a1));
    ⟨d+e,le,(an (ap.sub _) (q.2.trans (fY.2.1▸rfl))).trans (ET K hE.1 le)⟩
 ·rw[F9,fg,cG]
  exact a' (hu first Gn) (qS .. ▸lt)
end
end Mine
end
section
namespace Mine
variable{V:jf}{env:aX}{i t:C}
section
variable{a:bH}{h:aT}{n:St}{T:B aP}{z:C}{W:cw}{R:B b5}{c5:C→C}{S:C→B (ap×C)}{X:Prop}
theorem ab0{x:C}{e:ab}{p b:av}(h:env[x]? =some (some (.cj p)))(b3:ci ac V e env n=some (.cj b,n)):ci ac V (.or (.cons (.v x) (.cons e .nil))) env n=some (.cj (p||b),n):=
 show xY ac V _ env n=_ from aR (qy h) (aR rfl (match p with|true=>if_pos rfl|false=>(if_neg mL).trans b3))
theorem W6{x y:ab}{j:C}(ax:ci ac V x env n=some (E i,n))(aH:ci ac V y env n=some (E j,n)):ci ac V (.cmp .gt x y) env n=some (.cj (decide (j<i)),n):=aR ax (aR aH (aR nT rfl))
noncomputable def nb(R:B b5)(i d:C):B Nat:=hh R ((af R i).ah-d) (af R i).nm
noncomputable def vl(R:B b5)(i d:C)(p:av):Bool:=p||decide ((it R i d).length< (nb R i d).length)
theorem aaj{m:C}{l:B D}(HI:ff a h T W R c5 S t)(ay:i<R.length)(dx:S i=[])(c:C):∀{d:C} {p:av} {s:C×C×av} {n:St} {aI:aT} {cX cm o5 bN bm eJ hB em:Y D},c+d=(af R i).ah+1→1≤d→b0 a h T 0 n T aI→aI (.a6 m)=some (.li l)→scan R (af R i).nm (af R i).aM c p=some s→
  (∀(J:St) (H:aT),@fC (live (.ref m) l) (e0 (.ref m) l) (λ x aF J=>(dh true [3,4] x aF).bind λ dG=>bS ac (runN ac (z+31)) M5 dG J) ((pS d c).map (xt W (af R i).ah)) (i6 a i (some (.ref (a .w))) (some (.cj p)) cX cm o5 bN bm eJ hB em) n=some (.f3 .nn,J)→Good a H J→ff a H T W R (kN c5 i (if s.2.2=true then c5 i+4 else c5 i)) (oz S i (i8 W R S i s.1 s.2.1 s.2.2)) t→(∀r o,gY r=false→r≠ .row i→r≠ .st i→h r=some o→H r=some o)→X)→X:=by
 induction c with
 |zero=>exact λ{d p s n aI cX cm o5 bN bm eJ hB em} hc a1 go hm hs=>nomatch hs
 |succ c aZ=>
  intro d p s n aI cX cm o5 bN bm eJ hB em hc a1 go hm hs f
  have ae:=HI.go go
  have LA:=oQ ((Rt c d).symm.trans hc)
  have hl:(af R i).ah-d=c:=by rw[←LA,Rf]
  have XB:d≤(af R i).ah:=LA▸iE ..
  have jL:scan R (af R i).nm (af R i).aM ((af R i).ah-d+1) p=some s:=hl.symm▸hs
  have dq:=de go.good hm
  have au:=Z' (z:=z+31) (i:=i) (c:=(af R i).ah-d) (aQ:=some (.cj p)) (bp:=some (.tup ((W.dK (af R i).ah d).map bd))) (bq:=o5) (bh:=bN) (bj:=bm) (bK:=eJ) (bB:=hB) (cE:=em) ae go.good ay
  have g1:=b0.start go.bT go.good (.li ((nb R i d).map λ j=>.ref (a (.row j))))
  have aB:=WJ (z:=z+31) (i:=i) (c:=(af R i).ah-d) (m:=n.length) (bi:=some (.ref (a .w))) (aQ:=some (.cj p)) (aW:=some (E ((af R i).ah-d))) (bp:=some (.tup ((W.dK (af R i).ah d).map bd))) (bh:=bN) (bj:=bm) (bK:=eJ) (bB:=hB) (cE:=em) (ae.go g1.1) g1.1.good ay (de g1.1.good g1.2)
  have g2:=b0.start g1.1.bT g1.1.good (.li ((it R i d).map λ j=>.ref (a (.row j))))
  have u4:=uY (de g2.1.good (g2.1.a6 g1.2).1)
  have xq:=uY (de g2.1.good g2.2)
  have gK:=b0.start g2.1.bT g2.1.good (.li [])
  have jK:=((go.trans g1.1).trans g2.1).trans gK.1
  have ne:=Fh (de gK.1.good (gK.1.a6 g2.2).1) (de gK.1.good gK.2)
  rw[QZ]at ne
  have tt:fr ac (runN ac (z+31)) (.cmp .ne (.v 6) (.lst .nil)) (pf a i (some (.ref (a .w))) (vl R i d p) W (af R i).ah d (some (.ref n.length)) (n++[a0.li ((nb R i d).map λ j=>.ref (a (.row j)))]).length bm eJ hB em) (n++[.li ((nb R i d).map λ j=>.ref (a (.row j)))]++[.li ((it R i d).map λ j=>.ref (a (.row j)))])=some (!(it R i d).isEmpty,n++[.li ((nb R i d).map λ j=>.ref (a (.row j)))]++[.li ((it R i d).map λ j=>.ref (a (.row j)))]++[.li []]):=(jc (z+31) (Mine.T.cmp je.ne (ab.v 6) (ab.lst d6.nil)) (pf a i (some (D.ref (a aN.w))) (vl R i d p) W (af R i).ah d (some (D.ref (f9 n))) (f9 (n++[a0.li (eA (λ j=>D.ref (a (aN.row j))) (nb R i d))])) bm eJ hB em) (n++[a0.li (eA (λ j=>D.ref (a (aN.row j))) (nb R i d))]++[a0.li (eA (λ j=>D.ref (a (aN.row j))) (it R i d))]) _ ne)
  have lb:∀{hd},(bS ac (runN ac (z+31)) (.cons (.b4 (.cmp .ne (.v 6) (.lst .nil)) Ei .nil) .nil) (pf a i (some (.ref (a .w))) (vl R i d p) W (af R i).ah d (some (.ref n.length)) (n++[a0.li ((nb R i d).map λ j=>.ref (a (.row j)))]).length bm eJ hB em) (n++[.li ((nb R i d).map λ j=>.ref (a (.row j)))]++[.li ((it R i d).map λ j=>.ref (a (.row j)))]))=hd→bS ac (runN ac (z+31)) M5 (i6 a i (some (.ref (a .w))) (some (.cj p)) (some (E ((af R i).ah-d))) (some (.tup ((W.dK (af R i).ah d).map bd))) o5 bN bm eJ hB em) n=hd:=λ e=>aR (aR au rfl) (aR (aR aB rfl) (aR (aR (ab0 rfl (W6 (aR (qy rfl) (aR u4 rfl)) (aR (qy rfl) (aR xq rfl)))) rfl) e))
  cases cl:it R i d with
  |cons fR r=>
   have L:=lj (Bb cl) jL
   subst L
   exact XN (z:=z) (i:=i) (d:=d) (mu:=(n++[a0.li ((nb R i d).map λ j=>.ref (a (.row j)))]).length) (p:=vl R i d p) (bi:=some (.ref (a .w))) (bq:=some (.ref n.length)) (bj:=bm) (bK:=eJ) (bB:=hB) (cE:=em) (HI.go jK) gK.1.good ay XB a1 dx cl (gK.1.a6 g2.2).1 λ J H fG dF lX fq=>
    f J H (K7 dq (lb (aR (aR tt ((if_pos (an (λ l:B C=>!l.isEmpty) cl)).trans fG)) rfl))) dF lX λ r o k iy kG e=>(fq r iy kG).trans (jK.off k e)
  |nil=>
   have hK:vl R i d p=(p||decide (0< (hh R ((af R i).ah-d) (af R i).nm).length)):=an (λ x:B C=>p||decide (x.length< (nb R i d).length)) cl
   have z8:=(x5 cl).symm.trans jL
   rw[←hK,hl]at z8
   exact aZ (d:=d+1) (p:=vl R i d p) (cX:=some (E ((af R i).ah-d))) (cm:=some (.tup ((W.dK (af R i).ah d).map bd))) (o5:=some (.ref n.length)) (bN:=some (.ref (n++[a0.li ((nb R i d).map λ j=>.ref (a (.row j)))]).length)) (bm:=bm) (eJ:=eJ) (hB:=hB) (em:=em) ((jz c d).symm.trans hc) (iE ..) jK (gK.1.a6 (g2.1.a6 (g1.1.a6 hm).1).1).1 z8 λ J H j3 dF lX off=>
    f J H (fc dq (lb (aR (aR tt (if_neg (ne_true_of_eq_false (an (λ l:B C=>!l.isEmpty) cl)))) rfl)) j3) dF lX off
theorem ZK{s:C×C×av}(ae:ff a h T W R c5 S t)(M:Good a h n)(ay:i<R.length)(dx:S i=[])(hs:scan R (af R i).nm (af R i).aM (af R i).ah false=some s)
  (f:∀(J:St) (H:aT),runN ac (z+32) 61 [.ref (a .w),.ref (a (.row i))] n=some (.nn,J)→Good a H J→ff a H T W R (kN c5 i (if s.2.2=true then c5 i+4 else c5 i)) (oz S i (i8 W R S i s.1 s.2.1 s.2.2)) t→(∀r o,gY r=false→r≠ .row i→r≠ .st i→h r=some o→H r=some o)→X):X:=by
 have hE:=ae.ok ay
 refine EN (z:=z+5) ae.lw ae.bT M hE.1 λ m aa aI au cW hN cl=>?_
 have g2:=b0.start cW.bT cW.good (.li ((pS 1 (af R i).ah).map (xt W (af R i).ah)))
 have zS:=DQ (de cW.good hN)
 have Vl:(lK W (af R i).ah ((af R i).ah+1)).drop 1=(pS 1 (af R i).ah).map (xt W (af R i).ah):=by unfold lK;rw[Cd];rfl
 rw[Vl]at zS
 have a3:((pS 1 (af R i).ah).map (xt W (af R i).ah)).length≤100000:=by rw[cG,Q0];exact a' hE.1 (aE rfl)
 exact aaj (z:=z) (m:=aa.length) (l:=(pS 1 (af R i).ah).map (xt W (af R i).ah)) ae ay dx (af R i).ah (d:=1) (p:=false) (cX:=none) (cm:=none) (o5:=none) (bN:=none) (bm:=none) (eJ:=none) (hB:=none) (em:=none) rfl (cJ 1) (cW.trans g2.1) g2.2 hs λ J H aB dF lX off=>
  f J H (cN (z+31) 61 [D.ref (a aN.w),D.ref (a (aN.row i))] n rfl rfl _ (((ae.row i ay).at_ M).1) _ _ au _ zS _ (iw (de g2.1.good g2.2)) a3 _ _ aB) dF lX off
end
end Mine
end
section
namespace Mine
variable{i:C}{d3:B (ap×C)}{os:B C}
section
variable{W:cw}{R:B b5}{X:Prop}
noncomputable abbrev lZ:=(C→C)×(C→B (ap×C))×(C→B (C×ap×C))
noncomputable def kK(W:cw)(R:B b5)(s:lZ)(i:C):lZ:=
 match scan R (af R i).nm (af R i).aM (af R i).ah false with
 |some (aO,j,p)=>(kN s.1 i (if p=true then s.1 i+4 else s.1 i),oz s.2.1 i (i8 W R s.2.1 i aO j p),mH R s.2.2 i (i8 W R s.2.1 i aO j p))
 |none=>s
theorem O8{s:lZ}{aO j:C}{p:av}(e:scan R (af R i).nm (af R i).aM (af R i).ah false=some (aO,j,p)):kK W R s i=(kN s.1 i (if p=true then s.1 i+4 else s.1 i),oz s.2.1 i (i8 W R s.2.1 i aO j p),mH R s.2.2 i (i8 W R s.2.1 i aO j p)):=
 an (λ x:Y (C×C×av)=>match x with|some (aO,j,p)=>(kN s.1 i (if p=true then s.1 i+4 else s.1 i),oz s.2.1 i (i8 W R s.2.1 i aO j p),mH R s.2.2 i (i8 W R s.2.1 i aO j p))|none=>s) e
noncomputable def NX(I:C→B (C×ap×C))(R:B b5)(j:C):B (ap×C):=((I (af R j).ah).filter (own j)).map λ e=>(e.2.1,e.2.2)
structure wq(R:B b5)(g:(C→C)×(C→B (C×ap×C)))(s:lZ):Prop where
 f:g.1=s.1
 i:g.2=s.2.2
 own:∀j,j<R.length→s.2.1 j=NX g.2 R j
theorem acf(h:∀x∈d3,x.2≠900):(d3.map (jQ i)).filter (own i)=d3.map (jQ i):=B7.mpr λ e b3=>(ht.mp b3).elim λ x L=>L.2▸dI.mpr ⟨lD (i+1),p7.mpr (h x L.1)⟩
theorem acg{x:C}(h:x≠i):(d3.map (jQ i)).filter (own x)=[]:=tN.mpr λ e b3 y=>(ht.mp b3).elim λ w L=>h (oQ ((eq_of_beq (dI.mp y).1).symm.trans (an Ia L.2).symm))
theorem NZ{l:B (C×ap×C)}(rP:∀e∈l,e.1=i+1→e.2.2=900):l.filter (own i)=[]:=tN.mpr λ e b3 y=>p7.mp (dI.mp y).2 (rP e b3 (eq_of_beq (dI.mp y).1))
theorem ade{g:(C→C)×(C→B (C×ap×C))}{s:lZ}{c:C}(K:W.ok)(r:wq R g s)(io:nB W R g.2 c)(b9:ik R 8)(eW:∀r∈R,r.ah≤3∧(r.nm=109∨r.nm=110)∧r.aM≤1)(fP:R.length≤16)(p:nM R g.1 g.2 i)(f:wq R (j' W R g i) (kK W R s i)→nB W R (j' W R g i).2 (c+1)→X):X:=by
 refine AO b9 p.1 p.2.1 λ aO j b aS=>?_
 have hl:=ON aS
 have fY:=ru.mp hl.2
 have hE:=eW _ (h2 (iL p.1))
 rw[Gs (W:=W) (s:=g) aS,O8 (W:=W) (s:=s) aS]at f
 have cH:i8 W R s.2.1 i aO j b=hn W R g.2 i aO j b:=by
  unfold i8 hn
  rw[r.own j fY.1,←fY.2.1]
  exact an (_++·) tP
 rw[cH,←r.i,←r.f]at f
 have Fu:=Ft (p:=b) K io hE.1 hl.1 fY.1 fY.2.1
 have Fc:∀x∈hn W R g.2 i aO j b,x.2≠900:=λ x m=>(Fu x m).elim λ bw q=>mR (q.2.1▸cn (a' q.1 fP) (aE rfl))
 have DA:(if b=true then g.1 i+4 else g.1 i)=(if b=true then 6+128*(af R i).aM else g.1 i):=match b with
  |true=>(an (· +4) p.2.2.1).trans (pU 2 _ 4)
  |false=>rfl
 rw[DA]at f
 refine f ⟨rfl,rfl,λ x aA=>(f7 (x=i)).elim (λ L=>?_) λ L=>?_⟩ (PO K io hE.1 hl.1 fY.1 fY.2.1 fP p.2.2.2)
 ·rw[L]
  refine yl.trans (BY ?_)
  show((mH R g.2 i (hn W R g.2 i aO j b) (af R i).ah).filter (own i)).map _=_
  rw[show mH R g.2 i (hn W R g.2 i aO j b) (af R i).ah=g.2 (af R i).ah++(hn W R g.2 i aO j b).map (jQ i)from if_pos rfl,r2,NZ p.2.2.2,acf Fc,H1,tP]
  exact Q3 _
 ·refine(ym L).trans ((r.own x aA).trans (BY ?_))
  exact ts (λ cf=>(cf.filter (own x)).map (λ e=>(e.2.1,e.2.2))=NX g.2 R x) (λ _ k=>by rw[r2];exact(an (λ l=>(QT (own x) (g.2 (af R x).ah)++l).map _) (acg L)).trans ((an (eA _) (eX _)).trans k)) rfl
theorem adc(K:W.ok)(b9:ik R 8)(eW:∀r∈R,r.ah≤3∧(r.nm=109∨r.nm=110)∧r.aM≤1)(fP:R.length≤16)(os:B C):∀{g:(C→C)×(C→B (C×ap×C))} {s:lZ} {c:C},os.Nodup→(∀i∈os,nM R g.1 g.2 i)→wq R g s→nB W R g.2 c→wq R (os.foldl (j' W R) g) (os.foldl (kK W R) s):=by
 induction os with
 |nil=>exact λ _ _ r _=>r
 |cons i os aZ=>
  intro g s c nd be r io
  have nd:=nF.mp nd
  exact ade K r io b9 eW fP (be i (.head _)) λ bw YY=>aZ nd.2 (λ jM h9=>nM.step b9 (be i (.head _)) (λ L=>nd.1 (L▸h9)) (be jM (.tail _ h9))) bw YY
theorem aaA:(ck os.length).map (λ x=>os.getD x 0)=os:=HL (by rw[cG,gA]) λ i ax aH=>by
 rw[HU,HV]
 exact ej ((getD_at aH).symm.trans (h1 aH))
theorem ab3:mA R os=(ck 4).flatMap λ l=>os.filter λ j=>(af R j).ah==l:=by
 unfold mA hC
 rw[List.map_flatMap,show(fv R os).length=os.length from cG ..]
 exact an (λ f=>(ck 4).flatMap f) (funext λ l=>(an (eA λ x=>os.getD x 0) (HM λ x aA=>an (· ==l) (M9 (R:=R) (f'.mp aA)))).trans (QW.symm.trans (an (QT λ j=>(af R j).ah==l) aaA)))
end
end Mine
end
section
namespace Mine
variable{t l i j:C}{bR:B (Y D)}{bi aQ aW bh bj bK:Y D}
section
variable{a:bH}{h:aT}{n:St}{T:B aP}{z:C}{W:cw}{R:B b5}{c5:C→C}{S:C→B (ap×C)}{X:Prop}
theorem ff.keep{H:aT}{aC:B aP}(ae:ff a h T W R c5 S t)(f:∀r o,gY r=false→r≠ .ei l→h r=some o→H r=some o)(bT:c6 a H aC):ff a H aC W R c5 S t:=
 ⟨⟨let⟨O,e,k⟩:=ae.lw.w;⟨O,f _ _ rfl (a5 rfl) e,k⟩,let⟨aG,e,k⟩:=ae.lw.store;⟨aG,f _ _ rfl (a5 rfl) e,k⟩,f _ _ rfl (a5 rfl) ae.lw.many,f _ _ rfl (a5 rfl) ae.lw.up,ae.lw.ok⟩,bT,f _ _ rfl (a5 rfl) ae.w,f _ _ rfl (a5 rfl) ae.rows,λ j bt=>⟨f _ _ rfl (a5 rfl) (ae.row j bt).row,f _ _ rfl (a5 rfl) (ae.row j bt).st⟩,ae.eW,ae.da,ae.lQ,ae.mF⟩
noncomputable def lT(a:bH):a0:=.li [.ref (a (.ei 0)),.ref (a (.ei 1)),.ref (a (.ei 2)),.ref (a (.ei 3))]
theorem PV(hl:l<4)(M:Good a h n)(cS:h .want=some (lT a)):dd n (.ref (a .want)) (E l)=some (.ref (a (.ei l))):=j6 (M.at_ _ _ cS) (na l (lq hl) rfl rfl rfl rfl)
theorem Fj(h:j≠i):aN.ei j≠ .ei i:=λ e=>h (aN.ei.inj e)
noncomputable def BH:bk:=(.cons (.ex (.append (.aq (.v 4) (.v 9)) (.tup (.cons (.aq (.v 5) (.ss [109,105,100])) (.cons (.call 54 (.cons (.v 1) (.cons (.v 10) .nil))) (.cons (.v 11) .nil)))))) .nil)
noncomputable def hy(a:bH)(bf:B (Y D))(bi aQ aW bq bh bj bK bB cE dZ:Y D):aX:=bi::some (.ref (a .w))::aQ::aW::some (.ref (a .want))::bq::bh::bj::bK::bB::cE::dZ::bf
theorem af7{lst:B D}(ay:i<R.length)(hl:l<4)(xs:B (ap×C)):∀{n:St} {aI:aT} {bX:B aP} {bf:B D} {O:B (C×ap×C)} {em fE:Y D},(∀x∈xs,∃e,e≤(af R i).ah∧x.1=dM W (af R i).ah e)→ff a aI bX W R c5 S t→Good a aI n→aI .want=some (lT a)→aI (.ei l)=some (.li bf)→es bX bf O→aI (.st i)=some (.li lst)→O.length+xs.length<900→bX.length+24*xs.length<400000→
  (∀(J:St) (H:aT) (aC:B aP) (kb:B D) (iA iB:Y D),@fC (live (.ref (a (.st i))) lst) (e0 (.ref (a (.st i))) lst) (λ x aF J=>(dh true [10,11] x aF).bind λ dG=>bS ac (runN ac (z+31)) BH dG J) (xs.map lk) (hy a bR bi aQ aW (some (.ref (a (.row i)))) bh bj bK (some (E l)) em fE) n=some (.br (hy a bR bi aQ aW (some (.ref (a (.row i)))) bh bj bK (some (E l)) iA iB),J)→Good a H J→ff a H aC W R c5 S t→(∃X,aC=bX++X)→aC.length≤bX.length+24*xs.length→H (.ei l)=some (.li kb)→es aC kb (O++xs.map (jQ i))→(∀r o,gY r=false→r≠ .ei l→aI r=some o→H r=some o)→X)→X:=by
 induction xs with
 |nil=>exact λ{n aI bX bf O em fE} aA ae M cS bI im hs w3 a3 f=>f n aI bX bf em fE (hf (M.at_ _ _ hs)) M ae ⟨[],(eX _).symm⟩ (cJ _) bI ((eX O).symm▸im) λ _ _ _ _ e=>e
 |cons x xs aZ=>
  intro n aI bX bf O em fE aA ae M cS bI im hs w3 a3 f
  have⟨e,b3,ex⟩:=aA x (.head _)
  have rr:=u0 ae.lw.ok (ae.ok ay).1 b3
  have d4:bX.length+24+24*xs.length<400000:=rv (b:=bX.length)▸a3
  refine xp (z:=z) ae.lw ae.bT M (t:=x.1) (ex.symm▸rr.1) (ex.symm▸a' rr.2.1 (aE rfl)) (cn (d2 ..) (fh d4 (aE rfl))) λ k aa cL bJ au q go=>?_
  have bl:=((ae.row i ay).at_ M).2.2.2.1
  refine go.good.l8 (v:=iM (jQ i x) k) (go.off (r:=.ei l) rfl bI) (im.len▸fh (cn (d2 ..) w3) (aE rfl)) λ bW ez d0=>?_
  have fq:∀r,r≠ .ei l→(up bJ (.ei l) (some (.li (bf++[iM (jQ i x) k])))) r=bJ r:=λ r L=>bP _ _ L
  have tR:=ae.keep (λ r o k L e=>(fq r L).trans (go.off k e)) (go.bT.off λ r o k e=>(fq r λ L=>nomatch(L▸k:hR (.ei l)=true)).trans e)
  have st:bS ac (runN ac (z+31)) BH (hy a bR bi aQ aW (some (.ref (a (.row i)))) bh bj bK (some (E l)) (some (bd x.1)) (some (E x.2))) n=some (.br (hy a bR bi aQ aW (some (.ref (a (.row i)))) bh bj bK (some (E l)) (some (bd x.1)) (some (E x.2))),bW):=(dk (z+31) BH (hy a bR bi aQ aW (some (D.ref (a (aN.row i)))) bh bj bK (some (E l)) (some (bd x.fst)) (some (E x.snd))) n _ (PV (n:=n) hl M cS) (hP (M.at_ _ _ bI)) _ bl _ _ au _ ez)
  exact aZ (O:=O++[jQ i x]) (em:=some (bd x.1)) (fE:=some (E x.2)) (λ y bI=>aA y (.tail _ bI)) tR d0 ((fq _ (a5 rfl)).trans (go.off rfl cS)) (cR _ _ _) ((im.more λ q=>go.eS q).add (e:=jQ i x) q) ((fq _ (a5 rfl)).trans (go.off rfl hs)) (cn (dg (by rw[fg];exact jz ..)) w3) (cn (ha go.le _) d4) λ J H aC kb iA iB aB dF lX jG Au Er sP abP=>
   f J H aC kb iA iB (fc (M.at_ _ _ hs) st aB) dF lX (md go.jl.ext jG) (a' Au (a' (ha go.le _) (dg rv))) Er (mO O (jQ i x) (xs.map (jQ i))▸sP) λ r o k L e=>abP r o k L ((fq r L).trans (go.off k e))
structure kf(a:bH)(h:aT)(T:B aP)(W:cw)(R:B b5)(s:lZ)(t:C)(os:B C)(dX b:C):Prop where
 c':ff a h T W R s.1 s.2.1 t
 want:h .want=some (lT a)
 wl:∀l,l<4→∃bf,h (.ei l)=some (.li bf)∧es T bf (s.2.2 l)
 BA:∀l,(s.2.2 l).length≤b
 eL:h (.a6 dX)=some (.li (os.map λ j=>.ref (a (.row j))))
 ll:T.length≤200000+100*b
noncomputable def aa1:aN→av
 | .row _| .st _| .ei _=>false
 |_=>true
noncomputable def rl(r:aN):Bool:=!gY r&&aa1 r
theorem MF{r:aN}(h:rl r=true):gY r=false:=(tH _).mp (dI.mp h).1
noncomputable def u6:bk:=(.cons (.b4 (.cmp .eq (.aq (.v 5) (.ss [108,101,118,101,108])) (.v 9)) (.cons (.ex (.call 61 (.cons (.v 1) (.cons (.v 5) .nil)))) (.cons (.dc [10,11] true (.aq (.v 5) (.ss [115,116,97,110,100,115])) BH) .nil)) (.nil)) .nil)
theorem adA{aO:C}{p:av}(ae:ff a h T W R c5 S t)(e5:aO< (af R i).ah)(bt:j<R.length)(n3:(af R j).ah=aO):(i8 W R S i aO j p).length≤(af R i).ah:=by
 have k:=n3▸ae.mF j bt
 rw[←cG (f:=λ x:ap×C=>(x.1.sub (W.dK (af R i).ah ((af R i).ah-aO)),x.2))]at k
 cases p with
 |false=>exact h3 (cn k e5)
 |true=>exact cn k e5
theorem aau{s:lZ}{b dX:C}{os:B C}{em fE:Y D}(P:kf a h T W R s t os dX b)(M:Good a h n)(b9:ik R 8)(ay:i<R.length)(be:(af R i).eL=true)(dx:s.2.1 i=[])(az:b≤500)
  (f:∀(J:St) (H:aT) (aC:B aP) (iA iB:Y D),bS ac (runN ac (z+32)) u6 (hy a bR bi aQ aW (some (.ref (a (.row i)))) bh bj bK (some (E (af R i).ah)) em fE) n=some (.br (hy a bR bi aQ aW (some (.ref (a (.row i)))) bh bj bK (some (E (af R i).ah)) iA iB),J)→Good a H J→kf a H aC W R (kK W R s i) t os dX (b+3)→(∃X,aC=T++X)→(∀r o,rl r=true→h r=some o→H r=some o)→X):X:=by
 refine AO b9 ay be λ aO j p aS=>?_
 have hl:=ON aS
 have fY:=ru.mp hl.2
 have hE:=P.c'.ok ay
 have tM:=pV hE.1
 have O:=O8 (W:=W) (s:=s) aS
 have da:=adA (p:=p) P.c' hl.1 fY.1 fY.2.1
 have x0:=a' da hE.1
 refine ZK (z:=z) P.c' M ay dx aS λ aa aI au dJ kV qv=>?_
 have kV:ff a aI T W R (kN s.1 i (if p=true then s.1 i+4 else s.1 i)) (oz s.2.1 i (i8 W R s.2.1 i aO j p)) t:=kV
 have⟨bf,bI,im⟩:=P.wl (af R i).ah tM
 have w7:=(kV.row i ay).st
 have Bi:=kV.lQ i ay
 rw[yl]at w7 Bi
 have w':=qv .want _ rfl (a5 rfl) (a5 rfl) P.want
 have d4:T.length≤250000:=a' P.ll (fz (gT 100 az) 200000)
 refine af7 (z:=z+1) (l:=(af R i).ah) (lst:=(i8 W R s.2.1 i aO j p).map lk) (bR:=bR) (bi:=bi) (aQ:=aQ) (aW:=aW) (bh:=bh) (bj:=bj) (bK:=bK) (em:=em) (fE:=fE) ay tM (i8 W R s.2.1 i aO j p) Bi kV dJ w' (qv _ _ rfl (a5 rfl) (a5 rfl) bI) im w7 (cn (hu (a' (P.BA _) az) x0) (aE rfl)) (cn (hu d4 (gT 24 x0)) (aE rfl)) λ ao bJ cL kb iA iB aB dA Cf jG ZT Er sP nh=>?_
 have d':=((P.c'.row i ay).at_ M).1
 have cO:=((kV.row i ay).at_ dJ).2.2.2.2.2.1
 have cz:cY .eq (E (af R i).ah) (E (af R i).ah) n=some true:=qc.trans (an some (iK rfl))
 have a3:((i8 W R s.2.1 i aO j p).map lk).length≤100000:=(cG ..).symm▸a' x0 (aE rfl)
 refine f ao bJ cL iA iB (dk (z+32) u6 (hy a bR bi aQ aW (some (D.ref (a (aN.row i)))) bh bj bK (some (E (af R i).ah)) em fE) n _ d' _ cz _ _ au _ cO _ (iw (dJ.at_ _ _ w7)) a3 _ _ aB) dA (O.symm▸⟨Cf,nh _ _ rfl (a5 rfl) w',λ l hl=>?_,λ l=>?_,nh _ _ rfl (a5 rfl) (qv _ _ rfl (a5 rfl) (a5 rfl) P.eL),?_⟩) jG λ r o k e=>nh r o (MF k) (λ L=>nomatch(L▸k:rl (.ei (af R i).ah)=true)) (qv r o (MF k) (λ L=>nomatch(L▸k:rl (.row i)=true)) (λ L=>nomatch(L▸k:rl (.st i)=true)) e)
 ·exact(f7 (l=(af R i).ah)).elim (λ L=>⟨kb,L▸Er,(an (es cL kb) (if_pos L)).mpr (L▸sP)⟩)
   λ L=>let⟨bR,Et,EA⟩:=P.wl l hl;⟨bR,nh _ _ rfl (Fj L) (qv _ _ rfl (a5 rfl) (a5 rfl) Et),(an (es cL bR) (if_neg L)).mpr (EA.more λ q=>let⟨_,jG⟩:=jG;jG▸q.more)⟩
 ·exact ts (λ cf=>cf.length≤b+3) (λ _ _=>by rw[fg,cG];exact hu (P.BA l) x0) (a' (P.BA l) (d2 ..))
 ·exact a' ZT (a' (hu P.ll (a' (gT 24 x0) (aE rfl:24*3≤100*3))) (dg ((mP ..).trans (an (200000+·) (Nat.mul_add 100 b 3).symm))))
end
end Mine
end
section
namespace Mine
variable{s:lZ}{x t dX b:C}{os:B C}{bR:B (Y D)}{bi aQ aW bh bj:Y D}
section
variable{a:bH}{h:aT}{n:St}{T:B aP}{z:C}{W:cw}{R:B b5}{X:Prop}
theorem O9{i:C}(z:x≠i):(kK W R s i).2.1 x=s.2.1 x:=
 have ix:∀y:Y (C×C×av),(match y with|some (aO,j,p)=>((kN s.1 i (if p=true then s.1 i+4 else s.1 i),oz s.2.1 i (i8 W R s.2.1 i aO j p),mH R s.2.2 i (i8 W R s.2.1 i aO j p)):lZ)|none=>s).2.1 x=s.2.1 x:=λ y=>match y with
  |some (aO,j,p)=>ym z
  |none=>rfl
 ix _
theorem WG(os:B C):∀{s:lZ},x∉os→(os.foldl (kK W R) s).2.1 x=s.2.1 x:=by
 induction os with
 |nil=>exact λ _=>rfl
 |cons i os aZ=>exact λ z=>(aZ λ q=>z (.tail _ q)).trans (O9 λ q=>z (q▸.head _))
theorem kf.mono{hv:C}(P:kf a h T W R s t os dX b)(q:b≤hv):kf a h T W R s t os dX hv:=⟨P.c',P.want,P.wl,λ l=>a' (P.BA l) q,P.eL,a' P.ll (fz (gT 100 q) _)⟩
noncomputable def AA(R:B b5)(os:B C)(l:C):B Nat:=os.filter λ j=>(af R j).ah==l
noncomputable def aat(z dX:C)(lst xs:B D)(env:aX)(n:St):Y (eZ×St):=@fC (live (.ref dX) lst) (e0 (.ref dX) lst) (λ x aF J=>(dh false [5] x aF).bind λ dG=>bS ac (runN ac (z+32)) u6 dG J) xs env n
theorem aav{l:C}{bK:Y D}(b9:ik R 8)(is:B C):∀{s:lZ} {n:St} {h:aT} {T:B aP} {b:C} {o5 em fE:Y D},(∀i∈is,i<R.length∧(af R i).eL=true)→is.Nodup→(∀i∈is,(af R i).ah=l→s.2.1 i=[])→kf a h T W R s t os dX b→Good a h n→b+3*is.length≤500→
  (∀(J:St) (H:aT) (aC:B aP) (gy iA iB:Y D),aat z dX (os.map λ j=>.ref (a (.row j))) (is.map λ j=>.ref (a (.row j))) (hy a bR bi aQ aW o5 bh bj bK (some (E l)) em fE) n=some (.br (hy a bR bi aQ aW gy bh bj bK (some (E l)) iA iB),J)→Good a H J→kf a H aC W R ((AA R is l).foldl (kK W R) s) t os dX (b+3*is.length)→(∃X,aC=T++X)→(∀r o,rl r=true→h r=some o→H r=some o)→X)→X:=by
 induction is with
 |nil=>exact λ{s n h T b o5 em fE} ay nd dx P M az f=>f n h T o5 em fE (hf (de M P.eL)) M P ⟨[],(eX T).symm⟩ λ _ _ _ e=>e
 |cons i is aZ=>
  intro s n h T b o5 em fE ay nd dx P M az f
  have nd:=nF.mp nd
  have re:=ay i (.head _)
  have dq:=de M P.eL
  have h9:∀i∈is,i<R.length∧(af R i).eL=true:=λ i m=>ay i (.tail _ m)
  have w2:b+3+3*is.length≤500:=pt (k:=3)▸az
  refine(f7 ((af R i).ah=l)).elim (λ L=>?_) λ L=>?_
  ·refine aau (z:=z) (bR:=bR) (bi:=bi) (aQ:=aQ) (aW:=aW) (bh:=bh) (bj:=bj) (bK:=bK) (em:=em) (fE:=fE) P M b9 re.1 re.2 (dx i (.head _) L) (a' (d2 ..) az) λ aa aI bX iA iB au dJ h5 jG qv=>?_
   rw[L]at au
   exact aZ (s:=kK W R s i) (b:=b+3) (o5:=some (.ref (a (.row i)))) (em:=iA) (fE:=iB) h9 nd.2 (λ x aA tF=>(O9 λ(q:x=i)=>nd.1 (q▸aA)).trans (dx x (.tail _ aA) tF)) h5 dJ w2 λ ao bJ cL jR xU xV aB dA mV qb nh=>
    f ao bJ cL jR xU xV (fc dq au aB) dA (pt (k:=3) (b:=b)▸(an (λ l=>kf a bJ cL W R (l.foldl (kK W R) s) t os dX (b+3+3*is.length)) (B6 (p:=λ j=>(af R j).ah==l) (jj.mpr L))).mpr mV) (md jG qb) λ r o k e=>nh r o k (qv r o k e)
  ·have d':=((P.c'.row i re.1).at_ M).1
   have cz:cY .eq (E (af R i).ah) (E l) n=some false:=qc.trans (an some (j2 L))
   have st:bS ac (runN ac (z+32)) u6 (hy a bR bi aQ aW (some (.ref (a (.row i)))) bh bj bK (some (E l)) em fE) n=some (.br (hy a bR bi aQ aW (some (.ref (a (.row i)))) bh bj bK (some (E l)) em fE),n):=(dk (z+32) u6 (hy a bR bi aQ aW (some (D.ref (a (aN.row i)))) bh bj bK (some (E l)) em fE) n _ d' _ cz)
   exact aZ (s:=s) (b:=b) (o5:=some (.ref (a (.row i)))) (em:=em) (fE:=fE) h9 nd.2 (λ x aA tF=>dx x (.tail _ aA) tF) P M (a' (ha (d2 b 3) _) w2) λ ao bJ cL jR xU xV aB dA mV qb nh=>
    f ao bJ cL jR xU xV (fc dq st aB) dA ((an (λ l=>kf a bJ cL W R (l.foldl (kK W R) s) t os dX (b+3*(is.length+1))) (B5 (p:=λ j=>(af R j).ah==l) λ y=>L (eq_of_beq y))).mpr (mV.mono (fz (gT 3 (h4 _)) b))) qb nh
noncomputable def sU:bk:=(.cons (.dc [5] false (.v 8) u6) .nil)
theorem aas{lo ay:am}{cf:B D}(b9:ik R 8)(be:∀i∈os,i<R.length∧(af R i).eL=true)(nd:os.Nodup)(on:os.length≤16)(mp:B C):∀{s:lZ} {n:St} {h:aT} {T:B aP} {b:C} {o5 hB em fE:Y D},mp.Nodup→(∀i∈os,(af R i).ah∈mp→s.2.1 i=[])→kf a h T W R s t os dX b→Good a h n→b+48*mp.length≤500→
  (∀(J:St) (H:aT) (aC:B aP) (gy ta iA iB:Y D),@fC (live (.ew lo ay) cf) (e0 (.ew lo ay) cf) (λ x aF J=>(dh false [9] x aF).bind λ dG=>bS ac (runN ac (z+32)) sU dG J) (mp.map E) (hy a bR bi aQ aW o5 bh bj (some (.ref dX)) hB em fE) n=some (.br (hy a bR bi aQ aW gy bh bj (some (.ref dX)) ta iA iB),J)→Good a H J→kf a H aC W R ((mp.flatMap (AA R os)).foldl (kK W R) s) t os dX (b+48*mp.length)→(∃X,aC=T++X)→(∀r o,rl r=true→h r=some o→H r=some o)→X)→X:=by
 induction mp with
 |nil=>exact λ{s n h T b o5 hB em fE} nl dx P M az f=>f n h T o5 hB em fE (hf trivial) M P ⟨[],(eX T).symm⟩ λ _ _ _ e=>e
 |cons l mp aZ=>
  intro s n h T b o5 hB em fE nl dx P M az f
  have nl:=nF.mp nl
  have w2:b+48+48*mp.length≤500:=pt (k:=48)▸az
  have Xr:=a' (fz (gT 3 on) b) (a' (d2 ..) w2)
  refine aav (z:=z) (l:=l) (bR:=bR) (bi:=bi) (aQ:=aQ) (aW:=aW) (bh:=bh) (bj:=bj) (bK:=some (.ref dX)) (o5:=o5) (em:=em) (fE:=fE) b9 os be nd (λ i ay L=>dx i ay (L▸.head _)) P M Xr λ aa aI bX gy iA iB au dJ h5 ex off=>?_
  have st:bS ac (runN ac (z+32)) sU (hy a bR bi aQ aW o5 bh bj (some (.ref dX)) (some (E l)) em fE) n=some (.br (hy a bR bi aQ aW gy bh bj (some (.ref dX)) (some (E l)) iA iB),aa):=(dk (z+32) sU (hy a bR bi aQ aW o5 bh bj (some (D.ref dX)) (some (E l)) em fE) n _ (iw (de M P.eL)) ((cG (as:=os) λ j=>D.ref (a (.row j))).symm▸a' on (aE rfl)) _ _ au)
  exact aZ (s:=(AA R os l).foldl (kK W R) s) (b:=b+48) (o5:=gy) (hB:=some (E l)) (em:=iA) (fE:=iB) nl.2 (λ i ay L=>(WG (AA R os l) λ q=>nl.1 (eq_of_beq (oN.mp q).2▸L)).trans (dx i ay (.tail _ L))) (h5.mono (fz (gT 3 on) b)) dJ w2 λ ao bJ cL jR acX xU xV aB dA mV wR nh=>
   f ao bJ cL jR acX xU xV (fc trivial st aB) dA (pt (k:=48) (b:=b)▸(an (λ s=>kf a bJ cL W R s t os dX (b+48+48*mp.length)) ((an (HP (kK W R) s) List.flatMap_cons).trans List.foldl_append)).mpr mV) (md ex wR) λ r o k e=>nh r o k (off r o k e)
theorem aar{o5 hB em fE:Y D}(b9:ik R 8)(ay:∀i∈os,i<R.length∧(af R i).eL=true)(nd:os.Nodup)(on:os.length≤16)(dx:∀i∈os,s.2.1 i=[])(P:kf a h T W R s t os dX b)(M:Good a h n)(az:b+192≤500)
  (f:∀(J:St) (H:aT) (aC:B aP) (gy ta iA iB:Y D),jS ac (runN ac (z+32)) (.dc [9] false (.gP (.ii 4)) sU) (hy a bR bi aQ aW o5 bh bj (some (.ref dX)) hB em fE) n=some (.br (hy a bR bi aQ aW gy bh bj (some (.ref dX)) ta iA iB),J)→Good a H J→kf a H aC W R ((mA R os).foldl (kK W R) s) t os dX (b+192)→(∃X,aC=T++X)→(∀r o,rl r=true→h r=some o→H r=some o)→X):X:=
 aas (z:=z) (lo:=0) (ay:=4) (cf:=[E 0,E 1,E 2,E 3]) b9 ay nd on (ck 4) wc (λ i ay _=>dx i ay) P M az λ J H aC gy ta iA iB e dF pY ex off=>
  f J H aC gy ta iA iB (vt (v:=.ew 0 4) (l:=[E 0,E 1,E 2,E 3]) rfl rfl (aE rfl) e) dF ((an (λ l:B C=>kf a H aC W R (l.foldl (kK W R) s) t os dX (b+192)) ab3).mpr pY) ex off
end
end Mine
end
section
namespace Mine
variable{t cB:C}{H:aT}{xs:B C}{c:C}
section
variable{a:bH}{h:aT}{n:St}{T:B aP}{z:C}{W:cw}{R:B b5}{c5:C→C}{S:C→B (ap×C)}{I:C→B (C×ap×C)}{X:Prop}
theorem ff.take(ae:ff a h T W R c5 S t)(cS:H .w=some (.ds (dE a cB 8)))(bx:bY (dB [.w]) a h a H):ff a H T W R c5 S cB:=
 have f:∀r o,r≠ .w→h r=some o→H r=some o:=λ r o z e=>(bx r (xG z)).2 o e
 ⟨⟨⟨_,cS,rfl,rfl,rfl⟩,let⟨aG,iq,gC⟩:=ae.lw.store;⟨aG,f _ _ (a5 rfl) iq,gC⟩,f _ _ (a5 rfl) ae.lw.many,f _ _ (a5 rfl) ae.lw.up,ae.lw.ok⟩,ae.bT.bx (bx.sub λ r k=>nR (p:=hR) rfl k),cS,f _ _ (a5 rfl) ae.rows,λ j bt=>⟨f _ _ (a5 rfl) (ae.row j bt).row,f _ _ (a5 rfl) (ae.row j bt).st⟩,ae.eW,ae.da,ae.lQ,ae.mF⟩
theorem ff.but{rH:aN}(ae:ff a h T W R c5 S t)(fq:∀r,r≠rH→H r=h r)(k: [aN.w,.store,.eb,.fy,.gz,.row 0,.st 0].all (λ r=>!(r.ctorIdx==rH.ctorIdx))=true)(dW:hR rH=false):ff a H T W R c5 S t:=
 have f:∀r o,r∈ [aN.w,.store,.eb,.fy,.gz,.row 0,.st 0]→∀{bw:aN},bw.ctorIdx=r.ctorIdx→h bw=some o→H bw=some o:=λ r o m bw aB e=>(fq bw (a5 (((an (· ==rH.ctorIdx) aB).trans ((tH _).mp (g9.mp k r m)))))).trans e
 ⟨⟨let⟨O,e,k⟩:=ae.lw.w;⟨O,f _ _ (.head _) rfl e,k⟩,let⟨aG,e,k⟩:=ae.lw.store;⟨aG,f _ _ (.tail _ (.head _)) rfl e,k⟩,f _ _ (.tail _ (.tail _ (.head _))) rfl ae.lw.many,f _ _ (.tail _ (.tail _ (.tail _ (.head _)))) rfl ae.lw.up,ae.lw.ok⟩,ae.bT.off λ r o k e=>(fq r λ L=>nomatch(L.symm▸dW:hR r=false).symm.trans k).trans e,f _ _ (.head _) rfl ae.w,f _ _ (.tail _ (.tail _ (.tail _ (.tail _ (.head _))))) rfl ae.rows,λ j bt=>⟨f _ _ (.tail _ (.tail _ (.tail _ (.tail _ (.tail _ (.head _)))))) rfl (ae.row j bt).row,f _ _ (.tail _ (.tail _ (.tail _ (.tail _ (.tail _ (.tail _ (.head _))))))) rfl (ae.row j bt).st⟩,ae.eW,ae.da,ae.lQ,ae.mF⟩
structure nC(a:bH)(h:aT)(T:B aP)(W:cw)(R:B b5)(c5:C→C)(S:C→B (ap×C))(xs:B C)(t:C)(I:C→B (C×ap×C))(c:C):Prop where
 c':ff a h T W R c5 S t
 dR:h .dR=some (.li (xs.map E))
 aM:kn a h
 ty:∀l,l<4→l5 a h l (W.many l)
 types:∃x,h .types=some (.li (dw 66 .nn++[.ref (a (.ty 0)),.ref (a (.ty 1)),.ref (a (.ty 2)),.ref (a (.ty 3)),x]))
 im:∀l,l<4→∃bf bR,h (.cM l)=some (.li bf)∧es T bf (I l)∧h (.ei l)=some (.li bR)∧es T bR (I l)
 want:h .want=some (lT a)
 each:∀l,∀e∈I l,e.2.1= .b2 34∧e.2.2=900∧e.1≤c
 len:∀l,(I l).length≤c
noncomputable def y9(I:C→B (C×ap×C))(l j:C):C→B (C×ap×C):=λ cf=>if cf=l then I cf++[(j+1,.b2 34,900)]else I cf
theorem Jn{l j cf:C}(P:B (C×ap×C)→Prop)(y:cf=l→P (I cf)→P (I cf++[(j+1,.b2 34,900)]))(z:P (I cf)):P (y9 I l j cf):=
 (f7 (cf=l)).elim (λ e=>(an P (if_pos e)).mpr (y e z)) λ e=>(an P (if_neg e)).mpr z
noncomputable def AG:aN→av
 | .w| .cM _| .ei _=>false
 |_=>true
noncomputable def s4(h H:aT):Prop:=∀r o,gY r=false→AG r=true→h r=some o→H r=some o
theorem nC.keep{ug:C}{aC:B aP}{ey:C→B (C×ap×C)}(P:nC a h T W R c5 S xs t I c)(f:s4 h H)(c':ff a H aC W R c5 S cB)(im:∀l,l<4→∃bf bR,H (.cM l)=some (.li bf)∧es aC bf (ey l)∧H (.ei l)=some (.li bR)∧es aC bR (ey l))(nW:∀l,∀e∈ey l,e.2.1= .b2 34∧e.2.2=900∧e.1≤ug)(le:∀l,(ey l).length≤ug):nC a H aC W R c5 S xs cB ey ug:=
 ⟨c',f _ _ rfl rfl P.dR,let⟨aG,eE,s⟩:=P.aM.bF;⟨aG,f _ _ rfl rfl eE,s⟩,λ l hl=>let⟨⟨aG,au,e⟩,⟨cp,gj,p⟩⟩:=P.ty l hl;⟨⟨aG,f _ _ rfl rfl au,e⟩,⟨cp,f _ _ rfl rfl gj,p⟩⟩,let⟨x,e⟩:=P.types;⟨x,f _ _ rfl rfl e⟩,im,f _ _ rfl rfl P.want,nW,le⟩
noncomputable def La:ab:=.tup (.cons (.ss [103]) (.cons (.ii 34) (.cons (.tup .nil) .nil)))
noncomputable def uU:bk:=(.cons (.b4 (.and (.cons (.cmp .lt (.aq (.v 5) (.ss [108,101,118,101,108])) (.ii 3)) (.cons (.cmp .eq (.call 52 (.cons (.v 1) (.cons (.ii 3) .nil))) (.ii 2)) .nil))) (.cons (.ex (.call 36 (.cons (.v 2) (.cons (.bin .add (.ii 66) (.aq (.v 5) (.ss [108,101,118,101,108]))) (.cons (.aq (.v 5) (.ss [109,105,100])) (.cons (.call 54 (.cons (.v 1) (.cons La .nil))) (.cons (.ii 900) .nil))))))) (.cons (.ex (.append (.aq (.v 4) (.aq (.v 5) (.ss [108,101,118,101,108]))) (.tup (.cons (.aq (.v 5) (.ss [109,105,100])) (.cons (.call 54 (.cons (.v 1) (.cons La .nil))) (.cons (.ii 900) .nil)))))) .nil)) (.nil)) .nil)
noncomputable def xd(a:bH)(bR:B (Y D))(bi aW:Y D)(c:C)(bh bj bK bB cE dZ:Y D):aX:=hy a bR bi (some (.ref (a .store))) aW (some (.ref (a (.row c)))) bh bj bK bB cE dZ
theorem YI{aa:St}{aI:aT}(ae:ff a h T W R c5 S t)(h5:nC a aI T W R c5 S xs (t+1) I c)(dJ:Good a aI aa)(hc:c<R.length)(L:(af R c).ah<3)(a3:T.length<100000)
  (f:∀(ao bW eO J:St) (H:aT) (aC:B aP) (k ct:C),runN ac (z+31) 54 [.ref (a .w),bd (.b2 34)] aa=some (E k,ao)→runN ac (z+31) 36 [.ref (a .store),E (66+(af R c).ah),E (c+1),E k,.ii 900] ao=some (.nn,bW)→(∃eC,dd bW (.ref (a (.row c))) (.ss [108,101,118,101,108])=some (E (af R c).ah)∧dd bW (.ref (a (.row c))) (.ss [109,105,100])=some (E (c+1))∧eC=true)→dd bW (.ref (a .want)) (E (af R c).ah)=some (.ref (a (.ei (af R c).ah)))→mk bW (.ref (a (.ei (af R c).ah)))=true→runN ac (z+31) 54 [.ref (a .w),bd (.b2 34)] bW=some (E ct,eO)→l7 eO (.ref (a (.ei (af R c).ah))) (.tup [E (c+1),E ct,.ii 900])=some J→Good a H J→nC a H aC W R c5 S xs (t+1) (y9 I (af R c).ah c) (c+1)→(∃X,aC=T++X)→aC.length≤T.length+48→s4 aI H→X):X:=by
 have kV:=h5.c'
 have uX:(af R c).ah<4:=pW L
 have UB:c<900:=e' hc (a' kV.da (aE rfl))
 refine xp (z:=z) kV.lw kV.bT dJ (t:=.b2 34) (.inl rfl) (aE rfl) (e' (nG a3 24) (aE rfl)) λ k ao cL bJ aB gk b8=>?_
 have Cf:=kV.go b8
 have⟨bf,bR,he,ip,k1,nQ⟩:=h5.im (af R c).ah uX
 have⟨hr,ty⟩:=h5.types
 have⟨aG,eE,jT,pG,te,vz⟩:=h5.aM.bF
 have⟨⟨vG,er,eN,hq,kL,lR⟩,_⟩:=h5.ty (af R c).ah uX
 have MS:=cn (h5.len (af R c).ah) UB
 refine L5 (z:=z+29) (e1:=66+(af R c).ah) (l:=(af R c).ah) (e:=(c+1,.b2 34,900)) (k:=k) b8.good b8.bT ((fj (b8.good.at_ _ _ (b8.off rfl eE))).trans te) (GL uX b8.good (b8.off (r:=.types) rfl ty)) ((fj (b8.good.at_ _ _ (b8.off rfl er))).trans lR) (b8.off rfl he) (ip.more λ q=>b8.eS q) gk MS (λ e b3 w=>oP c (a' (dg w.1.symm) (h5.each _ e b3).2.2:c+1≤c)) λ bW bZ d0=>?_
 have lM:∀r,r≠ .cM (af R c).ah→(up bJ (.cM (af R c).ah) (some (.li (bf++[iM (c+1,.b2 34,900) k])))) r=bJ r:=λ r L=>bP _ _ L
 have tR:=Cf.but lM rfl rfl
 have oD:cL.length+24<500000:=cn (ha b8.le 24) (e' (nG (nG a3 24) 24) (aE rfl))
 refine xp (z:=z) tR.lw tR.bT d0 (t:=.b2 34) (.inl rfl) (aE rfl) oD λ ct eO si hO dL ac1 fW=>?_
 have LW:=(lM (.ei (af R c).ah) (a5 rfl)).trans (b8.off rfl k1)
 refine fW.good.l8 (v:=iM (c+1,.b2 34,900) ct) (fW.off rfl LW) (nQ.len▸fh MS (aE rfl)) λ jV ez hZ=>?_
 have xO:∀r,r≠ .ei (af R c).ah→(up hO (.ei (af R c).ah) (some (.li (bR++[iM (c+1,.b2 34,900) ct])))) r=hO r:=λ r L=>bP _ _ L
 have off:s4 aI (up hO (.ei (af R c).ah) (some (.li (bR++[iM (c+1,.b2 34,900) ct])))):=λ r o c2 dW e=>(xO r λ L=>nomatch(L▸dW:AG (.ei (af R c).ah)=true)).trans (fW.off c2 ((lM r λ L=>nomatch(L▸dW:AG (.cM (af R c).ah)=true)).trans (b8.off c2 e)))
 have d9:∀{k:C} {t:ap},ba T k t→ba si k t:=λ q=>fW.eS (b8.eS q)
 have oo:=(tR.row c hc).at_ d0
 refine f ao bW eO jV _ si k ct aB bZ ⟨true,oo.1,oo.2.2.2.1,rfl⟩ (PV uX d0 ((lM _ (a5 rfl)).trans (b8.off rfl h5.want))) (hP (d0.at_ _ _ LW)) dL ez hZ (h5.keep off ((tR.go fW).but xO rfl rfl) (λ l hl=>(f7 (l=(af R c).ah)).elim (λ tE=>?_) λ tE=>?_) (λ l=>Jn (λ cf=>∀e∈cf,e.2.1= .b2 34∧e.2.2=900∧e.1≤c+1) (λ _ k e b3=>(nE.mp b3).elim (k e) λ b3=>jy.mp b3▸⟨rfl,rfl,cJ _⟩) λ e b3=>⟨(h5.each l e b3).1,(h5.each l e b3).2.1,lr (h5.each l e b3).2.2⟩) λ l=>Jn (λ cf=>cf.length≤c+1) (λ _ _=>by rw[fg];exact gp (h5.len l)) (lr (h5.len l))) (md b8.jl.ext fW.jl.ext) (od b8.le fW.le) off
 ·rw[tE]
  have Dz:y9 I (af R c).ah c (af R c).ah=I (af R c).ah++[(c+1,.b2 34,900)]:=if_pos rfl
  rw[Dz]
  exact⟨_,_,(xO _ (a5 rfl)).trans (fW.off rfl (cR _ _ _)),((ip.more λ q=>b8.eS q).add (e:=(c+1,.b2 34,900)) gk).more (λ q=>fW.eS q),cR _ _ _,(nQ.more d9).add (e:=(c+1,.b2 34,900)) ac1⟩
 ·have Dz:y9 I (af R c).ah c l=I l:=if_neg tE
  rw[Dz]
  have⟨kb,P',gd,iZ,iI,zh⟩:=h5.im l hl
  exact⟨kb,P',(xO _ (a5 rfl)).trans (fW.off rfl ((lM _ (No tE)).trans (b8.off rfl gd))),iZ.more d9,(xO _ (Fj tE)).trans (fW.off rfl ((lM _ (a5 rfl)).trans (b8.off rfl iI))),zh.more d9⟩
theorem YK{bR:B (Y D)}{bi aW bh bj bK bB cE dZ:Y D}(P:nC a h T W R c5 S xs t I c)(M:Good a h n)(hc:c<R.length)(bD:t<90000)(a3:T.length<100000)
  (f:∀(J:St) (H:aT) (aC:B aP) (cB:C) (ey:C→B (C×ap×C)),bS ac (runN ac (z+31)) uU (xd a bR bi aW c bh bj bK bB cE dZ) n=some (.br (xd a bR bi aW c bh bj bK bB cE dZ),J)→Good a H J→nC a H aC W R c5 S xs cB ey (c+1)→cB≤t+1→(∃X,aC=T++X)→aC.length≤T.length+48→s4 h H→X):X:=by
 have ae:=P.c'
 have q:=(ae.row c hc).at_ M
 have KI:∀l,∀e∈I l,e.2.1= .b2 34∧e.2.2=900∧e.1≤c+1:=λ l e b3=>⟨(P.each l e b3).1,(P.each l e b3).2.1,lr (P.each l e b3).2.2⟩
 have Au:∀l,(I l).length≤c+1:=λ l=>lr (P.len l)
 have cz:cY .lt (E (af R c).ah) (.ii 3) n=some (decide ((af R c).ah<3)):=M7 (y:=3)
 refine(f7 ((af R c).ah<3)).elim (λ L=>?_) λ L=>?_
 ·rw[iK L]at cz
  refine yg (z:=z+30) (k:=6) (m:=3) M ae.w P.dR (fh bD (aE rfl)) (aE rfl) λ x aa aI LV au dJ vR hz=>?_
  have kV:=ae.take vR hz
  have DT:∀r o,r≠ .w→h r=some o→aI r=some o:=λ r o k e=>(hz r (xG k)).2 o e
  have AP:s4 h aI:=λ r o _ k e=>DT r o (λ L=>nomatch(L▸k:AG .w=true)) e
  have L6:∀l,l<4→∃bf bR,aI (.cM l)=some (.li bf)∧es T bf (I l)∧aI (.ei l)=some (.li bR)∧es T bR (I l):=λ l hl=>let⟨bf,bR,he,ip,k1,nQ⟩:=P.im l hl;⟨bf,bR,DT _ _ (a5 rfl) he,ip,DT _ _ (a5 rfl) k1,nQ⟩
  have cD:cY .eq (E x) (.ii 2) aa=some (decide (x=2)):=qc (y:=2)
  have fT:=(kV.row c hc).at_ dJ
  have gd:fF .add (.ii 66) (E (af R c).ah)=some (E (66+(af R c).ah)):=rfl
  refine(f7 (x=2)).elim (λ tF=>?_) λ tF=>?_
  ·rw[iK tF]at cD
   exact YI (z:=z) ae (P.keep AP kV L6 P.each P.len) dJ hc L a3 λ ao bW eO J H aC k ct aB bZ ⟨_,oo,td,_⟩ afS is dL ez dF pY ex le off=>
    f J H aC (t+1) _ (dk (z+31) uU (xd a bR bi aW c bh bj bK bB cE dZ) n _ q.1 _ cz _ _ au _ cD _ fT.1 _ gd _ fT.2.2.2.1 _ _ aB _ _ bZ _ oo _ afS is _ td _ _ dL _ ez) dF pY (cJ _) ex le λ r o c2 dW e=>off r o c2 dW (AP r o c2 dW e)
  ·rw[j2 tF]at cD
   exact f aa aI T (t+1) I (dk (z+31) uU (xd a bR bi aW c bh bj bK bB cE dZ) n _ q.1 _ cz _ _ au _ cD) dJ (P.keep AP kV L6 KI Au) (cJ _) ⟨[],(eX T).symm⟩ (d2 ..) AP
 ·rw[j2 L]at cz
  exact f n h T t I (dk (z+31) uU (xd a bR bi aW c bh bj bK bB cE dZ) n _ q.1 _ cz) M (P.keep (λ r o _ _ e=>e) ae P.im KI Au) (h4 _) ⟨[],(eX T).symm⟩ (d2 ..) λ r o _ _ e=>e
end
end Mine
end
section
namespace Mine
variable{xs:B C}{bR:B (Y D)}{bi aW:Y D}{t:C}{aQ:Y D}
section
variable{a:bH}{h:aT}{n:St}{T:B aP}{z:C}{W:cw}{R:B b5}{c5:C→C}{S:C→B (ap×C)}{al:B (am×D)}{X:Prop}
noncomputable def YH(z m:C)(l xs:B D)(env:aX)(n:St):Y (eZ×St):=@fC (live (.ref m) l) (e0 (.ref m) l) (λ x aF J=>(dh false [5] x aF).bind λ dG=>bS ac (runN ac (z+31)) uU dG J) xs env n
theorem YJ{bh bj bK bB cE dZ:Y D}(m:C):∀{c:C} {n:St} {h:aT} {T:B aP} {t:C} {I:C→B (C×ap×C)} {o5:Y D},c+m=R.length→nC a h T W R c5 S xs t I c→Good a h n→t+m<90000→T.length+48*m<100000→
  (∀(J:St) (H:aT) (aC:B aP) (cB:C) (ey:C→B (C×ap×C)) (gy:Y D),YH z (a .gz) ((ck R.length).map λ j=>.ref (a (.row j))) ((pS c m).map λ j=>.ref (a (.row j))) (hy a bR bi (some (.ref (a .store))) aW o5 bh bj bK bB cE dZ) n=some (.br (hy a bR bi (some (.ref (a .store))) aW gy bh bj bK bB cE dZ),J)→Good a H J→nC a H aC W R c5 S xs cB ey R.length→cB≤t+m→(∃X,aC=T++X)→aC.length≤T.length+48*m→s4 h H→X)→X:=by
 induction m with
 |zero=>exact λ{c n h T t I o5} hc P M bD a3 f=>f n h T t I o5 (hf (M.at_ _ _ P.c'.rows)) M ((Rh c).symm.trans hc▸P) (cJ _) ⟨[],(eX T).symm⟩ (cJ _) λ r o _ _ e=>e
 |succ m aZ=>
  intro c n h T t I o5 hc P M bD a3 f
  have z4:c+1+m=R.length:=(jz c m).trans hc
  exact YK (z:=z) (bR:=bR) (bi:=bi) (aW:=aW) (bh:=bh) (bj:=bj) (bK:=bK) (bB:=bB) (cE:=cE) (dZ:=dZ) P M (z4▸d2 (c+1) m) (cn (d2 ..) bD) (cn (d2 ..) a3) λ aa aI bX jU ce au dJ h5 M6 jG pm qv=>
   aZ (o5:=some (.ref (a (.row c)))) z4 h5 dJ (cn (a' (ha M6 m) (dg (jz t m))) bD) (cn (a' (ha pm _) (dg pt)) a3) λ ao bJ cL yk c1 gy aB dA mV aak qb od nh=>
    f ao bJ cL yk c1 gy (fc (M.at_ _ _ P.c'.rows) au aB) dA mV (a' aak (a' (ha M6 m) (dg (jz t m)))) (md jG qb) (a' od (a' (ha pm _) (dg pt))) λ r o c2 dW e=>nh r o c2 dW (qv r o c2 dW e)
noncomputable def D1:bk:=(.cons (.gI (.aq (.v 1) (.ss [103,105,118,101,110])) (.v 3) (.call 55 (.cons (.v 1) (.cons (.aq (.aq (.v 1) (.ss [109,97,110,121])) (.ii 0)) .nil)))) .nil)
noncomputable def zW(er eN:ap)(c:C):ap:=if c=109 then er else if c=110 then eN else .k 7
noncomputable def OB:bk:=.cons (.gI (.v 1) (.ss [103,105,118,101,110]) (.eP .s)) (.cons (.dc [3] false (.ss [109,110]) D1) .nil)
noncomputable def m5(w:C)(bR:B (Y D))(bi aQ aW:Y D):aX:=bi::some (.ref w)::aQ::aW::bR
theorem Ll{c:C}{en:B (B C×D)}(lw:fN a h W)(M:Good a h n)(cS:h .w=some (.ds (dE a t 8)))(aA:h .dR=some (.li (xs.map E)))(i0:h .hG=some (.ds en))(XH:en.length<10)(bD:t<90000)
  (f:∀(u:ap) (J:St) (H:aT),bS ac (runN ac (z+2)) D1 (m5 (a .w) bR bi aQ (some (.ss [c]))) n=some (.br (m5 (a .w) bR bi aQ (some (.ss [c]))),J)→Good a H J→H .w=some (.ds (dE a (t+1) 8))→H .hG=some (.ds (c7 en [c] (bd u)))→(u.ar (W.many 0)∧u.wf∧u.size≤2)→bY (dB [.w,.hG]) a h a H→X):X:=by
 refine Pm (z:=z) (k:=6) (m:=W.many 0) M cS aA (fh bD (aE rfl)) λ u aa aI e q dJ vR hz=>?_
 have LH:=(hz .hG (bo rfl)).2 _ i0
 have eI:=(lw.ze M).1
 have dN:dd n (.ref (a .eb)) (.ii 0)=some (E (W.many 0)):=(lw.ze M).2 0 (fs _)
 have jm:dd aa (.ref (a .w)) (.ss [103,105,118,101,110])=some (.ref (a .hG)):=gw (dJ.at_ _ _ vR) rfl
 have st:=x7 (s:=[c]) (v:=bd u) (dJ.at_ _ _ LH) (fh XH (aE rfl))
 exact f u _ _ (dk (z+2) D1 (m5 (a aN.w) bR bi aQ (some (D.ss [c]))) n _ eI _ dN _ _ e _ jm _ st) (dJ.set LH) ((bP _ _ (a5 rfl)).trans vR) (cR _ _ _) q (bY.trans (q:=dB [.w,.hG]) (hz.sub (gH λ r m=>jy.mp m▸.head _)) (bY.kJ (.tail _ (.head _))))
theorem W0{x:D}(M:Good a h n)(wl:nP a h T W (dE a t 7) al)(aA:h .dR=some (.li (xs.map E)))(aM:kn a h)(ty:∀l,l<4→sh a h l (W.many l))(Yr:h .types=some (.li (dw 66 .nn++[.ref (a (.ty 0)),.ref (a (.ty 1)),.ref (a (.ty 2)),.ref (a (.ty 3)),x])))(hm:h .meths=some (.li [.nn]))(a4:h .gz=some (.li []))(bD:t<9000)(Xu:∀ae,ae≤3→oH T W al ae)
  (f:∀(jb kM:ap) (J:St) (H:aT) (aY:bH) (eM:Y D),bS ac (runN ac (z+2)) OB (m5 (a .w) bR bi aQ aW) n=some (.br (m5 (a .w) bR bi aQ eM),J)→Good aY H J→iF aY H T W al (zW jb kM) [] xs (t+2)→aY .w=a .w→aY .store=a .store→X):X:=by
 have ix:∀{ek:bH} {cQ:aT} {bW:St},Good ek cQ bW→jS ac (runN ac (z+2)) (.gI (.v 1) (.ss [103,105,118,101,110]) (.eP .s)) (m5 (a .w) bR bi aQ aW) n=some (.br (m5 (a .w) bR bi aQ aW),bW)→cQ .w=some (.ds (dE ek t 8))→cQ .hG=some (.ds [])→bY (dB [.w,.hG]) a h ek cQ→ek .w=a .w→X:=λ{ek cQ bW} d0 st ie gK nc gc=>by
  have E2:∀{pb:aT} {ae1:C},pb .w=some (.ds (dE ek ae1 8))→bY (dB [.w,.hG]) a h ek pb→fN ek pb W:=λ w bx=>⟨⟨_,w,rfl,rfl,rfl⟩,let⟨aG,iq,gC⟩:=wl.lw.store;⟨aG,(bx .store (bo rfl)).2 _ iq,(bx .kt (bo rfl)).1.symm▸gC⟩,(bx .eb (bo rfl)).2 _ wl.lw.many,(bx .fy (bo rfl)).2 _ wl.lw.up,wl.lw.ok⟩
  refine Ll (z:=z) (c:=109) (bR:=bR) (bi:=bi) (aQ:=aQ) (E2 ie nc) d0 ie ((nc .dR (bo rfl)).2 _ aA) gK (aE rfl) (fh bD (aE rfl)) λ jb eO hO dL hY tu mf d' f0=>?_
  have xC:=nc.trans f0
  refine Ll (z:=z) (c:=110) (bR:=bR) (bi:=bi) (aQ:=aQ) (E2 tu xC) hY tu ((xC .dR (bo rfl)).2 _ aA) mf (aE rfl) (cn bD (aE rfl)) λ kM jV i3 fG hZ tv wY cO hj=>?_
  have hS:=xC.trans hj
  have F:∀{r:aN} {o:a0},([aN.w,.hG].all λ p=>!(p.ctorIdx==r.ctorIdx))=true→h r=some o→i3 r=some o:=λ k e=>(hS _ (bo k)).2 _ e
  rw[gc]at dL fG
  have zD:∀l,ek (.ty l)=a (.ty l):=λ l=>(hS (.ty l) (bo rfl)).1
  exact f jb kM jV i3 ek (some (.ss [110])) (tg st (tg (vt (v:=.ss [109,110]) (l:=[.ss [109],.ss [110]]) rfl rfl (aE rfl) ((zR dL).trans ((zR fG).trans (hf trivial)))) rfl)) hZ
   {wl:=⟨E2 tv hS,wl.bT.bx (hS.sub λ r k=>nR (p:=hR) rfl k),tv,rfl,wl.be.bx (hS .host (bo rfl)).2 (hS .kt (bo rfl)).1 (hS .fD (bo rfl)).1,F rfl wl.az,wl.ok⟩
    dR:=F rfl aA
    aM:=aM.bx (hS .store (bo rfl)).2 (hS .kt (bo rfl)).1 (hS .types (bo rfl)).1 (hS .meths (bo rfl)).1
    ty:=λ l hl=>(ty l hl).1.bx (hS.sub λ r k=>by rcases k with rfl|rfl|rfl|rfl<;>exact bo rfl)
    cM:=λ l hl=>F rfl (ty l hl).2.2
    types:=⟨x,by rw[zD 0,zD 1,zD 2,zD 3];exact F rfl Yr⟩
    given:=wY
    lG:=λ c=>(f7 (c=109)).elim (λ L=>by rw[show zW jb kM c=jb from if_pos L];exact d') λ d4=>(f7 (c=110)).elim (λ L=>by rw[show zW jb kM c=kM from(if_neg d4).trans (if_pos L)];exact cO) λ d5=>by rw[show zW jb kM c= .k 7 from(if_neg d4).trans (if_neg d5)];exact⟨trivial,.inl rfl,h4 1⟩
    meths:=F rfl hm
    dv:=λ l hl=>F rfl (ty l hl).2.1
    rows:=F rfl a4
    bl:=λ j r e=>nomatch e
    row:=λ j r e=>nomatch e
    eW:=λ r a4=>nomatch a4
    kq:=Xu} gc (hS .store (bo rfl)).1
 have dA:=M.new .hG (λ _=>a5 rfl) (.ds [])
 have ph:(up h .hG (some (.ds []))) .w=some (.ds (dE a t 7)):=(bP _ _ (a5 rfl)).trans wl.w
 have gc:up a .hG n.length .w=a .w:=bP _ _ (a5 rfl)
 have at2:=dA.at_ _ _ ph
 rw[gc]at at2
 have d0:=dA.set (c3:=.ds (dE (up a .hG n.length) t 8)) ph
 rw[gc]at d0
 have dr:c7 (dE a t 7) EI (.ref n.length)=dE (up a .hG n.length) t 8:=by
  unfold dE
  rw[cR,bP _ _ (a5 rfl),bP _ _ (a5 rfl),bP _ _ (a5 rfl),bP _ _ (a5 rfl),bP _ _ (a5 rfl),bP _ _ (a5 rfl)];rfl
 have st:jS ac (runN ac (z+2)) (.gI (.v 1) (.ss [103,105,118,101,110]) (.eP .s)) (m5 (a .w) bR bi aQ aW) n=some (.br (m5 (a .w) bR bi aQ aW),(n++[a0.ds []]).set (a .w) (a0.ds (dE (up a .hG n.length) t 8))):=aR ((x7 at2 yo).trans (an (λ x=>some ((n++[a0.ds []]).set (a .w) (.ds x))) dr)) rfl
 exact ix d0 st (cR _ _ _) ((bP _ _ (a5 rfl)).trans (cR _ _ _)) ((bY.mw (.tail _ (.head _))).trans (bY.kJ (.head _))) gc
end
end Mine
end
section
namespace Mine
section
variable{a:bH}{h:aT}{n:St}{T:B aP}{z:C}{W:cw}{R:B b5}{c5 F:C→C}{S:C→B (ap×C)}{I:C→B (C×ap×C)}{al:B (am×D)}{aU:C→ap}{X:Prop}
structure wg(a:bH)(h:aT)(T:B aP)(W:cw)(al:B (am×D))(aU:C→ap)(R:B b5)(F:C→C):Prop extends Hy W aU R where
 aM:kn a h
 bT:c6 a h T
 ty:∀l,l<4→l5 a h l (W.many l)
 types:∃x,h .types=some (.li (dw 66 .nn++[.ref (a (.ty 0)),.ref (a (.ty 1)),.ref (a (.ty 2)),.ref (a (.ty 3)),x]))
 meths:h .meths=some (.li (.nn::(ck R.length).map λ j=>.ref (a (.bl j))))
 dv:∀l,l<4→h (.dv l)=some (.li ((k8 R λ r=>r.ah==l).map λ j=>E (j+1)))
 be:∃aG,h .host=some (.bF 9 aG)∧Hx a aG
 az:h .fD=some (.cq al)
 hs:h .dx=some (.cq [(34,.ii 3)])
 o6:lU T W al
 kq:∀ae,ae≤3→oH T W al ae
 bl:jZ a h T W aU R F
theorem wg.off{H:aT}{aC:B aP}(ag:wg a h T W al aU R F)(f:s4 h H)(bT:c6 a H aC)(k:∀{k:C} {t:ap},ba T k t→ba aC k t):wg a H aC W al aU R F:=
 ⟨ag.toHy,let⟨aG,eE,s⟩:=ag.aM.bF;⟨aG,f _ _ rfl rfl eE,s⟩,bT,λ l hl=>let⟨⟨aG,au,e⟩,⟨cp,gj,p⟩⟩:=ag.ty l hl;⟨⟨aG,f _ _ rfl rfl au,e⟩,⟨cp,f _ _ rfl rfl gj,p⟩⟩,let⟨x,e⟩:=ag.types;⟨x,f _ _ rfl rfl e⟩,f _ _ rfl rfl ag.meths,λ l hl=>f _ _ rfl rfl (ag.dv l hl),let⟨aG,au,e⟩:=ag.be;⟨aG,f _ _ rfl rfl au,e⟩,f _ _ rfl rfl ag.az,f _ _ rfl rfl ag.hs,ag.o6.more k,λ ae cC=>(ag.kq ae cC).more k λ k e=>e,λ j bt=>(ag.bl j bt).bx (λ o e=>f _ _ rfl rfl e) (λ g o e=>f _ _ rfl rfl e) k⟩
theorem Good.Fm{r:aN}(M:Good a h n)(o:a0)(a4:∀m,r≠ .a6 m)(f:∀aY H,Good aY H (n++[o])→aY r=n.length→H r=some o→bY (dB [r]) a h aY H→X):X:=f _ _ (M.new r a4 o) (cR _ _ _) (cR _ _ _) (bY.mw (.head _))
noncomputable def Bl(n:St):C→St
 |0=>n
 |k+1=>Bl n k++[.li []]
theorem wants(M:Good a h n)(k:C):∀{X:Prop},(∀aY H,Good aY H (Bl n k)→(∀l,l<k→aY (.ei l)=(Bl n l).length∧H (.ei l)=some (.li []))→bY (dB ((ck k).map .ei)) a h aY H→X)→X:=by
 induction k with
 |zero=>exact λ f=>f a h M (λ l h=>nomatch h) bY.refl
 |succ k aZ=>
  exact λ f=>aZ λ cx aI dJ w bx=>dJ.Fm (r:=.ei k) (.li []) (λ _=>a5 rfl) λ ed bJ dA au aB xA=>
   f ed bJ dA (λ l hl=>(Ro.mp hl).elim (λ hl=>have m:=xA (.ei l) (xG (Fj (mR hl)));⟨m.1.trans (w l hl).1,m.2 _ (w l hl).2⟩) λ e=>e▸⟨au,aB⟩)
    ((bx.sub (gH λ r m=>(ht.mp m).elim λ l L=>ht.mpr ⟨l,f'.mpr (pW (f'.mp L.1)),L.2⟩)).trans (xA.sub (gH λ r m=>ht.mpr ⟨k,f'.mpr (qT k),(jy.mp m).symm⟩)))
noncomputable def xF:B aN:=.dx::.host::.want::(ck 4).map .ei
noncomputable def A8:bk:=.cons (.cc (.aq (.v 1) (.ss [104,111,115,116])) 71 (.o' [34] (.cons (.ii 3) .nil))) (.cons (.asg 4 (.lst (.cons (.lst .nil) (.cons (.lst .nil) (.cons (.lst .nil) (.cons (.lst .nil) .nil)))))) .nil)
noncomputable def sX(w:C)(bR:B (Y D))(bi aQ aW bp:Y D):aX:=bi::some (.ref w)::aQ::aW::bp::bR
theorem aaP{xs:B C}{t:C}{bR:B (Y D)}{bi aQ aW cm:Y D}(p:iF a h T W al aU R xs t)(M:Good a h n)(b9:ik R 8)(da:R.length≤16)
  (f:∀(J:St) (H:aT) (aY:bH),bS ac (runN ac z) A8 (sX (a .w) bR bi aQ aW cm) n=some (.br (sX (a .w) bR bi aQ aW (some (.ref (aY .want)))),J)→Good aY H J→wg aY H T W al aU R (λ j=>eC (af R j))→nC aY H T W R (λ j=>eC (af R j)) (λ _=>[]) xs t (λ _=>[]) 0→aY .w=a .w→aY .store=a .store→X):X:=by
 have⟨aG,iq,gC,us,sB,wS,nX⟩:=p.wl.be.bF
 refine M.Fm (r:=.dx) (.cq [(34,.ii 3)]) (λ _=>a5 rfl) λ cx aI dJ Vv dx mv=>?_
 have w5:=(mv .host (bo rfl)).2 _ iq
 have CY:=(mv .host (bo rfl)).1
 have dA:=dJ.set (c3:=.bF 9 (c7 aG 71 (.ref n.length))) w5
 have OI:lg ac (n++[a0.cq [(34,.ii 3)]]) (.ref (a .host)) 71 (.ref n.length)=some ((n++[a0.cq [(34,.ii 3)]]).set (a .host) (.bF 9 (c7 aG 71 (.ref n.length)))):=x4 (CY▸dJ.at_ _ _ w5) rfl (fh gC (aE rfl))
 rw[CY]at dA
 generalize((n++[a0.cq [(34,.ii 3)]]).set (a .host) (.bF 9 (c7 aG 71 (.ref n.length))))=ao at OI dA
 refine wants dA 4 λ ek cQ d0 ie g0=>?_
 have fM:=ie 0 (aE rfl)
 have kO:=ie 1 (aE rfl)
 have kP:=ie 2 (aE rfl)
 have afO:=ie 3 (aE rfl)
 refine d0.Fm (r:=.want) (lT ek) (λ _=>a5 rfl) λ aY H dF SE sF f0=>?_
 have afL:lT aY=lT ek:=by unfold lT;rw[(f0 (.ei 0) (bo rfl)).1,(f0 (.ei 1) (bo rfl)).1,(f0 (.ei 2) (bo rfl)).1,(f0 (.ei 3) (bo rfl)).1]
 have aaV:bY (dB xF) cx aI cx (up aI .host (some (.bF 9 (c7 aG 71 (.ref n.length))))):=bY.kJ (.tail _ (.head _))
 have pG:∀r,r∈(ck 4).map aN.ei→r∈xF:=λ r m=>.tail _ (.tail _ (.tail _ m))
 have bx:bY (dB xF) a h aY H:=(((mv.sub (gH (ji (.head _)))).trans aaV).trans (g0.sub (gH pG))).trans (f0.sub (gH (ji (.tail _ (.tail _ (.head _))))))
 have ab:∀{r:aN} {o:a0},(xF.all λ p=>!(p.ctorIdx==r.ctorIdx))=true→h r=some o→H r=some o:=λ k e=>(bx _ (bo k)).2 _ e
 have A:∀{r:aN},(xF.all λ p=>!(p.ctorIdx==r.ctorIdx))=true→aY r=a r:=λ k=>(bx _ (bo k)).1
 have ky:H .host=some (.bF 9 (c7 aG 71 (.ref n.length))):=(f0 .host (bo rfl)).2 _ ((g0 .host (bo rfl)).2 _ (cR _ _ _))
 have Xg:H .dx=some (.cq [(34,.ii 3)]):=(f0 .dx (bo rfl)).2 _ ((g0 .dx (bo rfl)).2 _ ((bP _ _ (a5 rfl)).trans dx))
 have Sz:aY .dx=n.length:=(f0 .dx (bo rfl)).1.trans ((g0 .dx (bo rfl)).1.trans Vv)
 have Fb:dE aY t 8=dE a t 8:=(tw f0 rfl).trans ((tw g0 rfl).trans (tw mv rfl))
 have OZ:kn aY H:=p.aM.bx (bx .store (bo rfl)).2 (A rfl) (A rfl) (A rfl)
 have PE:∀l,l<4→l5 aY H l (W.many l):=λ l hl=>(p.ty l hl).bx (bx.sub λ r k=>by rcases k with rfl|rfl|rfl|rfl<;>exact bo rfl)
 have PK:∃x,H .types=some (.li (dw 66 .nn++[.ref (aY (.ty 0)),.ref (aY (.ty 1)),.ref (aY (.ty 2)),.ref (aY (.ty 3)),x])):=let⟨x,e⟩:=p.types;⟨x,by rw[A (r:=.ty 0) rfl,A (r:=.ty 1) rfl,A (r:=.ty 2) rfl,A (r:=.ty 3) rfl];exact ab rfl e⟩
 have yh:c6 aY H T:=p.wl.bT.bx (bx.sub λ r k=>nR (p:=hR) rfl k)
 have adt:∀j,j<R.length→nL aY H j (af R j) (eC (af R j)) []:=λ j bt=>(p.row j _ (iL bt)).bx (bx.sub λ r k=>k.elim (λ e=>e▸bo rfl) λ e=>e▸bo rfl)
 have jm:dd (n++[a0.cq [(34,.ii 3)]]) (.ref (a .w)) (.ss [104,111,115,116])=some (.ref (a .host)):=(mv .w (bo rfl)).1▸CY▸gw (dJ.at_ _ _ ((mv .w (bo rfl)).2 _ p.wl.w)) (by rw[←tw (t:=t) (k:=8) mv rfl];rfl)
 have Vw:a0.li [.ref ao.length,.ref (ao++[a0.li []]).length,.ref (ao++[a0.li []]++[a0.li []]).length,.ref (ao++[a0.li []]++[a0.li []]++[a0.li []]).length]=lT ek:=by unfold lT;rw[fM.1,kO.1,kP.1,afO.1];rfl
 have st:bS ac (runN ac z) A8 (sX (a .w) bR bi aQ aW cm) n=some (.br (sX (a .w) bR bi aQ aW (some (.ref (aY .want)))),Bl ao 4++[lT ek]):=by
  rw[SE,←Vw]
  exact(dk z A8 (sX (a aN.w) bR bi aQ aW cm) n _ jm _ OI)
 have afW:∀l,l<4→H (.ei l)=some (.li []):=λ l hl=>(f0 _ (bo rfl)).2 _ (ie l hl).2
 exact f _ H aY st dF
  {iQ:=p.wl.lw.ok,lG:=p.lG,eW:=p.eW,inv:=b9,da:=da,aM:=OZ,bT:=yh,ty:=PE,types:=PK
   meths:=(ab rfl p.meths).trans (an (λ l=>some (a0.li (.nn::l))) (pR λ j _=>an D.ref (A (r:=.bl j) rfl).symm))
   dv:=λ l hl=>ab rfl (p.dv l hl)
   be:=⟨_,ky,(ni (tU rfl)).trans (us.trans (an (λ x=>some (D.ref x)) (A rfl).symm)),(ni (tU rfl)).trans (sB.trans (an (λ x=>some (D.ref x)) (A rfl).symm)),qx.trans (an (λ x=>some (D.ref x)) Sz.symm),(ni (tU rfl)).trans wS,(ni (tU rfl)).trans nX⟩
   az:=ab rfl p.wl.az,hs:=Xg,o6:=p.wl.ok,kq:=p.kq
   bl:=λ j bt=>(p.bl j _ (iL bt)).bx (λ o e=>ab rfl e) (λ g o e=>ab rfl e) λ q=>q}
  {c':=
    {lw:=p.wl.lw.bx (bx.sub λ r k=>nR (p:=sV) rfl k),bT:=yh,w:=Fb.symm▸ab rfl p.wl.w
     rows:=(ab rfl p.rows).trans (an (λ l=>some (a0.li l)) (pR λ j _=>an D.ref (A (r:=.row j) rfl).symm))
     row:=adt,eW:=p.eW,da:=da,lQ:=λ j bt x aA=>(nomatch aA),mF:=λ j bt=>fs _}
   dR:=ab rfl p.dR,aM:=OZ,ty:=PE,types:=PK
   im:=λ l hl=>⟨[],[],ab rfl (p.cM l hl),trivial,afW l hl,trivial⟩
   want:=sF.trans (an some afL.symm),each:=λ l e b3=>(nomatch b3),len:=λ l=>cJ _} (A rfl) (A rfl)
end
end Mine
end
section
namespace Mine
section
variable{a:bH}{h:aT}{n:St}{T:B aP}{z:C}{W:cw}{R:B b5}{c5 F:C→C}{S:C→B (ap×C)}{I:C→B (C×ap×C)}{al:B (am×D)}{aU:C→ap}{X:Prop}
theorem Good.y'{b m:C}{r:aN}{o:a0}(M:Good a h n)(lt:∀r,(h r).isSome=true→a r<b)(hm:b≤m)(e:n[m]? =some o)(hn:∀m,r≠ .a6 m)(f:∀aY H,Good aY H n→(∀r,(H r).isSome=true→aY r<m+1)→aY r=m→H r=some o→bY (dB [r]) a h aY H→X):X:=
 have L:=M.adopt lt hm e hn;f _ _ L.1 L.2 (cR _ _ _) (cR _ _ _) (bY.mw (.head _))
noncomputable def Fl:B aN:=[.ig,.jt,.eH,.h7]
noncomputable def A9:bk:=.cons (.asg 6 (.new 7 (.cons (.new 6 (.cons (.v 2) (.cons (.ii 1) .nil))) (.cons (.aq (.v 1) (.ss [104,111,115,116])) (.cons (.ii 1) .nil))))) (.cons (.asg 7 (.new 8 (.cons (.at (.v 6) 55) (.cons (.v 6) .nil)))) .nil)
noncomputable def tq(N:C)(s:D):B a0:=[.bF 6 (PM N s (.ii 1)),.li [.nn],.li [.nn],.cq [],.bF 5 [(0,.ref (N+5))],.li [],.cq [],.cq [],.cq []]
noncomputable def oC(N:C)(u s k be:D):B a0:=[.bF 7 (Hm N u s k be (.ii 1)),.cq [],.cq [],.li [],.cq []]
noncomputable def wN(N:C)(u nV s k:D):B a0:=[.bF 8 (KA N u nV s k),.li [],.li [],.cq [],.li [],.li [],.li [],.cq [],.cq []]
structure kR(a:bH)(h:aT)(T:B aP)(W:cw)(al:B (am×D))(aU:C→ap)(R:B b5)(F:C→C)(I:C→B (C×ap×C))(xs:B C)(t:C):Prop where
 ds:lV a h T W al aU R F I 0
 c':ff a h T W R F (λ _=>[]) t
 dR:h .dR=some (.li (xs.map E))
 want:h .want=some (lT a)
 wl:∀l,l<4→∃bf,h (.ei l)=some (.li bf)∧es T bf (I l)
 jt:h .jt=some (.li [])
 each:∀l,∀e∈I l,e.2.1= .b2 34∧e.2.2=900
 len:∀l,(I l).length≤16
noncomputable def qp(w s:C)(bR:B (Y D))(bi aW bp bq bh bj:Y D):aX:=bi::some (.ref w)::some (.ref s)::aW::bp::bq::bh::bj::bR
theorem aaQ{xs:B C}{t:C}{bR:B (Y D)}{bi aW bp bq bN bm:Y D}(ag:wg a h T W al aU R F)(P:nC a h T W R F (λ _=>[]) xs t I R.length)(M:Good a h n)(hx:qN R F)
  (f:∀(J:St) (H:aT) (aY:bH),bS ac (runN ac (z+2)) A9 (qp (a .w) (a .store) bR bi aW bp bq bN bm) n=some (.br (qp (a .w) (a .store) bR bi aW bp bq (some (.ref (aY .ig))) (some (.ref (aY .eH)))),J)→Good aY H J→kR aY H T W al aU R F I xs t→H .h7=some (.li [])→aY .w=a .w→aY .store=a .store→aY .want=a .want→X):X:=by
 have Zh:=(P.aM.at_ M).2.2
 have iT:Good a h (n++tq n.length (.ref (a .store))):=M.ml
 have au:runN ac (z+2) 8 [.ref n.length,.ref (a .store),.ii 1] (n++[.bF 6 []])=some (.nn,n++tq n.length (.ref (a .store))):=afF
 have GP:d7 (n++tq n.length (.ref (a .store))) (.ref n.length) 47=some (.ref (a .store)):=(fj (l9 (i:=0))).trans rfl
 have jm:dd (n++tq n.length (.ref (a .store))) (.ref (a .w)) (.ss [104,111,115,116])=some (.ref (a .host)):=gw (iT.at_ _ _ P.c'.w) rfl
 have EH:=p6 (l:=tq n.length (.ref (a .store))) Zh
 have dy:n.length≤(n++tq n.length (.ref (a .store))).length:=fg (as:=n)▸d2 ..
 generalize(n++tq n.length (.ref (a .store)))=aa at iT au GP jm EH dy
 have aB:runN ac (z+2) 9 [.ref aa.length,.ref n.length,.ref (a .host),.ii 1] (aa++[.bF 7 []])=some (.nn,aa++oC aa.length (.ref n.length) (.ref (a .store)) (.ref (a .kt)) (.ref (a .host))):=agf GP EH
 have P7:d7 (aa++oC aa.length (.ref n.length) (.ref (a .store)) (.ref (a .kt)) (.ref (a .host))) (.ref aa.length) 55=some (.ref n.length):=(fj (l9 (i:=0))).trans rfl
 have jg:Good a h (aa++oC aa.length (.ref n.length) (.ref (a .store)) (.ref (a .kt)) (.ref (a .host))):=iT.ml
 have eD:(aa++oC aa.length (.ref n.length) (.ref (a .store)) (.ref (a .kt)) (.ref (a .host))).length=aa.length+5:=fg
 have N3:∀{i:C} {b9:B a0},(aa++oC aa.length (.ref n.length) (.ref (a .store)) (.ref (a .kt)) (.ref (a .host))++b9)[aa.length+i]? =(oC aa.length (.ref n.length) (.ref (a .store)) (.ref (a .kt)) (.ref (a .host))++b9)[i]? :=λ{i b9}=>(an (·[aa.length+i]?) (jw ..)).trans l9
 have PL:=p6 (l:=oC aa.length (.ref n.length) (.ref (a .store)) (.ref (a .kt)) (.ref (a .host))) GP
 have Mq:=p6 (l:=oC aa.length (.ref n.length) (.ref (a .store)) (.ref (a .kt)) (.ref (a .host))) EH
 have D':=(N3 (i:=0)).trans (rfl:(oC aa.length (.ref n.length) (.ref (a .store)) (.ref (a .kt)) (.ref (a .host))++wN (aa.length+5) (.ref n.length) (.ref aa.length) (.ref (a .store)) (.ref (a .kt)))[0]? =some (.bF 7 (Hm aa.length (.ref n.length) (.ref (a .store)) (.ref (a .kt)) (.ref (a .host)) (.ii 1))))
 have Ea:=(N3 (i:=3)).trans (rfl:(oC aa.length (.ref n.length) (.ref (a .store)) (.ref (a .kt)) (.ref (a .host))++wN (aa.length+5) (.ref n.length) (.ref aa.length) (.ref (a .store)) (.ref (a .kt)))[3]? =some (.li []))
 generalize(aa++oC aa.length (.ref n.length) (.ref (a .store)) (.ref (a .kt)) (.ref (a .host)))=ao at aB P7 jg eD PL Mq D' Ea
 rw[←eD]at D' Ea
 have bZ:runN ac (z+2) 10 [.ref ao.length,.ref n.length,.ref aa.length] (ao++[.bF 8 []])=some (.nn,ao++wN ao.length (.ref n.length) (.ref aa.length) (.ref (a .store)) (.ref (a .kt))):=Vd PL Mq
 have pN:Good a h (ao++wN ao.length (.ref n.length) (.ref aa.length) (.ref (a .store)) (.ref (a .kt))):=jg.ml
 refine pN.y' (r:=.ig) (m:=aa.length+0) (b:=n.length) M.EY dy D' (λ _=>a5 rfl) λ cx aI Qh sT SF Xj dN=>?_
 refine Qh.y' (r:=.jt) (m:=aa.length+3) sT (fz (aE rfl:1≤3) _) Ea (λ _=>a5 rfl) λ ed bJ Qi aam t' fX dH=>?_
 refine Qi.y' (r:=.eH) (m:=ao.length+0) aam (eD▸h4 _) (l9.trans rfl) (λ _=>a5 rfl) λ ek cQ BU aan Sw j4 eh=>?_
 refine BU.y' (r:=.h7) (m:=ao.length+4) aan (fz (aE rfl:1≤4) _) (l9.trans rfl) (λ _=>a5 rfl) λ aY H Qj _ Sy ee of=>?_
 have bx:bY (dB Fl) a h aY H:=(((dN.sub (gH (ji (.head _)))).trans (dH.sub (gH (ji (.tail _ (.head _)))))).trans (eh.sub (gH (ji (.tail _ (.tail _ (.head _))))))).trans (of.sub (gH (ji (.tail _ (.tail _ (.tail _ (.head _)))))))
 have ab:∀{r:aN} {o:a0},(Fl.all λ p=>!(p.ctorIdx==r.ctorIdx))=true→h r=some o→H r=some o:=λ k e=>(bx _ (bo k)).2 _ e
 have A:∀{r:aN},(Fl.all λ p=>!(p.ctorIdx==r.ctorIdx))=true→aY r=a r:=λ k=>(bx _ (bo k)).1
 have Sx:aY .eH=ao.length:=(of .eH (bo rfl)).1.trans Sw
 have Jl:aY .ig=aa.length:=(of .ig (bo rfl)).1.trans ((eh .ig (bo rfl)).1.trans ((dH .ig (bo rfl)).1.trans SF))
 have SA:aY .jt=aa.length+3:=(of .jt (bo rfl)).1.trans ((eh .jt (bo rfl)).1.trans t')
 have Xk:=(of .ig (bo rfl)).2 _ ((eh .ig (bo rfl)).2 _ ((dH .ig (bo rfl)).2 _ Xj))
 have Xi:=(of .jt (bo rfl)).2 _ ((eh .jt (bo rfl)).2 _ fX)
 have D9:=(of .eH (bo rfl)).2 _ j4
 have KX:∀l m,(I l).filter (λ e=>e.1==m&&e.2.2 != 900)=[]:=λ l m=>tN.mpr λ e b3 y=>p7.mp (dI.mp y).2 (P.each l e b3).2.1
 have MO:∀l,(I l).length≤16:=λ l=>a' (P.len l) ag.da
 have yh:c6 aY H T:=ag.bT.bx (bx.sub λ r k=>nR (p:=hR) rfl k)
 have st:bS ac (runN ac (z+2)) A9 (qp (a .w) (a .store) bR bi aW bp bq bN bm) n=some (.br (qp (a .w) (a .store) bR bi aW bp bq (some (.ref (aY .ig))) (some (.ref (aY .eH)))),ao++wN ao.length (.ref n.length) (.ref aa.length) (.ref (a .store)) (.ref (a .kt))):=by
  rw[Jl,Sx]
  exact(dk (z+2) A9 (qp (a aN.w) (a aN.store) bR bi aW bp bq bN bm) n _ rfl _ rfl _ au _ jm _ aB _ rfl _ P7 _ bZ)
 have mD:∀{x y:C},x=y→some (D.ref y)=some (D.ref x):=λ e=>an (λ x=>some (D.ref x)) e.symm
 exact f _ H aY st Qj
  {ds:=
    {fQ:=
      {toHy:=ag.toHy,aM:=ag.aM.bx (bx .store (bo rfl)).2 (A rfl) (A rfl) (A rfl),bT:=yh
       ty:=λ l hl=>(ag.ty l hl).bx (bx.sub λ r k=>by rcases k with rfl|rfl|rfl|rfl<;>exact bo rfl)
       types:=let⟨x,e⟩:=ag.types;⟨x,by rw[A (r:=.ty 0) rfl,A (r:=.ty 1) rfl,A (r:=.ty 2) rfl,A (r:=.ty 3) rfl];exact ab rfl e⟩
       meths:=(ab rfl ag.meths).trans (an (λ l=>some (a0.li (.nn::l))) (pR λ j _=>an D.ref (A (r:=.bl j) rfl).symm))
       dv:=λ l hl=>ab rfl (ag.dv l hl)
       be:=let⟨en,g1,g2,gK,mf,wY⟩:=ag.be;⟨en,ab rfl g1,g2.trans (mD (A rfl)),gK.trans (mD (A rfl)),mf.trans (mD (A rfl)),wY⟩
       az:=ab rfl ag.az,hs:=ab rfl ag.hs,o6:=ag.o6,kq:=ag.kq
       qa:=⟨_,_,D9,Xk,mD (A rfl),mD (A rfl),mD Jl,mD Sy,mD (A rfl),mD SA⟩}
     bl:=λ j bt=>(ag.bl j bt).bx (λ o e=>ab rfl e) (λ g o e=>ab rfl e) λ q=>q
     hx:=hx
     im:=λ l hl=>let⟨bf,_,he,ip,_⟩:=P.im l hl;⟨bf,ab rfl he,ip⟩
     io:=⟨λ l hl e b3=>.inl ⟨(P.each l e b3).1,(P.each l e b3).2.1⟩,λ l hl m=>by rw[KX];exact Cc,λ l hl m=>by rw[KX];exact fs _,λ l hl=>a' (MO l) (aE rfl)⟩}
   c':=
    {lw:=P.c'.lw.bx (bx.sub λ r k=>nR (p:=sV) rfl k),bT:=yh,w:=(tw bx rfl).symm▸ab rfl P.c'.w
     rows:=(ab rfl P.c'.rows).trans (an (λ l=>some (a0.li l)) (pR λ j _=>an D.ref (A (r:=.row j) rfl).symm))
     row:=λ j bt=>(P.c'.row j bt).bx (bx.sub λ r k=>k.elim (λ e=>e▸bo rfl) λ e=>e▸bo rfl),eW:=P.c'.eW,da:=P.c'.da,lQ:=P.c'.lQ,mF:=P.c'.mF}
   dR:=ab rfl P.dR
   want:=(ab rfl P.want).trans (by unfold lT;rw[A (r:=.ei 0) rfl,A (r:=.ei 1) rfl,A (r:=.ei 2) rfl,A (r:=.ei 3) rfl])
   wl:=λ l hl=>let⟨_,bR,_,_,k1,nQ⟩:=P.im l hl;⟨bR,ab rfl k1,nQ⟩
   jt:=Xi,each:=λ l e b3=>⟨(P.each l e b3).1,(P.each l e b3).2.1⟩,len:=MO} ee (A rfl) (A rfl) (A rfl)
end
end Mine
end
section
namespace Mine
variable{xs:B C}{t:C}{H:aT}{bi aQ aW bp bh:Y D}
section
variable{a:bH}{h:aT}{n:St}{T:B aP}{z:C}{W:cw}{R:B b5}{F:C→C}{I:C→B (C×ap×C)}{al:B (am×D)}{aU:C→ap}{X:Prop}
theorem kR.keep{cB:C}(A:kR a h T W al aU R F I xs t)(f:∀r o,gY r=false→r≠ .w→r≠ .h7→h r=some o→H r=some o)(bT:c6 a H T)(cS:H .w=some (.ds (dE a cB 8))):kR a H T W al aU R F I xs cB:=
 {ds:=⟨A.ds.fQ.keep (λ r o k e=>f r o (N' k) (λ L=>nomatch(L▸k:pB .w=true)) (λ L=>nomatch(L▸k:pB .h7=true)) e) bT λ q=>q,λ j bt=>(A.ds.bl j bt).bx (λ o e=>f _ _ rfl (a5 rfl) (a5 rfl) e) (λ g o e=>f _ _ rfl (a5 rfl) (a5 rfl) e) λ q=>q,A.ds.hx,λ l hl=>let⟨bf,e,im⟩:=A.ds.im l hl;⟨bf,f _ _ rfl (a5 rfl) (a5 rfl) e,im⟩,A.ds.io⟩
  c':=⟨⟨⟨_,cS,rfl,rfl,rfl⟩,let⟨aG,iq,gC⟩:=A.c'.lw.store;⟨aG,f _ _ rfl (a5 rfl) (a5 rfl) iq,gC⟩,f _ _ rfl (a5 rfl) (a5 rfl) A.c'.lw.many,f _ _ rfl (a5 rfl) (a5 rfl) A.c'.lw.up,A.c'.lw.ok⟩,bT,cS,f _ _ rfl (a5 rfl) (a5 rfl) A.c'.rows,λ j bt=>⟨f _ _ rfl (a5 rfl) (a5 rfl) (A.c'.row j bt).row,f _ _ rfl (a5 rfl) (a5 rfl) (A.c'.row j bt).st⟩,A.c'.eW,A.c'.da,A.c'.lQ,A.c'.mF⟩
  dR:=f _ _ rfl (a5 rfl) (a5 rfl) A.dR,want:=f _ _ rfl (a5 rfl) (a5 rfl) A.want,wl:=λ l hl=>let⟨bf,e,im⟩:=A.wl l hl;⟨bf,f _ _ rfl (a5 rfl) (a5 rfl) e,im⟩
  jt:=f _ _ rfl (a5 rfl) (a5 rfl) A.jt,each:=A.each,len:=A.len}
theorem kR.go{b:C}{J:St}(A:kR a h T W al aU R F I xs t)(x:b0 a h T b J T H):kR a H T W al aU R F I xs t:=A.keep (λ r o k _ _ e=>x.off k e) x.bT (x.off rfl A.c'.w)
noncomputable def g3(R:B b5):B Nat:=(ck R.length).filter λ j=>(af R j).eL
noncomputable def AH:bk:=(.cons (.ex (.append (.at (.v 7) 65) (.tup (.cons (.bin .add (.ii 66) (.aq (.v 5) (.ss [108,101,118,101,108]))) (.cons (.aq (.v 5) (.ss [109,105,100])) (.cons (.new 4 (.cons (.gl [78,95,77,69,84,72,79,68] (.ii 91)) (.cons (.tup (.cons (.aq (.v 5) (.ss [110,97,109,101])) (.cons (.ii 0) .nil))) (.cons (.lst .nil) (.cons (.ii 128) (.cons (.aq (.v 5) (.ss [109,105,100])) .nil)))))) .nil)))))) .nil)
noncomputable def xD(a:bH)(bR:B (Y D))(bi aV aQ aW bp bq bh:Y D):aX:=bi::aV::aQ::aW::bp::bq::bh::some (.ref (a .eH))::bR
theorem aa6{dX:C}{lst:B D}{bR:B (Y D)}{aV:Y D}(is:B C):∀{done:B C} {nd:C→D} {n:St} {h:aT} {o5:Y D},(∀i∈is,i<R.length)→(done++is).Nodup→kR a h T W al aU R F I xs t→Good a h n→h .h7=some (.li (px R nd done))→h (.a6 dX)=some (.li lst)→done.length+is.length<100→
  (∀(J:St) (H:aT) (oj:C→D) (gy:Y D),@fC (live (.ref dX) lst) (e0 (.ref dX) lst) (λ x aF J=>(dh false [5] x aF).bind λ dG=>bS ac (runN ac (z+1)) AH dG J) (is.map λ j=>.ref (a (.row j))) (xD a bR bi aV aQ aW bp o5 bh) n=some (.br (xD a bR bi aV aQ aW bp gy bh),J)→Good a H J→kR a H T W al aU R F I xs t→H .h7=some (.li (px R oj (done++is)))→H (.a6 dX)=some (.li lst)→X)→X:=by
 induction is with
 |nil=>exact λ{done nd n h o5} ay Ff A M a1 hm hl f=>f n h nd o5 (hf (de M hm)) M A ((eX done).symm▸a1) hm
 |cons i is aZ=>
  intro done nd n h o5 ay Ff A M a1 hm hl f
  have re:=ay i (.head _)
  have q:=(A.c'.row i re).at_ M
  have iT:=M.kD (.li [])
  have r:=(A.c'.row i re).at_ iT
  have dL:=abu (z:=z) (n:=n++[a0.li []]) (k:=.ii 91) (aV:=.tup [.ss [(af R i).nm],.ii 0]) (aQ:=.ref n.length) (aW:=.ii 128) (bp:=E (i+1))
  have gd:fF .add (.ii 66) (E (af R i).ah)=some (E (66+(af R i).ah)):=rfl
  have abh:i∉done:=λ q=>(Cb.mp Ff).2.2 i q i (.head _) rfl
  have aa7:px R (λ x=>if x=i then .ref (n++[a0.li []]).length else nd x) (done++[i])=px R nd done++[.tup [E (66+(af R i).ah),E (i+1),.ref (n++[a0.li []]).length]]:=nD.trans (congr (an HAppend.hAppend (pR λ j bt=>an (λ x=>D.tup [E (66+(af R j).ah),E (j+1),x]) (if_neg λ(L:j=i)=>abh (L▸bt)))) (an (λ x=>[D.tup [E (66+(af R i).ah),E (i+1),x]]) (if_pos rfl)))
  refine(iT.kD (.bF 4 [(41,.ii 91),(42,.tup [.ss [(af R i).nm],.ii 0]),(43,.ref n.length),(44,.ii 128),(45,E (i+1)),(46,.ii 0)])).l8 (v:=.tup [E (66+(af R i).ah),E (i+1),.ref (n++[a0.li []]).length]) a1 ((cG (as:=done) _).symm▸fh (cn (d2 ..) hl) (aE rfl)) λ bW ez d0=>?_
  have fq:∀r,r≠ .h7→(up h .h7 (some (.li (px R nd done++[.tup [E (66+(af R i).ah),E (i+1),.ref (n++[a0.li []]).length]])))) r=h r:=λ r L=>bP _ _ L
  have BU:kR a _ T W al aU R F I xs t:=A.keep (λ r o _ _ k e=>(fq r k).trans e) (A.c'.bT.off λ r o k e=>(fq r λ L=>nomatch(L▸k:hR .h7=true)).trans e) ((fq _ (a5 rfl)).trans A.c'.w)
  have st:bS ac (runN ac (z+1)) AH (xD a bR bi aV aQ aW bp (some (.ref (a (.row i)))) bh) n=some (.br (xD a bR bi aV aQ aW bp (some (.ref (a (.row i)))) bh),bW):=(dk (z+1) AH (xD a bR bi aV aQ aW bp (some (D.ref (a (aN.row i)))) bh) n _ (A.ds.fQ.zA M) (hP (M.at_ _ _ a1)) _ q.1 _ gd _ q.2.2.2.1 _ rfl _ q.2.1 _ r.2.2.2.1 _ dL _ ez)
  exact aZ (done:=done++[i]) (o5:=some (.ref (a (.row i)))) (λ i m=>ay i (.tail _ m)) (mO done i is▸Ff) BU d0 ((cR _ _ _).trans (an (λ l=>some (a0.li l)) aa7.symm)) ((fq _ (a5 rfl)).trans hm) (cn (dg (by rw[fg];exact jz ..)) hl) λ J H oj gy aB dF nx gv h'=>
   f J H oj gy (fc (de M hm) st aB) dF nx (mO done i is▸gv) h'
noncomputable def FM:ab:=(.comp (.v 13) [13] false (.aq (.v 1) (.ss [114,111,119,115])) (.cons (.e (.aq (.v 13) (.ss [111,118,101,114]))) .nil))
noncomputable def OD:bk:=.cons (.asg 8 FM) (.cons (.b4 (.cmp .eq (.call 52 (.cons (.v 1) (.cons (.ii 2) .nil))) (.ii 1)) (.cons (.asg 8 (.rev (.v 8))) .nil) (.nil)) (.cons (.dc [5] false (.v 8) AH) .nil))
noncomputable def kF(a:bH)(bi aQ aW bp bq bh bK bB cE dZ e7 fn fo e8 e9:Y D):aX:=[bi,some (.ref (a .w)),aQ,aW,bp,bq,bh,some (.ref (a .eH)),bK,bB,cE,dZ,e7,fn,fo,e8,e9]
theorem aaR{bq bK bB cE dZ e7 fn fo e8 e9:Y D}(A:kR a h T W al aU R F I xs t)(M:Good a h n)(a1:h .h7=some (.li []))(bD:t<90000)
  (f:∀(J:St) (H:aT) (nd:C→D) (dX:C) (os:B C) (gy:Y D) (cB:C),bS ac (runN ac (z+1)) OD (kF a bi aQ aW bp bq bh bK bB cE dZ e7 fn fo e8 e9) n=some (.br (kF a bi aQ aW bp gy bh (some (.ref dX)) bB cE dZ e7 fn fo e8 e9),J)→Good a H J→kR a H T W al aU R F I xs cB→H .h7=some (.li (px R nd os))→H (.a6 dX)=some (.li (os.map λ j=>.ref (a (.row j))))→os.Nodup→os.length≤16→(∀i∈os,i<R.length)→(os=g3 R∨os=(g3 R).reverse)→X):X:=by
 have gM:=sy (V:=runN ac (z+1)) (x:=13) (env:=kF a bi aQ aW bp bq bh bK bB cE dZ e7 fn fo e8 e9) (acc:=[]) (eR:=ck R.length) (f:=λ j=>.ref (a (.row j))) (b7:=.v 13) (eo:=.cons (.e (.aq (.v 13) (.ss [111,118,101,114]))) .nil) (M.at_ _ _ A.c'.rows) (p:=λ j=>(af R j).eL) (g:=λ j=>.ref (a (.row j))) λ j bt=>by
  have acW:=((A.c'.row j (f'.mp bt)).at_ M).2.2.2.2.2.2
  have er:fr ac (runN ac (z+1)) (.e (.aq (.v 13) (.ss [111,118,101,114]))) (kF a bi aQ aW bp bq bh bK bB cE dZ e7 (some (.ref (a (.row j)))) fo e8 e9) n=some ((af R j).eL,n):=(jc (z+1) (Mine.T.e ((ab.v 13).aq (ab.ss [111,118,101,114]))) (kF a bi aQ aW bp bq bh bK bB cE dZ e7 (some (D.ref (a (aN.row j)))) fo e8 e9) n _ acW _ ((rfl:ic n (.cj (af R j).eL)=some (af R j).eL)))
  exact⟨(qG er rfl).trans (by rw[vY]),qy rfl⟩
 have hl:((ck R.length).map λ j=>D.ref (a (.row j))).length≤100000:=by rw[cG,gA];exact a' A.c'.da (aE rfl)
 have q9:ci ac (runN ac (z+1)) FM (kF a bi aQ aW bp bq bh bK bB cE dZ e7 fn fo e8 e9) n=some (.ref n.length,n++[.li ((g3 R).map λ j=>.ref (a (.row j)))]):=(hH (z+1) FM (kF a bi aQ aW bp bq bh bK bB cE dZ e7 fn fo e8 e9) n _ (gw (M.at_ _ _ A.c'.w) rfl) _ (iw (M.at_ _ _ A.c'.rows)) hl _ _ gM)
 have g1:=b0.start A.c'.bT M (.li ((g3 R).map λ j=>.ref (a (.row j))))
 have ys:=A.go g1.1
 refine yg (z:=z) (k:=6) (m:=2) g1.1.good ys.c'.w ys.dR (fh bD (aE rfl)) (aE rfl) λ x ao bJ LU aB dA af8 sY=>?_
 have uy:∀r o,r≠ .w→_=some o→bJ r=some o:=λ r o k e=>(sY r (xG k)).2 o e
 have BQ:kR a bJ T W al aU R F I xs (t+1):=ys.keep (λ r o _ k _ e=>uy r o k e) (ys.c'.bT.off λ r o k e=>uy r o (λ L=>nomatch(L▸k:hR .w=true)) e) af8
 have iu:=uy _ _ (a5 rfl) g1.2
 have LD:=uy .h7 _ (a5 rfl) (g1.1.off rfl a1)
 have Nk:(g3 R).Nodup:=wc.filter _
 have NW:(g3 R).length≤16:=a' (HW ..) (gA.symm▸A.c'.da)
 have mem:∀i∈g3 R,i<R.length:=λ i ay=>f'.mp (oN.mp ay).1
 have cD:cY .eq (E x) (.ii 1) ao=some (decide (x=1)):=qc (y:=1)
 have tt:fr ac (runN ac (z+1)) (.cmp .eq (.call 52 (.cons (.v 1) (.cons (.ii 2) .nil))) (.ii 1)) (kF a bi aQ aW bp bq bh (some (.ref n.length)) bB cE dZ e7 fn fo e8 e9) (n++[.li ((g3 R).map λ j=>.ref (a (.row j)))])=some (decide (x=1),ao):=(jc (z+1) (Mine.T.cmp je.eq (ab.call 52 (d6.cons (ab.v 1) (d6.cons (ab.ii 2) d6.nil))) (ab.ii 1)) (kF a bi aQ aW bp bq bh (some (D.ref (f9 n))) bB cE dZ e7 fn fo e8 e9) (n++[a0.li (eA (λ j=>D.ref (a (aN.row j))) (g3 R))]) _ _ aB _ cD)
 have hL:∀(bW:St) (cQ:aT) (dX:C) (os:B C),jS ac (runN ac (z+1)) (.b4 (.cmp .eq (.call 52 (.cons (.v 1) (.cons (.ii 2) .nil))) (.ii 1)) (.cons (.asg 8 (.rev (.v 8))) .nil) (.nil)) (kF a bi aQ aW bp bq bh (some (.ref n.length)) bB cE dZ e7 fn fo e8 e9) (n++[.li ((g3 R).map λ j=>.ref (a (.row j)))])=some (.br (kF a bi aQ aW bp bq bh (some (.ref dX)) bB cE dZ e7 fn fo e8 e9),bW)→kR a cQ T W al aU R F I xs (t+1)→Good a cQ bW→cQ .h7=some (.li [])→cQ (.a6 dX)=some (.li (os.map λ j=>.ref (a (.row j))))→os.Nodup→os.length≤16→(∀i∈os,i<R.length)→(os=g3 R∨os=(g3 R).reverse)→X:=λ bW cQ dX os O Qc d0 Xz pg vb EQ sW mg=>
  aa6 (z:=z) (dX:=dX) (lst:=os.map λ j=>.ref (a (.row j))) (bR:=[some (.ref dX),bB,cE,dZ,e7,fn,fo,e8,e9]) (bi:=bi) (aV:=some (.ref (a .w))) (aQ:=aQ) (aW:=aW) (bp:=bp) (bh:=bh) os (done:=[]) (nd:=λ _=>.nn) (o5:=bq) sW vb Qc d0 Xz pg (cn (dg (jh _)) (cn EQ (aE rfl))) λ J H oj gy fG dF nx gv h'=>
   f J H oj dX os gy (t+1) (aR (aR q9 rfl) (aR O (aR (vt (v:=.ref dX) (qy rfl) (iw (de d0 pg)) ((cG (as:=os) λ j=>D.ref (a (.row j))).symm▸a' EQ (aE rfl)) fG) rfl))) dF nx gv h' vb EQ sW mg
 refine(f7 (x=1)).elim (λ L=>?_) λ L=>?_
 ·rw[iK L]at tt
  have gK:=b0.start BQ.c'.bT dA (.li (((g3 R).map λ j=>D.ref (a (.row j))).reverse))
  have EL:uZ ao (.ref n.length)=some ((g3 R).map λ j=>.ref (a (.row j))):=an (sS λ xs=>some xs) (de dA iu)
  have ul:bS ac (runN ac (z+1)) (.cons (.asg 8 (.rev (.v 8))) .nil) (kF a bi aQ aW bp bq bh (some (.ref n.length)) bB cE dZ e7 fn fo e8 e9) ao=some (.br (kF a bi aQ aW bp bq bh (some (.ref ao.length)) bB cE dZ e7 fn fo e8 e9),ao++[.li (((g3 R).map λ j=>D.ref (a (.row j))).reverse)]):=(dk (z+1) (bk.cons (S.asg 8 (ab.v 8).rev) bk.nil) (kF a bi aQ aW bp bq bh (some (D.ref (f9 n))) bB cE dZ e7 fn fo e8 e9) ao _ EL)
  exact hL _ _ ao.length (g3 R).reverse (aR tt ((if_pos rfl).trans ul)) (BQ.go gK.1) gK.1.good (gK.1.off rfl LD) (gK.2.trans (an (λ l=>some (a0.li l)) Q4.symm)) (List.pairwise_reverse.mpr (Nk.imp λ q e=>q e.symm)) (List.length_reverse.symm▸NW) (λ i ay=>mem i (Q6.mp ay)) (.inr rfl)
 ·rw[j2 L]at tt
  exact hL ao bJ n.length (g3 R) (aR tt (if_neg mL)) BQ dA LD iu Nk NW mem (.inl rfl)
end
end Mine
end
section
namespace Mine
variable{k:C}{bf:B D}{l:B C}{m c0:C}{y:D}
theorem aeh{X:Prop}(l:B C):l.Pairwise (λ x y=>x≤y)→(∀x∈l,1≤x∧x≤3)→(∀cz cD dn,l=dw cz 1++dw cD 2++dw dn 3→X)→X:=by
 induction l with
 |nil=>exact λ _ _ f=>f 0 0 0 rfl
 |cons x l aZ=>
  intro bM az f
  have bM:=List.pairwise_cons.mp bM
  have aA:=az x (.head _)
  refine aZ bM.2 (λ y m=>az y (.tail _ m)) λ cz cD dn e=>?_
  have Nx:1<x→cz=0:=λ h=>match cz,e with
   |0,_=>rfl
   |c+1,e=>absurd (bM.1 1 (e▸.head _)) (Cn h)
  refine na (P:=λ y=>x=y→1≤y→X) x aA.2 (λ _ h=>nomatch h) (λ L _=>f (cz+1) cD dn ?_) (λ L _=>f 0 (cD+1) dn ?_) (λ L _=>f 0 0 (dn+1) ?_) rfl aA.1
  ·rw[L,e];rfl
  ·rw[Nx (L▸cJ 2)]at e;rw[L,e];rfl
  ·rw[Nx (L▸h4 2)]at e
   have d5:cD=0:=match cD,e with
    |0,_=>rfl
    |c+1,e=>absurd (bM.1 2 (e▸.head _)) (Cn (L▸cJ 3))
   rw[d5]at e
   rw[L,e];rfl
theorem F5{c:C}{A al:B C}:c≤((A++dw c k++al).filter λ x=>x==k).length:=by
 rw[r2,r2,fg,fg,List.filter_replicate_of_pos (p:=λ x=>x==k) (lD k),Ca]
 exact a' (iE ..) (d2 ..)
section
variable{a:bH}{h:aT}{n:St}{T:B aP}{z:C}{W:cw}{R:B b5}{F:C→C}{I:C→B (C×ap×C)}{al:B (am×D)}{aU:C→ap}{X:Prop}
theorem Oj:(ck R.length).map (af R)=R:=HL (by rw[cG,gA]) λ i ax aH=>by
 rw[HU,HV]
 exact ej ((iL aH).symm.trans (h1 aH))
theorem acd(b9:ik R 8)(eW:∀r∈R,r.ah≤3∧(r.nm=109∨r.nm=110)∧r.aM≤1)(f:∀cz cD dn,cz≤4→cD≤4→dn≤4→fv R (g3 R)=gW false cz cD dn→fv R (g3 R).reverse=gW true cz cD dn→X):X:=by
 have acU:(fv R (g3 R)).Pairwise λ x y=>x≤y:=tQ.mpr ((tQ.mp ((Oj (R:=R)).symm▸b9.sorted:((ck R.length).map (af R)).Pairwise λ x y=>x.ah≤y.ah)).filter _)
 have q2:∀x∈fv R (g3 R),1≤x∧x≤3:=λ x aA=>(ht.mp aA).elim λ j L=>L.2▸by
  have p:=oN.mp L.1
  have mem:=h2 (iL (f'.mp p.1))
  exact(b9.C1 _ mem p.2).elim λ q v=>⟨cn (fs _) v.2.1,(eW _ mem).1⟩
 have cnt:∀c,((fv R (g3 R)).filter λ x=>x==c).length≤4:=λ c=>by
  refine a' (agn (agm (λ x=>x==c) (ago (λ j=>(af R j).ah) (List.filter_sublist (p:=λ j=>(af R j).eL) (l:=ck R.length))))) ?_
  have e:(ck R.length).map (λ j=>(af R j).ah)=R.map λ r=>r.ah:=tP.symm.trans (an (eA λ r:b5=>r.ah) Oj)
  rw[e,QW,cG]
  exact(b9.cnt c).1
 refine aeh _ acU q2 λ cz cD dn e=>?_
 rw[e]at cnt
 refine f cz cD dn (a' (F5 (A:=[]) (al:=dw cD 2++dw dn 3)) (jw (dw cz 1) _ _▸cnt 1)) (a' F5 (cnt 2)) (a' (F5 (A:=dw cz 1++dw cD 2) (al:=[])) (a' (dg (by rw[eX])) (cnt 3))) e ?_
 have cH:fv R (g3 R).reverse=(fv R (g3 R)).reverse:=Q4
 rw[cH,e,Q8,Q8,H3,H3,H3,←jw]
 rfl
theorem YQ{e:C×ap×C}:fH n 2 (iM e k) (iM e k)=true:=dI.mpr ⟨iK rfl,dI.mpr ⟨iK rfl,dI.mpr ⟨iK rfl,rfl⟩⟩⟩
theorem es.same(cy:T.Nodup){O:B (C×ap×C)}(I:es T bf O):∀{bR:B D},es T bR O→k4 (fH n 2) bf bR=true:=
 I.b7 (ak:=λ bf O=>∀{bR:B D},es T bR O→k4 (fH n 2) bf bR=true) (λ{bR} I=>by rw[I.AJ];rfl) λ k e xs O q _ r {bR} I=>I.sz λ ct P' Wj ep ey=>by
  rw[Wj,ba.inj cy ep q]
  exact dI.mpr ⟨YQ,r ey⟩
theorem Md:(l.map E).all (eK n 3)=true:=g9.mpr λ x aA=>(ht.mp aA).elim λ y L=>L.2▸rfl
theorem YX:k4 (fH n 3) (l.map E) (l.map E)=true:=by
 induction l with
 |nil=>exact rfl
 |cons x l aZ=>exact dI.mpr ⟨iK rfl,aZ⟩
theorem C2{p q r s:av}(ax:p=true)(aH:q=true)(cI:r=true)(gg:s=true):(p&&(q&&(r&&(s&&true))))=true:=by rw[ax,aH,cI,gg];rfl
theorem abn{l cf:B D}(e:n[m]? =some (.li l))(bC:n[c0]? =some (.li (y::cf))):s0 n (.ref m) (.ref c0)=none:=
 (an (λ o:Y a0=>match o,n[c0]? with|some (.li xs),some (.li [])=>some (!xs.isEmpty)|_,_=>none) e).trans (an (λ o:Y a0=>match some (a0.li l),o with|some (.li xs),some (.li [])=>some (!xs.isEmpty)|_,_=>none) bC)
theorem aba{xs:B D}(e:n[m]? =some (.li xs))(bC:n[c0]? =some (.li (y::bf)))(o:xs.all (eK n 3)=true)(c3:(y::bf).all (eK n 3)=true):cY .ne (.ref m) (.ref c0) n=some (!k4 (fH n 3) xs (y::bf)):=
 (an (λ o:Y av=>match o with|some r=>some r|none=>(m3 4 n (.ref m) (.ref c0)).map (!·)) (abn e bC)).trans (an (qU (!·)) (DC e bC o c3))
noncomputable def A':bk:=.cons (.b4 (.or (.cons (.cmp .ne (.at (.v 6) 59) (.lst .nil)) (.cons (.cmp .ne (.comp (.at (.aq (.at (.v 2) 36) (.bin .add (.ii 66) (.v 14))) 19) [14] false (.gP (.ii 4)) (.nil)) (.v 4)) .nil))) (.cons (.ret (.cj false)) .nil) (.nil)) (.cons (.ret (.cmp .eq (.comp (.at (.v 15) 8) [15] false (.lh (.at (.v 2) 15) (.ii 1)) (.nil)) (.comp (.aq (.v 16) (.ss [102,108,97,103,115])) [16] false (.aq (.v 1) (.ss [114,111,119,115])) (.nil)))) .nil)
noncomputable def kc(a:bH)(bi aW bq bj bK bB cE dZ e7 fn fo e8 e9:Y D):aX:=[bi,some (.ref (a .w)),some (.ref (a .store)),aW,some (.ref (a .want)),bq,some (.ref (a .ig)),bj,bK,bB,cE,dZ,e7,fn,fo,e8,e9]
theorem ZD{S:C→B (ap×C)}{t:C}{bi aW bq bj bK bB cE dZ e7 fn fo e8 e9:Y D}(M:Good a h n)(bT:c6 a h T)(aM:kn a h)(types:∃x,h .types=some (.li (dw 66 .nn++[.ref (a (.ty 0)),.ref (a (.ty 1)),.ref (a (.ty 2)),.ref (a (.ty 3)),x])))(ty:∀l,l<4→l5 a h l (W.many l))(meths:h .meths=some (.li (.nn::(ck R.length).map λ j=>.ref (a (.bl j)))))(age:∃aG,h .ig=some (.bF 7 aG)∧aG.lookup 59=some (.ref (a .jt)))(jt:h .jt=some (.li []))(im:∀l,l<4→∃bf,h (.cM l)=some (.li bf)∧es T bf (I l))(wl:∀l,l<4→∃bf,h (.ei l)=some (.li bf)∧es T bf (I l))(want:h .want=some (lT a))(bl:jZ a h T W aU R F)(c':ff a h T W R F S t):
  ∃J,bS ac (runN ac z) A' (kc a bi aW bq bj bK bB cE dZ e7 fn fo e8 e9) n=some (.f3 (.cj true),J):=by
 refine bT.b7 λ _ _ _ _ Sq=>?_
 have⟨bf,oB,tD⟩:=age
 have⟨x,tp⟩:=types
 have iT:=M.kD (.li [])
 have iy:=Fh (iT.at_ _ _ jt) (iY (l:=n) (x:=a0.li []) rfl)
 have jg:=iT.kD (.li [.ref (a (.cM 0)),.ref (a (.cM 1)),.ref (a (.cM 2)),.ref (a (.cM 3))])
 have Bi:=aM.at_ iT
 have b7:∀l,l<4→ci ac (runN ac z) (.at (.aq (.at (.v 2) 36) (.bin .add (.ii 66) (.v 14))) 19) (kc a bi aW bq bj bK bB cE dZ e7 fn (some (E l)) e8 e9) (n++[.li []])=some (.ref (a (.cM l)),n++[.li []]):=λ l hl=>
  let⟨⟨vG,er,eN,hq,kL,lR⟩,_⟩:=ty l hl
  have S8:fF .add (.ii 66) (E l)=some (E (66+l)):=rfl;
  have ae2:=(fj (iT.at_ _ _ er)).trans lR;
  (hH z ((((ab.v 2).at 36).aq (ab.bin iR.add (ab.ii 66) (ab.v 14))).at 19) (kc a bi aW bq bj bK bB cE dZ e7 fn (some (E l)) e8 e9) (n++[a0.li []]) _ Bi.2.1 _ S8 _ (GL hl iT tp) _ ae2)
 have kG:cY .ne (.ref (n++[a0.li []]).length) (.ref (a .want)) (n++[.li []]++[.li [.ref (a (.cM 0)),.ref (a (.cM 1)),.ref (a (.cM 2)),.ref (a (.cM 3))]])=some false:=by
  have u1:∀l,l<4→eK (n++[.li []]++[.li [.ref (a (.cM 0)),.ref (a (.cM 1)),.ref (a (.cM 2)),.ref (a (.cM 3))]]) 3 (.ref (a (.cM l)))=true∧eK (n++[.li []]++[.li [.ref (a (.cM 0)),.ref (a (.cM 1)),.ref (a (.cM 2)),.ref (a (.cM 3))]]) 3 (.ref (a (.ei l)))=true∧fH (n++[.li []]++[.li [.ref (a (.cM 0)),.ref (a (.cM 1)),.ref (a (.cM 2)),.ref (a (.cM 3))]]) 3 (.ref (a (.cM l))) (.ref (a (.ei l)))=true:=λ l hl=>
   let⟨p,sl,b⟩:=im l hl;let⟨q,p8,d⟩:=wl l hl
   have L:=jg.at_ _ _ sl;have w:=jg.at_ _ _ p8;
   ⟨(AM L).trans b.eK,(AM w).trans d.eK,(KQ L w).trans (b.same Sq.nodup d)⟩
  have eU:=u1 0 (aE rfl);have c2:=u1 1 (aE rfl);have dW:=u1 2 (aE rfl);have n':=u1 3 (aE rfl)
  exact(aba (iY rfl) (jg.at_ _ _ want) (C2 eU.1 c2.1 dW.1 n'.1) (C2 eU.2.1 c2.2.1 dW.2.1 n'.2.1)).trans (an (λ b=>some (!b)) (C2 eU.2.2 c2.2.2 dW.2.2 n'.2.2))
 have US: @lE (live (.ew 0 4) [E 0,E 1,E 2,E 3]) (e0 (.ew 0 4) [E 0,E 1,E 2,E 3]) (λ x ao=>(dh false [14] x (kc a bi aW bq bj bK bB cE dZ e7 fn fo e8 e9)).bind λ aF=>(ho ac (runN ac z) .nil aF ao).bind λ q=>if q.1=true then(ci ac (runN ac z) (.at (.aq (.at (.v 2) 36) (.bin .add (.ii 66) (.v 14))) 19) aF q.2).bind λ r=>some ([r.1],r.2)else some ([],q.2)) [E 0,E 1,E 2,E 3] [] (n++[.li []])=some ([.ref (a (.cM 0)),.ref (a (.cM 1)),.ref (a (.cM 2)),.ref (a (.cM 3))],n++[.li []]):=
  h6 trivial (j1 rfl (b7 0 (aE rfl))) (h6 trivial (j1 rfl (b7 1 (aE rfl))) (h6 trivial (j1 rfl (b7 2 (aE rfl))) (h6 trivial (j1 rfl (b7 3 (aE rfl))) (jE trivial))))
 generalize Yz:n++[a0.li []]++[a0.li [.ref (a (.cM 0)),.ref (a (.cM 1)),.ref (a (.cM 2)),.ref (a (.cM 3))]]=ao at kG jg
 have au:bS ac (runN ac z) (.cons (.b4 (.or (.cons (.cmp .ne (.at (.v 6) 59) (.lst .nil)) (.cons (.cmp .ne (.comp (.at (.aq (.at (.v 2) 36) (.bin .add (.ii 66) (.v 14))) 19) [14] false (.gP (.ii 4)) (.nil)) (.v 4)) .nil))) (.cons (.ret (.cj false)) .nil) (.nil)) .nil) (kc a bi aW bq bj bK bB cE dZ e7 fn fo e8 e9) n=some (.br (kc a bi aW bq bj bK bB cE dZ e7 fn fo e8 e9),ao):=by
  subst Yz
  exact(dk z (bk.cons (Mine.S.b4 (Mine.T.or (fb.cons (Mine.T.cmp je.ne ((ab.v 6).at 59) (ab.lst d6.nil)) (fb.cons (Mine.T.cmp je.ne (((((ab.v 2).at 36).aq (ab.bin iR.add (ab.ii 66) (ab.v 14))).at 19).comp [14] false (ab.ii 4).gP fb.nil) (ab.v 4)) fb.nil))) (bk.cons (Mine.S.ret (ab.cj false)) bk.nil) bk.nil) bk.nil) (kc a bi aW bq bj bK bB cE dZ e7 fn fo e8 e9) n _ ((fj (M.at_ _ _ oB)).trans tD) _ iy _ rfl _ rfl (aE rfl) _ _ US _ kG)
 have zS:=DQ (jg.at_ _ _ meths)
 have pN:=jg.kD (.li ((ck R.length).map λ j=>.ref (a (.bl j))))
 have pO:=pN.kD (.li ((ck R.length).map λ j=>E (F j)))
 have d4:∀{α:Type} {g:C→α},((ck R.length).map g).length≤100000:=by
  intro α g
  rw[cG,gA];exact a' c'.da (aE rfl)
 have Kd:=sy (V:=runN ac z) (x:=15) (env:=kc a bi aW bq bj bK bB cE dZ e7 fn fo e8 e9) (acc:=[]) (eR:=ck R.length) (f:=λ j=>.ref (a (.bl j))) (b7:=.at (.v 15) 8) (eo:=.nil) (iY (l:=ao) (x:=a0.li ((ck R.length).map λ j=>.ref (a (.bl j)))) rfl) (p:=λ _=>true) (g:=λ j=>E (F j)) λ j bt=>⟨rfl,aR rfl ((bl j (f'.mp bt)).at_ pN λ _ _ _ m _ at_=>aR (at_ m.f8) rfl)⟩
 have Ku:=sy (V:=runN ac z) (x:=16) (env:=kc a bi aW bq bj bK bB cE dZ e7 fn fo e8 e9) (acc:=[]) (eR:=ck R.length) (f:=λ j=>.ref (a (.row j))) (b7:=.aq (.v 16) (.ss [102,108,97,103,115])) (eo:=.nil) (pO.at_ _ _ c'.rows) (p:=λ _=>true) (g:=λ j=>E (F j)) λ j bt=>⟨rfl,aR rfl (aR rfl (aR ((c'.row j (f'.mp bt)).at_ pO).2.2.2.2.1 rfl))⟩
 rw[B7.mpr (λ _ _=>rfl)]at Kd Ku
 have E':(ck R.length).map (λ j=>E (F j))=((ck R.length).map F).map E:=(tP (f:=F) (g:=E)).symm
 have EL:=(an (·[(ao++[a0.li ((ck R.length).map λ j=>.ref (a (.bl j)))]).length]?) (jw (ao++[a0.li ((ck R.length).map λ j=>.ref (a (.bl j)))]) [a0.li ((ck R.length).map λ j=>E (F j))] [a0.li ((ck R.length).map λ j=>E (F j))])).trans (l9 (i:=0))
 have oi:=DC (EL.trans (an (λ l=>some (a0.li l)) E')) ((iY rfl).trans (an (λ l=>some (a0.li l)) E')) Md Md
 rw[YX]at oi
 have aB:bS ac (runN ac z) (.cons (.ret (.cmp .eq (.comp (.at (.v 15) 8) [15] false (.lh (.at (.v 2) 15) (.ii 1)) (.nil)) (.comp (.aq (.v 16) (.ss [102,108,97,103,115])) [16] false (.aq (.v 1) (.ss [114,111,119,115])) (.nil)))) .nil) (kc a bi aW bq bj bK bB cE dZ e7 fn fo e8 e9) ao=some (.f3 (.cj true),ao++[a0.li ((ck R.length).map λ j=>.ref (a (.bl j)))]++[a0.li ((ck R.length).map λ j=>E (F j))]++[a0.li ((ck R.length).map λ j=>E (F j))]):=by
  exact(dk z (bk.cons (Mine.S.ret (ab.cmp je.eq (((ab.v 15).at 8).comp [15] false (((ab.v 2).at 15).lh (ab.ii 1)) fb.nil) (((ab.v 16).aq (ab.ss [102,108,97,103,115])).comp [16] false ((ab.v 1).aq (ab.ss [114,111,119,115])) fb.nil))) bk.nil) (kc a bi aW bq bj bK bB cE dZ e7 fn fo e8 e9) ao _ ((aM.at_ jg).1) _ zS _ (iw (iY (l:=ao) (x:=a0.li ((ck R.length).map λ j=>.ref (a (.bl j)))) rfl)) d4 _ _ Kd _ (gw (pO.at_ _ _ c'.w) rfl) _ (iw (pO.at_ _ _ c'.rows)) d4 _ _ Ku _ oi)
 exact⟨_,(j8 au).trans aB⟩
end
end Mine
end
section
namespace Mine
variable{t:C}
section
variable{a:bH}{h:aT}{n:St}{T:B aP}{z:C}{W:cw}{R:B b5}{F:C→C}{I:C→B (C×ap×C)}{al:B (am×D)}{aU:C→ap}{X:Prop}
theorem ff.abQ{H:aT}{aC:B aP}{S:C→B (ap×C)}(ae:ff a h T W R F S t)(f:∀r o,rk r=true→h r=some o→H r=some o)(bT:c6 a H aC):ff a H aC W R F S t:=
 ⟨⟨let⟨O,e,k⟩:=ae.lw.w;⟨O,f _ _ rfl e,k⟩,let⟨aG,e,k⟩:=ae.lw.store;⟨aG,f _ _ rfl e,k⟩,f _ _ rfl ae.lw.many,f _ _ rfl ae.lw.up,ae.lw.ok⟩,bT,f _ _ rfl ae.w,f _ _ rfl ae.rows,λ j bt=>⟨f _ _ rfl (ae.row j bt).row,f _ _ rfl (ae.row j bt).st⟩,ae.eW,ae.da,ae.lQ,ae.mF⟩
theorem VD{xs:B C}{dX:C}{nd:C→D}{os:B C}{bi aW bq bB cE dZ e7 fn fo e8 e9:Y D}(A:kR a h T W al aU R (λ j=>eC (af R j)) I xs t)(M:Good a h n)(a1:h .h7=some (.li (px R nd os)))(hm:h (.a6 dX)=some (.li (os.map λ j=>.ref (a (.row j)))))(vb:os.Nodup)(on:os.length≤16)(mg:os=g3 R∨os=(g3 R).reverse)(a3:T.length<5000):
  ∃J,bS ac (runN ac (z+39+1)) (.cons (.ex (.call 44 (.cons (.v 7) .nil))) (.cons (.dc [9] false (.gP (.ii 4)) sU) A')) (kc a bi aW bq (some (.ref (a .eH))) (some (.ref dX)) bB cE dZ e7 fn fo e8 e9) n=some (.f3 (.cj true),J):=by
 have ag:=A.ds.fQ
 have b9:=ag.inv
 refine acd b9 ag.eW λ cz cD dn gd iZ iI dy eD=>?_
 have sW:∀i∈os,i<R.length∧(af R i).eL=true:=λ i ay=>
  have q:=oN.mp (mg.elim (λ e=>e▸ay) λ e=>Q6.mp (e▸ay):i∈g3 R);⟨f'.mp q.1,q.2⟩
 have ix:∀{rev:av},fv R os=gW rev cz cD dn→∃J,bS ac (runN ac (z+39+1)) (.cons (.ex (.call 44 (.cons (.v 7) .nil))) (.cons (.dc [9] false (.gP (.ii 4)) sU) A')) (kc a bi aW bq (some (.ref (a .eH))) (some (.ref dX)) bB cE dZ e7 fn fo e8 e9) n=some (.f3 (.cj true),J):=λ{rev} e5=>by
  have Oo:∀i∈os,nM R (λ j=>eC (af R j)) I i:=λ i ay=>⟨(sW i ay).1,(sW i ay).2,by show eC (af R i)=_;unfold eC;rw[(sW i ay).2];rfl,λ e b3 _=>(A.each _ e b3).2⟩
  refine acb (z:=z+1) (nd:=nd) A.ds M Oo vb e5 gd iZ iI a1 (fh a3 (aE rfl)) λ aa bX aI au dJ bU jG pm qu=>?_
  have h5:kf a aI bX W R ((λ j=>eC (af R j)),(λ _=>[]),I) t os dX 16:=⟨A.c'.abQ qu bU.fQ.bT,qu _ _ rfl A.want,λ l hl=>let⟨bf,oB,tD⟩:=A.wl l hl;⟨bf,qu _ _ rfl oB,tD.more λ q=>let⟨_,jG⟩:=jG;jG▸q.more⟩,A.len,qu _ _ rfl hm,a' pm (h3 (e' (nG a3 _) (aE rfl)))⟩
  refine aar (z:=z+8) (bR:=[e7,fn,fo,e8,e9]) (bi:=bi) (aQ:=some (.ref (a .store))) (aW:=aW) (bh:=some (.ref (a .ig))) (bj:=some (.ref (a .eH))) (o5:=bq) (hB:=bB) (em:=cE) (fE:=dZ) b9 sW vb on (λ i ay=>rfl) h5 dJ (aE rfl) λ ao bJ cL gy ta iA iB aB dA mV qb gC=>?_
  have vS:∀x∈hC (fv R os),x<os.length:=λ x aA=>(cG (as:=os) λ j=>(af R j).ah)▸(FI.mp aA).1
  have aga:∀i∈mA R os,i∈os:=λ i ay=>(ht.mp ay).elim λ x L=>L.2▸mem_getD (vS x L.1)
  have adb:wq R ((λ j=>eC (af R j)),I) ((λ j=>eC (af R j)),(λ _=>[]),I):=⟨rfl,rfl,λ j bt=>(an (eA λ e:C×ap×C=>(e.2.1,e.2.2)) (NZ (i:=j) λ e b3 _=>(A.each (af R j).ah e b3).2)).symm⟩
  have vw:=adc (W:=W) ag.iQ b9 ag.eW ag.da (mA R os) (Nb vb NU vS) (λ i ay=>Oo i (aga i ay)) adb A.ds.io
  have d9:∀{k:C} {t:ap},ba bX k t→ba cL k t:=λ q=>let⟨_,qb⟩:=qb;qb▸q.more
  have aai:ff a bJ cL W R ((mA R os).foldl (j' W R) ((λ j=>eC (af R j)),I)).1 ((mA R os).foldl (kK W R) ((λ j=>eC (af R j)),(λ _=>[]),I)).2.1 t:=vw.f▸mV.c'
  have⟨bW,bZ⟩:=ZD (z:=z+39+1) (bi:=bi) (aW:=aW) (bq:=gy) (bj:=some (.ref (a .eH))) (bK:=some (.ref dX)) (bB:=ta) (cE:=iA) (dZ:=iB) (e7:=e7) (fn:=fn) (fo:=fo) (e8:=e8) (e9:=e9) (I:=((mA R os).foldl (j' W R) ((λ j=>eC (af R j)),I)).2) (F:=((mA R os).foldl (j' W R) ((λ j=>eC (af R j)),I)).1) (aU:=aU) dA mV.c'.bT
   (let⟨aG,eE,s⟩:=bU.fQ.aM.bF;⟨aG,gC _ _ rfl eE,s⟩) (let⟨x,tp⟩:=bU.fQ.types;⟨x,gC _ _ rfl tp⟩) (λ l hl=>let⟨⟨vG,er,eN⟩,⟨cp,d',cO⟩⟩:=bU.fQ.ty l hl;⟨⟨vG,gC _ _ rfl er,eN⟩,⟨cp,gC _ _ rfl d',cO⟩⟩) (gC _ _ rfl bU.fQ.meths) (let⟨_,bf,_,oB,d⟩:=bU.fQ.qa;⟨bf,gC _ _ rfl oB,d.2.2.2.2.2⟩) (gC _ _ rfl (qu _ _ rfl A.jt))
   (λ l hl=>let⟨bR,d4,d5⟩:=bU.im l hl;⟨bR,gC _ _ rfl d4,d5.more d9⟩) (λ l hl=>let⟨bR,d4,d5⟩:=mV.wl l hl;⟨bR,d4,vw.i.symm▸d5⟩) mV.want (λ j bt=>(bU.bl j bt).bx (λ o e=>gC _ _ rfl e) (λ g o e=>gC _ _ rfl e) d9) aai
  have Vo:ci ac (runN ac (z+39+1)) (.call 44 (.cons (.v 7) .nil)) (kc a bi aW bq (some (.ref (a .eH))) (some (.ref dX)) bB cE dZ e7 fn fo e8 e9) n=some (.nn,aa):=(hH (z+39+1) (ab.call 44 (d6.cons (ab.v 7) d6.nil)) (kc a bi aW bq (some (D.ref (a aN.eH))) (some (D.ref dX)) bB cE dZ e7 fn fo e8 e9) n _ _ au)
  exact⟨bW,aR (aR Vo rfl) (aR aB bZ)⟩
 exact mg.elim (λ e=>ix (rev:=false) (e▸dy)) λ e=>ix (rev:=true) (e▸eD)
theorem Wv:qN R λ j=>eC (af R j):=λ j _=>by
 show eC (af R j)=_∨eC (af R j)=_
 unfold eC
 cases(af R j).eL with
 |true=>exact .inl rfl
 |false=>exact .inr rfl
noncomputable def adF:bk:=.cons (.ex (.call 44 (.cons (.v 7) .nil))) (.cons (.dc [9] false (.gP (.ii 4)) sU) A')
noncomputable def Gg:bk:=.cons (.ex (.call 58 (.cons (.v 1) .nil))) .nil
noncomputable def Gd:bk:=.cons (.ex (.call 60 (.cons (.v 1) .nil))) .nil
noncomputable def Gc:bk:=.cons (.dc [5] false (.aq (.v 1) (.ss [114,111,119,115])) uU) .nil
noncomputable def nn(k:C):B (Y D):=dw k none
theorem ZH{ns:B am}(hl:ns.length≤63):∃J,bS ac (runN ac 100) zj (q' ns) []=some (.f3 (.cj true),J):=by
 have start:=aeO (z:=95) hl (r:=Gg.app (OB.app (Gd.app (A8.app (Gc.app (A9.app (OD.app adF)))))))
 refine ZM (z:=68) (xs:=rJ ns) (t:=0) (aG:=O6) (W4 (A:=ns.map .ii) (al:=(rJ ns).map E)) ae4 (aE rfl) rfl rfl (aE rfl) rfl (aE rfl) rfl rfl ⟨LL,rfl,aE rfl,rfl,rfl,rfl,rfl⟩ rfl λ W aa bX aI cx al jU x au dJ G8 sT aej afC afB BP hz Uc Db C7=>?_
 have Db:cx .w=15:=Db
 have C7:cx .store=3:=C7
 have BP:bX.length≤416:=BP
 have sT:jU≤10:=sT
 refine W0 (z:=98) (bR:=nn 13) (bi:=some (.fu ns)) (aQ:=some (.ref 3)) (aW:=none) dJ G8 ((hz .dR (vc rfl rfl)).2 _ rfl) aej afC afB ((hz .meths (vc rfl rfl)).2 _ rfl) ((hz .gz (vc rfl rfl)).2 _ rfl) (cn sT (aE rfl)) Uc λ jb kM ao bJ ed eM aB dA acK JJ JC=>?_
 rw[Db]at aB JJ
 rw[C7]at JC
 refine ZG (z:=67) (N:=bX.length) (ib:=jU+2) (fM:=15) (kI:=3) ⟨acK,dA,ik.nil,JJ,JC,cJ _,cJ _,cJ _⟩ (cn BP (aE rfl)) (cn (ha sT 2) (aE rfl)) λ bW ek cQ lA R qI bZ oh=>?_
 have da:R.length≤16:=oh.da
 have ll:lA.length≤416+48*8:=a' oh.ll (ha BP _)
 have tt:qI≤10+2+8:=a' oh.tt (ha (ha sT 2) 8)
 refine aaP (z:=100) (bR:=nn 12) (bi:=some (.fu ns)) (aQ:=some (.ref 3)) (aW:=eM) (cm:=none) oh.cp oh.good oh.inv da λ eO hO kp dL hY Qx CR wD zd=>?_
 rw[oh.w]at dL wD
 rw[oh.s]at zd
 refine YJ (z:=69) (bR:=nn 5) (bi:=some (.fu ns)) (aW:=eM) (o5:=none) (bh:=none) (bj:=none) (bK:=none) (bB:=none) (cE:=none) (dZ:=none) R.length (c:=0) (jh _) CR hY (cn (hu tt da) (aE rfl)) (cn (hu ll (gT 48 da)) (aE rfl)) λ jV i3 CT GN I gy fG hZ Jc aao jG ZU abR=>?_
 have lR:GN≤36:=a' aao (hu tt da)
 have agg:CT.length<5000:=cn (a' ZU (hu ll (gT 48 da))) (aE rfl)
 have Qy:=Qx.off abR Jc.c'.bT λ q=>let⟨_,jG⟩:=jG;jG▸q.more
 refine aaQ (z:=98) (bR:=nn 9) (bi:=some (.fu ns)) (aW:=eM) (bp:=some (.ref (kp .want))) (bq:=gy) (bN:=none) (bm:=none) Qy Jc hZ Wv λ qJ xb o4 j3 pP Qk Vm S7 S1 S6=>?_
 refine aaR (z:=99) (bi:=some (.fu ns)) (aQ:=some (.ref 3)) (aW:=eM) (bp:=some (.ref (kp .want))) (bq:=gy) (bh:=some (.ref (o4 .ig))) (bK:=none) (bB:=none) (cE:=none) (dZ:=none) (e7:=none) (fn:=none) (fo:=none) (e8:=none) (e9:=none) Qk pP Vm (cn lR (aE rfl)) λ vV LY nd dX os gE ahl wP v6 Ql Vn X5 aa8 abZ _ mg=>?_
 have⟨σ₈,ul⟩:=VD (z:=60) (bi:=some (.fu ns)) (aW:=eM) (bq:=gE) (bB:=none) (cE:=none) (dZ:=none) (e7:=none) (fn:=none) (fo:=none) (e8:=none) (e9:=none) Ql v6 Vn X5 aa8 abZ mg agg
 have jm:=hY.at_ _ _ CR.c'.w
 rw[wD]at jm
 rw[wD,zd]at j3
 have zg:=S7.trans wD
 have pd:∀p,hy kp (nn 5) (some (.fu ns)) (some (.ref (kp .store))) eM p none none none none none none=qp 15 3 (nn 9) (some (.fu ns)) eM (some (.ref (kp .want))) p none none:=λ p=>by unfold hy;rw[wD,zd];rfl
 have Lw:∀p Hl,kF o4 (some (.fu ns)) (some (.ref 3)) eM (some (.ref (kp .want))) p (some (.ref (o4 .ig))) Hl none none none none none none none none=qp 15 3 (Hl::nn 8) (some (.fu ns)) eM (some (.ref (kp .want))) p (some (.ref (o4 .ig))) (some (.ref (o4 .eH))):=λ p Hl=>by unfold kF;rw[zg];rfl
 have Xl:kc o4 (some (.fu ns)) eM gE (some (.ref (o4 .eH))) (some (.ref dX)) none none none none none none none none=qp 15 3 (some (.ref dX)::nn 8) (some (.fu ns)) eM (some (.ref (kp .want))) gE (some (.ref (o4 .ig))) (some (.ref (o4 .eH))):=by unfold kc;rw[zg,S1.trans zd,S6];rfl
 rw[pd,pd]at fG
 rw[Lw,Lw]at wP
 rw[Xl]at ul
 have tE:((ck R.length).map λ j=>D.ref (kp (.row j))).length≤100000:=by rw[cG,gA];exact a' da (aE rfl)
 rw[←Cd]at fG
 have cz:bS ac (runN ac (99+1)) Gg (sA ns) (vU (ns.map .ii) ((rJ ns).map E))=some (.br (sA ns),aa):=(dk (99+1) Gg (sA ns) (vU (eA D.ii ns) (eA E (rJ ns))) _ _ au)
 have dn:bS ac (runN ac (99+1)) Gd (m5 15 (nn 13) (some (.fu ns)) (some (.ref 3)) eM) ao=some (.br (m5 15 (nn 13) (some (.fu ns)) (some (.ref 3)) eM),bW):=(dk (99+1) Gd (m5 15 (nn 13) (some (D.fu ns)) (some (D.ref 3)) eM) ao _ _ bZ)
 have UA:bS ac (runN ac (99+1)) Gc (sX 15 (nn 12) (some (.fu ns)) (some (.ref 3)) eM (some (.ref (kp .want)))) eO=some (.br (qp 15 3 (nn 9) (some (.fu ns)) eM (some (.ref (kp .want))) gy none none),jV):=(dk (99+1) Gc (sX 15 (nn 12) (some (D.fu ns)) (some (D.ref 3)) eM (some (D.ref (kp aN.want)))) eO _ (gw jm rfl) _ (iw (hY.at_ _ _ CR.c'.rows)) tE _ _ fG)
 exact⟨σ₈,start.trans ((j8 cz).trans ((j8 aB).trans ((j8 dn).trans ((j8 dL).trans ((j8 UA).trans ((j8 j3).trans ((j8 wP).trans ul)))))))⟩
theorem ag6:∀ns:B am,ns.length≤63→nr ac (sv ac 100) zj (some (.fu ns)::dw 16 none) (λ _ _=>False) (λ v _=>v= .cj true) []:=λ ns hl=>
 let⟨_,e⟩:=ZH hl
 tf (Op 100) zj e rfl
end
end Mine
end
end
theorem PySem.Challenge.cw_hb0001_01_holds : PySem.Challenge.rw_hb0001_01.Holds :=
  Mine.hL Mine.ag6
