import PyProof.Rows.All
import Wide.All
import OpenK.AllK
import Wide.FinOn
import Lean
import PySem.Challenge.RW_pq0058_01
open PySem PySem.W PyProof.Rows PySem.Calls PySem.SeqAt Builtin
set_option Elab.async false
set_option maxRecDepth 100000
set_option linter.all false
set_option maxHeartbeats 2000000
set_option genSizeOf false
set_option genInjectivity false
set_option bootstrap.genMatcherCode false
set_option tactic.hygienic false
universe u
namespace Mine
@[elab_as_elim] theorem rwr {α : Sort u} {a b : α} {motive : α → Prop} (h : a = b) (x : motive b) : motive a := h ▸ x
@[elab_as_elim] theorem rwl {α : Sort u} {a b : α} {motive : α → Prop} (h : a = b) (x : motive a) : motive b := h ▸ x
local macro_rules
  | `(tactic| exists $xs,*) => do
    let y := xs.getElems.map (·.raw)
    let z ← if y.back!.getArgs.size = 1 then `(tactic| skip) else `(tactic| set_option tactic.hygienic false in intros)
    let y := y.filter (·.getArgs.size != 1)
    let u := Lean.mkIdent `υ
    let k := Lean.mkIdent (.mkSimple s!"K{y.size}")
    let p (i : String) : Lean.Syntax := Lean.mkNode ``Lean.Parser.Term.proj #[u, Lean.mkAtom ".", Lean.Syntax.mkLit Lean.fieldIdxKind i]
    let g (e x : Lean.Syntax) : Lean.TSyntax `tactic := ⟨Lean.mkNode ``Lean.Parser.Tactic.generalize #[Lean.mkAtom "generalize", Lean.mkNullNode #[Lean.mkNode ``Lean.Parser.Tactic.generalizeArg #[Lean.mkNullNode, e, Lean.mkAtom "=", x]], Lean.mkNullNode]⟩
    let t := (y.pop.flatMap fun x => #[g (p "1") x, g (p "2") u]).push (g u y.back!)
    let a ← `(_)
    let b ← `(?_)
    `(tactic| (revert $(y.map (⟨·⟩))*; refine no_implicit_lambda% ((@$k $(y.map fun _ => a)* $(y.map fun _ => b)* _).2 ?_); (all_goals (try exact inferInstance)); generalize ($k _).1 = $u; $[$t];*; $z))
local macro_rules | `(tactic| erw [$[$t:term],*]) => do
  let t ← t.mapM fun t => `(tactic| first | refine rwr ($t ..) ?_ | refine rwr (propext $t) ?_ | rewrite [$t:term])
  `(tactic| ($[$t];*; try with_reducible rfl))
open _root_.Nat renaming le_trans→aa,le_refl→ap,succ_le_succ→aw,zero_le→aG,lt_of_lt_of_le→aY,lt_of_le_of_lt→a6,ne_of_lt→bd,le_of_lt→bq,add_le_add_left→bD,lt_trans→bK,succ_pos→bP,lt_succ_of_lt→bZ,le_add_right→b7,le_succ→cD,lt_succ_self→cK,min_le_left→cS,add_le_add→df,add_le_add_right→dg,not_lt_zero→dh,le_of_succ_le_succ→dz,lt_or_ge→dQ,le_of_not_lt→dV,mul_le_mul_left→eh,le_of_ble_eq_true→eJ,le_of_eq→eR,le_of_lt_succ→e9,le_succ_of_le→fb,lt_or_eq_of_le→fR,le_add_left→f9,lt_irrefl→gj,add_comm→gU,zero_add→gW,lt_succ_of_le→im,le_of_succ_le→jM,lt_trichotomy→jN,succ_mul→jP,le_max_right→kt,succ_ne_self→kA,not_succ_le_self→kV,mul_le_mul_right→kW,le_max_left→lC,strongRecOn→lH,lt_succ_iff_lt_or_eq→oa,not_lt→pL,pow_succ→pO,min_eq_left→qp,le_antisymm→qr,le_of_sub_eq_zero→qB,pow_le_pow_right→rY,mul_assoc→to,sub_le→t6,add_right_comm→ub,sub_self→u7,max_eq_right→xd,min_eq_right→xe,min_le_right→xh,not_le_of_lt→xl,max_eq_left→xS,ble→yQ,succ→Ac,mod_lt→Ai,mul_le_mul→Aj,add_assoc→Cp,le_mul_of_pos_right→C6,le_total→EU,ne_of_gt→E7,succ_lt_succ_iff→IQ,le_zero→IS
open _root_.PySem renaming wpAny_bind→af,wpAny_pure→ah,Shared→aj,Value→al,wpAny→am,Addr→ax,wpAny_mono→aS,wpAny_holding→aZ,Comprehension→bh,NameKind→bj,model→bB,sizeLine_eq→bF,Around→bW,Heap→cg,SetTable→cw,Program→cx,Stmt→c7,wpAny_standAt→c8,getMethod_builtin→db,codeAny_builtin→dB,codeAny_mono→dJ,compEnvC→dL,mainGlobals→dN,wpAny_setState_of→dP,wpAny_rule→dZ,wpAny_setField_rec→d6,World→eB,wpAny_truthy_bool→eC,wpAny_newObj_type→eD,wpAny_call_entry→eX,wpAny_callSpecial?_slot→fA,starEach→fK,wpAny_setEntries_of→fL,cLine→fW,cellsFrom→gm,plainId_quiet→gF,rawInt→gV,wpAny_askSetting→gX,sizeLine→iy,wpAny_pyIter_list→iI,wpAny_seqItems→iV,codeAny→ja,letOwnedTupleGo→jx,assign→kq,wpAny_typeOf→kw,pyNext→kz,wpAny_fieldsOf→kC,wpAny_items_cons→lE,assignInOrder→lI,behindInMarks→lK,swappedStores→lL,wpAny_field→lT,relayAll→lU,backTo→mE,Scope→mJ,pickOrder→nu,stored→n8,wpAny_Constant_str→n9,call→oI,ofAClassStatement→oR,swapsWithSole→pM,compareOp→qy,callEnvC→qz,wpAny_forIn_list→qA,builtinsNs→rT,pyIter→rU,closureFor→rV,setAddHashed→rW,setEntries→rZ,wpAny_items_nil→r9,arm_exec_Assign→se,wpAny_notOrdered_dict→tg,evalPairs→uK,setNext→uO,atKey→vD,comprehension→vF,wpAny_newList→vH,sysModules→xf,typeLookup→xi,wpAny_pyIter_tuple→xj,concat_meets→xU,getItem→xV,wpAny_sequenceKey→xW,foldedSetIterable→xY,wpAny_storeSet_of→x6,fieldsOf→x9,noFill_tuple_add→Af,seqItems?→Ah,wpAny_of_eq→Aq,Fin→Au,wpAny_specialOf→Cr,codeAny_of_tree→Ct,wpAny_execs_nil→Cu,wpAny_updateSeq→Cz,setItem→CT,spliced→CV,holding→CW,Keyword→CX,intKind→C0,Result→EY,IsEnum→EZ,callWith→E0,execs→E2,wpAny_newTuple→E5,setsByText→E8,dictSetDefault→E9,seq_tuple_add→IL,Model→Ja,DictEntry→Jb,seqIndex_of→Jc,scanBound→Jh
open _root_.List renaming length_map→ag,mem_map→ak,length_append→an,mem_singleton→ao,mem_cons→aq,getD_eq_getElem?_getD→ar,map_map→ay,map_append→az,getElem?_eq_getElem→aE,getElem?_map→aF,mem_append→aH,mem_append_right→aK,range→aM,length_range→aO,map_cons→aP,length_cons→aU,mem_append_left→aW,flatMap_cons→aX,mem_of_getElem?→a7,mem_filter→a8,map_congr_left→bf,mem_flatMap→bn,toArray→bp,mem_range→br,nodup_cons→bt,not_mem_nil→bx,append_nil→bG,nodup_append→bI,take_succ_eq_append_getElem→bJ,getElem?_eq_none→bQ,cons_lt_cons_iff→bR,append_assoc→bY,pairwise_iff_getElem→b8,forall_mem_map→b9,getElem?_eq_some_iff→cq,length→cB,take_append_drop→cC,any_eq_true→cF,length_take→cG,nodup_nil→cH,perm_middle→cI,forall_mem_cons→cO,filter_cons→cV,take_length→cX,length_filter_le→cZ,pairwise_cons→dc,all_eq_true→dm,find?_cons_of_neg→dq,getElem_mem→du,map_flatMap→dw,mem_take_iff_getElem→dC,size_toArray→dI,pairwise_map→dK,take_of_length_le→ef,length_zipIdx→eK,mem_of_mem_take→eU,mem_zipIdx'→fH,getElem?_append_left→f7,map_take→ga,filter_sublist→gn,flatMap_append→gt,lookup_cons→gv,pairwise_singleton→gx,length_nil→g7,reverse_cons→ik,drop_eq_getElem_cons→iP,range_succ→jc,getElem_range→je,map_inj_right→jf,lt_irrefl→jy,map→jz,drop→kf,cons_append→kg,nodup_range→kh,sum_cons→kD,getElem?_zipIdx→kH,drop_eq_nil_iff→kI,eq_nil_of_length_eq_zero→kJ,length_reverse→lF,getElem?_concat_length→lO,zip_cons_cons→ma,drop_drop→mh,mem_cons_self→mj,getElem?_append_right→ml,mem_of_find?_eq_some→mI,getElem?_eq_none_iff→mK,map_id→nj,mem_reverse→oz,flatMap_nil→oA,length_eq_one_iff→oO,length_pos_of_mem→oQ,head?_drop→pK,countP_mono_left→qs,singleton_append→qt,mem_cons_of_mem→q8,mem_of_mem_drop→q9,mem_iff_getElem→rc,getElem?_range→r8,getElem_of_mem→sf,filter_eq_self→sg,set_eq_take_append_cons_drop→t9,getElem?_nil→uH,map_nil→uJ,take_add_one→uN,map_reverse→vE,getElem_map→vG,filter→xk,head?→yP,findIdx?_eq_none_iff→Ae,lt_trans→At,getElem?_take_of_lt→Aw,length_erase_of_mem→Ax,map_drop→Ay,filter_cons_of_neg→Cv,filter_cons_of_pos→Cw,getElem?_cons_succ→Cy,find?_cons_of_pos→CP,any_map→CR,drop_of_length_le→CZ,flatMap_singleton→C5,pairwise_reverse→E1,getElem?_toArray→E6,perm_append_comm→Fb,pairwise_flatMap→Fc,not_lt→Gv,range'→Gy,pairwise_append→GA,filterMap_cons→IP,perm_singleton→IW,Nodup→Je,getElem?_drop→Jg,append_of_mem→Ji
open _root_.PySem.Heap renaming get?_push_of_some→ai,get?_push_size→aB,SameBut→bu,lt_size→bO,get?_update_ne→cE,size_push→eT,get?_update_self→fQ,ExtBut→iC,get?_none_of_le→iD,get?_update_other→jA
open _root_.Option.some renaming inj→aA,injEq→As
open _root_.Option renaming map_eq_some_iff→aJ,some→mF,bind_some→nq,some_ne_none→qX,map→xt,isNone_iff_eq_none→xZ,bind_eq_some_iff→Ad,map_eq_none_iff→Az,or_eq_none_iff→Cq,isSome_map→IN,getD_some→Jd
open _root_.PySem.Str renaming ofString→aN,ofString_eq_toList→Fa
open _root_.Bool renaming false_eq_true→bc,and_eq_true_iff→bo,false_ne_true→bU,or_eq_true_iff→ft,and_eq_true→iG,eq_iff_iff→i9,not_true→kB,not_not→lJ,or_eq_true→pJ,or_eq_false_iff→qY,not_false→yR,and_false→yS,false_or→Ar
open _root_.Array renaming getElem?_toList→be,length_toList→dD,getElem?_eq_some_iff→d8,getD→gL,getD_eq_getD_getElem?→lG,forIn_toList→lV,getElem?_eq_getElem→mD,toList_push→t5,perm_iff_toList_perm→x5,getElem?_eq_none→Cs,mem_toList_iff→EX
open _root_.List.cons renaming inj→bk,injEq→nv
open _root_.PySem.SetTable renaming below→bw,insertAt→cW,grown→g9,rising→j9,bits→mn,fits→mq,Probe→oN,slot→qC,orStandIn→qZ,laid→xu,has→yT,advance→Gx,runEnd→IT
open _root_.PySem.Obj renaming mapSeq→bV,data_mapDictKeys→kU,isFreed_of_dict→tf,putSet→t7
open _root_.PySem.Heap.SameBut renaming update→bX
open _root_.PySem.Around renaming under_plainId→cu
open _root_.PySem.W renaming findIn→cR,emptyDict→fB,instObj→ii,ghostOf→kE,isFn→kT,tabObj→pR,Frag→tc,keepIn→xg,kas_rev→CY,kas_place→Jf
open _root_.PySem.Value renaming isStrOf_shape→cT,isInt_shape→dF,ref→eI,type→e8,int→fE,isInt→ix,isStrOf→j8,notImplemented→E3
open _root_.Nat.succ renaming inj→cU
open _root_.Classical renaming byContradiction→de,not_forall→oH,not_not→rR,em→xT,choice→EV
open _root_.PySem.SetTable.probe renaming go→dO
open _root_.Int renaming natCast_nonneg→dR,le_trans→eS,ofNat_le→fD,add_zero→f',mul_add→jt,zero_add→jJ,le_of_lt→jK,ofNat_lt→jO,mul_zero→lR,zero_mul→lS,add_comm→pQ,natCast_add→qu,one_mul→rQ,add_nonneg→rS,le_refl→r4,emod_lt_of_pos→t8,add_sub_cancel→ua,ofNat→xc,emod_nonneg→x7,mul_assoc→Cn,add_assoc→Co,eq_ofNat_of_zero_le→CU,ne_of_gt→EW,sub_nonneg_of_le→IK
open _root_.PyProof.Rows renaming seqObj→dS,get?_update_seq→dW,slot_tuple_getitem→jL,listUpdate_at→lM,callWith_type→tn,reads_list_at→vC,seqEpoch_at→Av,failedOf→E4,dflt→IV
open _root_.List.Sublist renaming refl→fI,append→ya
open _root_.PySem.SetTable.below renaming go→gq
open _root_.List.Pairwise renaming map→gw,of_map→ni,nil→pN
open _root_.PySem.Builtin.SmallTypes renaming nextOf→gE
open _root_.PySem.NameKind renaming free→gM,cell→iH
open _root_.Prod.mk renaming injEq→gQ
open _root_.PySem.Builtin.Slice renaming slicePlaces→g0,sliceAdjust→ku,sliceApplied→td
open _root_.PySem.Builtin.Tuple renaming tupleExact→ij,tupleIsExact→te
open _root_.Int.ofNat renaming inj→iF
open _root_.PySem.F renaming slot_tuple_iterator_next→iO,called_set→iW,plainAttrs_dict→i7,plain_extend_loop→mr,args_tuple_add_2→mC,entry_tuple_add→ng,plainAttrs_list→nh,slot_tuple_add→n7,slot_dict_get→oK,slot_list_getattribute→oL,slot_dict_setdefault→u6,slot_list_extend→xX,args_tuple_iterator_next_1→Ag,type_dict_get→An,slot_dict_pop→Ao,entry_tuple_iterator_next→Ap
open _root_.Exists renaming elim→jb
open _root_.PySem.W.KasT renaming kasWp_bind→k7
open _root_.Prod renaming ext_iff→lP,snd→uI
open _root_.Function renaming comp→mc
open _root_.PySem.Data renaming seq→mv
open _root_.ForInStep renaming yield→nt
open _root_.PySem.PyData renaming strOk→ow,eqv→ox,depth→oy,depthAll→oJ,int→GB,canLayAll0→IM
open _root_.PyProof.Rows.F renaming plain_set_update_loop→pP,entry_set_update_loop→Gz
open _root_.PySem.Challenge renaming rw_pq0058_01→qD
open _root_.PySem.Builtin.List renaming listLengthHint→th,listExtendWith→ti,listSameRef→uP,listTooLong→uQ
open _root_.PySem.Builtin.Range renaming rangeSize→uL
open _root_.List.Perm renaming cons→u8,refl→IR,swap→IU
open _root_.PySem.Builtin.Dict renaming updateFrom→u9,pairItems→vI
open _root_.PySem.Walks renaming list→x8
open _root_.Char renaming toNat→yU
open _root_.PySem.SeqAt renaming compareEq_reads→CQ
open _root_.PyProof.Rows.SortSt renaming mk'→Gw
section
namespace Li
inductive LE |v (i:Nat) |c (k:Nat) |a (x y:LE) |s (x y:LE) |m (x y:LE) |n (x y:LE) |k (j:Nat) (x:LE) |r (j:Nat) (x:LE)
inductive LF |l (x y:LE) |t (x y:LE) |e (x y:LE) |f |n (p:LF) |a (p q:LF) |o (p q:LF) |i (p q:LF)
noncomputable def LE.d(ρ:List Nat):LE->Nat
 |v i=>ρ.getD i 0 |c j=>j |a x y=>x.d ρ+y.d ρ |s x y=>x.d ρ-y.d ρ |m x y=>max (x.d ρ) (y.d ρ) |n x y=>min (x.d ρ) (y.d ρ) |k j x=>j*x.d ρ |r j x=>x.d ρ*j
noncomputable def LF.d(ρ:List Nat):LF->Prop
 |l x y=>x.d ρ<=y.d ρ |t x y=>x.d ρ<y.d ρ |e x y=>x.d ρ=y.d ρ |f=>False |n p=>¬p.d ρ |a p q=>p.d ρ/\q.d ρ |o p q=>p.d ρ\/q.d ρ |i p q=>p.d ρ->q.d ρ
noncomputable abbrev LR:=Int×List Int
noncomputable def k8:List Int->List Nat->Int
 | [],_=>0 |_,[]=>0 |a::as,x::xs=>a*x+k8 as xs
noncomputable def LR.ev(ρ:List Nat)(r:LR):Int:=r.1+k8 r.2 ρ
noncomputable def Jj(p q:Int):List Int->List Int->List Int
 | [],bs=>bs.map (q*·) |as,[]=>as.map (p*·) |a::as,b::bs=>(p*a+q*b)::Jj p q as bs
noncomputable def M9(p q:Int)(x y:LR):LR:=(p*x.1+q*y.1,Jj p q x.2 y.2)
noncomputable def Ph:Nat->List Int
 |0=>[1] |i+1=>0::Ph i
noncomputable def vJ(x y:LR):LR:=M9 1 (-1) x y
noncomputable def LE.cs:LE->List (List LR×LR)
 |v i=>[([],(0,Ph i))]
 |c j=>[([],(j,[]))]
 |a x y=>x.cs.flatMap λp=>y.cs.map λq=>(p.1++q.1,M9 1 1 p.2 q.2)
 |s x y=>x.cs.flatMap λp=>y.cs.flatMap λq=>[(vJ p.2 q.2::(p.1++q.1),vJ p.2 q.2),(vJ q.2 p.2::(p.1++q.1),(0,[]))]
 |m x y=>x.cs.flatMap λp=>y.cs.flatMap λq=>[(vJ p.2 q.2::(p.1++q.1),p.2),(vJ q.2 p.2::(p.1++q.1),q.2)]
 |n x y=>x.cs.flatMap λp=>y.cs.flatMap λq=>[(vJ p.2 q.2::(p.1++q.1),q.2),(vJ q.2 p.2::(p.1++q.1),p.2)]
 |k j x=>x.cs.map λp=>(p.1,M9 j 0 p.2 (0,[]))
 |r j x=>x.cs.map λp=>(p.1,M9 j 0 p.2 (0,[]))
noncomputable def Na(j:Int)(x y:LE):List (List LR):=x.cs.flatMap λp=>y.cs.map λq=>M9 1 1 (vJ q.2 p.2) (-j,[])::(p.1++q.1)
noncomputable def AA(a b:List (List LR)):List (List LR):=a.flatMap λx=>b.map λy=>x++y
noncomputable def LF.nf:Bool->LF->List (List LR)
 |true,l x y=>Na 0 x y |false,l x y=>Na 1 y x
 |true,t x y=>Na 1 x y |false,t x y=>Na 0 y x
 |true,e x y=>AA (Na 0 x y) (Na 0 y x) |false,e x y=>Na 1 x y++Na 1 y x
 |true,f=>[] |false,f=>[[]]
 |b,n p=>p.nf !b
 |true,a p q=>AA (p.nf true) (q.nf true) |false,a p q=>p.nf false++q.nf false
 |true,o p q=>p.nf true++q.nf true |false,o p q=>AA (p.nf false) (q.nf false)
 |true,i p q=>p.nf false++q.nf true |false,i p q=>AA (p.nf true) (q.nf false)
noncomputable def Qa(r:LR):Int:=r.2.headD 0
noncomputable def Sj(r:LR):LR:=(r.1,r.2.tail)
noncomputable def Pi(cs:List LR):List LR:=
 let ps:=cs.filter λr=>0<Qa r;let ns:=cs.filter λr=>Qa r<0;let zs:=cs.filter λr=>Qa r=0
 zs.map Sj++ns.map Sj++ps.flatMap λp=>ns.map λq=>M9 (-Qa q) (Qa p) (Sj p) (Sj q)
noncomputable def WU:Nat->List LR->Bool
 |0,cs=>cs.any λr=>r.1<0
 |j+1,cs=>(cs.any λr=>r.2.all (· ==0)&&decide (r.1<0))||WU j (Pi cs)
noncomputable def LF.ok(j:Nat)(p:LF):Bool:=(p.nf false).all (WU j)
theorem Jk:∀l,k8 l []=0 | []=>rfl |_::_=>rfl
theorem Fd(p:Int):∀(as:List Int)(ρ:List Nat),k8 (as.map (p*·)) ρ=p*k8 as ρ:=by
 intro as;induction as with
 |nil=>exactλ_=>(lR p).symm
 |cons a as ih=>
  intro ρ;cases ρ with
  |nil=>exact(lR p).symm
  |cons x xs=>show p*a*x+k8 (as.map (p*·)) xs=p*(a*x+k8 as xs);rw[ih,jt,Cn]
theorem i4(a b c d:Int):a+b+(c+d)=a+c+(b+d):=by rw[Co,Int.add_left_comm b,Co]
theorem Nb(p q:Int):∀(as bs:List Int)(ρ:List Nat),k8 (Jj p q as bs) ρ=p*k8 as ρ+q*k8 bs ρ:=by
 intro as;induction as with
 |nil=>intro bs ρ;show k8 (bs.map (q*·)) ρ=p*0+_;rw[Fd,lR,jJ]
 |cons a as ih=>
  intro bs ρ;cases bs with
  |nil=>show k8 ((a::as).map (p*·)) ρ=p*_+q*0;rw[Fd,lR,f']
  |cons b bs=>
   cases ρ with
   |nil=>show 0=p*0+q*0;rw[lR,lR];rfl
   |cons x xs=>show(p*a+q*b)*x+k8 (Jj p q as bs) xs=p*(a*x+k8 as xs)+q*(b*x+k8 bs xs);rw[ih,Int.add_mul,jt,jt,Cn,Cn,i4]
theorem yV(p q:Int)(x y:LR)(ρ:List Nat):(M9 p q x y).ev ρ=p*x.ev ρ+q*y.ev ρ:=by show p*x.1+q*y.1+k8 (Jj p q x.2 y.2) ρ=p*(x.1+k8 x.2 ρ)+q*(y.1+k8 y.2 ρ);rw[Nb,jt,jt,i4]
theorem Jl(x y:LR)(ρ:List Nat):(M9 1 1 x y).ev ρ=x.ev ρ+y.ev ρ:=by rw[yV,rQ,rQ]
theorem C7(x y:LR)(ρ:List Nat):(vJ x y).ev ρ=x.ev ρ-y.ev ρ:=by unfold vJ;rw[yV,rQ,Int.neg_one_mul];rfl
theorem Jm(j:Int)(x:LR)(ρ:List Nat):(M9 j 0 x (0,[])).ev ρ=j*x.ev ρ:=by rw[yV,lS,f']
theorem Qb(j:Int)(ρ:List Nat):LR.ev ρ (j,[])=j:=f' j
theorem Jn:∀(i:Nat)(ρ:List Nat),k8 (Ph i) ρ=((ρ.getD i 0:Nat):Int):=by
 intro i;induction i with
 |zero=>
  intro ρ;cases ρ with
  |nil=>rfl
  |cons x xs=>show 1*(x:Int)+0=x;rw[rQ,f']
 |succ i ih=>
  intro ρ;cases ρ with
  |nil=>rfl
  |cons x xs=>show 0*(x:Int)+k8 (Ph i) xs=_;rw[ih,lS,jJ];rfl
noncomputable def rf(ρ:List Nat)(cs:List LR):Prop:=∀r∈cs,0<=r.ev ρ
theorem rf.app{ρ:List Nat}{x y:List LR}(h:rf ρ x)(g:rf ρ y):rf ρ (x++y):=λr hr=>(aH.mp hr).elim (h r) (g r)
theorem rf.cons{ρ:List Nat}{r:LR}{y:List LR}(h:0<=r.ev ρ)(g:rf ρ y):rf ρ (r::y):=λx hx=>(aq.mp hx).elim (λe=>e▸h) (g x)
noncomputable def SV(ρ:List Nat)(l:List (List LR×LR))(v:Nat):Prop:=∃p,p∈l/\rf ρ p.1/\p.2.ev ρ=(v:Int)
theorem SV.two{ρ:List Nat}{l l':List (List LR×LR)}{u v w:Nat}{f:List LR×LR->List LR×LR->List (List LR×LR)}(h:SV ρ l u)(g:SV ρ l' v)
  (k:∀p q,rf ρ (p.1++q.1)->p.2.ev ρ=(u:Int)->q.2.ev ρ=(v:Int)->SV ρ (f p q) w):SV ρ (l.flatMap λp=>l'.flatMap λq=>f p q) w:=
 h.elim λp hp=>g.elim λq hq=>(k p q (hp.2.1.app hq.2.1) hp.2.2 hq.2.2).elim λr hr=>⟨r,bn.mpr ⟨p,hp.1,bn.mpr ⟨q,hq.1,hr.1⟩⟩,hr.2⟩
theorem tp{p q:LR}{ρ:List Nat}{u v:Nat}(h:p.ev ρ=(u:Int))(g:q.ev ρ=(v:Int))(k:v<=u):0<=(vJ p q).ev ρ:=by rw[C7,h,g];exact IK (fD.mpr k)
theorem LE.sd(ρ:List Nat)(x:LE):SV ρ x.cs (x.d ρ):=by
 induction x with
 |v i=>exact⟨_,.head _,nofun,(jJ _).trans (Jn i ρ)⟩
 |c j=>exact⟨_,.head _,nofun,Qb j ρ⟩
 |a x y h g=>exact h.elim λp hp=>g.elim λq hq=>⟨_,bn.mpr ⟨p,hp.1,ak.mpr ⟨q,hq.1,rfl⟩⟩,hp.2.1.app hq.2.1,by rw[Jl,hp.2.2,hq.2.2];rfl⟩
 |s x y h g=>
  refine h.two g λp q hA hp hq=>?_;rcases EU (y.d ρ) (x.d ρ) with k |k
  ·exact⟨_,.head _,hA.cons (tp hp hq k),by rw[C7,hp,hq];exact(Int.ofNat_sub k).symm⟩
  ·exact⟨_,.tail _ (.head _),hA.cons (tp hq hp k),by rw[Qb];exact congrArg xc (Nat.sub_eq_zero_of_le k).symm⟩
 |m x y h g=>
  refine h.two g λp q hA hp hq=>?_;rcases EU (y.d ρ) (x.d ρ) with k |k
  ·exact⟨_,.head _,hA.cons (tp hp hq k),hp.trans (congrArg xc (xS k).symm)⟩
  ·exact⟨_,.tail _ (.head _),hA.cons (tp hq hp k),hq.trans (congrArg xc (xd k).symm)⟩
 |n x y h g=>
  refine h.two g λp q hA hp hq=>?_;rcases EU (y.d ρ) (x.d ρ) with k |k
  ·exact⟨_,.head _,hA.cons (tp hp hq k),hq.trans (congrArg xc (xe k).symm)⟩
  ·exact⟨_,.tail _ (.head _),hA.cons (tp hq hp k),hp.trans (congrArg xc (qp k).symm)⟩
 |k j x h=>exact h.elim λp hp=>⟨_,ak.mpr ⟨p,hp.1,rfl⟩,hp.2.1,by rw[Jm,hp.2.2];rfl⟩
 |r j x h=>exact h.elim λp hp=>⟨_,ak.mpr ⟨p,hp.1,rfl⟩,hp.2.1,by rw[Jm,hp.2.2,Int.mul_comm];rfl⟩
noncomputable def mL(ρ:List Nat)(cs:List (List LR)):Prop:=∃c∈cs,rf ρ c
theorem oS{ρ:List Nat}{j:Nat}{x y:LE}(h:x.d ρ+j<=y.d ρ):mL ρ (Na j x y):=
 (x.sd ρ).elim λp hp=>(y.sd ρ).elim λq hq=>⟨_,bn.mpr ⟨p,hp.1,ak.mpr ⟨q,hq.1,rfl⟩⟩,(hp.2.1.app hq.2.1).cons (by
  rw[Jl,C7,hp.2.2,hq.2.2,Qb,<-Int.sub_eq_add_neg,Int.sub_sub];exact IK (fD.mpr h))⟩
theorem mL.prod{ρ:List Nat}{a b:List (List LR)}(h:mL ρ a)(g:mL ρ b):mL ρ (AA a b):=h.elim λx hx=>g.elim λy hy=>⟨_,bn.mpr ⟨x,hx.1,ak.mpr ⟨y,hy.1,rfl⟩⟩,hx.2.app hy.2⟩
theorem mL.l{ρ:List Nat}{a b:List (List LR)}(h:mL ρ a):mL ρ (a++b):=h.elim λx hx=>⟨x,aH.mpr (.inl hx.1),hx.2⟩
theorem mL.r{ρ:List Nat}{a b:List (List LR)}(h:mL ρ b):mL ρ (a++b):=h.elim λx hx=>⟨x,aH.mpr (.inr hx.1),hx.2⟩
theorem LF.sd(ρ:List Nat)(p:LF):(p.d ρ->mL ρ (p.nf true))/\(¬p.d ρ->mL ρ (p.nf false)):=by
 induction p with
 |l _ _=>exact⟨λh=>oS h,λh=>oS (j:=1) (Nat.lt_of_not_le h)⟩
 |t _ _=>exact⟨λh=>oS (j:=1) h,λh=>oS (dV h)⟩
 |e _ _=>exact⟨λh=>(oS (j:=0) (eR h)).prod (oS (j:=0) (eR h.symm)),λh=>(Nat.lt_or_gt_of_ne h).elim (λh=>(oS (j:=1) h).l) λh=>(oS (j:=1) h).r⟩
 |f=>exact⟨False.elim,λ_=>⟨[],.head _,nofun⟩⟩
 |n p P=>exact⟨P.2,λh=>P.1 (rR.mp h)⟩
 |a p q P Q=>exact⟨λh=>(P.1 h.1).prod (Q.1 h.2),λh=>(xT (p.d ρ)).elim (λg=>(Q.2 λk=>h ⟨g,k⟩).r) λg=>(P.2 g).l⟩
 |o p q P Q=>exact⟨λh=>h.elim (λh=>(P.1 h).l) λh=>(Q.1 h).r,λh=>(P.2 λg=>h (.inl g)).prod (Q.2 λg=>h (.inr g))⟩
 |i p q P Q=>exact⟨λh=>(xT (p.d ρ)).elim (λg=>(Q.1 (h g)).r) λg=>(P.2 g).l,λh=>(P.1 (rR.mp λg=>h λk=>(g k).elim)).prod (Q.2 λg=>h λ_=>g)⟩
theorem SW(r:LR)(x:Nat)(ρ:List Nat):r.ev (x::ρ)=Qa r*x+(Sj r).ev ρ:=by
 obtain⟨c,l⟩:=r;cases l with
 |nil=>show c+0=0*(x:Int)+(c+0);rw[lS,jJ]
 |cons a l=>exact Int.add_left_comm c (a*x) (k8 l ρ)
theorem Qc{a x b:Int}(h:0<=a*x+b)(ha:a<0)(hx:0<=x):0<=b:=eS h (eS (Int.add_le_add_right (Int.mul_nonpos_of_nonpos_of_nonneg (jK ha) hx) b) (Int.le_of_eq (jJ b)))
theorem Qd{a b x P Q:Int}(h:0<=a*x+P)(g:0<=b*x+Q)(ha:0<a)(hb:b<0):0<=-b*P+a*Q:=by have k:=rS (Int.mul_nonneg (jK (Int.neg_pos_of_neg hb)) h) (Int.mul_nonneg (jK ha) g);rw[jt,jt,i4,Int.neg_mul,Int.mul_left_comm b,Int.add_left_neg,jJ]at k;exact k
theorem Nc{x:Nat}{ρ:List Nat}{cs:List LR}(h:rf (x::ρ) cs):rf ρ (Pi cs):=by
 have h0:∀r∈cs,0<=Qa r*x+(Sj r).ev ρ:=λr hr=>(SW r x ρ)▸h r hr;refine rf.app (rf.app (λr hr=>?_) λr hr=>?_) λr hr=>?_
 ·exact(ak.mp hr).elim λa ha=>ha.2▸(by
   have k:=h0 a (a8.mp ha.1).1;rwa[of_decide_eq_true (a8.mp ha.1).2,lS,jJ]at k)
 ·exact(ak.mp hr).elim λa ha=>ha.2▸Qc (h0 a (a8.mp ha.1).1) (of_decide_eq_true (a8.mp ha.1).2) (dR x)
 ·exact(bn.mp hr).elim λp hp=>(ak.mp hp.2).elim λq hq=>hq.2▸(by
   rw[yV];exact Qd (h0 p (a8.mp hp.1).1) (h0 q (a8.mp hq.1).1) (of_decide_eq_true (a8.mp hp.1).2) (of_decide_eq_true (a8.mp hq.1).2))
theorem SX:∀(l:List Int)(ρ:List Nat),l.all (· ==0)=true->k8 l ρ=0:=by
 intro l;induction l with
 |nil=>exactλ_ _=>rfl
 |cons a l ih=>
  intro ρ h;rw[List.all_cons]at h;have h:=(iG _ _).mp h;cases ρ with
  |nil=>rfl
  |cons y ρ=>show a*y+k8 l ρ=0;rw[ih ρ h.2,eq_of_beq h.1,lS];rfl
theorem SY(ρ:List Nat):∀cs:List LR,rf ρ cs->WU ρ.length cs=true->False:=by
 induction ρ with
 |nil=>exactλcs h g=>(cF.mp g).elim λr hr=>Int.not_le.mpr (of_decide_eq_true hr.2) (by have k:=h r hr.1;rwa[LR.ev,Jk,f']at k)
 |cons x ρ ih=>
  exactλcs h g=>((pJ _ _).mp g).elim (λg=>(cF.mp g).elim λr hr=>by
   have e:=(iG _ _).mp hr.2;have k:=h r hr.1;rw[LR.ev,SX _ _ e.1,f']at k;exact Int.not_le.mpr (of_decide_eq_true e.2) k) λg=>ih _ (Nc h) g
theorem LF.sound{p:LF}{ρ:List Nat}(h:p.ok ρ.length=true):p.d ρ:=rR.mp λg=>
 ((p.sd ρ).2 g).elim λc hc=>SY ρ c hc.2 (dm.mp h c hc.1)
noncomputable def LA:Nat->List Nat->LF->Prop
 |0,ρ,p=>p.d ρ
 |j+1,ρ,p=>∀{x:Nat},LA j (ρ++[x]) p
theorem LA.of(p:LF):∀j ρ,p.ok (ρ.length+j)=true->LA j ρ p
 |0,_,h=>LF.sound h
 |j+1,ρ,h=>LA.of p j _ (by rw[an];show p.ok (ρ.length+1+j)=true;rw[Cp,gU 1];exact h)
noncomputable def stL:Nat->List LE->List LF->List LE×List LF
 |0,y::x::S,P=>(.a x y::S,P)
 |1,y::x::S,P=>(.s x y::S,P)
 |2,y::x::S,P=>(.m x y::S,P)
 |3,y::x::S,P=>(.n x y::S,P)
 |4,x::.c j::S,P=>(.k j x::S,P)
 |4,.c j::x::S,P=>(.r j x::S,P)
 |5,y::x::S,P=>(S,.l x y::P)
 |6,y::x::S,P=>(S,.t x y::P)
 |7,y::x::S,P=>(S,.e x y::P)
 |8,S,P=>(S,.f::P)
 |9,S,p::P=>(S,.n p::P)
 |10,S,q::p::P=>(S,.a p q::P)
 |11,S,q::p::P=>(S,.o p q::P)
 |12,S,q::p::P=>(S,.i p q::P)
 |13,.c j::.c i::S,P=>(.c (16*i+j)::S,P)
 |n+14,S,P=>(.c n::S,P)
 |_,S,P=>(S,P)
noncomputable def Nd:Nat->Nat->List LE×List LF->LF
 |0,_,s=>s.2.headD .f
 |n+1,z,s=>match z with
  |0=>s.2.headD .f
  |z'+1=>match (z'+1) % 64 with
   |0=>Nd n (z / 64) s
   |d+1=>if d<16 then Nd n (z / 64) (.v d::s.1,s.2) else Nd n (z / 64) (stL (d-16) s.1 s.2)
noncomputable def SZ(z:Nat):LF:=Nd 99 (z / 16) ([],[])
end Li
theorem aR(z:Nat)(h:(Li.SZ z).ok (0+z % 16)=true):Li.LA (z % 16) [] (Li.SZ z):=Li.LA.of _ _ [] h
end
section
theorem a9{A0 A1:Prop}{P:Prop}(h:A0/\A1)(k:A0->A1->P):P:=k h.1 h.2
theorem bz{jR:Sort _}{A0:jR->Prop}{P:Prop}(h:∃x0,A0 x0)(k:∀x0,A0 x0->P):P:=h.elim λx0 h=>k x0 h
theorem ez{A0 A1 A2:Prop}{P:Prop}(h:A0/\A1/\A2)(k:A0->A1->A2->P):P:=k h.1 h.2.1 h.2.2
theorem aI{jR:Sort _}{A0 A1:jR->Prop}{P:Prop}(h:∃x0,A0 x0/\A1 x0)(k:∀x0,A0 x0->A1 x0->P):P:=h.elim λx0 h=>k x0 h.1 h.2
theorem qv{jR mM:Sort _}{A0:jR->mM->Prop}{P:Prop}(h:∃x0,∃x1,A0 x0 x1)(k:∀x0 x1,A0 x0 x1->P):P:=h.elim λx0 h=>h.elim λx1 h=>k x0 x1 h
theorem qw{A0 A1 A2 A3:Prop}{P:Prop}(h:A0/\A1/\A2/\A3)(k:A0->A1->A2->A3->P):P:=k h.1 h.2.1 h.2.2.1 h.2.2.2
theorem cQ{jR:Sort _}{A0 A1 A2:jR->Prop}{P:Prop}(h:∃x0,A0 x0/\A1 x0/\A2 x0)(k:∀x0,A0 x0->A1 x0->A2 x0->P):P:=h.elim λx0 h=>k x0 h.1 h.2.1 h.2.2
theorem eQ{jR mM:Sort _}{A0 A1:jR->mM->Prop}{P:Prop}(h:∃x0,∃x1,A0 x0 x1/\A1 x0 x1)(k:∀x0 x1,A0 x0 x1->A1 x0 x1->P):P:=h.elim λx0 h=>h.elim λx1 h=>k x0 x1 h.1 h.2
theorem Qe{A0 A1 A2 A3 A4:Prop}{P:Prop}(h:A0/\A1/\A2/\A3/\A4)(k:A0->A1->A2->A3->A4->P):P:=k h.1 h.2.1 h.2.2.1 h.2.2.2.1 h.2.2.2.2
theorem rg{jR:Sort _}{A0 A1 A2 A3:jR->Prop}{P:Prop}(h:∃x0,A0 x0/\A1 x0/\A2 x0/\A3 x0)(k:∀x0,A0 x0->A1 x0->A2 x0->A3 x0->P):P:=h.elim λx0 h=>k x0 h.1 h.2.1 h.2.2.1 h.2.2.2
theorem fc{jR mM:Sort _}{A0 A1 A2:jR->mM->Prop}{P:Prop}(h:∃x0,∃x1,A0 x0 x1/\A1 x0 x1/\A2 x0 x1)(k:∀x0 x1,A0 x0 x1->A1 x0 x1->A2 x0 x1->P):P:=h.elim λx0 h=>h.elim λx1 h=>k x0 x1 h.1 h.2.1 h.2.2
theorem uR{jR mM xw:Sort _}{A0 A1:jR->mM->xw->Prop}{P:Prop}(h:∃x0,∃x1,∃x2,A0 x0 x1 x2/\A1 x0 x1 x2)(k:∀x0 x1 x2,A0 x0 x1 x2->A1 x0 x1 x2->P):P:=h.elim λx0 h=>h.elim λx1 h=>h.elim λx2 h=>k x0 x1 x2 h.1 h.2
theorem Jo{jR:Sort _}{A0 A1 A2 A3 A4:jR->Prop}{P:Prop}(h:∃x0,A0 x0/\A1 x0/\A2 x0/\A3 x0/\A4 x0)(k:∀x0,A0 x0->A1 x0->A2 x0->A3 x0->A4 x0->P):P:=h.elim λx0 h=>k x0 h.1 h.2.1 h.2.2.1 h.2.2.2.1 h.2.2.2.2
theorem S0{jR mM:Sort _}{A0 A1 A2 A3:jR->mM->Prop}{P:Prop}(h:∃x0,∃x1,A0 x0 x1/\A1 x0 x1/\A2 x0 x1/\A3 x0 x1)(k:∀x0 x1,A0 x0 x1->A1 x0 x1->A2 x0 x1->A3 x0 x1->P):P:=h.elim λx0 h=>h.elim λx1 h=>k x0 x1 h.1 h.2.1 h.2.2.1 h.2.2.2
theorem yW{jR mM xw:Sort _}{A0 A1 A2:jR->mM->xw->Prop}{P:Prop}(h:∃x0,∃x1,∃x2,A0 x0 x1 x2/\A1 x0 x1 x2/\A2 x0 x1 x2)(k:∀x0 x1 x2,A0 x0 x1 x2->A1 x0 x1 x2->A2 x0 x1 x2->P):P:=h.elim λx0 h=>h.elim λx1 h=>h.elim λx2 h=>k x0 x1 x2 h.1 h.2.1 h.2.2
theorem GC{jR mM xw Nf:Sort _}{A0 A1:jR->mM->xw->Nf->Prop}{P:Prop}(h:∃x0,∃x1,∃x2,∃x3,A0 x0 x1 x2 x3/\A1 x0 x1 x2 x3)(k:∀x0 x1 x2 x3,A0 x0 x1 x2 x3->A1 x0 x1 x2 x3->P):P:=h.elim λx0 h=>h.elim λx1 h=>h.elim λx2 h=>h.elim λx3 h=>k x0 x1 x2 x3 h.1 h.2
theorem Qg{A0 A1 A2 A3 A4 A5 A6:Prop}{P:Prop}(h:A0/\A1/\A2/\A3/\A4/\A5/\A6)(k:A0->A1->A2->A3->A4->A5->A6->P):P:=k h.1 h.2.1 h.2.2.1 h.2.2.2.1 h.2.2.2.2.1 h.2.2.2.2.2.1 h.2.2.2.2.2.2
theorem WV{jR:Sort _}{A0 A1 A2 A3 A4 A5:jR->Prop}{P:Prop}(h:∃x0,A0 x0/\A1 x0/\A2 x0/\A3 x0/\A4 x0/\A5 x0)(k:∀x0,A0 x0->A1 x0->A2 x0->A3 x0->A4 x0->A5 x0->P):P:=h.elim λx0 h=>k x0 h.1 h.2.1 h.2.2.1 h.2.2.2.1 h.2.2.2.2.1 h.2.2.2.2.2
theorem vK{jR mM:Sort _}{A0 A1 A2 A3 A4:jR->mM->Prop}{P:Prop}(h:∃x0,∃x1,A0 x0 x1/\A1 x0 x1/\A2 x0 x1/\A3 x0 x1/\A4 x0 x1)(k:∀x0 x1,A0 x0 x1->A1 x0 x1->A2 x0 x1->A3 x0 x1->A4 x0 x1->P):P:=h.elim λx0 h=>h.elim λx1 h=>k x0 x1 h.1 h.2.1 h.2.2.1 h.2.2.2.1 h.2.2.2.2
theorem rh{jR mM xw:Sort _}{A0 A1 A2 A3:jR->mM->xw->Prop}{P:Prop}(h:∃x0,∃x1,∃x2,A0 x0 x1 x2/\A1 x0 x1 x2/\A2 x0 x1 x2/\A3 x0 x1 x2)(k:∀x0 x1 x2,A0 x0 x1 x2->A1 x0 x1 x2->A2 x0 x1 x2->A3 x0 x1 x2->P):P:=h.elim λx0 h=>h.elim λx1 h=>h.elim λx2 h=>k x0 x1 x2 h.1 h.2.1 h.2.2.1 h.2.2.2
theorem S3{jR mM xw Nf:Sort _}{A0 A1 A2:jR->mM->xw->Nf->Prop}{P:Prop}(h:∃x0,∃x1,∃x2,∃x3,A0 x0 x1 x2 x3/\A1 x0 x1 x2 x3/\A2 x0 x1 x2 x3)(k:∀x0 x1 x2 x3,A0 x0 x1 x2 x3->A1 x0 x1 x2 x3->A2 x0 x1 x2 x3->P):P:=h.elim λx0 h=>h.elim λx1 h=>h.elim λx2 h=>h.elim λx3 h=>k x0 x1 x2 x3 h.1 h.2.1 h.2.2
theorem Ng{jR mM xw Nf WW:Sort _}{A0 A1:jR->mM->xw->Nf->WW->Prop}{P:Prop}(h:∃x0,∃x1,∃x2,∃x3,∃x4,A0 x0 x1 x2 x3 x4/\A1 x0 x1 x2 x3 x4)(k:∀x0 x1 x2 x3 x4,A0 x0 x1 x2 x3 x4->A1 x0 x1 x2 x3 x4->P):P:=h.elim λx0 h=>h.elim λx1 h=>h.elim λx2 h=>h.elim λx3 h=>h.elim λx4 h=>k x0 x1 x2 x3 x4 h.1 h.2
theorem S4{jR mM:Sort _}{A0 A1 A2 A3 A4 A5:jR->mM->Prop}{P:Prop}(h:∃x0,∃x1,A0 x0 x1/\A1 x0 x1/\A2 x0 x1/\A3 x0 x1/\A4 x0 x1/\A5 x0 x1)(k:∀x0 x1,A0 x0 x1->A1 x0 x1->A2 x0 x1->A3 x0 x1->A4 x0 x1->A5 x0 x1->P):P:=h.elim λx0 h=>h.elim λx1 h=>k x0 x1 h.1 h.2.1 h.2.2.1 h.2.2.2.1 h.2.2.2.2.1 h.2.2.2.2.2
theorem GD{jR mM xw:Sort _}{A0 A1 A2 A3 A4:jR->mM->xw->Prop}{P:Prop}(h:∃x0,∃x1,∃x2,A0 x0 x1 x2/\A1 x0 x1 x2/\A2 x0 x1 x2/\A3 x0 x1 x2/\A4 x0 x1 x2)(k:∀x0 x1 x2,A0 x0 x1 x2->A1 x0 x1 x2->A2 x0 x1 x2->A3 x0 x1 x2->A4 x0 x1 x2->P):P:=h.elim λx0 h=>h.elim λx1 h=>h.elim λx2 h=>k x0 x1 x2 h.1 h.2.1 h.2.2.1 h.2.2.2.1 h.2.2.2.2
theorem yX{jR mM xw Nf:Sort _}{A0 A1 A2 A3:jR->mM->xw->Nf->Prop}{P:Prop}(h:∃x0,∃x1,∃x2,∃x3,A0 x0 x1 x2 x3/\A1 x0 x1 x2 x3/\A2 x0 x1 x2 x3/\A3 x0 x1 x2 x3)(k:∀x0 x1 x2 x3,A0 x0 x1 x2 x3->A1 x0 x1 x2 x3->A2 x0 x1 x2 x3->A3 x0 x1 x2 x3->P):P:=h.elim λx0 h=>h.elim λx1 h=>h.elim λx2 h=>h.elim λx3 h=>k x0 x1 x2 x3 h.1 h.2.1 h.2.2.1 h.2.2.2
theorem WX{jR mM xw Nf WW:Sort _}{A0 A1 A2:jR->mM->xw->Nf->WW->Prop}{P:Prop}(h:∃x0,∃x1,∃x2,∃x3,∃x4,A0 x0 x1 x2 x3 x4/\A1 x0 x1 x2 x3 x4/\A2 x0 x1 x2 x3 x4)(k:∀x0 x1 x2 x3 x4,A0 x0 x1 x2 x3 x4->A1 x0 x1 x2 x3 x4->A2 x0 x1 x2 x3 x4->P):P:=h.elim λx0 h=>h.elim λx1 h=>h.elim λx2 h=>h.elim λx3 h=>h.elim λx4 h=>k x0 x1 x2 x3 x4 h.1 h.2.1 h.2.2
theorem WY{jR mM:Sort _}{A0 A1 A2 A3 A4 A5 A6:jR->mM->Prop}{P:Prop}(h:∃x0,∃x1,A0 x0 x1/\A1 x0 x1/\A2 x0 x1/\A3 x0 x1/\A4 x0 x1/\A5 x0 x1/\A6 x0 x1)(k:∀x0 x1,A0 x0 x1->A1 x0 x1->A2 x0 x1->A3 x0 x1->A4 x0 x1->A5 x0 x1->A6 x0 x1->P):P:=h.elim λx0 h=>h.elim λx1 h=>k x0 x1 h.1 h.2.1 h.2.2.1 h.2.2.2.1 h.2.2.2.2.1 h.2.2.2.2.2.1 h.2.2.2.2.2.2
theorem S5{jR mM xw:Sort _}{A0 A1 A2 A3 A4 A5:jR->mM->xw->Prop}{P:Prop}(h:∃x0,∃x1,∃x2,A0 x0 x1 x2/\A1 x0 x1 x2/\A2 x0 x1 x2/\A3 x0 x1 x2/\A4 x0 x1 x2/\A5 x0 x1 x2)(k:∀x0 x1 x2,A0 x0 x1 x2->A1 x0 x1 x2->A2 x0 x1 x2->A3 x0 x1 x2->A4 x0 x1 x2->A5 x0 x1 x2->P):P:=h.elim λx0 h=>h.elim λx1 h=>h.elim λx2 h=>k x0 x1 x2 h.1 h.2.1 h.2.2.1 h.2.2.2.1 h.2.2.2.2.1 h.2.2.2.2.2
theorem S6{jR mM:Sort _}{A0 A1 A2 A3 A4 A5 A6 A7:jR->mM->Prop}{P:Prop}(h:∃x0,∃x1,A0 x0 x1/\A1 x0 x1/\A2 x0 x1/\A3 x0 x1/\A4 x0 x1/\A5 x0 x1/\A6 x0 x1/\A7 x0 x1)(k:∀x0 x1,A0 x0 x1->A1 x0 x1->A2 x0 x1->A3 x0 x1->A4 x0 x1->A5 x0 x1->A6 x0 x1->A7 x0 x1->P):P:=h.elim λx0 h=>h.elim λx1 h=>k x0 x1 h.1 h.2.1 h.2.2.1 h.2.2.2.1 h.2.2.2.2.1 h.2.2.2.2.2.1 h.2.2.2.2.2.2.1 h.2.2.2.2.2.2.2
theorem Jp{jR mM xw:Sort _}{A0 A1 A2 A3 A4 A5 A6:jR->mM->xw->Prop}{P:Prop}(h:∃x0,∃x1,∃x2,A0 x0 x1 x2/\A1 x0 x1 x2/\A2 x0 x1 x2/\A3 x0 x1 x2/\A4 x0 x1 x2/\A5 x0 x1 x2/\A6 x0 x1 x2)(k:∀x0 x1 x2,A0 x0 x1 x2->A1 x0 x1 x2->A2 x0 x1 x2->A3 x0 x1 x2->A4 x0 x1 x2->A5 x0 x1 x2->A6 x0 x1 x2->P):P:=h.elim λx0 h=>h.elim λx1 h=>h.elim λx2 h=>k x0 x1 x2 h.1 h.2.1 h.2.2.1 h.2.2.2.1 h.2.2.2.2.1 h.2.2.2.2.2.1 h.2.2.2.2.2.2
theorem Pj{jR mM:Sort _}{A0 A1 A2 A3 A4 A5 A6 A7 A8 A9 S7:jR->mM->Prop}{P:Prop}(h:∃x0,∃x1,A0 x0 x1/\A1 x0 x1/\A2 x0 x1/\A3 x0 x1/\A4 x0 x1/\A5 x0 x1/\A6 x0 x1/\A7 x0 x1/\A8 x0 x1/\A9 x0 x1/\S7 x0 x1)(k:∀x0 x1,A0 x0 x1->A1 x0 x1->A2 x0 x1->A3 x0 x1->A4 x0 x1->A5 x0 x1->A6 x0 x1->A7 x0 x1->A8 x0 x1->A9 x0 x1->S7 x0 x1->P):P:=h.elim λx0 h=>h.elim λx1 h=>k x0 x1 h.1 h.2.1 h.2.2.1 h.2.2.2.1 h.2.2.2.2.1 h.2.2.2.2.2.1 h.2.2.2.2.2.2.1 h.2.2.2.2.2.2.2.1 h.2.2.2.2.2.2.2.2.1 h.2.2.2.2.2.2.2.2.2.1 h.2.2.2.2.2.2.2.2.2.2
theorem Pk{jR mM:Sort _}{A0 A1 A2 A3 A4 A5 A6 A7 A8 A9 S7 ZN:jR->mM->Prop}{P:Prop}(h:∃x0,∃x1,A0 x0 x1/\A1 x0 x1/\A2 x0 x1/\A3 x0 x1/\A4 x0 x1/\A5 x0 x1/\A6 x0 x1/\A7 x0 x1/\A8 x0 x1/\A9 x0 x1/\S7 x0 x1/\ZN x0 x1)(k:∀x0 x1,A0 x0 x1->A1 x0 x1->A2 x0 x1->A3 x0 x1->A4 x0 x1->A5 x0 x1->A6 x0 x1->A7 x0 x1->A8 x0 x1->A9 x0 x1->S7 x0 x1->ZN x0 x1->P):P:=h.elim λx0 h=>h.elim λx1 h=>k x0 x1 h.1 h.2.1 h.2.2.1 h.2.2.2.1 h.2.2.2.2.1 h.2.2.2.2.2.1 h.2.2.2.2.2.2.1 h.2.2.2.2.2.2.2.1 h.2.2.2.2.2.2.2.2.1 h.2.2.2.2.2.2.2.2.2.1 h.2.2.2.2.2.2.2.2.2.2.1 h.2.2.2.2.2.2.2.2.2.2.2
@[elab_as_elim] theorem iu{α β:Type}{f:α->β}{l:List α}{P:β->Prop}{y:β}(h:y∈l.map f)(k:∀x,x∈l->P (f x)):P y:=aI (ak.mp h) λx m e=>e▸k x m
set_option genInjectivity true in
inductive PK where
 |i (n:Int)
 |s (x:Str)
 deriving DecidableEq
noncomputable def PK.is:PK->al->Bool
 |.i n,v=>ix n v
 |.s x,v=>j8 x v
theorem PK.WZ(n:Int)(v:al):PK.is (.i n) v=ix n v:=rfl
theorem PK.S8(x:Str)(v:al):PK.is (.s x) v=j8 x v:=rfl
theorem PK.Qh(v:al)(a b:PK)(ha:PK.is a v=true)(hb:PK.is b v=true):a=b:=by
 cases a with
 |i n=>
  refine bz (dF (k:=n) ha) λt aT=>?_;obtain rfl:=aT;cases b with
  |i m=>rw[PK.WZ]at hb;refine bz (dF hb) λu h=>?_;injection h with h1 _;erw[h1]
  |s x=>simp[PK.is,j8]at hb
 |s x=>
  refine bz (cT (x:=x) ha) λt aT=>?_;obtain rfl:=aT;cases b with
  |i m=>simp[PK.is,ix]at hb
  |s y=>rw[PK.S8]at hb;refine bz (cT hb) λu h=>?_;injection h with h1 _;erw[h1]
section
variable {prog:cx} {w:eB} {A:bW} {E:al->aj->Prop} {s:aj}
theorem GE{Q:Bool->aj->Prop}(h:Q false s):am (bB prog w) A (eqBool (.int a t) (.str y u)) Q E s:=by
 unfold eqBool;refine aZ ?_;haveI dM:¬(fE a t==al.str y u)=true:=λe=>by have:=eq_of_beq e;cases this
 erw[if_neg dM];refine af (m:=richCompare .Eq (fE a t) (al.str y u)) ?_;exact EqMixed.eq_int_str (eC h)
theorem GF{Q:Bool->aj->Prop}(h:Q false s):am (bB prog w) A (eqBool (.str y u) (.int a t)) Q E s:=by
 unfold eqBool;refine aZ ?_;haveI dM:¬(al.str y u==fE a t)=true:=λe=>by have:=eq_of_beq e;cases this
 erw[if_neg dM];refine af (m:=richCompare .Eq (al.str y u) (fE a t)) ?_;exact EqMixed.eq_str_int (eC h)
end
theorem pki{n m:Int}:(n==m)=decide (PK.i n=PK.i m):=by
 by_cases h:n=m
 ·rw[h,beq_self_eq_true,decide_eq_true rfl]
 ·rw[beq_false_of_ne h,decide_eq_false λq=>h (PK.i.inj q)]
theorem pks{x y:Str}:decide (x=y)=decide (PK.s x=PK.s y):=by
 by_cases h:x=y
 ·rw[h,decide_eq_true rfl,decide_eq_true rfl]
 ·rw[decide_eq_false h,decide_eq_false λq=>h (PK.s.inj q)]
noncomputable def pk(prog:cx)(w:eB):KeyKind prog w PK where
 is:=PK.is
 hash:=λk=>match k with |.i n=>hashInt n |.s x=>hashStr w x
 inj:=PK.Qh
 byValue:=λk v h=>by
  cases k with
  |i n=>refine bz (dF (k:=n) h) λt aT=>?_;obtain rfl:=aT;rfl
  |s x=>refine bz (cT (x:=x) h) λt aT=>?_;obtain rfl:=aT;rfl
 pyHash:=λ{A E s k v Q}hv h=>by
  cases k with
  |i n=>refine bz (dF (k:=n) hv) λt aT=>?_;obtain rfl:=aT;exact wpAny_pyHash_int h
  |s x=>refine bz (cT (x:=x) hv) λt aT=>?_;obtain rfl:=aT;exact wpAny_pyHash_str h
 eqBool:=λ{A E s a b u v Q}hu hv h=>by
  cases a with
  |i n=>
   refine bz (dF (k:=n) hu) λt aT=>?_;obtain rfl:=aT;cases b with
   |i m=>refine bz (dF (k:=m) hv) λt' aT=>?_;obtain rfl:=aT;refine wpAny_eqBool_int ?_;erw[pki];exact h
   |s y=>refine bz (cT (x:=y) hv) λt' aT=>?_;obtain rfl:=aT;rw[decide_eq_false λq=>PK.noConfusion q]at h;exact GE h
  |s x=>
   refine bz (cT (x:=x) hu) λt aT=>?_;obtain rfl:=aT;cases b with
   |i m=>refine bz (dF (k:=m) hv) λt' aT=>?_;obtain rfl:=aT;rw[decide_eq_false λq=>PK.noConfusion q]at h;exact GF h
   |s y=>refine bz (cT (x:=y) hv) λt' aT=>?_;obtain rfl:=aT;refine wpAny_eqBool_str ?_;erw[pks];exact h
 «strs»:=λk x t v h=>by
  cases k with
  |i n=>simp[PK.is,ix]at h
  |s y=>rw[PK.S8]at h;refine bz (cT h) λu hu=>?_;injection hu with hx;subst hx;cases v<;>rfl
noncomputable abbrev tk(prog:cx)(w:eB):HeapKind prog w (List PK):=tupleKind (pk prog w)
set_option genInjectivity true in
inductive V where
 |none
 |bool (b:Bool)
 |int (i:Int)
 |str (x:Str)
 |tup (xs:List V)
 |lst (xs:List V)
 |set (led:Bool) (xs:List V)
 |obj (a C dx:ax)
 |ref (a:ax)
 |raw (v:al)
set_option genInjectivity true in
inductive cA where
 |list (xs:List V)
 |dp (kvs:List (PK×V)) (ep:Nat)
 |dt (kvs:List (List PK×V))
 |cell (v:Option V)
 |ns (ρ:Str->Option V)
 | «at» (ρ:Str->Option V) (c:Nat)
 |jd
noncomputable abbrev aL:=ax->Option cA
noncomputable def aL.put(N:aL)(a:ax)(mo:cA):aL:=λb=>if b=a then some mo else N b
noncomputable def aL.drop(N:aL)(a:ax):aL:=λb=>if b=a then none else N b
theorem aL.bH(N:aL)(a:ax)(mo:cA):(N.put a mo) a=some mo:=by simp[aL.put]
theorem aL.bE{N:aL}{a b:ax}{mo:cA}(h:b≠a):(N.put a mo) b=N b:=by simp[aL.put,h]
noncomputable abbrev kK(dy:Array al)(n:Nat):Obj:={cls:=.type "tuple",data:=.seq dy n}
mutual
inductive VI(h:cg)(N:aL):al->V->Prop
 |none:VI h N .none .none
 |bool (b:Bool):VI h N (.bool b) (.bool b)
 |int (i:Int) (t:Tok):VI h N (.int i t) (.int i)
 |str (x:Str) (t:Tok):VI h N (.str x t) (.str x)
 |tup {a:ax} {vs:List al} {n:Nat} {xs:List V}:h.get? a=some (kK vs.toArray n)->N a=Option.none->ch h N vs xs->VI h N (.ref a) (.tup xs)
 |lst {a:ax} {vs:List al} {n:Nat} {xs:List V}:h.get? a=some (listOf vs.toArray n)->N a=Option.none->ch h N vs xs->VI h N (.ref a) (.lst xs)
 |set {a:ax} {es:List (Int×al)} {n:Nat} {t:cw} {b:Bool} {xs:List V}:h.get? a=some {cls:=.type "set",data:=.set es.toArray n t}->N a=Option.none->
   t.fits es.length=true/\j9 t.place=true->t.led=b->ch h N (es.map (·.2)) xs->VI h N (.ref a) (.set b xs)
 |obj {a C dx:ax}:h.get? a=some (ii C dx)->N a=Option.none->VI h N (.ref a) (.obj a C dx)
 |ref (a:ax):VI h N (.ref a) (.ref a)
 |raw (v:al):VI h N v (.raw v)
inductive ch(h:cg)(N:aL):List al->List V->Prop
 |nil:ch h N [] []
 |cons {v:al} {x:V} {vs:List al} {xs:List V}:VI h N v x->ch h N vs xs->ch h N (v::vs) (x::xs)
end
noncomputable def cl(N:aL)(h:cg)(N':aL)(h':cg):Prop:=∀b o,h.get? b=some o->N b=none->h'.get? b=some o/\N' b=none
theorem cl.refl(N:aL)(h:cg):cl N h N h:=λ_ _ e n=>⟨e,n⟩
theorem cl.trans(x:cl N h N' h')(y:cl N' h' V7 MO):cl N h V7 MO:=λb o e n=>let⟨e',n'⟩:=x b o e n;y b o e' n'
theorem cl.keeps(k:∀b o,h.get? b=some o->h'.get? b=some o):cl N h N h':=λb o e n=>⟨k b o e,n⟩
section
variable {h:cg} {N:aL} {vs:List al} {ds:List V} {v:al} {d:V}
@[elab_as_elim] theorem ch.ind{P:List al->List V->Prop}(r:ch h N vs ds)(n:P [] [])(c:∀{v x vs xs},VI h N v x->ch h N vs xs->P vs xs->P (v::vs) (x::xs)):P vs ds:=ch.rec (motive_1:=λ_ _ _=>True) (motive_2:=λvs ds _=>P vs ds) ⟨⟩ (λ_=>⟨⟩) (λ_ _=>⟨⟩) (λ_ _=>⟨⟩) (λ_ _ _ _=>⟨⟩) (λ_ _ _ _=>⟨⟩) (λ_ _ _ _ _ _=>⟨⟩) (λ_ _=>⟨⟩) (λ_=>⟨⟩) (λ_=>⟨⟩) n (λa b _ d=>c a b d) r
@[elab_as_elim] theorem ch.ca{P:List al->List V->Prop}(r:ch h N vs ds)(n:P [] [])(c:∀{v x vs xs},VI h N v x->ch h N vs xs->P (v::vs) (x::xs)):P vs ds:=r.ind n λa b _=>c a b
@[elab_as_elim] theorem ch.n2{P:List al->Prop}(r:ch h N vs [])(n:P []):P vs:=r.ca (P:=λvs ds=>ds=[]->P vs) (λ_=>n) (λ_ _ e=>nomatch e) rfl
@[elab_as_elim] theorem ch.c2{P:List al->Prop}(r:ch h N vs (d::ds))(c:∀{v vs},VI h N v d->ch h N vs ds->P (v::vs)):P vs:=r.ca (P:=λvs es=>es=d::ds->P vs) (λe=>nomatch e) (λa b e=>List.noConfusion rfl (heq_of_eq e) λe f=>by cases e;cases f;exact c a b) rfl
theorem ch.cc{P:Prop}(r:ch h N (v::vs) (d::ds))(c:VI h N v d->ch h N vs ds->P):P:=r.c2 (P:=λus=>us=v::vs->P) (λa b e=>List.noConfusion rfl (heq_of_eq e) λe f=>by cases e;cases f;exact c a b) rfl
theorem VI.ind{P:al->V->Prop}(x:VI h N v d)(p1:P .none .none)(p2:∀b,P (.bool b) (.bool b))(p3:∀i t,P (.int i t) (.int i))(p4:∀y t,P (.str y t) (.str y))
  (p5:∀{a vs n xs},h.get? a=some (kK (bp vs) n)->N a=Option.none->ch h N vs xs->(∀{R:List al->List V->Prop},R [] []->(∀{v x vs xs},P v x->R vs xs->R (v::vs) (x::xs))->R vs xs)->P (.ref a) (.tup xs))
  (p6:∀{a vs n xs},h.get? a=some (listOf (bp vs) n)->N a=Option.none->ch h N vs xs->(∀{R:List al->List V->Prop},R [] []->(∀{v x vs xs},P v x->R vs xs->R (v::vs) (x::xs))->R vs xs)->P (.ref a) (.lst xs))
  (p7:∀{a es n t b xs},h.get? a=some {cls:=.type "set",data:=.set (bp es) n t}->N a=Option.none->t.fits es.length=true/\j9 t.place=true->t.led=b->ch h N (es.map (·.2)) xs->
   (∀{R:List al->List V->Prop},R [] []->(∀{v x vs xs},P v x->R vs xs->R (v::vs) (x::xs))->R (es.map (·.2)) xs)->P (.ref a) (.set b xs))
  (p8:∀{a C dx},h.get? a=some (ii C dx)->N a=Option.none->P (.ref a) (.obj a C dx)) (p9:∀a,P (.ref a) (.ref a)) (Fe:∀v,P v (.raw v)):P v d:=
 VI.rec (motive_1:=λv d _=>P v d) (motive_2:=λvs ds _=>∀{R:List al->List V->Prop},R [] []->(∀{v x vs xs},P v x->R vs xs->R (v::vs) (x::xs))->R vs ds)
  p1 p2 p3 p4 p5 p6 p7 p8 p9 Fe (λn _=>n) (λ_ _ p q _ n c=>c p (q n c)) x
end
section
variable {N N':aL} {h h':cg} {vs:List al} {ds:List V} {v:al} {d:V}
theorem VI.ext(x:cl N h N' h')(i:VI h N v d):VI h' N' v d:=
 i.ind .none .bool .int .str (λe n _ r=>.tup (x _ _ e n).1 (x _ _ e n).2 (r .nil .cons)) (λe n _ r=>.lst (x _ _ e n).1 (x _ _ e n).2 (r .nil .cons))
  (λe n f g _ r=>.set (x _ _ e n).1 (x _ _ e n).2 f g (r .nil .cons)) (λe n=>.obj (x _ _ e n).1 (x _ _ e n).2) .ref .raw
theorem ch.ext(x:cl N h N' h')(r:ch h N vs ds):ch h' N' vs ds:=r.ind .nil λe _ q=>.cons (e.ext x) q
theorem VI.less(x:∀a,N a=Option.none->N' a=Option.none)(i:VI h N v d):VI h N' v d:=i.ext λb _ e n=>⟨e,x b n⟩
theorem ch.less(x:∀a,N a=Option.none->N' a=Option.none)(r:ch h N vs ds):ch h N' vs ds:=r.ext λb _ e n=>⟨e,x b n⟩
end
section
variable {h:cg} {N:aL} {vs ws:List al} {ds es:List V} {v:al} {d:V}
theorem ch.length(x:ch h N vs ds):vs.length=ds.length:=x.ind (P:=λvs ds=>vs.length=ds.length) rfl λ_ _ q=>congrArg Ac q
theorem ch.append(x:ch h N vs ds)(y:ch h N ws es):ch h N (vs++ws) (ds++es):=x.ind (P:=λvs ds=>ch h N (vs++ws) (ds++es)) y λa _ q=>.cons a q
theorem ch.one(x:VI h N v d):ch h N [v] [d]:=.cons x .nil
theorem ch.get(x:ch h N vs ds){k:Nat}{d:V}(hk:ds[k]?=some d):∃v,vs[k]?=some v/\VI h N v d:=
 x.ind (P:=λvs ds=>∀k,ds[k]?=some d->∃v,vs[k]?=some v/\VI h N v d) (λ_ e=>(qX _ (e.symm.trans uH)).elim)
  (λa _ q k=>k.casesOn (λe=>⟨_,rfl,aA e▸a⟩) λk e=>q k e) k hk
theorem ch.get'(x:ch h N vs ds){k:Nat}{v:al}(hk:vs[k]?=some v):∃d,ds[k]?=some d/\VI h N v d:=
 x.ind (P:=λvs ds=>∀k,vs[k]?=some v->∃d,ds[k]?=some d/\VI h N v d) (λ_ e=>(qX _ (e.symm.trans uH)).elim)
  (λa _ q k=>k.casesOn (λe=>⟨_,rfl,aA e▸a⟩) λk e=>q k e) k hk
theorem ch.take(x:ch h N vs ds)(k:Nat):ch h N (vs.take k) (ds.take k):=x.ind (P:=λvs ds=>∀k,ch h N (vs.take k) (ds.take k)) (λk=>k.casesOn .nil λ_=>.nil) (λa _ q k=>k.casesOn .nil λk=>.cons a (q k)) k
theorem ch.drop(x:ch h N vs ds)(k:Nat):ch h N (vs.drop k) (ds.drop k):=x.ind (P:=λvs ds=>∀k,ch h N (vs.drop k) (ds.drop k)) (λk=>k.casesOn .nil λ_=>.nil) (λa b q k=>k.casesOn (.cons a b) λk=>q k) k
theorem ch.mem(x:ch h N vs ds)(hv:v∈vs):∃d,d∈ds/\VI h N v d:=bz (List.mem_iff_getElem?.mp hv) λ_ e=>aI (x.get' e) λd h i=>⟨d,a7 h,i⟩
theorem ch.set(x:ch h N vs ds)(y:VI h N v d)(k:Nat):ch h N (vs.set k v) (ds.set k d):=x.ind (P:=λvs ds=>∀k,ch h N (vs.set k v) (ds.set k d)) (λk=>k.casesOn .nil λ_=>.nil) (λa b q k=>k.casesOn (.cons y b) λk=>.cons a (q k)) k
end
section
variable (prog:cx) (w:eB)
noncomputable def MI(h:cg)(N:aL)(a:ax):cA->Prop
 |.list xs=>∃dy n,h.get? a=some (listOf dy n)/\ch h N dy.toList xs
 |.jd=>∃o,h.get? a=some o
 |.dp kvs ep=>∃ks,h.DictAt (pk prog w) a ks ep/\ks.map (·.1)=kvs.map (·.1)/\ch h N (ks.map (·.2)) (kvs.map (·.2))
 |.dt kvs=>∃ks,h.DictOfH (tk prog w) a ks/\(∀x∈ks,N x.2.1=none)/\ks.map (·.1)=kvs.map (·.1)/\ch h N (ks.map (·.2.2)) (kvs.map (·.2))
 |.cell v=>∃cv,h.IsCell a cv/\∀x,v=some x->∃c,cv=some c/\VI h N c x
 |.ns ρ=>∃m,h.Ns a m/\∀x d,ρ x=some d->∃v,m x=some v/\VI h N v d
 |.at ρ c=>∃m ns,h.Ns1 a m/\Within m ns/\ns.length<=c/\(∀x,ρ x=none->m x=none)/\(∀x d,ρ x=some d->∃v,m x=some v/\VI h N v d)
end
section
variable {prog:cx} {w:eB} {h h':cg} {N N':aL} {a:ax} {mo:cA}
theorem MI.ext(x:cl N h N' h')(ha:h'.get? a=h.get? a)(m:MI prog w h N a mo):MI prog w h' N' a mo:=by
 cases mo with
 |list xs=>refine eQ m λdy n e r=>?_;clear m;exact⟨dy,n,ha.trans e,r.ext x⟩
 |jd=>refine bz m λo e=>?_;clear m;exact⟨o,ha.trans e⟩
 |dp kvs ep=>refine cQ m λks aT e2 r=>?_;clear m;refine eQ aT λo es ho q=>?_;clear aT;exact⟨ks,⟨o,es,ha.trans ho,q⟩,e2,r.ext x⟩
 |dt kvs=>
  refine rg m λks aT hn e2 r=>?_;clear m;refine S5 aT λo es ep ho q1 q2 q3 q4 q5=>?_;clear aT;refine⟨ks,⟨o,es,ep,ha.trans ho,q1,q2,q3,λy hy=>?_,q5⟩,λy hy=>?_,e2,r.ext x⟩
  ·refine uR (q4 y hy) λo' dy n vc r'=>?_;exact⟨o',dy,n,(x _ _ vc (hn y hy)).1,r'⟩
  ·refine uR (q4 y hy) λo' dy n vc r'=>?_;exact(x _ _ vc (hn y hy)).2
 |cell v=>refine aI m λcv aT r=>?_;clear m;refine aI aT λo ho hd=>?_;clear aT;exact⟨cv,⟨o,ha.trans ho,hd⟩,λy hy=>let⟨c,e,q⟩:=r y hy;⟨c,e,q.ext x⟩⟩
 |ns ρ=>refine aI m λmm aT r=>?_;clear m;refine uR aT λo es ep ho q=>?_;clear aT;exact⟨mm,⟨o,es,ep,ha.trans ho,q⟩,λy d hy=>let⟨c,e,q⟩:=r y d hy;⟨c,e,q.ext x⟩⟩
 | «at» ρ c=>refine vK m λmm ns aT r0 r1 r2 r=>?_;clear m;refine uR aT λo es ep ho q=>?_;clear aT;exact⟨mm,ns,⟨o,es,ep,ha.trans ho,q⟩,r0,r1,r2,λy d hy=>let⟨c,e,q⟩:=r y d hy;⟨c,e,q.ext x⟩⟩
theorem MI.less(x:∀a,N a=none->N' a=none)(m:MI prog w h N a mo):MI prog w h N' a mo:=m.ext (λb _ e n=>⟨e,x b n⟩) rfl
theorem MI.live(m:MI prog w h N a mo):∃o,h.get? a=some o:=by
 cases mo with
 |list xs=>refine eQ m λdy n e r=>?_;clear m;exact⟨_,e⟩
 |jd=>exact m
 |dp kvs ep=>refine cQ m λks aT e2 r=>?_;clear m;refine eQ aT λo es ho q=>?_;clear aT;exact⟨_,ho⟩
 |dt kvs=>refine rg m λks aT hn e2 r=>?_;clear m;refine uR aT λo es ep ho q=>?_;clear aT;exact⟨_,ho⟩
 |cell v=>refine aI m λcv aT r=>?_;clear m;refine aI aT λo ho hd=>?_;clear aT;exact⟨_,ho⟩
 |ns ρ=>refine aI m λmm aT r=>?_;clear m;refine uR aT λo es ep ho q=>?_;clear aT;exact⟨_,ho⟩
 | «at» ρ c=>refine eQ m λmm ns aT r=>?_;clear m;refine uR aT λo es ep ho q=>?_;clear aT;exact⟨_,ho⟩
end
end
section
structure Cx where
 prog:cx
 w:eB
 K:tc
 H0:cg
 mg:Str->Option al
 mb:Str->Option al
 ZO:OsState
 X:K.In H0
 g:H0.Ns dN mg
 b:H0.Ns rT mb
 nolimit:H0.NoLimit
 builtins:∀x:Str,x≠"__name__"->mb x=bootBuiltins x
 mods:∃o,H0.get? xf=some o
noncomputable abbrev Cx.M(Γ:Cx):Ja:=bB Γ.prog Γ.w
structure bS(Γ:Cx)(N:aL)(s:aj):Prop where
 obj:∀a mo,N a=some mo->MI Γ.prog Γ.w s.heap N a mo
 base:∀b o,Γ.H0.get? b=some o->s.heap.get? b=some o
 off:∀a mo,N a=some mo->Γ.H0.get? a=none
 gens:s.gens=#[]
 os:s.os=Γ.ZO
noncomputable def Lv(n:Nat)(A:bW):Prop:=A.handled=none/\A.depth+n+1<1000/\A.units+12*n+200<=9900
section
variable {Γ:Cx} {N N':aL} {s:aj} {h':cg} {a:ax} {mo C8:cA}
theorem bS.K(R:bS Γ N s):Γ.K.In s.heap:=Γ.X.keeps R.base
theorem bS.nolimit(R:bS Γ N s):s.heap.NoLimit:=Γ.nolimit.keeps R.base
theorem bS.tok(R:bS Γ N s)(t:Nat):bS Γ N {s with toks:=t}:=⟨R.obj,R.base,R.off,R.gens,R.os⟩
theorem bS.live(R:bS Γ N s)(h:N a=some mo):∃o,s.heap.get? a=some o:=(R.obj a mo h).live
theorem bS.ce(R:bS Γ N s)(h:s.heap.get? a=none):N a=none:=by
 cases e:N a with
 |none=>rfl
 |some mo=>obtain⟨o,ho⟩:=R.live e;rw[h]at ho;cases ho
theorem bS.nw(R:bS Γ N s)(h:N a=some mo):(a==xf)=false:=by
 cases e:a==xf with
 |false=>rfl
 |true=>have:=R.off a mo h;rw[beq_iff_eq.mp e]at this;obtain⟨o,ho⟩:=Γ.mods;rw[ho]at this;cases this
theorem bS.keeps(R:bS Γ N s)(k:∀b o,s.heap.get? b=some o->s'.heap.get? b=some o)(hg:s'.gens=s.gens:=by rfl)(ho:s'.os=s.os:=by rfl):bS Γ N s':=
 ⟨λb mo hb=>by
  obtain⟨o,ho⟩:=R.live hb;exact(R.obj b mo hb).ext (cl.keeps k) ((k b o ho).trans ho.symm),
  λb o e=>k _ _ (R.base b o e),R.off,hg.trans R.gens,ho.trans R.os⟩
theorem cl.put(e:N a=some C8)(hs:bu a s.heap h'):cl N s.heap (N.put a mo) h':=λb o ho hb=>by
 have dM:b≠a:=by rintro rfl;rw[e]at hb;cases hb
 exact⟨(hs.2 b dM).trans ho,by erw[aL.bE dM];exact hb⟩
theorem cl.S9(e:N a=some C8)(hs:iC a s.heap h'):cl N s.heap (N.put a mo) h':=λb o ho hb=>by
 have dM:b≠a:=by rintro rfl;rw[e]at hb;cases hb
 exact⟨hs b o dM ho,by erw[aL.bE dM];exact hb⟩
theorem cl.new(e:s.heap.get? a=none)(k:∀b o,s.heap.get? b=some o->h'.get? b=some o):cl N s.heap (N.put a mo) h':=λb o ho hb=>by
 have dM:b≠a:=by rintro rfl;rw[e]at ho;cases ho
 exact⟨k b o ho,by erw[aL.bE dM];exact hb⟩
theorem bS.put(R:bS Γ N s)(e:N a=some C8)(hs:iC a s.heap h')(m:MI Γ.prog Γ.w h' (N.put a mo) a mo):
  bS Γ (N.put a mo) {s with heap:=h',toks:=t}:=by
 refine⟨λb mb hb=>?_,λb o ho=>?_,λb mb hb=>?_,R.gens,R.os⟩
 ·by_cases dM:b=a
  ·subst dM;rw[aL.bH]at hb;cases hb;exact m
  ·rw[aL.bE dM]at hb;obtain⟨o,ho⟩:=R.live hb;exact(R.obj b mb hb).ext (cl.S9 e hs) ((hs b o dM ho).trans ho.symm)
 ·have dM:b≠a:=by rintro rfl;rw[R.off _ _ e]at ho;cases ho
  exact hs b o dM (R.base b o ho)
 ·by_cases dM:b=a
  ·subst dM;exact R.off _ _ e
  ·rw[aL.bE dM]at hb;exact R.off _ _ hb
theorem bS.new(R:bS Γ N s)(e:s.heap.get? a=none)(k:∀b o,s.heap.get? b=some o->h'.get? b=some o)(m:MI Γ.prog Γ.w h' (N.put a mo) a mo):
  bS Γ (N.put a mo) {s with heap:=h',toks:=t}:=by
 have off:Γ.H0.get? a=none:=by
  cases q:Γ.H0.get? a with
  |none=>rfl
  |some o=>rw[R.base _ _ q]at e;cases e
 refine⟨λb mb hb=>?_,λb o ho=>k _ _ (R.base b o ho),λb mb hb=>?_,R.gens,R.os⟩
 ·by_cases dM:b=a
  ·subst dM;rw[aL.bH]at hb;cases hb;exact m
  ·rw[aL.bE dM]at hb;obtain⟨o,ho⟩:=R.live hb;exact(R.obj b mb hb).ext (cl.new e k) ((k b o ho).trans ho.symm)
 ·by_cases dM:b=a
  ·subst dM;exact off
  ·rw[aL.bE dM]at hb;exact R.off _ _ hb
theorem bS.less(R:bS Γ N s)(l:∀a mo,N' a=some mo->N a=some mo):bS Γ N' s:=by
 have l':∀a,N a=none->N' a=none:=λa h=>by
  cases e:N' a with
  |none=>rfl
  |some mo=>rw[l a mo e]at h;cases h
 exact⟨λb mb hb=>(R.obj b mb (l _ _ hb)).less l',R.base,λb mb hb=>R.off b mb (l _ _ hb),R.gens,R.os⟩
end
noncomputable abbrev cf:=Str->Option V
noncomputable def cf.set(ρ:cf)(x:Str)(v:V):cf:=λy=>if y=x then some v else ρ y
theorem cf.set_same(ρ:cf)(x:Str)(v:V):ρ.set x v x=some v:=by simp[cf.set]
theorem cf.hG{ρ:cf}{x y:Str}{v:V}(h:y≠x):ρ.set x v y=ρ y:=by simp[cf.set,h]
noncomputable def eY(cs:List (Str×ax))(a:ax):Option Str:=(cs.find? λp=>decide (p.2=a)).map (·.1)
noncomputable def aQ(env:Env)(ρ:cf):aL:=λa=>
 if a=env.locals then some (.ns λx=>if env.kindOf x=some .local then ρ x else none)
 else match eY env.cells a with
  |some x=>some (.cell (ρ x))
  |none=>none
noncomputable def hide(L:ax->Bool)(N:aL):aL:=λa=>if L a=true then some .jd else N a
noncomputable def own(env:Env)(ρ:cf)(N:aL):aL:=λa=>(aQ env ρ a).or (N a)
noncomputable def full(env:Env)(ρ:cf)(L:ax->Bool)(N:aL):aL:=λa=>(aQ env ρ a).or (hide L N a)
noncomputable def jQ(env:Env)(L:ax->Bool):ax->Bool:=λa=>a==env.locals||(eY env.cells a).isSome||L a
structure fu(env:Env)(L:ax->Bool)(N:aL):Prop where
 kind:env.scope.kind=.function
 glob:env.globals=dN
 AC:env.builtins=rT
 apart:env.cells.Pairwise λx y=>x.2≠y.2
 nodup:(env.cells.map (·.1)).Nodup
 mN:∀p∈env.cells,p.2≠env.locals
 yY:N env.locals=none
 yZ:∀p∈env.cells,N p.2=none
 kL:∀a,L a=true->N a=none
theorem fm(h:eY cs a=some x):(x,a)∈cs:=by unfold eY at h;obtain⟨p,hp,rfl⟩:=aJ.mp h;haveI h1:=mI hp;haveI h2:=List.find?_some hp;have:p.2=a:=of_decide_eq_true h2;subst this;exact h1
theorem eL(hp:cs.Pairwise λx y=>x.2≠y.2)(h:(x,a)∈cs):eY cs a=some x:=by
 induction cs with
 |nil=>cases h
 |cons p r ih=>
  obtain⟨h1,h2⟩:=dc.mp hp;unfold eY;by_cases e:p.2=a
  ·erw[CP (by simpa using e)];rcases aq.mp h with rfl |h
   ·rfl
   ·exact absurd e (h1 _ h)
  ·erw[dq (by simpa using e)];rcases aq.mp h with rfl |h
   ·exact absurd rfl e
   ·exact ih h2 h
theorem gN(h:∀p∈cs,p.2≠a):eY cs a=none:=by
 cases e:eY cs a with
 |none=>rfl
 |some x=>exact absurd rfl (h _ (fm e))
section
variable {Γ:Cx} {s s':aj} {h h':cg} {L:ax->Bool} {env:Env} {ρ ρ':cf} {N N' M M':aL} {a:ax} {mo:cA}
theorem mw(hl:L a=false):hide L N a=N a:=by simp[hide,hl]
theorem kM(o:∀a,L a=true->N a=none)(h:N a=some mo):hide L N a=some mo:=by
 cases e:L a with
 |true=>rw[o a e]at h;cases h
 |false=>erw[mw e];exact h
theorem co:hide L N a=none↔L a=false/\N a=none:=by unfold hide;cases L a<;>simp
theorem eV:aQ env ρ a=none↔(a==env.locals)=false/\eY env.cells a=none:=by
 unfold aQ;by_cases e:a=env.locals
 ·simp[e]
 ·erw[if_neg e];cases q:eY env.cells a with
  |none=>simp[e]
  |some x=>simp
theorem cr:aQ env ρ a=none↔aQ env ρ' a=none:=eV.trans eV.symm
theorem ba:full env ρ L N a=none↔aQ env ρ a=none/\L a=false/\N a=none:=by unfold full;erw[Cq,co]
theorem cY:own env ρ N a=none↔aQ env ρ a=none/\N a=none:=by unfold own;erw[Cq]
theorem gO:jQ env L a=false↔aQ env ρ a=none/\L a=false:=by erw[eV (ρ:=ρ)];unfold jQ;cases q:eY env.cells a<;>simp
theorem fS:full env ρ L N a=none↔hide (jQ env L) N a=none:=by erw[ba,co,gO (ρ:=ρ),and_assoc]
theorem AD(x:cl N h N' h')(e:∀a,N a=none↔M a=none)(e':∀a,N' a=none↔M' a=none):cl M h M' h':=λb o hb hm=>let⟨p,q⟩:=x b o hb ((e b).mpr hm);⟨p,(e' b).mp q⟩
theorem y0(x:cl N h N' h'):cl (own env ρ N) h (own env ρ N') h':=λb o hb hm=>by rw[cY]at hm;obtain⟨p,q⟩:=x b o hb hm.2;exact⟨p,cY.mpr ⟨hm.1,q⟩⟩
theorem oT(x:cl (own env ρ N) h (own env ρ' N') h'):cl (full env ρ L N) h (full env ρ' L N') h':=λb o hb hm=>by rw[ba]at hm;obtain⟨p,q⟩:=x b o hb (cY.mpr ⟨hm.1,hm.2.2⟩);exact⟨p,ba.mpr ⟨cr.mp hm.1,hm.2.1,(cY.mp q).2⟩⟩
theorem eA(x:cl N h N' h'):cl (full env ρ L N) h (full env ρ L N') h':=oT (y0 x)
theorem y3(e:∀a,M a=none↔M' a=none)(x:VI h M v d):VI h M' v d:=x.less λa=>(e a).mp
theorem vL(e:∀a,M a=none↔M' a=none)(x:ch h M v d):ch h M' v d:=x.less λa=>(e a).mp
theorem fu.off(F:fu env L N)(h:aQ env ρ a≠none):N a=none:=by
 unfold aQ at h;split at h
 ·rename_i e;erw[e];exact F.yY
 ·split at h
  ·rename_i x e;exact F.yZ _ (fm e)
  ·exact absurd rfl h
theorem fu.Jq(F:fu env L N)(h:jQ env L a=true):N a=none:=by
 cases e:L a with
 |true=>exact F.kL a e
 |false=>refine F.off (ρ:=λ_=>none) λq=>?_;rw[(gO (ρ:=λ_=>none)).mpr ⟨q,e⟩]at h;cases h
theorem ki(F:fu env L N)(h:N a=some mo):aQ env ρ a=none:=by
 cases e:aQ env ρ a with
 |none=>rfl
 |some m=>have:=F.off (ρ:=ρ) (a:=a) (by erw[e];exactλq=>by cases q);rw[h]at this;cases this
theorem jS(F:fu env L N)(h:N a=some mo):L a=false:=by
 cases e:L a with
 |false=>rfl
 |true=>rw[F.kL a e]at h;cases h
theorem iX(F:fu env L N)(h:N a=some mo):full env ρ L N a=some mo:=by unfold full;erw[ki F h,mw (jS F h),h];rfl
theorem d7(F:fu env L N):∀a mo,N a=some mo->full env ρ L N a=some mo:=λ_ _ h=>iX F h
theorem k9(h:full env ρ L N a=none):N a=none:=(ba.mp h).2.2
theorem hH(h:aQ env ρ a=some m):full env ρ L N a=some m:=by unfold full;erw[h];rfl
theorem vM(h:aQ env ρ a=none)(hl:L a=false):(full env ρ L N).put a mo=full env ρ L (N.put a mo):=by
 funext b
 by_cases e:b=a
 ·subst e;erw[aL.bH];unfold full;erw[h,mw hl,aL.bH];rfl
 ·erw[aL.bE e];unfold full hide;erw[aL.bE e]
theorem fu.put(F:fu env L N)(h:aQ env (λ_=>none) a=none)(hl:L a=false):fu env L (N.put a mo):=by
 refine⟨F.kind,F.glob,F.AC,F.apart,F.nodup,F.mN,?_,λp hp=>?_,λb hb=>?_⟩
 ·have:env.locals≠a:=by rintro rfl;simp[aQ]at h
  erw[aL.bE this];exact F.yY
 ·have:p.2≠a:=by rintro rfl;unfold aQ at h;rw[if_neg (F.mN p hp),eL F.apart (x:=p.1) hp]at h;cases h
  erw[aL.bE this];exact F.yZ p hp
 ·have:b≠a:=by rintro rfl;rw[hl]at hb;cases hb
  erw[aL.bE this];exact F.kL b hb
theorem oU:full env ρ L N env.locals=some (.ns λx=>if env.kindOf x=some .local then ρ x else none):=by simp[full,aQ]
theorem tq(F:fu env L N)(h:(x,c)∈env.cells):full env ρ L N c=some (.cell (ρ x)):=by unfold full aQ;erw[if_neg (F.mN (x,c) h),eL F.apart h];rfl
theorem GH{x:Str}{v:V}(hx:env.kindOf x=some .local)(hc:∀p∈env.cells,p.1≠x):
  (full env ρ L N).put env.locals (.ns λy=>if env.kindOf y=some .local then(ρ.set x v) y else none)=full env (ρ.set x v) L N:=by
 funext b
 by_cases e:b=env.locals
 ·subst e;erw[aL.bH,oU]
 ·erw[aL.bE e];unfold full aQ;erw[if_neg e,if_neg e];cases q:eY env.cells b with
  |none=>rfl
  |some y=>have:y≠x:=hc _ (fm q);show(some (cA.cell (ρ y))).or _=(some (cA.cell (ρ.set x v y))).or _;erw[cf.hG this]
theorem GI(F:fu env L N){x:Str}{c:ax}{v:V}(hx:env.kindOf x≠some .local)(hc:(x,c)∈env.cells):
  (full env ρ L N).put c (.cell (some v))=full env (ρ.set x v) L N:=by
 funext b
 by_cases e:b=c
 ·subst e;erw[aL.bH,tq F hc,cf.set_same]
 ·erw[aL.bE e];unfold full aQ;by_cases e2:b=env.locals
  ·erw[if_pos e2,if_pos e2];have:(λy=>if env.kindOf y=some .local then ρ y else none)=(λy=>if env.kindOf y=some .local then(ρ.set x v) y else none):=by
    funext y
    by_cases hy:y=x
    ·subst hy;erw[if_neg hx,if_neg hx]
    ·erw[cf.hG hy]
   erw[this]
  ·erw[if_neg e2,if_neg e2];cases q:eY env.cells b with
   |none=>rfl
   |some y=>
    have:y≠x:=by
     rintro rfl;haveI h1:=fm q;have:=F.nodup;exact e (by
      haveI key:∀(cs:List (Str×ax)),(cs.map (·.1)).Nodup->(y,b)∈cs->(y,c)∈cs->b=c:=by
       intro cs;induction cs with
       |nil=>intro _ h;cases h
       |cons p r ih=>
        intro hn q1 q2;rw[aP,bt]at hn;rcases aq.mp q1 with rfl |h1<;>rcases aq.mp q2 with h2 |h2
        ·cases h2;rfl
        ·exact(hn.1 (ak.mpr ⟨(y,c),h2,rfl⟩)).elim
        ·subst h2;exact(hn.1 (ak.mpr ⟨(y,b),h1,rfl⟩)).elim
        ·exact ih hn.2 h1 h2
      exact key _ F.nodup h1 hc)
    show(some (cA.cell (ρ y))).or _=(some (cA.cell (ρ.set x v y))).or _;erw[cf.hG this]
theorem bS.swap(R:bS Γ M s)(e:∀a,M a=none↔M' a=none)(m:∀a mo,M' a=some mo->MI Γ.prog Γ.w s.heap M' a mo):bS Γ M' s:=
 ⟨m,R.base,λa mo h=>by
  cases q:M a with
  |none=>rw[(e a).mp q]at h;cases h
  |some mo'=>exact R.off a mo' q,R.gens,R.os⟩
theorem bS.into(R:bS Γ (full env ρ L N) s)(F:fu env L N):bS Γ (hide (jQ env L) N) s:=by
 refine R.swap (λa=>fS) λa mo h=>?_;cases q:jQ env L a with
 |true=>
  have:mo=.jd:=by unfold Mine.hide at h;rw[if_pos q]at h;cases h;rfl
  subst this;cases e:full env ρ L N a with
  |none=>rw[fS.mp e]at h;cases h
  |some mo'=>exact R.live e
 |false=>rw[mw q]at h;exact(R.obj a mo (iX F h)).less λb=>fS.mp
theorem fu.ext(F:fu env L N)(R:bS Γ (full env ρ L N) s)(x:cl N s.heap N' h'):fu env L N':=by
 have live:∀a,full env ρ L N a≠none->N a=none->N' a=none:=λa ha hn=>by
  cases e:full env ρ L N a with
  |none=>exact absurd e ha
  |some mo=>obtain⟨o,ho⟩:=R.live e;exact(x a o ho hn).2
 refine⟨F.kind,F.glob,F.AC,F.apart,F.nodup,F.mN,live _ ?_ F.yY,λp hp=>live _ ?_ (F.yZ p hp),λa ha=>live _ ?_ (F.kL a ha)⟩
 ·erw[oU];exactλq=>by cases q
 ·erw[tq F (x:=p.1) hp];exactλq=>by cases q
 ·intro q;rw[(ba.mp q).2.1]at ha;cases ha
theorem bS.back(R:bS Γ (full env ρ L N) s)(F:fu env L N)(R':bS Γ (Mine.hide (jQ env L) N') s')(x:cl N s.heap N' s'.heap):bS Γ (full env ρ L N') s':=by
 haveI F':=F.ext R x;haveI keep:∀a mo,full env ρ L N a=some mo->N a=none->s'.heap.get? a=s.heap.get? a:=λa mo e hn=>by obtain⟨o,ho⟩:=R.live e;erw[ho];exact(x a o ho hn).1
 refine R'.swap (λa=>fS.symm) λa mo h=>?_;cases e:aQ env ρ a with
 |some m=>rw[hH e]at h;cases h;have hf:full env ρ L N a=some mo:=hH e;exact(R.obj a mo hf).ext (eA x) (keep a _ hf (F.off (by erw[e];exactλq=>by cases q)))
 |none=>
  cases l:L a with
  |true=>
   have hm:mo=.jd:=by unfold Mine.full Mine.hide at h;rw[e,if_pos l]at h;cases h;rfl
   subst hm;have hf:full env ρ L N a=some .jd:=by unfold Mine.full Mine.hide;erw[e,if_pos l];rfl
   obtain⟨o,ho⟩:=R.live hf;exact⟨o,(keep a _ hf (F.kL a l)).trans ho⟩
  |false=>
   haveI hn:N' a=some mo:=by unfold Mine.full at h;rw[e,mw l]at h;exact h
   haveI hq:Mine.hide (jQ env L) N' a=some mo:=by erw[mw (gO.mpr ⟨e,l⟩)];exact hn
   exact(R'.obj a mo hq).less λb=>fS.mpr
end
end
section
theorem AE(x:Str):∀l:List (Str×al),nsFind (l.map λp=>({hash:=0,key:=.str p.1 0,val:=p.2}:Jb)).toArray x=l.lookup x:=by
 intro l;show((l.map λp=>({hash:=0,key:=.str p.1 0,val:=p.2}:Jb)).toArray.find? λe=>e.key.isStr x).map (·.val)=_;rw[List.find?_toArray];induction l with
 |nil=>rfl
 |cons p l ih=>
  rw[aP,List.find?_cons,gv];show xt _ (match (p.1==x) with |true=>_ |false=>_)=_;by_cases q:p.1=x
  ·rw[show(p.1==x)=true from beq_iff_eq.mpr q,show(x==p.1)=true from beq_iff_eq.mpr q.symm];rfl
  ·rw[show(p.1==x)=false from beq_false_of_ne q,show(x==p.1)=false from beq_false_of_ne λe=>q e.symm];exact ih
theorem Jr{l:List (Str×al)}:StrKeys (l.map λp=>({hash:=0,key:=.str p.1 0,val:=p.2}:Jb)).toArray:=λe he=>
 aI (ak.mp (List.mem_toArray.mp he)) λp _ e=>⟨p.1,0,by rw[<-e]⟩
noncomputable instance:Nonempty eB:=⟨⟨λ_ _=>0,{strHash:=λ_=>0,shareClass:=λ_=>0,mergeTok:=λt=>t,idOf:=λ_=>0,idOfShared:=λ_ _=>0,followText:=λ_=>false,idOfImm:=λ_=>0}⟩⟩
noncomputable instance:Nonempty Cx:=by
 let l:=(Manifest.builtinsNames.map λy=>(aN y.1,bootValue y.2 y.1)).reverse;let o:Obj:={cls:=.type "dict",data:=.dict (l.map λp=>({hash:=0,key:=.str p.1 0,val:=p.2}:Jb)).toArray 0}
 let e:Obj:={cls:=.type "dict",data:=.dict #[] 0}
 let h:cg:=⟨#[o,e,e,e],{}⟩
 have ns:∀a,h.get? a=some e->h.Ns a λ_=>none:=λa ha=>⟨e,#[],0,ha,rfl,λ_ h=>absurd h (Array.not_mem_empty _),λ_=>rfl⟩
 exact⟨⟨default,EV inferInstance,[],h,λ_=>none,bootBuiltins,default,(λ_ _ e=>nomatch e),ns 3 rfl,⟨o,_,0,rfl,rfl,Jr,λx=>AE x l⟩,⟨_,ns 2 rfl,rfl⟩,λ_ _=>rfl,⟨e,rfl⟩⟩⟩
noncomputable instance:Nonempty Ja:=⟨bB default (EV inferInstance)⟩
noncomputable instance:Nonempty V:=⟨.none⟩
noncomputable instance:Nonempty Drawn:=⟨{}⟩
noncomputable instance:Nonempty oN:=⟨⟨0,0,0,0,none⟩⟩
noncomputable instance:Nonempty cA:=⟨.list []⟩
noncomputable instance:Nonempty PK:=⟨.i 0⟩
noncomputable instance:Nonempty aj:=⟨{}⟩
noncomputable instance:Nonempty PySem.Around:=by constructor;constructor<;>exact default
inductive T2(α β:Type):Type |mk (a:α) (b:β)
inductive D2(α:Type)(Q:α->Prop):Type |mk (w:α) (h:Q w)
theorem T2.ne{α β:Type}(a:Nonempty α)(b:Nonempty β):Nonempty (T2 α β):=a.elim λx=>b.elim λy=>⟨.mk x y⟩
theorem lW{α:Type}(ne:Nonempty α)(P:α->Prop):∃w,P w->∀x,P x:=by
 by_cases h:∀x,P x
 ·exact ne.elim λx=>⟨x,λ_=>h⟩
 ·exact(oH.mp h).elim λx hx=>⟨x,λq=>absurd q hx⟩
noncomputable def V8{α:Type}(ne:Nonempty α)(P:α->Prop):α:=Classical.choose (lW ne P)
theorem V8.all{α:Type}{ne:Nonempty α}{P:α->Prop}(h:P (V8 ne P))(x:α):P x:=Classical.choose_spec (lW ne P) h x
noncomputable def D2.f{α:Type}{Q:α->Prop}{R:Prop}(R':Prop)(d:D2 α λw=>Q w->R)(g:R->R'):D2 α λw=>Q w->R':=.mk d.1 λq=>g (d.2 q)
variable {a b c d e f g h i j k l m n o p:Type}{A:Nonempty a}{B:Nonempty b}{C:Nonempty c}{D:Nonempty d}{E:Nonempty e}{F:Nonempty f}{G:Nonempty g}{H:Nonempty h}{I:Nonempty i}{J:Nonempty j}{K:Nonempty k}{L:Nonempty l}{M:Nonempty m}{N:Nonempty n}{O:Nonempty o}{P:Nonempty p}
noncomputable def K1(χ:a->Prop):D2 a λw=>χ w->∀x,χ x:=.mk (V8 A χ) V8.all
noncomputable def K2(χ:a->b->Prop):=(@K1 _ (T2.ne A B) λ(a:T2 a b)=>χ a.1 a.2).f (∀a b,χ a b) λχ a b=>χ (.mk a b)
noncomputable def K3(χ:a->b->c->Prop):=(@K2 _ _ A (T2.ne B C) λa(b:T2 b c)=>χ a b.1 b.2).f (∀a b c,χ a b c) λχ a b c=>χ a (.mk b c)
noncomputable def K4(χ:a->b->c->d->Prop):=(@K3 _ _ _ A B (T2.ne C D) λa b(c:T2 c d)=>χ a b c.1 c.2).f (∀a b c d,χ a b c d) λχ a b c d=>χ a b (.mk c d)
noncomputable def K5(χ:a->b->c->d->e->Prop):=(@K4 _ _ _ _ A B C (T2.ne D E) λa b c(d:T2 d e)=>χ a b c d.1 d.2).f (∀a b c d e,χ a b c d e) λχ a b c d e=>χ a b c (.mk d e)
noncomputable def K6(χ:a->b->c->d->e->f->Prop):=(@K5 _ _ _ _ _ A B C D (T2.ne E F) λa b c d(e:T2 e f)=>χ a b c d e.1 e.2).f (∀a b c d e f,χ a b c d e f) λχ a b c d e f=>χ a b c d (.mk e f)
noncomputable def K7(χ:a->b->c->d->e->f->g->Prop):=(@K6 _ _ _ _ _ _ A B C D E (T2.ne F G) λa b c d e(f:T2 f g)=>χ a b c d e f.1 f.2).f (∀a b c d e f g,χ a b c d e f g) λχ a b c d e f g=>χ a b c d e (.mk f g)
noncomputable def K8(χ:a->b->c->d->e->f->g->h->Prop):=(@K7 _ _ _ _ _ _ _ A B C D E F (T2.ne G H) λa b c d e f(g:T2 g h)=>χ a b c d e f g.1 g.2).f (∀a b c d e f g h,χ a b c d e f g h) λχ a b c d e f g h=>χ a b c d e f (.mk g h)
noncomputable def K9(χ:a->b->c->d->e->f->g->h->i->Prop):=(@K8 _ _ _ _ _ _ _ _ A B C D E F G (T2.ne H I) λa b c d e f g(h:T2 h i)=>χ a b c d e f g h.1 h.2).f (∀a b c d e f g h i,χ a b c d e f g h i) λχ a b c d e f g h i=>χ a b c d e f g (.mk h i)
noncomputable def K10(χ:a->b->c->d->e->f->g->h->i->j->Prop):=(@K9 _ _ _ _ _ _ _ _ _ A B C D E F G H (T2.ne I J) λa b c d e f g h(i:T2 i j)=>χ a b c d e f g h i.1 i.2).f (∀a b c d e f g h i j,χ a b c d e f g h i j) λχ a b c d e f g h i j=>χ a b c d e f g h (.mk i j)
noncomputable def K11(χ:a->b->c->d->e->f->g->h->i->j->k->Prop):=(@K10 _ _ _ _ _ _ _ _ _ _ A B C D E F G H I (T2.ne J K) λa b c d e f g h i(j:T2 j k)=>χ a b c d e f g h i j.1 j.2).f (∀a b c d e f g h i j k,χ a b c d e f g h i j k) λχ a b c d e f g h i j k=>χ a b c d e f g h i (.mk j k)
noncomputable def K12(χ:a->b->c->d->e->f->g->h->i->j->k->l->Prop):=(@K11 _ _ _ _ _ _ _ _ _ _ _ A B C D E F G H I J (T2.ne K L) λa b c d e f g h i j(k:T2 k l)=>χ a b c d e f g h i j k.1 k.2).f (∀a b c d e f g h i j k l,χ a b c d e f g h i j k l) λχ a b c d e f g h i j k l=>χ a b c d e f g h i j (.mk k l)
noncomputable def K13(χ:a->b->c->d->e->f->g->h->i->j->k->l->m->Prop):=(@K12 _ _ _ _ _ _ _ _ _ _ _ _ A B C D E F G H I J K (T2.ne L M) λa b c d e f g h i j k(l:T2 l m)=>χ a b c d e f g h i j k l.1 l.2).f (∀a b c d e f g h i j k l m,χ a b c d e f g h i j k l m) λχ a b c d e f g h i j k l m=>χ a b c d e f g h i j k (.mk l m)
noncomputable def K14(χ:a->b->c->d->e->f->g->h->i->j->k->l->m->n->Prop):=(@K13 _ _ _ _ _ _ _ _ _ _ _ _ _ A B C D E F G H I J K L (T2.ne M N) λa b c d e f g h i j k l(m:T2 m n)=>χ a b c d e f g h i j k l m.1 m.2).f (∀a b c d e f g h i j k l m n,χ a b c d e f g h i j k l m n) λχ a b c d e f g h i j k l m n=>χ a b c d e f g h i j k l (.mk m n)
noncomputable def K15(χ:a->b->c->d->e->f->g->h->i->j->k->l->m->n->o->Prop):=(@K14 _ _ _ _ _ _ _ _ _ _ _ _ _ _ A B C D E F G H I J K L M (T2.ne N O) λa b c d e f g h i j k l m(n:T2 n o)=>χ a b c d e f g h i j k l m n.1 n.2).f (∀a b c d e f g h i j k l m n o,χ a b c d e f g h i j k l m n o) λχ a b c d e f g h i j k l m n o=>χ a b c d e f g h i j k l m (.mk n o)
noncomputable def K16(χ:a->b->c->d->e->f->g->h->i->j->k->l->m->n->o->p->Prop):=(@K15 _ _ _ _ _ _ _ _ _ _ _ _ _ _ _ A B C D E F G H I J K L M N (T2.ne O P) λa b c d e f g h i j k l m n(o:T2 o p)=>χ a b c d e f g h i j k l m n o.1 o.2).f (∀a b c d e f g h i j k l m n o p,χ a b c d e f g h i j k l m n o p) λχ a b c d e f g h i j k l m n o p=>χ a b c d e f g h i j k l m n (.mk o p)
end
section
set_option genSizeOfSpec false
set_option genInjectivity true in
inductive Fl where
 |next
 |brk
 |cont
 |ret (v:V)
noncomputable instance:Nonempty Fl:=⟨.next⟩
inductive FI(h:cg)(N:aL):Flow->Fl->Prop
 |next:FI h N .next .next
 |brk:FI h N .brk .brk
 |cont:FI h N .cont .cont
 |ret {v:al} {x:V}:VI h N v x->FI h N (.ret v) (.ret x)
noncomputable abbrev KV:=V->aL->Prop
noncomputable abbrev ve:=List V->aL->Prop
noncomputable abbrev KB:=Bool->aL->Prop
noncomputable abbrev KS:=Fl->cf->aL->Prop
noncomputable abbrev Nh:=List V->(aL->Prop)->aL->Prop
noncomputable def gS:Nat:=100000
noncomputable def hU(K:tc)(f:al):Prop:=match f with
 |.ref _=>xg K f=true
 |.builtin _=>True
 |.type _=>True
 |_=>False
inductive End(F:aL->aL)(Γ:Cx)(N:aL)(h:cg)(k:KV)(v:al)(s':aj):Prop
 |mk (x:V) (N':aL) (hv:VI s'.heap (F N') v x) (hr:bS Γ (F N') s') (he:cl N h N' s'.heap) (hk:k x N')
noncomputable abbrev ju:al->aj->Prop:=λ_ _=>False
noncomputable def aV(Γ:Cx)(n:Nat)(f:al)(args:List V)(N:aL)(k:KV):Prop:=
 hU Γ.K f/\∀A,Lv n A->∀(L:ax->Bool)s,(∀a,L a=true->N a=none)->bS Γ (hide L N) s->∀vs,ch s.heap (hide L N) vs args->
  am Γ.M A (oI f vs []) (End (hide L) Γ N s.heap k) ju s
mutual
noncomputable def V.r5:V->Bool
 |.none=>true
 |.int _=>true
 |.str x=>ow x
 |.tup xs=>V.fw xs
 |.lst xs=>V.fw xs
 |_=>false
noncomputable def V.fw:List V->Bool
 | []=>true
 |x::xs=>V.r5 x&&V.fw xs
end
mutual
noncomputable def V.dep:V->Nat
 |.tup xs=>V.jB xs+1
 |.lst xs=>V.jB xs+1
 |_=>0
noncomputable def V.jB:List V->Nat
 | []=>0
 |x::xs=>max (V.dep x) (V.jB xs)
end
noncomputable def d9(N:aL):V->Option (List V)
 |.lst xs=>some xs
 |.ref a=>match N a with
  |some (.list xs)=>some xs
  |_=>none
 |_=>none
noncomputable def Pl:V->Option (List V)
 |.tup xs=>some xs
 |_=>none
noncomputable def oV(N:aL)(v:V):Option (List V):=(Pl v).or (d9 N v)
noncomputable def ri:V->Option PK
 |.int i=>some (.i i)
 |.str x=>some (.s x)
 |_=>none
noncomputable def oe:List V->Option (List PK)
 | []=>some []
 |x::xs=>match ri x,oe xs with
  |some k,some ks=>some (k::ks)
  |_,_=>none
noncomputable def AF:V->Option (List PK)
 |.tup xs=>oe xs
 |_=>none
noncomputable def PK.v:PK->V
 |.i n=>.int n
 |.s x=>.str x
noncomputable def small(i:Int):Prop:=-4611686018427387904<i/\i<4611686018427387904
noncomputable def ee(K:tc)(x:Str):Option al:=match nsIn K dN x with
 |some (some v)=>some v
 |some none=>if x=("__name__":Str) then none else bootBuiltins x
 |none=>none
noncomputable abbrev Tr(c:Bool)(P:Prop):Prop:=c=true↔P
inductive jg(N:aL):Operator->V->V->V->Prop
 |vN {x y:Int}:jg N .Add (.int x) (.int y) (.int (x+y))
 |vO {x y:Int}:jg N .Sub (.int x) (.int y) (.int (x-y))
 |Ni {x y:Int} (h:small x):jg N .Mult (.int x) (.int y) (.int (x*y))
 |Nj {x y:Int} (h:0<y):jg N .Mod (.int x) (.int y) (.int (x % y))
 |Ta {x y:Int} (h:0<y) (h2:y<1000000):jg N .FloorDiv (.int x) (.int y) (.int (x / y))
 |xy {x y:Str} (h:x.length+y.length<=1000):jg N .Add (.str x) (.str y) (.str (x++y))
 |C9 {xs ys:List V} (h:xs.length+ys.length<=gS):jg N .Add (.tup xs) (.tup ys) (.tup (xs++ys))
 |bC {a b:V} {xs ys:List V} (ha:d9 N a=some xs) (hb:d9 N b=some ys) (h:xs.length+ys.length<=gS):jg N .Add a b (.lst (xs++ys))
noncomputable def uc(a b:List V):Prop:=V.fw a=true/\V.fw b=true/\V.jB a<=150
inductive dA(N:aL):CmpOp->V->V->Bool->Prop
 |W0 {c:Bool} {x y:Int} (h:Tr c (x=y)):dA N .Eq (.int x) (.int y) c
 |W1 {c:Bool} {x y:Int} (h:Tr c (x≠y)):dA N .NotEq (.int x) (.int y) c
 |ltI {c:Bool} {x y:Int} (h:Tr c (x<y)):dA N .Lt (.int x) (.int y) c
 |Sk {c:Bool} {x y:Int} (h:Tr c (x<=y)):dA N .LtE (.int x) (.int y) c
 |W2 {c:Bool} {x y:Int} (h:Tr c (y<x)):dA N .Gt (.int x) (.int y) c
 |Tc {c:Bool} {x y:Str} (h:Tr c (x=y)):dA N .Eq (.str x) (.str y) c
 |ZP {c:Bool} {x y:Str} (h:Tr c (x≠y)):dA N .NotEq (.str x) (.str y) c
 |ZQ {x y:Str} (h:x.length=1):dA N .In (.str x) (.str y) (y.cps.toList.contains (x.cps.getD 0 0))
 |ZR:dA N .Is .none .none true
 |ZS {xs:List V}:dA N .Is (.tup xs) .none false
 |inP {c:Bool} {x:V} {d:ax} {kvs:List (PK×V)} {ep:Nat} {q:PK} (h:N d=some (.dp kvs ep)) (hq:ri x=some q) (hc:Tr c (q∈kvs.map (·.1))):dA N .In x (.ref d) c
 |W3 {c:Bool} {x:V} {d:ax} {kvs:List (PK×V)} {ep:Nat} {q:PK} (h:N d=some (.dp kvs ep)) (hq:ri x=some q) (hc:Tr c (q∉kvs.map (·.1))):dA N .NotIn x (.ref d) c
 |inD {c:Bool} {x:V} {d:ax} {kvs:List (List PK×V)} {q:List PK} (h:N d=some (.dt kvs)) (hq:AF x=some q) (hc:Tr c (q∈kvs.map (·.1))):dA N .In x (.ref d) c
 |ZT {c:Bool} {x l:V} {xs:List V} (h:d9 N l=some xs) (h1:V.r5 x=true) (h2:V.fw xs=true) (h3:V.dep x<=150) (hc:Tr c (x∈xs)):dA N .In x l c
 |Td {c:Bool} {x l:V} {xs:List V} (h:d9 N l=some xs) (h1:V.r5 x=true) (h2:V.fw xs=true) (h3:V.dep x<=150) (hc:Tr c (x∉xs)):dA N .NotIn x l c
 |eqT {c:Bool} {xs ys:List V} (h:uc xs ys) (hc:Tr c (xs=ys)):dA N .Eq (.tup xs) (.tup ys) c
 |W4 {c:Bool} {a b:V} {xs ys:List V} (ha:d9 N a=some xs) (hb:d9 N b=some ys) (h:uc xs ys) (hc:Tr c (xs=ys)):dA N .Eq a b c
 |Te {c:Bool} {a b:V} {xs ys:List V} (ha:d9 N a=some xs) (hb:d9 N b=some ys) (h:uc xs ys) (hc:Tr c (xs≠ys)):dA N .NotEq a b c
noncomputable def dT{α β:Type}[DecidableEq α](kvs:List (α×β))(q:α):Option β:=(kvs.find? λp=>decide (p.1=q)).map (·.2)
noncomputable def dG{α β:Type}[DecidableEq α](kvs:List (α×β))(q:α)(v:β):List (α×β):=if kvs.any (λp=>decide (p.1=q)) then kvs.map (λp=>if p.1=q then(p.1,v) else p) else kvs++[(q,v)]
inductive gy(N:aL):V->V->V->Prop
 |str {x:Str} {j:Nat} (h:j<x.length) (hb:j<1000000):gy N (.str x) (.int (j:Int)) (.str ⟨#[x.cps.getD j 0]⟩)
 |lst {o x:V} {xs:List V} {j:Nat} (h:d9 N o=some xs) (hx:xs[j]?=some x) (hb:j<1000000):gy N o (.int (j:Int)) x
 |tup {x:V} {xs:List V} {j:Nat} (hx:xs[j]?=some x) (hb:j<1000000:=by decide):gy N (.tup xs) (.int (j:Int)) x
 |dp {d:ax} {i x:V} {kvs:List (PK×V)} {ep:Nat} {q:PK} (h:N d=some (.dp kvs ep)) (hq:ri i=some q) (hx:dT kvs q=some x):gy N (.ref d) i x
 |dt {d:ax} {i x:V} {kvs:List (List PK×V)} {q:List PK} (h:N d=some (.dt kvs)) (hq:AF i=some q) (hx:dT kvs q=some x):gy N (.ref d) i x
inductive jC(N:aL):ax->V->V->(aL->Prop)->Prop
 |lst {d:ax} {xs:List V} {j:Nat} {x:V} (h:N d=some (.list xs)) (hl:j<xs.length) (hb:j<1000000):jC N d (.int (j:Int)) x (· =N.put d (.list (xs.set j x)))
 |W5 {d:ax} {i x:V} {kvs:List (PK×V)} {ep:Nat} {q:PK} (h:N d=some (.dp kvs ep)) (hq:ri i=some q) (hl:kvs.length<=gS) (he:q∈kvs.map (·.1)):jC N d i x (· =N.put d (.dp (dG kvs q x) ep))
 |Tf {d:ax} {i x:V} {kvs:List (PK×V)} {ep:Nat} {q:PK} {K:aL->Prop} (h:N d=some (.dp kvs ep)) (hq:ri i=some q) (hl:kvs.length<=gS) (hk:∀iz,K (N.put d (.dp (dG kvs q x) iz))):jC N d i x K
 |dt {d:ax} {i x:V} {kvs:List (List PK×V)} {q:List PK} (h:N d=some (.dt kvs)) (hq:AF i=some q) (hl:kvs.length<=gS):jC N d i x (· =N.put d (.dt (dG kvs q x)))
inductive lb(N:aL):V->Option V->Option V->V->Prop
 |y4 {xs:List V} {a:Nat} (h1:1<=a) (h2:a<=xs.length) (h:xs.length<=gS):lb N (.tup xs) (some (.int (a:Int))) none (.tup (xs.drop a))
 |Tg {o:V} {xs:List V} {a:Nat} (ho:d9 N o=some xs) (h:xs.length<=gS):lb N o (some (.int (a:Int))) none (.lst (xs.drop a))
 |Th {xs:List V} {a:Nat} (h1:1<=a) (h2:a<=xs.length) (h:xs.length<=gS):lb N (.tup xs) none (some (.int (a:Int))) (.tup (xs.take a))
 |GJ {o:V} {xs:List V} {a:Nat} (ho:d9 N o=some xs) (h:xs.length<=gS):lb N o none (some (.int (a:Int))) (.lst (xs.take a))
inductive nx(N:aL):V->List V->(aL->Prop)->Prop
 |tup {xs:List V}:nx N (.tup xs) xs (λ_=>True)
 |lst {xs:List V}:nx N (.lst xs) xs (λ_=>True)
 |str {x:Str} (h:x.cps.all (· <128)=true):nx N (.str x) (x.cps.toList.map λc=>.str ⟨#[c]⟩) (λ_=>True)
 |ref {a:ax} {xs:List V} (h:N a=some (.list xs)):nx N (.ref a) xs (λN'=>N' a=some (.list xs))
 |keys {a:ax} {kvs:List (PK×V)} {ep:Nat} (h:N a=some (.dp kvs ep)):nx N (.ref a) (kvs.map λp=>p.1.v) (λN'=>∃xz,N' a=some (.dp xz ep)/\xz.map (·.1)=kvs.map (·.1))
inductive rj(N:aL):V->List V->(aL->Prop)->Prop
 |tup {xs:List V}:rj N (.tup xs) xs (λ_=>True)
 |lst {xs:List V}:rj N (.lst xs) xs (λ_=>True)
 |ref {a:ax} {xs:List V} (h:N a=some (.list xs)):rj N (.ref a) xs (λN'=>N' a=some (.list xs))
inductive uS(N:aL):V->Str->String->Prop
 |isspace {x:Str}:uS N (.str x) "isspace" "str.isspace"
 |append {a:ax} {xs:List V} (h:N a=some (.list xs)):uS N (.ref a) "append" "list.append"
 |extend {a:ax} {xs:List V} (h:N a=some (.list xs)):uS N (.ref a) "extend" "list.extend"
 |pop {a:ax} {xs:List V} (h:N a=some (.list xs)):uS N (.ref a) "pop" "list.pop"
 |get {a:ax} {kvs:List (PK×V)} {ep:Nat} (h:N a=some (.dp kvs ep)):uS N (.ref a) "get" "dict.get"
 |W6 {a:ax} {kvs:List (List PK×V)} (h:N a=some (.dt kvs)):uS N (.ref a) "get" "dict.get"
 |rl {a:ax} {kvs:List (List PK×V)} (h:N a=some (.dt kvs)):uS N (.ref a) "setdefault" "dict.setdefault"
 |Ti {a:ax} {kvs:List (PK×V)} {ep:Nat} (h:N a=some (.dp kvs ep)):uS N (.ref a) "pop" "dict.pop"
noncomputable def cM(K:tc)(C:ax)(name:Str):Prop:=cR K (.ref C) name=some none
noncomputable def lc(K:tc)(C:ax):Prop:=
 cR K (.ref C) "__getattribute__"=some (some (.builtin "object.__getattribute__"))/\
 cR K (.ref C) "__getattr__"=some none/\cR K (.ref C) "__setattr__"=some (some (.builtin "object.__setattr__"))/\
 (clsIn K C).any (·.hasDict)=true/\plainOver K C=true
noncomputable def V.GK:V->Bool
 |.raw _=>false
 |_=>true
structure vP(K:tc)(N:aL)(C dx:ax)(name:Str)(x:V):Prop where
 c:lc K C
 a:cM K C name
 n:x.GK=true
 h:∃ρ m,N dx=some (.at ρ m)/\ρ name=some x
structure y5(K:tc)(N:aL)(C dx:ax)(name:Str)(f:ax):Prop where
 c:lc K C
 m:cR K (.ref C) name=some (some (.ref f))
 i:kT K (.ref f)=true
 h:∃ρ m,N dx=some (.at ρ m)/\ρ name=none
structure y6(K:tc)(N:aL)(C dx:ax)(name:Str)(ρ:cf)(m:Nat):Prop where
 c:lc K C
 a:cM K C name
 h:N dx=some (.at ρ m)
 l:m<100
noncomputable def mO:Expr->Bool
 |.Call (.Name _ _) [] [] _=>false
 |_=>true
noncomputable def gT(e:Expr):Bool:=e.ctorIdx==22
noncomputable def iU(es:List Expr):Bool:=es.all λe=>!gT e
noncomputable def j7(e:Expr):Bool:=e.ctorIdx==25
noncomputable def MJ(e:Expr):Bool:=e.ctorIdx==7
noncomputable def mB:Expr->Option Str
 |.Name x _=>some x
 |_=>none
noncomputable def namesOf:List Expr->Option (List Str)
 | []=>some []
 |t::ts=>(mB t).bind λx=>(namesOf ts).bind λys=>some (x::ys)
noncomputable def c9(st:aL->Prop)(f:V->aL->ve->Prop):List V->List V->aL->ve->Prop
 | [],acc,N,k=>acc.length<=gS/\st N/\k acc N
 |x::xs,acc,N,k=>acc.length<=gS/\st N/\f x N λvs N'=>c9 st f xs (acc++vs) N' k
noncomputable def hV(st:aL->Prop)(f:V->cf->aL->KS->Prop):List V->cf->aL->KS->Prop
 | [],ρ,N,K=>st N/\K .next ρ N
 |x::xs,ρ,N,K=>st N/\f x ρ N λfl ρ' N'=>match fl with
  |.next |.cont=>hV st f xs ρ' N' K
  |.brk=>K .next ρ' N'
  |.ret v=>K (.ret v) ρ' N'
noncomputable def eN:List Str->List V->cf->cf
 |x::xs,v::vs,ρ=>eN xs vs (ρ.set x v)
 |_,_,ρ=>ρ
noncomputable def fM(sc:List (Str×bj))(t:Expr)(v:V)(ρ:cf)(N:aL)(k:cf->Prop):Prop:=
 ((∃x p,t=.Name x p/\(sc.lookup x=some .local\/sc.lookup x=some .cell)/\k (ρ.set x v))\/
 ∃ts m p xs vs,t=.Tuple ts m p/\namesOf ts=some xs/\oV N v=some vs/\xs.length=vs.length/\(∀x∈xs,sc.lookup x=some .local\/sc.lookup x=some .cell)/\k (eN xs vs ρ))
noncomputable def Ab(t:Expr)(ρ:cf):Prop:=(∀x p,t=.Name x p->ρ x=none)/\∀ts m p xs,t=.Tuple ts m p->namesOf ts=some xs->∀x∈xs,ρ x=none
noncomputable def gd(sc:List (Str×bj))(ρ:cf):cf:=λx=>if sc.lookup x=some .local then none else ρ x
noncomputable def iR(scope:mJ)(sc:List (Str×bj)):Bool:=
 scope.kind==.function&&scope.names.all (λp=>p.2==.local||p.2==.globalImplicit||(p.2==.free&&sc.lookup p.1==some .cell))&&
 decide (scope.names.map (·.1)).Nodup&&!(scope.names.any λp=>p.1==("__debug__":Str)||p.1==("__classdict__":Str))
structure fe(env:Env)(sc:List (Str×bj)):Prop where
 dbg:sc.lookup ("__debug__":Str)=none
 cd:sc.lookup ("__classdict__":Str)=none
 loc:∀x,sc.lookup x=some .local->env.kindOf x=some .local/\∀p∈env.cells,p.1≠x
 cell:∀x,sc.lookup x=some .cell->env.kindOf x=some .cell/\∃c,env.cells.lookup x=some c
 free:∀x,sc.lookup x=some .free->(env.kindOf x=some .cell\/env.kindOf x=some .free)/\∃c,env.cells.lookup x=some c
 glob:∀x,sc.lookup x=some .globalImplicit->env.kindOf x=some .globalImplicit
noncomputable abbrev EP(Γ:Cx)(env:Env)(ρ:cf)(L:ax->Bool)(N:aL)(s:aj)(k:KV):al->aj->Prop:=End (full env ρ L) Γ N s.heap k
noncomputable def TE(Γ:Cx)(n:Nat)(sc:List (Str×bj))(e:Expr)(ρ:cf)(N:aL)(k:KV):Prop:=∀{A},Lv n A->∀{env L s},fe env sc->fu env L N->bS Γ (full env ρ L N) s->am Γ.M A (eval e env) (EP Γ env ρ L N s k) ju s
end
section
theorem cy{α:Type}{x:α}{P:Prop}(h:none=some x):P:=nomatch h
theorem pS{α:Type}{x:α}{P:Prop}(h:some x=none):P:=nomatch h
theorem iB{P:Prop}(h:false=true):P:=nomatch h
theorem lX{P:Prop}(h:true=false):P:=nomatch h
section
variable {h:cg} {M:aL} {v:al} {d:V}
noncomputable def VI.Out(h:cg)(M:aL)(v:al)(d:V):Prop:=V.casesOn (motive_1:=λ_=>Prop) d (v=.none) (λb=>v=.bool b) (λi=>∃t,v=.int i t) (λi=>∃t,v=.str i t)
  (λxs=>∃a vs n,v=.ref a/\h.get? a=some (kK (bp vs) n)/\M a=Option.none/\ch h M vs xs) (λxs=>∃a vs n,v=.ref a/\h.get? a=some (listOf (bp vs) n)/\M a=Option.none/\ch h M vs xs)
  (λb xs=>∃a es n t,v=.ref a/\h.get? a=some {cls:=.type "set",data:=.set (bp es) n t}/\M a=Option.none/\(t.fits es.length=true/\j9 t.place=true)/\t.led=b/\ch h M (es.map (·.2)) xs)
  (λa C dx=>v=.ref a/\h.get? a=some (ii C dx)/\M a=Option.none) (λa=>v=.ref a) (λu=>v=u)
theorem VI.out(x:VI h M v d):VI.Out h M v d:=
 x.ind (P:=VI.Out h M) rfl (λ_=>rfl) (λ_ t=>⟨t,rfl⟩) (λ_ t=>⟨t,rfl⟩) (λe n r _=>⟨_,_,_,rfl,e,n,r⟩) (λe n r _=>⟨_,_,_,rfl,e,n,r⟩)
  (λe n f g r _=>⟨_,_,_,_,rfl,e,n,f,g,r⟩) (λe n=>⟨rfl,e,n⟩) (λ_=>rfl) (λ_=>rfl)
theorem VI.none_inv(x:VI h M v .none):v=.none:=x.out
theorem VI.bool_inv(x:VI h M v (.bool b)):v=.bool b:=x.out
theorem VI.int_inv(x:VI h M v (.int i)):∃t,v=.int i t:=x.out
theorem VI.str_inv(x:VI h M v (.str i)):∃t,v=.str i t:=x.out
theorem VI.lst_inv(x:VI h M v (.lst xs)):∃a vs n,v=.ref a/\h.get? a=some (listOf (bp vs) n)/\M a=Option.none/\ch h M vs xs:=x.out
theorem VI.kN(x:VI h M v (.ref a)):v=.ref a:=x.out
theorem VI.Nk(x:VI h M v (.raw u)):v=u:=x.out
theorem VI.Fg(x:VI h M v (.tup xs)):∃a vs n,v=.ref a/\h.get? a=some (kK (bp vs) n)/\M a=Option.none/\ch h M vs xs:=x.out
theorem VI.Fh(x:VI h M v (.obj a C dx)):v=.ref a/\h.get? a=some (ii C dx)/\M a=Option.none:=x.out
variable {P:al->Prop}
@[elab_as_elim] theorem VI.Js(x:VI h M v .none)(k:P .none):P v:=x.none_inv▸k
@[elab_as_elim] theorem VI.Jt(x:VI h M v (.bool b))(k:P (.bool b)):P v:=x.bool_inv▸k
@[elab_as_elim] theorem VI.sh(x:VI h M v (.ref a))(k:P (.ref a)):P v:=x.kN▸k
@[elab_as_elim] theorem VI.fX(x:VI h M v (.int i))(k:∀t,P (.int i t)):P v:=bz x.int_inv λt e=>e▸k t
@[elab_as_elim] theorem VI.oB(x:VI h M v (.str i))(k:∀t,P (.str i t)):P v:=bz x.str_inv λt e=>e▸k t
@[elab_as_elim] theorem VI.ny(x:VI h M v (.tup xs))(k:∀a vs n,h.get? a=some (kK (bp vs) n)->M a=Option.none->ch h M vs xs->P (.ref a)):P v:=rh x.Fg λa vs n e f g i=>e▸k a vs n f g i
@[elab_as_elim] theorem VI.GL(x:VI h M v (.lst xs))(k:∀a vs n,h.get? a=some (listOf (bp vs) n)->M a=Option.none->ch h M vs xs->P (.ref a)):P v:=rh x.lst_inv λa vs n e f g i=>e▸k a vs n f g i
@[elab_as_elim] theorem VI.Tj(x:VI h M v (.obj a C dx))(k:h.get? a=some (ii C dx)->M a=Option.none->P (.ref a)):P v:=ez x.Fh λe f g=>e▸k f g
end
theorem fe.ne(S:fe env sc)(h:sc.lookup x=some k):(x==("__debug__":Str))=false:=by
 cases e:x==("__debug__":Str) with
 |false=>rfl
 |true=>rw[beq_iff_eq.mp e,S.dbg]at h;cases h
theorem fe.ne2(S:fe env sc)(h:sc.lookup x=some k):(x==("__classdict__":Str))=false:=by
 cases e:x==("__classdict__":Str) with
 |false=>rfl
 |true=>rw[beq_iff_eq.mp e,S.cd]at h;cases h
section
variable {Γ:Cx} {A:bW} {E:al->aj->Prop} {s:aj} {env:Env} {ρ:cf} {N:aL} {sc:List (Str×bj)} {L:ax->Bool}
theorem Nl(S:fe env sc)(F:fu env L N)(R:bS Γ (full env ρ L N) s){x:Str}{pos:Pos}{kd:bj}{val:V}(hl:sc.lookup x=some kd)(hk:kd=.local\/kd=.cell\/kd=.free)(hr:ρ x=some val):
  ∃v,VI s.heap (full env ρ L N) v val/\∀Q:al->aj->Prop,Q v s->am Γ.M A (eval (.Name x pos) env) Q E s:=by
 revert S F R;exists Γ,A,E,s,env,ρ,N,sc,L,x,pos,kd,val;have AG:(∃c,env.cells.lookup x=some c)->(env.kindOf x=some .cell\/env.kindOf x=some .free)->∃v,VI s.heap (full env ρ L N) v val/\∀Q:al->aj->Prop,Q v s->am Γ.M A (eval (.Name x pos) env) Q E s:=by
  intro⟨c,hc⟩ hk;refine aI (R.obj _ _ (tq (ρ:=ρ) F (mem_of_lookup hc))) λcv yb hv=>?_;refine aI (hv val hr) λv aT np=>?_;obtain rfl:=aT;refine⟨v,np,λQ q=>wpAny_Name ?_ (S.ne hl)⟩;rcases hk with hk |hk
  ·exact wpAny_loadName_cell F.kind hk hc yb q
  ·exact wpAny_loadName_free F.kind hk hc yb q (S.ne2 hl)
 rcases hk with rfl |rfl |rfl
 ·have hk:=(S.loc x hl).1;refine aI (R.obj _ _ (oU)) λm hn hm=>?_;refine aI (hm x val (by show(if env.kindOf x=some .local then ρ x else none)=some val;erw[if_pos hk];exact hr)) λv hv np=>?_;exact⟨v,np,λQ q=>wpAny_Name (wpAny_loadName_local F.kind hk hn hv q) (S.ne hl)⟩
 ·exact AG (S.cell x hl).2 (.inl (S.cell x hl).1)
 ·exact AG (S.free x hl).2 (S.free x hl).1
set_option tactic.hygienic true in
theorem Fi(S:fe env sc)(F:fu env L N)(R:bS Γ (full env ρ L N) s)(hl:sc.lookup x=some .globalImplicit)(hg:ee Γ.K x=some v){Q:al->aj->Prop}(q:Q v s):am Γ.M A (eval (.Name x pos) env) Q E s:=by
 have hx:=S.glob x hl;unfold ee at hg;split at hg
 ·rename_i u e;cases hg;exact Name_function_global F.kind hx (loadGlobal_global (by erw[F.glob];exact Γ.g.keeps R.base) (mg_of Γ.X Γ.g e) q) (S.ne hl)
 ·rename_i e;split at hg
  ·cases hg
  rename_i hn;exact Name_function_global F.kind hx (loadGlobal_builtin (by erw[F.glob];exact Γ.g.keeps R.base) (mg_none_of Γ.X Γ.g e) (by erw[F.AC];exact Γ.b.keeps R.base) ((Γ.builtins x hn).trans hg) q) (S.ne hl)
 ·cases hg
noncomputable def eF(env:Env)(sc:List (Str×bj))(h h':cg):Prop:=∀b o,b≠env.locals->(∀p∈env.cells,sc.lookup p.1=some .cell->p.2≠b)->h.get? b=some o->h'.get? b=some o
theorem eF.refl(h:cg):eF env sc h h:=λ_ _ _ _ e=>e
theorem eF.trans(x:eF env sc h h')(y:eF env sc h' MO):eF env sc h MO:=λb o h1 h2 e=>y b o h1 h2 (x b o h1 h2 e)
theorem eF.keeps(x:∀b o,h.get? b=some o->h'.get? b=some o):eF env sc h h':=λb o _ _ e=>x b o e
theorem eF.own(x:eF env sc h h')(F:fu env L N):cl (Mine.own env ρ N) h (Mine.own env ρ' N) h':=λb o hb hn=>by
 refine a9 (cY.mp hn) λh1 h2=>?_;refine⟨x b o (λe=>?_) (λp hp _ e=>?_) hb,cY.mpr ⟨cr.mp h1,h2⟩⟩
 ·subst e;simp[aQ]at h1
 ·subst e;unfold aQ at h1;rw[if_neg (F.mN p hp),eL F.apart (x:=p.1) hp]at h1;cases h1
theorem yc(S:fe env sc)(F:fu env L N)(R:bS Γ (full env ρ L N) s)(hk:sc.lookup x=some .local\/sc.lookup x=some .cell)(hv:VI s.heap (full env ρ L N) v val)
  {Q:Unit->aj->Prop} (h:∀s',bS Γ (full env (ρ.set x val) L N) s'->eF env sc s.heap s'.heap->Q () s'):am Γ.M A (storeName env x v) Q E s:=by
 revert S F R hk hv;exists Γ,A,E,s,env,ρ,N,sc,L,x,v,val,Q;rcases hk with hl |hl
 ·refine a9 (S.loc x hl) λhk hc=>?_;haveI e0:=oU (L:=L) (N:=N) (ρ:=ρ) (env:=env);refine aI (R.obj _ _ e0) λm hn hm=>?_;exists m;refine wpAny_storeName_local hk hn (λh' Pm hs=>?_) (by erw[F.kind];rfl);exists h';haveI ex:cl (full env ρ L N) s.heap ((full env ρ L N).put env.locals (.ns λy=>if env.kindOf y=some .local then(ρ.set x val) y else none)) h':=cl.put e0 hs;haveI R':=bS.put (t:=s.toks+1) (mo:=.ns λy=>if env.kindOf y=some .local then(ρ.set x val) y else none) R e0 hs.extBut (by
   refine⟨_,Pm,λy d hy=>?_⟩;exists y,d;dsimp only at hy ⊢;by_cases MP:y=x
   ·subst MP;rw[if_pos hk,cf.set_same]at hy;cases hy;exact⟨v,by erw[if_pos rfl],hv.ext ex⟩
   ·rw[cf.hG MP]at hy;refine aI (hm y d hy) λu hu hi=>?_;exact⟨u,by erw[if_neg MP];exact hu,hi.ext ex⟩)
  rw[GH hk hc]at R';exact h _ R' λb o h1 h2 hb=>(hs.2 b h1).trans hb
 ·refine a9 (S.cell x hl) λhk aT=>?_;refine bz aT λc hc=>?_;exists c;clear aT;have hm:=mem_of_lookup hc;haveI e0:=tq (ρ:=ρ) F hm;refine aI (R.obj _ _ e0) λcv yb V9=>?_;exists cv;refine wpAny_storeName_cell F.kind hk hc yb λh' Nm hs=>?_;exists h';haveI ex:cl (full env ρ L N) s.heap ((full env ρ L N).put c (.cell (some val))) h':=cl.put e0 hs;haveI R':=bS.put (t:=s.toks) (mo:=.cell (some val)) R e0 hs.extBut ⟨_,Nm,λy hy=>by cases hy;exact⟨v,rfl,hv.ext ex⟩⟩;rw[GI F (by erw[hk];exactλq=>by cases q) hm]at R';exact h _ R' λb o h1 h2 hb=>(hs.2 b λe=>h2 (x,c) hm hl e.symm).trans hb
theorem lh(S:fe env sc)(F:fu env L N)(R:bS Γ (full env ρ L N) s)(hk:sc.lookup x=some .local\/sc.lookup x=some .cell)(hv:VI s.heap (full env ρ L N) v val)
  {Q:Unit->aj->Prop} (h:∀s',bS Γ (full env (ρ.set x val) L N) s'->eF env sc s.heap s'.heap->Q () s'):am Γ.M A (kq (.Name x pos) env v) Q E s:=
 wpAny_assign_Name (yc S F R hk hv h)
theorem AH(S:fe env sc)(F:fu env L N)(hl:xs.length=ds.length)(hp:ps.length=xs.length)
  (hk:∀x∈xs,sc.lookup x=some .local\/sc.lookup x=some .cell) (R:bS Γ (full env ρ L N) s) (hv:ch s.heap (full env ρ L N) vs ds)
  {Q:Unit->aj->Prop} (h:∀s',bS Γ (full env (eN xs ds ρ) L N) s'->eF env sc s.heap s'.heap->Q () s'):
   am Γ.M A (lI ((xs.zip ps).map λp=>kq (.Name p.1 p.2) env) vs) Q E s:=by
 induction xs generalizing ps vs ds ρ s with
 |nil=>
  cases ds with
  |nil=>exact hv.n2 (P:=λvs=>am Γ.M A (lI [] vs) Q E s) (ah (h s R (eF.refl _)))
  |cons d ds=>exact nomatch hl
 |cons x xs ih=>
  cases ds with
  |nil=>exact nomatch hl
  |cons d ds=>
   cases ps with
   |nil=>exact nomatch hp
   |cons p ps=>refine hv.c2 (P:=λvs=>am Γ.M A (lI (kq (.Name x p) env::((xs.zip ps).map λp=>kq (.Name p.1 p.2) env)) vs) Q E s) λhv hr=>af (aZ (lh S F R (hk x (.head _)) hv λs1 R1 eE=>?_));exact ih (cU hl) (cU hp) (λy hy=>hk y (.tail _ hy)) R1 (hr.ext (oT (eE.own F))) λs' R' Fj=>h s' R' (eE.trans Fj)
theorem GM{P:Option Str->Expr->Prop}(h0:∀t,P none t)(h1:∀x p,P (some x) (.Name x p))(t:Expr):P (mB t) t:=by
 cases t with
 |Name x p=>exact h1 x p
 |_=>exact h0 _
theorem tu{t:Expr}{x:Str}(h:mB t=some x):∃p,t=.Name x p:=GM (P:=λo t=>o=some x->∃p,t=.Name x p) (λ_ h=>cy h) (λy p h=>⟨p,congrArg (Expr.Name · p) (aA h)⟩) t h
theorem si(h:namesOf (t::ts)=some xs):∃x p ys,t=.Name x p/\namesOf ts=some ys/\xs=x::ys:=by refine aI (Ad.mp (show((mB t).bind λx=>(namesOf ts).bind λys=>some (x::ys))=some xs from h)) λx hx h=>?_;refine aI (Ad.mp h) λys hy h=>?_;cases h;refine bz (tu hx) λp e=>?_;exact⟨x,p,ys,e,hy,rfl⟩
theorem y7(h:namesOf ts=some xs):∃ps:List Pos,ps.length=xs.length/\ts=(xs.zip ps).map λp=>Expr.Name p.1 p.2:=by
 induction ts generalizing xs with
 |nil=>cases h;exact⟨[],rfl,rfl⟩
 |cons t ts ih=>refine yW (si h) λx p ys aT hy il=>?_;refine aI (ih hy) λps h1 h2=>?_;exact⟨p::ps,il▸congrArg Ac h1,il▸aT▸congrArg _ h2⟩
theorem tw(xs:List Str)(ps:List Pos):assignEach ((xs.zip ps).map λp=>Expr.Name p.1 p.2) env=(xs.zip ps).map λp=>(false,kq (.Name p.1 p.2) env):=by
 induction xs generalizing ps with
 |nil=>rfl
 |cons x xs ih=>
  cases ps with
  |nil=>rfl
  |cons p ps=>simp only[ma,aP];rw[<-ih ps];rfl
theorem fg(h:N a=some (.list xs)):d9 N (.ref a)=some xs:=by show(match N a with |some (.list xs)=>some xs |_=>none)=_;erw[h]
theorem y8{N:aL}{a:ax}{xs:List V}(h:d9 N (.ref a)=some xs):N a=some (.list xs):=by
 haveI h:(match N a with |some (.list xs)=>some xs |_=>none)=some xs:=h;generalize N a=o at h ⊢;cases o with
 |none=>exact cy h
 |some mo=>
  cases mo with
  |list ys=>exact congrArg (λxs=>some (cA.list xs)) (aA h)
  |_=>exact cy h
theorem Ju{M:aL}{v:al}{d:V}{ds:List V}(R:bS Γ M s)(hv:VI s.heap M v d)(hs:d9 M d=some ds):
  ∃a dy n,v=.ref a/\s.heap.get? a=some (listOf dy n)/\ch s.heap M dy.toList ds:=by
 exists Γ,s,M,v,d,ds;cases d with
 |lst xs=>cases hs;refine hv.GL λa vs n e _ r=>?_;exact⟨_,_,_,rfl,e,r⟩
 |ref a=>refine eQ (R.obj _ _ (y8 hs)) λdy n e1 r=>?_;exact⟨_,dy,n,hv.kN,e1,r⟩
 |_=>exact cy hs
@[elab_as_elim] theorem fF{P:al->Prop}(R:bS Γ M s)(hv:VI s.heap M v d)(hs:d9 M d=some ds)(k:∀a dy n,s.heap.get? a=some (listOf dy n)->ch s.heap M dy.toList ds->P (.ref a)):P v:=yW (Ju R hv hs) λa dy n e h1 h2=>e▸k a dy n h1 h2
theorem Jv(h:oV M d=some ds):d=.tup ds\/d9 M d=some ds:=by
 cases d with
 |tup xs=>cases h;exact .inl rfl
 |_=>exact .inr h
theorem Qi{M:aL}{h:cg}{v:al}{d:V}{ds:List V}(R:bS Γ M s)(hv:VI s.heap M v d)(hs:oV M d=some ds):
  ∃a dy n,v=.ref a/\(s.heap.get? a=some (kK dy n)\/s.heap.get? a=some (listOf dy n))/\ch s.heap M dy.toList ds:=by
 refine(Jv hs).elim (λe=>?_) λh=>yW (Ju R hv h) λa dy n e h1 h2=>⟨a,dy,n,e,.inr h1,h2⟩
 subst e;exact hv.ny λa vs n e _ r=>⟨_,_,_,rfl,.inl e,r⟩
theorem eW(l:∀a mo,N a=some mo->M a=some mo)(h:d9 N d=some ds):d9 M d=some ds:=by
 cases d with
 |ref a=>exact fg (l _ _ (y8 h))
 |_=>exact h
theorem vQ(l:∀a mo,N a=some mo->M a=some mo)(h:oV N d=some ds):oV M d=some ds:=by
 refine(Jv h).elim (λe=>?_) λh=>?_
 ·subst e;rfl
 ·have q:=eW l h;cases d with
  |tup=>cases q
  |_=>exact q
theorem oh{M:aL}{v:al}{d:V}{ds:List V}{m:Nat}(hh:A.handled=none)(R:bS Γ M s)(hv:VI s.heap M v d)(hs:oV M d=some ds)(hm:m=ds.length)
  {Q:List al->aj->Prop} (h:∀vs s',bS Γ M s'->(∀b o,s.heap.get? b=some o->s'.heap.get? b=some o)->ch s'.heap M vs ds->Q vs s'):am Γ.M A (unpackItems v m none) Q E s:=by
 refine yW (Qi (h:=s.heap) R hv hs) λa dy n aT ho hr=>?_;obtain rfl:=aT;haveI hlen:m=dy.size:=by rw[hm,<-hr.length];simp
 haveI fin:∀h',iC s.heap.objs.size s.heap h'->Q dy.toList {s with heap:=h'}:=λh' he=>by haveI k:∀b o,s.heap.get? b=some o->h'.get? b=some o:=λb o e=>he b o (bd (bO e)) e;exact h _ _ (R.keeps (s':={s with heap:=h'}) k) k (hr.ext (cl.keeps k))
 subst hlen;rcases ho with ho |ho
 ·exact wpAny_unpackItems_tuple hh ⟨_,ho,rfl,n,rfl⟩ fin
 ·exact kun_itemsOf hh ⟨_,ho,rfl,n,rfl⟩ fin
theorem oW(hh:A.handled=none)(S:fe env sc)(F:fu env L N)(R:bS Γ (full env ρ L N) s){k:cf->Prop}(hk:fM sc t val ρ N k)(hv:VI s.heap (full env ρ L N) v val)
  {Q:Unit->aj->Prop} (h:∀ρ' s',k ρ'->bS Γ (full env ρ' L N) s'->eF env sc s.heap s'.heap->Q () s'):am Γ.M A (kq t env v) Q E s:=by
 revert hh S F R hk hv;exists Γ,A,E,s,env,ρ,N,sc,L,t,v,val,k,Q;rcases hk with⟨x,p,rfl,hl,hk⟩ |⟨ts,m,p,xs,ds,rfl,hn,hs,hl,hx,hk⟩
 ·exact lh S F R hl hv λs' R' ex=>h _ s' hk R' ex
 ·refine aI (y7 hn) λps hp aT=>?_;obtain rfl:=aT;erw[arm_assign_Tuple];refine af (c8 ?_);unfold unpack;erw[tw];have h1:((xs.zip ps).map λp=>(false,kq (.Name p.1 p.2) env)).findIdx? (·.1)=none:=by erw[Ae];intro q hq;refine aI (ak.mp hq) λp _ aT=>?_;obtain rfl:=aT;rfl
  erw[h1];refine af (aZ (oh hh R hv (vQ (d7 F) hs) (by simp[hp,hl]) λvs s1 R1 eE pT=>?_));erw[ay];exact AH S F hl hp hx R1 pT λs' R' Fj=>h _ s' hk R' ((eF.keeps eE).trans Fj)
end
section
variable {Γ:Cx} {A:bW} {E:al->aj->Prop} {s:aj} {M N:aL} {n:Nat}
theorem vR(h:a+b<=gS):a+b<=iy:=by erw[bF];unfold gS at h;exact aR 0x1d59e7de7de7de7de7ef44205679f7a97a5dd10812 rfl h
theorem io(h:a<=gS):a<=iy:=by erw[bF];unfold gS at h;exact aR 0x1d59e7de7de7de7de7ef05679f7a97a5dc11 rfl h
theorem cl.push(h:cg)(M:aL)(o:Obj):cl M h M (h.push o):=cl.keeps λb o' e=>ai o e
theorem bS.push(R:bS Γ M s)(o:Obj)(t:Nat):bS Γ M {s with heap:=s.heap.push o,toks:=t}:=R.keeps (s':={s with heap:=s.heap.push o,toks:=t}) λb o' e=>ai o e
theorem cN(h:cg):h.get? h.objs.size=none:=by
 cases e:h.get? h.objs.size with
 |none=>rfl
 |some o=>exact absurd (bO e) (gj _)
theorem bS.fresh(R:bS Γ M s):M s.heap.objs.size=none:=R.ce (cN _)
theorem VI.vS(R:bS Γ M s)(h:ch s.heap M vs xs):VI (s.heap.push (kK vs.toArray 0)) M (.ref s.heap.objs.size) (.tup xs):=.tup (aB _ rfl) R.fresh (h.ext (cl.push _ _ _))
theorem VI.Jw(R:bS Γ M s)(h:ch s.heap M vs xs):VI (s.heap.push (listOf vs.toArray 0)) M (.ref s.heap.objs.size) (.lst xs):=.lst (aB _ rfl) R.fresh (h.ext (cl.push _ _ _))
theorem Qj(h:small x):IntMulOk x y:=.of_left (intBits_le_64 (by unfold small at h;lia) (by unfold small at h;lia))
theorem y9{Q:al->aj->Prop}(ha:s.heap.get? a=some (kK vs.toArray i))(hb:s.heap.get? b=some (kK ws.toArray j))
  (h0:vs=[]->Q (.ref b) s) (h1:vs≠[]->ws=[]->Q (.ref a) s) (h2:vs≠[]->ws≠[]->Q (.ref s.heap.objs.size) {s with heap:=s.heap.push (kK (vs++ws).toArray 0)})
  (hsz:vs.length+ws.length<=iy):am Γ.M A (binaryOp .Add (.ref a) (.ref b)) Q E s:=by
 haveI e:vs.toArray++ws.toArray=(vs++ws).toArray:=by simp
 by_cases hv:vs=[]
 ·exact xU ⟨_,ha,rfl⟩ ⟨_,hb,rfl⟩ Af IL n7 ng (mC _ _)
   (tuple_addW0 a b vs.toArray ws.toArray i j none none #[] #[] (by simp[hv])) ⟨ha,hb,h0 hv⟩
 ·by_cases hw:ws=[]
  ·exact xU ⟨_,ha,rfl⟩ ⟨_,hb,rfl⟩ Af IL n7 ng (mC _ _)
    (tuple_addW1 a b vs.toArray ws.toArray i j none none #[] #[] (by simpa using hv) (by simp[hw])) ⟨ha,hb,h1 hv hw⟩
  ·refine xU ⟨_,ha,rfl⟩ ⟨_,hb,rfl⟩ Af IL n7 ng (mC _ _)
    (tuple_addW2 a b vs.toArray ws.toArray i j none none #[] #[] (by simpa using hv) (by simpa using hw) (by erw[dI,dI];exact hsz)) ⟨ha,hb,?_⟩
   erw[e];exact h2 hv hw
theorem AI{Q:al->aj->Prop}(ha:s.heap.get? a=some (listOf dy i))(hb:s.heap.get? b=some (listOf oX j))
  (h:Q (.ref s.heap.objs.size) {s with heap:=s.heap.push (listOf (dy++oX) 0)}) (hsz:dy.size+oX.size<=iy):am Γ.M A (binaryOp .Add (.ref a) (.ref b)) Q E s:=
 xU ⟨_,ha,rfl⟩ ⟨_,hb,rfl⟩ noFill_list_add seq_list_add PySem.F.slot_list_add PySem.F.entry_list_add (PySem.F.args_list_add_2 _ _) (list_addW a b dy oX i j none none #[] #[] hsz) ⟨ha,hb,h⟩
noncomputable abbrev Q1(Γ:Cx)(M N:aL)(s:aj)(k:KV)(Q:al->aj->Prop):Prop:=∀r x s',VI s'.heap M r x->bS Γ M s'->(∀b o,s.heap.get? b=some o->s'.heap.get? b=some o)->k x N->Q r s'
theorem Jx(R:bS Γ M s)(va:VI s.heap M v a)(vb:VI s.heap M u b)(ha:d9 M a=some xs)(hb:d9 M b=some ys)(hl:xs.length+ys.length<=gS)
  {Q:al->aj->Prop} (hk:k (.lst (xs++ys)) N) (q:Q1 Γ M N s k Q):am Γ.M A (binaryOp .Add v u) Q E s:=by
 refine fF R va ha λp dy i hp ip=>?_;refine fF R vb hb λr oX j hr ir=>?_;haveI l1:=ip.length;haveI l2:=ir.length;refine AI hp hr ?_ (vR (by rw[<-dD,<-dD,l1,l2];exact hl));refine q _ _ _ (.lst (vs:=dy.toList++oX.toList) (n:=0) ?_ R.fresh ((ip.append ir).ext (cl.push _ _ _))) (R.push _ s.toks) (λ_ _ e=>ai _ e) hk;haveI e:dy++oX=(dy.toList++oX.toList).toArray:=by simp
 rw[<-e];exact aB _ rfl
theorem Nn(R:bS Γ M s)(l:∀a mo,N a=some mo->M a=some mo)(va:VI s.heap M v a)(vb:VI s.heap M u b)(h:jg N op a b x)(hk:k x N)
  {Q:al->aj->Prop} (q:Q1 Γ M N s k Q):am Γ.M A (binaryOp op v u) Q E s:=by
 revert R l va vb h hk;exists Γ,A,E,s,M,N,op,v,u,a,b,x,k,Q;have fin:∀(r:al)(t:Nat),VI s.heap M r x->Q r {s with toks:=t}:=λr t hv=>q r x _ hv (R.tok t) (λ_ _ e=>e) hk;cases h with
 |C9 h=>
  refine va.ny λa1 vs n1 ea na ra=>?_;refine vb.ny λa2 ws n2 eb nb rb=>?_;refine y9 ea eb (λe=>?_) (λ_ e=>?_) (λ_ _=>?_) (vR (by erw[ra.length,rb.length];exact h))
  ·subst e;cases ra;exact fin _ s.toks (.tup eb nb rb)
  ·subst e;cases rb;rw[bG]at fin;exact fin _ s.toks (.tup ea na ra)
  ·exact q _ _ _ (VI.vS R (ra.append rb)) (R.push _ s.toks) (λ_ _ e=>ai _ e) hk
 |bC ha hb h=>exact Jx R va vb (eW l ha) (eW l hb) h hk q
 |xy h=>refine va.oB λt=>?_;refine vb.oB λt'=>?_;exact add_str (λt' tk=>fin _ _ (.str _ _)) (by erw[bF];exact aa h (by decide))
 |vN=>refine va.fX λt=>?_;refine vb.fX λt'=>?_;exact add_int (fin _ _ (.int _ _))
 |vO=>refine va.fX λt=>?_;refine vb.fX λt'=>?_;exact sub_int (fin _ _ (.int _ _))
 |Ni h=>refine va.fX λt=>?_;refine vb.fX λt'=>?_;exact mul_int (fin _ _ (.int _ _)) (Qj h)
 |Nj h=>refine va.fX λt=>?_;refine vb.fX λt'=>?_;refine mod_int' (EW h) ?_;erw[Int.fmod_eq_emod_of_nonneg _ (jK h)];exact fin _ _ (.int _ _)
 |Ta h h2=>refine va.fX λt=>?_;refine vb.fX λt'=>?_;refine floordiv_int (EW h) ?_ (.inl (PyProof.noPylong_small (by lia)));erw[Int.fdiv_eq_ediv_of_nonneg _ (jK h)];exact fin _ _ (.int _ _)
end
end
section
mutual
noncomputable def V.py:V->PyData
 |.int i=>.int i
 |.str x=>.str x
 |.tup xs=>.tuple (V.vf xs)
 |.lst xs=>.list (V.vf xs)
 |_=>.none
noncomputable def V.vf:List V->List PyData
 | []=>[]
 |x::xs=>V.py x::V.vf xs
end
section
variable {P:V->Prop} {R:List V->Prop} (p0:P .none) (p1:∀i,P (.int i)) (p2:∀x,ow x=true->P (.str x)) (p3:∀xs,V.fw xs=true->R xs->P (.tup xs)) (p4:∀xs,V.fw xs=true->R xs->P (.lst xs)) (n:R []) (c:∀x xs,P x->R xs->R (x::xs))
include p0 p1 p2 p3 p4 n c
theorem V.Tk(d:V)(k:d.r5=true):P d:=
 V.rec (motive_1:=λd=>d.r5=true->P d) (motive_2:=λds=>V.fw ds=true->R ds) (λ_=>p0) (λ_ k=>iB k) (λi _=>p1 i) p2 (λxs r k=>p3 xs k (r k)) (λxs r k=>p4 xs k (r k))
  (λ_ _ _ k=>iB k) (λ_ _ _ k=>iB k) (λ_ k=>iB k) (λ_ k=>iB k) (λ_=>n) (λx xs a r k=>have k:=bo.mp k;c x xs (a k.1) (r k.2)) d k
theorem V.Tl(ds:List V)(k:V.fw ds=true):R ds:=List.rec (motive:=λds=>V.fw ds=true->R ds) (λ_=>n) (λx xs r k=>have k:=bo.mp k;c x xs (V.Tk p0 p1 p2 p3 p4 n c x k.1) (r k.2)) ds k
end
theorem dX:V.fw xs=true↔∀x∈xs,V.r5 x=true:=by
 induction xs with
 |nil=>exact⟨λ_ _ h=>(nomatch h),λ_=>rfl⟩
 |cons x xs ih=>exact(bo.trans (and_congr Iff.rfl ih)).trans (cO (p:=λx=>V.r5 x=true)).symm
theorem en:V.jB xs<=n↔∀x∈xs,V.dep x<=n:=by
 induction xs with
 |nil=>exact⟨λ_ _ h=>(nomatch h),λ_=>aG _⟩
 |cons x xs ih=>exact(Nat.max_le.trans (and_congr Iff.rfl ih)).trans (cO (p:=λx=>V.dep x<=n)).symm
theorem ge(h:a=true)(g:b=true):(a&&b)=true:=bo.mpr ⟨h,g⟩
theorem dE(h:x.dep<=n)(g:V.jB xs<=n):V.jB (x::xs)<=n:=Nat.max_le.mpr ⟨h,g⟩
section
variable {h:cg} {N:aL}
noncomputable def Sl(h:cg)(N:aL)(d:V):Prop:=∀v,VI h N v d->∃as,Reads h v d.py as
noncomputable def Jy(h:cg)(N:aL)(ds:List V):Prop:=∀vs,ch h N vs ds->∃as,ReadsAll h vs (V.vf ds) as
theorem Fk:Sl h N .none:=λ_ i=>i.Js ⟨_,Reads.none⟩
theorem Jz(j:Int):Sl h N (.int j):=λ_ i=>i.fX λt=>⟨_,Reads.int j t⟩
theorem JA(x:Str)(_:ow x=true):Sl h N (.str x):=λ_ i=>i.oB λt=>⟨_,Reads.str x t⟩
theorem JB(xs:List V)(_:V.fw xs=true)(r:Jy h N xs):Sl h N (.tup xs):=λ_ i=>i.ny λa vs n e _ q=>bz (r _ q) λ_ q=>⟨_,reads_tuple_at e rfl rfl q⟩
theorem JC(xs:List V)(_:V.fw xs=true)(r:Jy h N xs):Sl h N (.lst xs):=λ_ i=>i.GL λa vs n e _ q=>bz (r _ q) λ_ q=>⟨_,vC e rfl rfl q⟩
theorem JD:Jy h N []:=λ_ i=>i.n2 ⟨_,ReadsAll.nil⟩
theorem Fm(x:V)(xs:List V)(a:Sl h N x)(r:Jy h N xs):Jy h N (x::xs):=λ_ i=>i.c2 λi q=>bz (a _ i) λ_ a=>bz (r _ q) λ_ r=>⟨_,ReadsAll.cons a r⟩
theorem VI.reads(i:VI h N v d)(k:d.r5=true):∃as,Reads h v d.py as:=V.Tk Fk Jz JA JB JC JD Fm d k v i
theorem ch.reads(r:ch h N vs ds)(k:V.fw ds=true):∃as,ReadsAll h vs (V.vf ds) as:=V.Tl Fk Jz JA JB JC JD Fm ds k vs r
end
theorem V.rm(d:V)(k:d.r5=true):d.py.canLay0=true:=V.Tk (P:=λd=>d.py.canLay0=true) (R:=λds=>IM (V.vf ds)=true) rfl (λ_=>rfl) (λ_ k=>k) (λ_ _ r=>r) (λ_ _ r=>r) rfl (λ_ _ a r=>bo.mpr ⟨a,r⟩) d k
theorem V.vg(ds:List V)(k:V.fw ds=true):IM (V.vf ds)=true:=V.rm (.tup ds) k
theorem V.za(d:V):d.py.depth<=d.dep:=
 V.rec (motive_1:=λd=>d.py.depth<=d.dep) (motive_2:=λds=>oJ (V.vf ds)<=V.jB ds) (ap 0) (λ_=>ap 0) (λ_=>ap 0) (λ_=>ap 0) (λ_ r=>aw r) (λ_ r=>aw r)
  (λ_ _ _=>ap 0) (λ_ _ _=>ap 0) (λ_=>ap 0) (λ_=>ap 0) (ap 0) (λ_ _ a r=>Nat.max_le.mpr ⟨aa a (lC _ _),aa r (kt _ _)⟩) d
theorem V.No(ds:List V):oJ (V.vf ds)<=V.jB ds:=dz (V.za (.tup ds))
@[elab_as_elim] theorem V.Tn{P:V->Prop}(d:V)(k:d.r5=true)(p0:P .none)(p1:∀i,P (.int i))(p2:∀x,P (.str x))(p3:∀xs,V.fw xs=true->P (.tup xs))(p4:∀xs,V.fw xs=true->P (.lst xs)):P d:=V.Tk (R:=λ_=>True) p0 p1 (λx _=>p2 x) (λxs k _=>p3 xs k) (λxs k _=>p4 xs k) ⟨⟩ (λ_ _ _ _=>⟨⟩) d k
theorem fP{P:Prop}(n:¬P):false=true↔P:=⟨λe=>iB e,λp=>absurd p n⟩
noncomputable def Sm(d:V):Prop:=∀e:V,e.r5=true->(ox d.py e.py=true↔d=e)
noncomputable def JE(ds:List V):Prop:=∀es:List V,V.fw es=true->(PyData.eqvAll (V.vf ds) (V.vf es)=true↔ds=es)
theorem AJ:Sm .none:=λe k=>V.Tn e k ⟨λ_=>rfl,λ_=>rfl⟩ (λ_=>fP nofun) (λ_=>fP nofun) (λ_ _=>fP nofun) (λ_ _=>fP nofun)
theorem Fn(i:Int):Sm (.int i):=λe k=>V.Tn e k (fP nofun) (λ_=>beq_iff_eq.trans ⟨congrArg _,V.int.inj⟩) (λ_=>fP nofun) (λ_ _=>fP nofun) (λ_ _=>fP nofun)
theorem Fo(x:Str)(_:ow x=true):Sm (.str x):=λe k=>V.Tn e k (fP nofun) (λ_=>fP nofun) (λ_=>beq_iff_eq.trans ⟨congrArg _,V.str.inj⟩) (λ_ _=>fP nofun) (λ_ _=>fP nofun)
theorem Fp(xs:List V)(_:V.fw xs=true)(r:JE xs):Sm (.tup xs):=λe k=>V.Tn e k (fP nofun) (λ_=>fP nofun) (λ_=>fP nofun) (λys k=>(r ys k).trans ⟨congrArg _,V.tup.inj⟩) (λ_ _=>fP nofun)
theorem Fq(xs:List V)(_:V.fw xs=true)(r:JE xs):Sm (.lst xs):=λe k=>V.Tn e k (fP nofun) (λ_=>fP nofun) (λ_=>fP nofun) (λ_ _=>fP nofun) (λys k=>(r ys k).trans ⟨congrArg _,V.lst.inj⟩)
theorem Fs:JE []:=λes _=>es.casesOn ⟨λ_=>rfl,λ_=>rfl⟩ λ_ _=>fP nofun
theorem AK(x:V)(xs:List V)(a:Sm x)(r:JE xs):JE (x::xs):=λes k=>by
 cases es with
 |nil=>exact fP nofun
 |cons y ys=>have k:=bo.mp k;exact bo.trans ((and_congr (a y k.1) (r ys k.2)).trans ⟨λh=>h.1▸h.2▸rfl,bk⟩)
theorem V.Da(d e:V)(k:d.r5=true)(ke:e.r5=true):ox d.py e.py=true↔d=e:=V.Tk AJ Fn Fo Fp Fq Fs AK d k e ke
theorem V.Np(ds es:List V)(k:V.fw ds=true)(ke:V.fw es=true):PyData.eqvAll (V.vf ds) (V.vf es)=true↔ds=es:=V.Tl AJ Fn Fo Fp Fq Fs AK ds k es ke
theorem V.Qk(ds:List V)(d:V)(k:V.fw ds=true)(kd:d.r5=true):((V.vf ds).any λy=>ox y d.py)=true↔d∈ds:=by
 induction ds with
 |nil=>exact⟨λe=>iB e,λe=>nomatch e⟩
 |cons e ds ih=>have k':=bo.mp k;rw[aq,<-ih k'.2,eq_comm (a:=d),<-V.Da e d k'.1 kd];exact ft
section
variable {Γ:Cx} {A:bW} {E:al->aj->Prop} {s:aj} {M N:aL} {n:Nat}
theorem Lv.units(h:Lv n A):A.units+200<=fW:=by have:=h.2.2;unfold fW;exact aR 0x1d59eadea5e96145e9eb0567ab7a97a58517a7ad1542ac12 rfl this
theorem Ft(hA:Lv n A){Q:al->aj->Prop}(ha:s.heap.get? a=some (listOf dy i))(hb:s.heap.get? b=some (listOf oX j))
  (ra:ch s.heap M dy.toList xs) (rb:ch s.heap M oX.toList ys) (k:uc xs ys) (hc:Tr c (xs=ys)):
  (Q (.bool c) s->am Γ.M A (qy .Eq (.ref a) (.ref b)) Q E s)/\(Q (.bool !c) s->am Γ.M A (qy .NotEq (.ref a) (.ref b)) Q E s):=by
 refine ez k λka kb da=>?_;clear k;refine bz (ra.reads ka) λas ra=>?_;refine bz (rb.reads kb) λbs rb=>?_;haveI Ra:=vC ha rfl rfl ra;haveI Rb:=vC hb rfl rfl rb;haveI e:ox (.list (V.vf xs)) (.list (V.vf ys))=c:=i9.mpr ((V.Np xs ys ka kb).trans hc.symm);haveI u:=hA.units;haveI d1:=V.No xs;haveI room:A.units+min (oy (.list (V.vf xs))) (oy (.list (V.vf ys)))<fW:=by have:=cS (oy (.list (V.vf xs))) (oy (.list (V.vf ys)));simp only[oy]at this ⊢;lia
 haveI ca:(PyData.list (V.vf xs)).canLay0=true:=V.vg xs ka;haveI cb:(PyData.list (V.vf ys)).canLay0=true:=V.vg ys kb;exact⟨λh=>CQ Ra Rb ca cb room (by erw[e];exact h),λh=>SeqAt.compareNe_reads Ra Rb ca cb room (by erw[e];exact h)⟩
theorem Fu(hA:Lv n A){Q:al->aj->Prop}(ha:s.heap.get? a=some (listOf dy i))(ra:ch s.heap M dy.toList xs)
  (rx:VI s.heap M v x) (kx:V.r5 x=true) (ka:V.fw xs=true) (dx:V.dep x<=150) (hc:Tr c (x∈xs)):
  (Q (.bool c) s->am Γ.M A (qy .In v (.ref a)) Q E s)/\(Q (.bool !c) s->am Γ.M A (qy .NotIn v (.ref a)) Q E s):=by
 refine bz (ra.reads ka) λas ra=>?_;refine bz (rx.reads kx) λbs rx=>?_;haveI Ra:=vC ha rfl rfl ra;haveI u:=hA.units;haveI d1:=V.za x;haveI room:A.units+1+min (oJ (V.vf xs)) x.py.depth<fW:=by have:=xh (oJ (V.vf xs)) x.py.depth;lia
 haveI e:=i9.mpr ((V.Qk xs x ka kx).trans hc.symm);exact⟨λh=>SeqAt.in_list_reads Ra rx (V.vg xs ka) (V.rm x kx) room (by erw[e];exact h),
  λh=>SeqAt.notIn_list_reads Ra rx (V.vg xs ka) (V.rm x kx) room (by erw[e];exact h)⟩
end
end
section
section
variable {α β γ:Type} [DecidableEq α]
theorem ta(ks:List (α×β))(q:α):(ks.any λp=>decide (p.1=q))=((ks.map (·.1)).any λk=>decide (k=q)):=by erw[CR];rfl
theorem tx{ks:List (α×β)}{kvs:List (α×γ)}(e:ks.map (·.1)=kvs.map (·.1))(q:α):(ks.any λp=>decide (p.1=q))=(kvs.any λp=>decide (p.1=q)):=by erw[ta,ta,e]
theorem kO(ks:List (α×β))(q:α):(dT ks q).isSome=ks.any λp=>decide (p.1=q):=by
 unfold dT;erw[IN];induction ks with
 |nil=>rfl
 |cons a ks ih=>
  by_cases h:a.1=q
  ·simp[h]
  ·simpa[h]using ih
theorem ud{ks:List (α×β)}{kvs:List (α×γ)}(e:ks.map (·.1)=kvs.map (·.1))(q:α)(v:β)(x:γ):(dG ks q v).map (·.1)=(dG kvs q x).map (·.1):=by
 unfold dG;erw[tx e q];split
 ·erw[ay,ay];haveI h1:((λp:α×β=>p.1)∘λp=>if p.1=q then(p.1,v) else p)=λp=>p.1:=by funext p;dsimp only[mc];split<;>rfl
  haveI h2:((λp:α×γ=>p.1)∘λp=>if p.1=q then(p.1,x) else p)=λp=>p.1:=by funext p;dsimp only[mc];split<;>rfl
  erw[h1,h2];exact e
 ·simp[e]
end
section
variable {α:Type} [DecidableEq α] {h:cg} {N:aL}
theorem JF{β:Type}{q:α}{v:β}{l:List (α×β)}{k:α}(e:k=q):dT ((k,v)::l) q=some v:=congrArg (xt uI) (CP (decide_eq_true e))
theorem JG{β:Type}{q:α}{v:β}{l:List (α×β)}{k:α}(e:¬k=q):dT ((k,v)::l) q=dT l q:=congrArg (xt uI) (dq (mt of_decide_eq_true e))
theorem Db{P:List (α×al)->List (α×V)->Prop}(n:P [] [])(c:∀k v x as bs,VI h N v x->P as bs->P ((k,v)::as) ((k,x)::bs))(e:ks.map (·.1)=kvs.map (·.1))(r:ch h N (ks.map (·.2)) (kvs.map (·.2))):P ks kvs:=by
 induction ks generalizing kvs with
 |nil=>cases kvs with
  |nil=>exact n
  |cons b bs=>exact nomatch e
 |cons a as ih=>cases kvs with
  |nil=>exact nomatch e
  |cons b bs=>haveI e:=bk e;exact r.cc λi r=>(show b=(a.1,b.2) from Prod.ext e.1.symm rfl)▸c a.1 a.2 b.2 as bs i (ih e.2 r)
theorem oY{ks:List (α×al)}{kvs:List (α×V)}(e:ks.map (·.1)=kvs.map (·.1))(r:ch h N (ks.map (·.2)) (kvs.map (·.2))){q:α}{x:V}(hx:dT kvs q=some x):∃v,dT ks q=some v/\VI h N v x:=by
 refine Db (P:=λks kvs=>dT kvs q=some x->∃v,dT ks q=some v/\VI h N v x) (λhx=>nomatch hx) (λk v y as bs i ih hx=>?_) e r hx;by_cases hq:k=q
 ·rw[JF hq]at hx ⊢;exact⟨v,rfl,aA hx▸i⟩
 ·rw[JG hq]at hx ⊢;exact ih hx
theorem yd{ks:List (α×al)}{kvs:List (α×V)}(e:ks.map (·.1)=kvs.map (·.1))(r:ch h N (ks.map (·.2)) (kvs.map (·.2))){q:α}{v:al}{x:V}(hv:VI h N v x):
  ch h N ((dG ks q v).map (·.2)) ((dG kvs q x).map (·.2)):=by
 unfold dG;erw[tx e q];split
 ·refine Db (P:=λ(ks:List (α×al))(kvs:List (α×V))=>ch h N ((ks.map λp=>if p.1=q then(p.1,v) else p).map (·.2)) ((kvs.map λp=>if p.1=q then(p.1,x) else p).map (·.2))) .nil ?_ e r;intro k u y as bs i ih;refine .cons ?_ ih;show VI h N (if k=q then(k,v) else(k,u)).2 (if k=q then(k,x) else(k,y)).2;by_cases hq:k=q
  ·erw[if_pos hq,if_pos hq];exact hv
  ·erw[if_neg hq,if_neg hq];exact i
 ·erw[az,az];exact r.append (ch.one hv)
end
section
variable {Γ:Cx} {A:bW} {E:al->aj->Prop} {s:aj} {M N:aL} {n:Nat}
theorem AL(hv:VI h M v d)(hq:ri d=some q):PK.is q v=true:=by
 cases d with
 |int i=>refine hv.fX λt=>?_;obtain rfl:=aA hq;exact beq_self_eq_true i
 |str x=>refine hv.oB λt=>?_;obtain rfl:=aA hq;exact beq_self_eq_true x
 |_=>exact cy hq
theorem Dc(h:oe (x::xs)=some ks):∃k oC,ri x=some k/\oe xs=some oC/\k::oC=ks:=by
 exists x,xs,ks;have h:(match ri x,oe xs with |some k,some ks=>some (k::ks) |_,_=>none)=some ks:=h;cases e1:ri x with
 |none=>rw[e1]at h;exact cy h
 |some k=>
  cases e2:oe xs with
  |none=>rw[e1,e2]at h;exact cy h
  |some oC=>rw[e1,e2]at h;exact⟨k,oC,rfl,rfl,aA h⟩
theorem Ql(r:ch h M vs ds)(hk:oe ds=some ks):ItemsAre (pk prog w) ks vs:=r.ind (P:=λvs ds=>∀ks,oe ds=some ks->ItemsAre (pk prog w) ks vs) (λ_ e=>aA e▸.nil) (λi _ ih _ e=>fc (Dc e) λ_ _ a b c=>c▸.cons (AL i a) (ih _ b)) ks hk
theorem JH{prog:cx}{w:eB}{h:cg}{v:al}{d:V}{q:List PK}(hv:VI h M v d)(hq:AF d=some q):∃a,v=.ref a/\(tk prog w).is h q a/\M a=none:=by
 exists M,prog,w,h,v,d,q;cases d with
 |tup xs=>refine hv.ny λa vs n e hn r=>?_;exact⟨_,rfl,⟨_,_,_,e,rfl,rfl,Ql r hq⟩,hn⟩
 |_=>exact cy hq
theorem Lv.room(h:Lv n A):(tk Γ.prog Γ.w).room A.in1:=by have:=h.2.2;show A.in1.units<fW;simp only[fW];exact aR 0x1d5deadea5e9614600567ab7a97a58517a7ad1542ac12 rfl this
theorem ty{K:Type}[DecidableEq K](xs:List (K×ax×al))(q:K):(vD xs q).map (·.2)=dT (xs.map λx=>(x.1,x.2.2)) q:=by
 unfold vD dT;induction xs with
 |nil=>rfl
 |cons x xs ih=>
  by_cases e:x.1=q
  ·simp[e]
  ·simpa[e]using ih
theorem vT{P:Prop}[Decidable P](h:Tr c P):decide P=c:=i9.mpr (decide_eq_true_iff.trans h.symm)
theorem Dd{P:Prop}(h:Tr c (¬P)):Tr (!c) P:=by
 cases c with
 |true=>exact⟨iB,λp=>absurd p (h.mp rfl)⟩
 |false=>exact⟨λ_=>de λn=>iB (h.mpr n),λ_=>rfl⟩
theorem JI{P:Prop}(h1:Tr b P)(h:Tr c P):b=c:=i9.mpr (h1.trans h.symm)
theorem JJ{P:Prop}(h1:Tr b P)(h:Tr c (¬P)):(!b)=c:=by erw[JI h1 (Dd h),lJ]
theorem JK{P:Prop}[Decidable P](h:Tr c (¬P)):(!decide P)=c:=JJ decide_eq_true_iff h
theorem rn{K α:Type}[DecidableEq K]{ks:List (K×α)}{l:List K}(e:ks.map (·.1)=l)(q:K):Tr (ks.any λp=>decide (p.1=q)) (q∈l):=by erw[ta,e];exact cF.trans ⟨λz=>aI z λx h1 h2=>of_decide_eq_true h2▸h1,λh=>⟨q,h,decide_eq_true rfl⟩⟩
theorem zb{v:al}{x:V}{d:ax}{kvs:List (PK×V)}{ep:Nat}{q:PK}(R:bS Γ M s)(e:M d=some (.dp kvs ep))(hv:VI s.heap M v x)(hq:ri x=some q):
  ∃ks,s.heap.DictAt (pk Γ.prog Γ.w) d ks ep/\ks.map (·.1)=kvs.map (·.1)/\ch s.heap M (ks.map (·.2)) (kvs.map (·.2))/\(pk Γ.prog Γ.w).is q v=true/\Tr (valueAt ks q).isSome (q∈kvs.map (·.1)):=by
 refine cQ (R.obj _ _ e) λks hd hk hr=>?_;exact⟨ks,hd,hk,hr,AL hv hq,(kO ks q)▸rn hk q⟩
theorem AM{K:Type}(xs:List (K×ax×al)):(xs.map λx=>(x.1,x.2.2)).map (·.1)=xs.map (·.1):=by erw[ay];rfl
theorem Fv{K:Type}(xs:List (K×ax×al)):(xs.map λx=>(x.1,x.2.2)).map (·.2)=xs.map (·.2.2):=by erw[ay];rfl
theorem sj{K:Type}[DecidableEq K](xs:List (K×ax×al))(q:K):(vD xs q).isSome=xs.any λp=>decide (p.1=q):=by have:=congrArg Option.isSome (ty xs q);rw[IN,kO,ta,AM]at this;erw[this,CR];rfl
theorem JL{v:al}{x:V}{d:ax}{kvs:List (List PK×V)}{q:List PK}(R:bS Γ M s)(e:M d=some (.dt kvs))(hv:VI s.heap M v x)(hq:AF x=some q):
  ∃xs a,s.heap.DictOfH (tk Γ.prog Γ.w) d xs/\(∀y∈xs,M y.2.1=none)/\xs.map (·.1)=kvs.map (·.1)/\ch s.heap M (xs.map (·.2.2)) (kvs.map (·.2))/\v=.ref a/\(tk Γ.prog Γ.w).is s.heap q a/\M a=none/\Tr (vD xs q).isSome (q∈kvs.map (·.1)):=by
 exists Γ,s,M,v,x,d,kvs,q;refine rg (R.obj _ _ e) λxs hd hn hk hr=>?_;refine cQ (JH (prog:=Γ.prog) (w:=Γ.w) hv hq) λa aT hi ha=>?_;obtain rfl:=aT;exact⟨xs,a,hd,hn,hk,hr,rfl,hi,ha,(sj xs q)▸rn hk q⟩
@[elab_as_elim] theorem Fw{P:al->Prop}(R:bS Γ M s)(e:M d=some (.dt kvs))(hv:VI s.heap M v x)(hq:AF x=some q)
  (k:∀xs a,s.heap.DictOfH (tk Γ.prog Γ.w) d xs->(∀y∈xs,M y.2.1=none)->xs.map (·.1)=kvs.map (·.1)->ch s.heap M (xs.map (·.2.2)) (kvs.map (·.2))->(tk Γ.prog Γ.w).is s.heap q a->M a=none->Tr (vD xs q).isSome (q∈kvs.map (·.1))->P (.ref a)):P v:=
 S6 (JL R e hv hq) λxs a h1 h2 h3 h4 e h5 h6 h7=>e▸k xs a h1 h2 h3 h4 h5 h6 h7
theorem GN(hx:x.length=1){Q:al->aj->Prop}(h:Q (.bool (y.cps.toList.contains (x.cps.getD 0 0))) s):am Γ.M A (qy .In (.str x t) (.str y u)) Q E s:=by
 refine PyProof.Rows.in_str ?_;haveI e:x=⟨#[x.cps.getD 0 0]⟩:=by obtain⟨⟨l⟩⟩:=x;obtain⟨a,rfl⟩:=oO.mp hx;rfl
 have:=PySem.StrLaws.found_one y (x.cps.getD 0 0);rw[<-e]at this;erw[this];haveI e2:decide (x.cps.getD 0 0∈y.cps.toList)=y.cps.toList.contains (x.cps.getD 0 0):=by erw[List.contains_eq_mem]
 erw[e2];exact h
theorem sm{α:Type}[BEq α][LawfulBEq α][DecidableEq α](x y:α):(x==y)=decide (x=y):=by erw[i9];simp
theorem Fx{α:Type}[BEq α][LawfulBEq α][DecidableEq α](x y:α):(x != y)=!decide (x=y):=by simp only[bne,sm]
theorem Nq(hA:Lv n A)(va:VI s.heap M v (.tup xs))(vb:VI s.heap M u (.tup ys))(k:uc xs ys)(hc:Tr c (xs=ys)){Q:al->aj->Prop}
  (h:Q (.bool c) s):am Γ.M A (qy .Eq v u) Q E s:=by
 refine ez k λk1 k2 d1=>?_;clear k;refine bz (va.reads k1) λas rv=>?_;refine bz (vb.reads k2) λbs ru=>?_;haveI q:=(V.Da (.tup xs) (.tup ys) k1 k2).trans ⟨λe=>V.tup.inj e,λe=>e▸rfl⟩;haveI e:ox (V.tup xs).py (V.tup ys).py=c:=i9.mpr (q.trans hc.symm);haveI room:A.units+min (V.tup xs).py.depth (V.tup ys).py.depth<fW:=by have:=cS (V.tup xs).py.depth (V.tup ys).py.depth;haveI h1:=V.za (.tup xs);haveI h2:(V.tup xs).dep=V.jB xs+1:=rfl;haveI u:=hA.units;lia
 exact CQ rv ru (V.rm _ k1) (V.rm _ k2) room (by erw[e];exact h)
theorem vh(hA:Lv n A)(R:bS Γ M s)(l:∀a mo,N a=some mo->M a=some mo)(va:VI s.heap M v a)(vb:VI s.heap M u b)(h:dA N op a b c)
  {Q:al->aj->Prop} (q:∀t,Q (.bool c) {s with toks:=t}):am Γ.M A (qy op v u) Q E s:=by
 revert hA R l va vb h;exists Γ,A,E,s,M,N,n,op,v,u,a,b,c,Q;have q0:=q s.toks;cases h with
 |W0 h=>refine va.fX λt=>?_;refine vb.fX λt'=>?_;exact PyProof.Rows.eq_int (by erw[sm,vT h];exact q0)
 |W1 h=>refine va.fX λt=>?_;refine vb.fX λt'=>?_;exact PyProof.Rows.ne_int (by erw[Fx,JK h];exact q0)
 |ltI h=>refine va.fX λt=>?_;refine vb.fX λt'=>?_;exact PyProof.Rows.lt_int (by erw[vT h];exact q0)
 |Sk h=>refine va.fX λt=>?_;refine vb.fX λt'=>?_;exact PyProof.Rows.le_int (by erw[vT h];exact q0)
 |W2 h=>refine va.fX λt=>?_;refine vb.fX λt'=>?_;exact PyProof.Rows.gt_int (by erw[vT h];exact q0)
 |Tc h=>refine va.oB λt=>?_;refine vb.oB λt'=>?_;exact PyProof.Rows.eq_str (by erw[sm,vT h];exact q0)
 |ZP h=>refine va.oB λt=>?_;refine vb.oB λt'=>?_;exact PyProof.Rows.ne_str (by erw[Fx,JK h];exact q0)
 |ZQ h=>refine va.oB λt=>?_;refine vb.oB λt'=>?_;exact GN h q0
 |ZR=>refine va.Js ?_;refine vb.Js ?_;exact is_none_none q0
 |ZS=>refine uR va.Fg λa vs n aT il=>?_;obtain rfl:=aT;clear il;refine vb.Js ?_;exact is_none_ne (λe=>nomatch e) q0
 |inP h hq hc=>refine vb.sh ?_;refine Jo (zb R (l _ _ h) va hq) λks hd hk hr hi e1=>?_;exact wpAny_in_of (knd:=pk Γ.prog Γ.w) hi (R.nw (l _ _ h)) hd.dictOf.mapOf (by erw[JI e1 hc];exact q _)
 |W3 h hq hc=>refine vb.sh ?_;refine Jo (zb R (l _ _ h) va hq) λks hd hk hr hi e1=>?_;exact wpAny_notIn_of (knd:=pk Γ.prog Γ.w) hi (R.nw (l _ _ h)) hd.dictOf.mapOf (by erw[JJ e1 hc];exact q _)
 |inD h hq hc=>refine vb.sh ?_;refine Fw R (l _ _ h) va hq λxs a hd hn hk hr hi ha e1=>?_;exact wpAny_in_heap (knd:=tk Γ.prog Γ.w) hA.room hi (R.nw (l _ _ h)) hd (by erw[JI e1 hc];exact q _)
 |ZT h h1 h2 h3 hc=>refine fF R vb (eW l h) λp dy i ho ra=>?_;exact(Fu hA ho ra va h1 h2 h3 hc).1 q0
 |Td h h1 h2 h3 hc=>refine fF R vb (eW l h) λp dy i ho ra=>?_;exact(Fu hA ho ra va h1 h2 h3 (Dd hc)).2 (by erw[lJ];exact q0)
 |eqT h hc=>exact Nq hA va vb h hc q0
 |W4 ha hb h hc=>refine fF R va (eW l ha) λp dy i hp ip=>?_;refine fF R vb (eW l hb) λr oX j hr ir=>?_;exact(Ft hA hp hr ip ir h hc).1 q0
 |Te ha hb h hc=>refine fF R va (eW l ha) λp dy i hp ip=>?_;refine fF R vb (eW l hb) λr oX j hr ir=>?_;exact(Ft hA hp hr ip ir h (Dd hc)).2 (by erw[lJ];exact q0)
end
end
section
section
variable {prog:cx} {w:eB} {A:bW} {E:al->aj->Prop} {s:aj}
theorem Fy{value slice:Expr}{o i:al}{T id:String}{Q:al->aj->Prop}(hT:s.TypeIs o T)
  (hl:xi (.type T) "__getitem__"=pure (some (.builtin id))) (h:am (bB prog w) A (xV o i) Q E s):am (bB prog w) A (subscriptTail value slice o i) Q E s:=by
 exists prog,w,A,E,s,value,slice,o,i,T,id,Q;unfold subscriptTail;refine af ?_;erw[getitemInPython_of_ne hT.not_modules];refine af (Cr hT hl ?_);have fin:am (bB prog w) A (subscripted slice false o i) (λr Nr=>am (bB prog w) A (letTemporaryGo value o r >>= λ_=>pure r) Q E Nr) E s:=by
  have h2:am (bB prog w) A (xV o i) (λr Nr=>am (bB prog w) A (letTemporaryGo value o r >>= λ_=>pure r) Q E Nr) E s:=aS h (λr Nr W7=>af (wpAny_letTemporaryGo (ah W7))) λ_ _ x=>x
  cases slice with
  |Slice l u st p=>cases st<;>exact wpAny_operating h2
  |_=>exact wpAny_operating h2
 first
  |exact ah (af fin)
  |exact af (ah (af fin))
  |exact af fin
theorem AN(b n:Nat)(hb:b<=n):ku none (some (b:Int)) 1 (n:Int)=(0,(b:Int)):=by
 unfold ku;haveI h1:¬((1:Int)<0):=by lia
 haveI h2:¬((b:Int)<0):=by lia
 simp only[h1,h2,if_false]
 congr 1
 lia
theorem AO(b:Nat):g0 0 (b:Int) 1=b:=by
 unfold g0;have h1:(1:Int) > 0:=by lia
 simp only[h1,if_true,Int.ediv_one];split<;>lia
theorem sn{sl:ax}{b n:Nat}{u:Tok}{Q:Int×Int×Nat->aj->Prop}(hs:s.heap.IsSliceOf sl .none (.int b u) .none)(hb:b<=n)(h:Q (0,1,b) s):
  am (bB prog w) A (td (.ref sl) (pure (n:Int))) Q E s:=by
 refine cQ (id hs) λos Qm Nt V'=>?_;unfold td Builtin.Slice.sliceFields;refine af (af (lT Qm V' (x:=.none) rfl (af (lT Qm V' (x:=.int b u) rfl (af (lT Qm V' (x:=.none) rfl (ah ?_)))))));refine af (slicePart_none ?_);show am _ _ (if((1:Int)==0)=true then _ else _) _ _ s;erw[if_neg (by decide)];refine af (slicePart_none (af (slicePart_int (af (ah ?_)))));show am _ _ (match ku none (some (b:Int)) 1 (n:Int) with |(lo,hi)=>pure (lo,(1:Int),g0 lo hi 1)) _ _ s;erw[AN b n hb];show am _ _ (pure ((0:Int),(1:Int),g0 0 (b:Int) 1)) _ _ s;erw[AO b];exact ah h
theorem GO(xs:Array al)(b:Nat)(_hb:b<=xs.size):((aM b).filterMap λ(k:Nat)=>xs[((0:Int)+(k:Int)*1).toNat]?).toArray=(xs.toList.take b).toArray:=by
 haveI e:(λ(k:Nat)=>xs[((0:Int)+(k:Int)*1).toNat]?)=λk=>xs[0+k]?:=by
  funext k
  have:((0:Int)+(k:Int)*1).toNat=0+k:=by lia
  erw[this]
 erw[e];have:=pick_run xs 0 b;rw[List.filterMap_map]at this;haveI e2:((λx=>xs[x]?)∘λx=>0+x)=λk=>xs[0+k]?:=rfl;rw[e2]at this;erw[this,List.drop_zero]
theorem ro{t sl:ax}{items:Array al}{b:Nat}{u:Tok}{Q:al->aj->Prop}(ht:IsTup s.heap t items)(hs:s.heap.IsSliceOf sl .none (.int b u) .none)(hb:b<=items.size)
  (h0:b=items.size->Q (.ref t) s) (h:Q (.ref s.heap.objs.size) {s with heap:=s.heap.push {cls:=.type "tuple",data:=.seq (items.toList.take b).toArray}})
  (hsz:items.size<=iy):am (bB prog w) A (xV (.ref t) (.ref sl)) Q E s:=by
 exists prog,w,A,E,s,t,sl,items,b,u,Q;haveI vU:sizeOk (.seq (items.toList.take b).toArray):=by show(items.toList.take b).toArray.size<=iy;erw[dI,cG,dD];lia
 refine cQ (id hs) λos Qm Nt V'=>?_;haveI hTs:s.TypeIs (.ref sl) "slice":=⟨os,Qm,Nt⟩
 unfold xV
 try with_reducible refine aZ ?_
 first |refine af (ah ?_) |skip
 refine af (xW ht.typeIs (by decide) ?_);refine af (fA (name:=aN "__getitem__") ht.typeIs jL
  (eX jL ht.typeIs entry_tuple_getitem ?_ (args_tuple_getitem _ _)))
 show am _ _ (Builtin.Tuple.tupleItemsOf (.ref t) >>= _) _ _ s;refine af (tupleItemsOf_ ht ?_);refine af (kw hTs ?_);erw[if_pos (by decide)];refine af (sn hs hb ?_);show am _ _ (if((0:Int)==0&&(1:Int)==1&&b==items.size)=true then _ else _) _ _ s;by_cases e:b=items.size
 ·erw[if_pos (by simp[e])];refine cQ ht λo ho hc hd=>?_;clear ht;haveI hTt:s.TypeIs (.ref t) "tuple":=⟨o,ho,hc⟩
  haveI ex:∀{α:Type}{k:Bool->Sem α}{Q':α->aj->Prop}{A':bW},am (bB prog w) A' (k true) Q' E s->am (bB prog w) A' (te (.ref t) >>= k) Q' E s:=λ{α k Q' A'}hk=>by refine af ?_;unfold te;exact af (kw hTt (ah hk))
  refine ex ?_;simp only[if_true]
  first
   |exact af (dZ (ah ⟨_,rfl,ah (h0 e)⟩))
   |exact af (dZ (af (ah (ah ⟨_,rfl,ah (h0 e)⟩))))
 ·erw[if_neg (by simp[e]),GO items b hb]
  first
   |exact af (m:=ij _) (eD (ah ⟨_,rfl,ah h⟩) vU)
   |exact af (m:=ij _) (eD (af (ah (ah ⟨_,rfl,ah h⟩))) vU)
   |exact af (af (m:=ij _) (eD (ah (ah ⟨_,rfl,ah h⟩)) vU))
   |exact af (af (m:=ij _) (eD (ah ⟨_,rfl,ah h⟩) vU))
end
section
variable {prog:cx} {w:eB} {A:bW} {E:al->aj->Prop} {s:aj}
theorem mP(dy:Array al)(n j:Nat)(v:al):bV (·.setIfInBounds j v) (listOf dy n)=listOf (dy.setIfInBounds j v) n:=by simp[bV]
theorem vV{l:ax}{items:Array al}{m:Nat}{k:Int}{t:Tok}{v:al}{Q:Unit->aj->Prop}(ho:s.heap.get? l=some (listOf items m))
  (h0:0<=k) (rp:k<2 ^ 63) (hn:k.toNat<items.size)
  (hQ:∀h',h'.get? l=some (listOf (items.setIfInBounds k.toNat v) m)->bu l s.heap h'->Q () {s with heap:=h'}):
  am (bB prog w) A (CT (.ref l) (.int k t) v) Q E s:=by
 exists prog,w,A,E,s,l,items,m,k,t,v,Q;haveI hl:s.heap.IsList l items:=⟨_,ho,rfl,m,rfl⟩
 unfold CT
 try with_reducible refine aZ ?_
 first |refine af (ah ?_) |skip
 refine af (xW hl.typeIs (by decide) ?_);refine af (fA (name:=aN "__setitem__") hl.typeIs slot_list_setitem
  (eX slot_list_setitem hl.typeIs entry_list_setitem ?_ (args_list_setitem _ _ _)))
 show am _ _ (Builtin.List.listSubscript? (.int k t) >>= _) _ _ s;refine af (wpAny_listSubscript_int (fitsIndex_of h0 rp) ?_);clear rp;refine bz (CU h0) λj aT=>?_;exists j;obtain rfl:=aT;haveI hj:j<items.size:=hn;haveI Pn:items[j]?=some items[j]:=mD hj;show am _ _ ((seqItemAt l j >>= λr=>pure (r.map (j,·))) >>= _) _ _ s;refine af (af (wpAny_seqItemAt ho rfl (ah ?_)));erw[Pn];show am _ _ (setSeqItemAt l j v >>= _) _ _ s;haveI To:(s.heap.update l (bV (·.setIfInBounds j v))).get? l=some (listOf (items.setIfInBounds j v) m):=by erw[fQ _ ho (by erw[mP];rfl),mP]
 refine af (wpAny_setSeqItemAt ho rfl ?_)
 first
  |exact af (ah (ah ⟨.none,rfl,ah (hQ _ To (bX ..))⟩))
  |exact ah ⟨.none,rfl,ah (hQ _ To (bX ..))⟩
variable {K:Type} [DecidableEq K] {knd:KeyKind prog w K}
theorem ye{Q:Unit->aj->Prop}(kj:knd.is k key=true)(hm:s.heap.DictAt knd d kvs ep)
  (hQ:∀h' iz,((kvs.any λp=>decide (p.1=k))=true->iz=ep)->h'.DictAt knd d (n8 kvs k v) iz->bu d s.heap h'->Q () {s with heap:=h',toks:=s.toks+1})
  (hsz:kvs.length<=iy):
  am (bB prog w) A (dictSet d key v) Q E s:=by
 refine S4 hm λo es ho hc hd hk hp hn=>?_;clear hm;have Qn:es.size<=iy:=by haveI e1:=hp.length;haveI e2:es.toList.length=es.size:=dD;lia
 unfold dictSet
 try with_reducible refine aZ ?_
 refine af (knd.pyHash kj ?_);unfold dictSetHashed
 try with_reducible refine aZ ?_
 refine af (wpAny_dictFind_of (s:={s with toks:=s.toks+1}) kj ho hd hk ?_);have Tp:(es.findIdx? λe=>knd.is k e.key)=kvs.findIdx? λkv=>decide (kv.1=k):=by rw[<-hp.findIdx k];obtain⟨l⟩:=es;simp
 cases hi:es.findIdx? λe=>knd.is k e.key with
 |some i=>
  have oD:(kvs.any λp=>decide (p.1=k))=true:=any_of_findIdx_some (Tp▸hi);refine af (dZ (af (wpAny_updateDict (s:={s with toks:=s.toks+1}) ho hd (wpAny_point (hQ _ ep (λ_=>rfl) ⟨_,_,fQ _ ho (tf (Obj.data_mapDict hd _)),
   hc.mapDict _,Obj.data_mapDict hd _,hk.modify _ _,?_,?_⟩ (bX ..))))))
  ·erw[n8,if_pos oD];haveI hl:(es.toList.findIdx? λe=>knd.is k e.key)=some i:=by rw[<-hi];obtain⟨l⟩:=es;simp
   have:=hp.modify hn hl v;obtain⟨l⟩:=es;simpa using this
  ·erw[n8,if_pos oD,keys_map_store];exact hn
 |none=>
  have vW:k∉kvs.map (·.1):=not_mem_of_findIdx_none (Tp▸hi);have oD:¬(kvs.any λkv=>decide (kv.1=k))=true:=by erw[cF];rintro⟨kv,Nu,he⟩;exact vW (ak.mpr ⟨kv,Nu,of_decide_eq_true he⟩)
  refine af (dZ (wpAny_updateDictKeys (hz:=Qn) (s:={s with toks:=s.toks+1}) ho hd (hQ _ (ep+1) (λe=>absurd e oD) ⟨_,_,fQ _ ho (tf (kU hd _)),
   hc.mapDictKeys _,kU hd _,hk.push kj _,?_,?_⟩ (bX ..))))
  ·erw[n8,if_neg oD];have:=hp.append kj (knd.hash k) v;obtain⟨l⟩:=es;simpa using this
  ·erw[n8,if_neg oD,az,bI];refine⟨hn,by simp,?_⟩;intro a ha b hb;simp only[aP,uJ,ao]at hb;subst hb
   exactλe=>vW (e▸ha)
theorem vX{Q:Unit->aj->Prop}(kj:knd.is k key=true)(hm:s.heap.DictAt knd d kvs ep)
  (hQ:∀h' iz,((kvs.any λp=>decide (p.1=k))=true->iz=ep)->h'.DictAt knd d (n8 kvs k v) iz->bu d s.heap h'->Q () {s with heap:=h',toks:=s.toks+1})
  (hsz:kvs.length<=iy):
  am (bB prog w) A (CT (.ref d) key v) Q E s:=by
 haveI hT:=hm.dictOf.typeIs;unfold CT
 try with_reducible refine aZ ?_
 refine af (xW hT (by decide) ?_);refine af (fA (name:=aN "__setitem__") hT slot_dict_setitem
  (eX slot_dict_setitem hT entry_dict_setitem ?_ (args_dict_setitem _ _ _)))
 show am _ _ (Builtin.Dict.notOrdered "__setitem__" ⟨[.ref d,key,v],[]⟩ >>= _) _ _ s;refine af (tg hT ?_);show am _ _ (dictSet d key v >>= _) _ _ s;exact af (ye (hsz:=hsz) kj hm λh' iz he AP Nv=>ah ⟨.none,rfl,ah (hQ h' iz he AP Nv)⟩)
end
section
variable {Γ:Cx} {A:bW} {E:al->aj->Prop} {s:aj} {M N:aL} {n:Nat}
noncomputable def so(s:aj)(v:al):Prop:=∃T id,xi (.type T) "__getitem__"=pure (some (.builtin id))/\s.TypeIs v T
theorem Nw(ho:s.heap.get? a=some (listOf dy i)):so s (.ref a):=⟨"list",_,slot_list_getitem.lookup,_,ho,rfl⟩
theorem JM(hA:Lv n A)(R:bS Γ M s)(l:∀a mo,N a=some mo->M a=some mo)(vo:VI s.heap M ov o)(vi:VI s.heap M iv i)(h:gy N o i x)
  {Q:al->aj->Prop} (q:∀r t,VI s.heap M r x->Q r {s with toks:=t}):so s ov/\am Γ.M A (xV ov iv) Q E s:=by
 revert hA R l vo vi h;exists Γ,A,E,s,M,N,n,ov,iv,o,i,x,Q;cases h with
 | @str x j h hb=>
  refine vo.oB λt=>?_;refine vi.fX λt'=>?_;haveI e:x.cps[j]?=some (x.cps.getD j 0):=by simp[gL,show j<x.cps.size from h]
  refine⟨⟨"str",_,slot_str_getitem.lookup,typeIs_str s x _⟩,PyProof.Rows.getItem_str (c:=x.cps.getD j 0) ?_ ?_ (q _ _ (.str _ _))⟩
  ·erw[qY];exact⟨decide_eq_false (by lia),decide_eq_false (by lia)⟩
  ·erw[Jc (dR j) (by unfold Str.length at h ⊢;lia)];exact e
 |lst h hx hb=>refine fF R vo (eW l h) λa dy k ho ra=>?_;refine vi.fX λt'=>?_;refine aI (ra.get hx) λr hr hi=>?_;exact⟨Nw ho,wpAny_getItem_list ⟨_,ho,rfl,k,rfl⟩ (dR _) (by lia) (by rw[<-be];exact hr) (q r s.toks hi)⟩
 |tup hx hb=>refine vo.ny λa vs k ho hn ra=>?_;refine vi.fX λt'=>?_;refine aI (ra.get hx) λr hr hi=>?_;haveI fY:=(cq.mp hr).1;exact⟨⟨"tuple",_,jL.lookup,_,ho,rfl⟩,getItem_tuple ⟨_,ho,rfl,_,rfl⟩ (by lia) (by lia) (Jc (dR _) (by simp;exact aR 32281516771346 rfl fY)) (by simpa using hr) (q r s.toks hi)⟩
 |dp h hq hx=>refine vo.sh ?_;refine Jo (zb R (l _ _ h) vi hq) λks hd hk hr hi aT=>?_;clear aT;refine aI (oY hk hr hx) λv hv np=>?_;exact⟨⟨"dict",_,slot_dict_getitem.lookup,hd.dictOf.typeIs⟩,wpAny_getItem_of (knd:=pk Γ.prog Γ.w) hi hd.dictOf.mapOf hv (q v _ np)⟩
 |dt h hq hx=>refine vo.sh ?_;refine WY (JL R (l _ _ h) vi hq) λxs a hd hn hk hr aT hi il=>?_;obtain rfl:=aT;clear il;refine aI (oY (ks:=xs.map λx=>(x.1,x.2.2)) ((AM xs).trans hk) ((Fv xs).symm▸hr) hx) λv hv np=>?_;refine aI (aJ.mp ((ty xs _).trans hv)) λp hp aT=>?_;obtain rfl:=aT;exact⟨⟨"dict",_,slot_dict_getitem.lookup,hd.typeIs⟩,wpAny_getItem_heap (knd:=tk Γ.prog Γ.w) hA.room hi hd hp (q _ _ np)⟩
theorem AQ(hA:Lv n A)(R:bS Γ M s)(l:∀a mo,N a=some mo->M a=some mo){iv xv:al}{d:ax}{i x:V}{P:aL->Prop}(vi:VI s.heap M iv i)(vx:VI s.heap M xv x)(h:jC N d i x P)
  {Q:Unit->aj->Prop} (q:∀C8 mo s',N d=some C8->bS Γ (M.put d mo) s'->bu d s.heap s'.heap->P (N.put d mo)->Q () s'):am Γ.M A (CT (.ref d) iv xv) Q E s:=by
 revert hA R l vi vx h;exists Γ,A,E,s,M,N,n,iv,xv,d,i,x,P,Q;have CA:∀{kvs:List (PK×V)}{ep:Nat}{qq:PK},N d=some (.dp kvs ep)->ri i=some qq->kvs.length<=gS->(∀iz,(qq∈kvs.map (·.1)->iz=ep)->P (N.put d (.dp (dG kvs qq x) iz)))->am Γ.M A (CT (.ref d) iv xv) Q E s:=by
  intro kvs ep qq h hq hl he;haveI eM:=l _ _ h;refine Jo (zb R eM vi hq) λks hd hk hr hi hc=>?_;haveI hlen:ks.length=kvs.length:=by simpa using congrArg cB hk
  refine vX (knd:=pk Γ.prog Γ.w) hi hd (λh' iz Nx CC hs=>?_) (io (hlen▸hl));haveI ex:=cl.put (mo:=.dp (dG kvs qq x) iz) eM hs;exact q _ (.dp (dG kvs qq x) iz) _ h (bS.put (t:=s.toks+1) R eM hs.extBut ⟨_,CC,ud hk qq xv x,yd hk (hr.ext ex) (vx.ext ex)⟩) hs (he iz λhm=>Nx ((rn hk qq).mpr hm))
 cases h with
 | @lst xs j _ h hl hb=>haveI eM:=l _ _ h;refine eQ (R.obj _ _ eM) λdy k ho ra=>?_;refine vi.fX λt'=>?_;refine vV ho (dR _) (by lia) (by have:=ra.length;simp at this;lia) λh' vc hs=>?_;refine q _ (.list (xs.set j x)) _ h (bS.put (t:=s.toks) R eM hs.extBut ⟨_,_,vc,?_⟩) hs rfl;haveI ex:=cl.put (mo:=.list (xs.set j x)) eM hs;erw[Array.toList_setIfInBounds];exact(ra.ext ex).set (vx.ext ex) _
 |W5 h hq hl he=>exact CA h hq hl λiz e=>by erw[e he]
 |Tf h hq hl hk=>exact CA h hq hl λiz _=>hk iz
 | @dt _ _ kvs qq h hq hl=>
  haveI eM:=l _ _ h;refine Fw R eM vi hq λxs a hd hn hk hr hi ha il=>?_;clear il;haveI hlen:xs.length=kvs.length:=by simpa using congrArg cB hk
  refine wpAny_setItem_heap (knd:=tk Γ.prog Γ.w) hA.room hi hd (λh' CC hs=>?_) (io (hlen▸hl));haveI ex:=cl.put (mo:=.dt (dG kvs qq x)) eM hs;haveI e1:(storedH xs qq a xv).map (λx=>(x.1,x.2.2))=dG (xs.map λx=>(x.1,x.2.2)) qq xv:=by
   unfold storedH dG;erw[sj,CR];show _=if(xs.any λp=>decide (p.1=qq))=true then _ else _
   split
   ·erw[ay,ay]
    congr 1
    funext y
    dsimp only[mc,putAt];split<;>rfl
   ·erw[az];rfl
  haveI CD:=(AM xs).trans hk;refine q _ (.dt (dG kvs qq x)) _ h (bS.put (t:=s.toks+(tk Γ.prog Γ.w).draws qq) R eM hs.extBut ⟨_,CC,λy hy=>?_,?_,?_⟩) hs rfl
  ·have:M y.2.1=none:=by
    unfold storedH at hy;split at hy
    ·refine iu hy λz hz=>?_;unfold putAt;split<;>exact hn z hz
    ·rcases aH.mp hy with hy |hy
     ·exact hn y hy
     ·obtain rfl:=ao.mp hy;exact ha
   erw[aL.bE λe2=>pS ((eM.symm.trans (congrArg M e2.symm)).trans this)];exact this
  ·rw[<-AM,e1];exact ud CD qq xv x
  ·rw[<-Fv,e1];exact yd CD ((Fv xs).symm▸hr.ext ex) (vx.ext ex)
noncomputable def Qo(h:cg)(M:aL)(v:al):Option V->Prop
 |none=>v=.none
 |some x=>VI h M v x
theorem GP(R:bS Γ M s)(l:∀a mo,N a=some mo->M a=some mo){ov lv uv:al}{o x:V}{lo up:Option V}{k:KV}(vo:VI s.heap M ov o)
  (vl:Qo s.heap M lv lo) (vu:Qo s.heap M uv up) (h:lb N o lo up x) (hk:k x N)
  {Q:al->aj->Prop} (q:Q1 Γ M N s k Q):
  so {s with heap:=s.heap.push {cls:=.type "slice",data:=.fields #[lv,uv,.none]}} ov/\am Γ.M A (xV ov (.ref s.heap.objs.size)) Q E {s with heap:=s.heap.push {cls:=.type "slice",data:=.fields #[lv,uv,.none]}}:=by
 revert R l vo vl vu h hk;exists Γ,A,E,s,M,N,ov,lv,uv,o,x,lo,up,k,Q;generalize hO:({cls:=.type "slice",data:=.fields #[lv,uv,.none]}:Obj)=O;haveI Tq:cg.IsSliceOf (s.heap.push O) s.heap.objs.size lv uv .none:=hO▸cg.IsSliceOf.new ..;have R':bS Γ M {s with heap:=s.heap.push O}:=R.push _ s.toks;haveI ex:=cl.push s.heap M O;haveI old:∀{b ob},s.heap.get? b=some ob->(s.heap.push O).get? b=some ob:=λe=>ai _ e;have q2:∀{r o'},VI ((s.heap.push O).push o') M r x->bS Γ M {s with heap:=(s.heap.push O).push o'}->Q r {s with heap:=(s.heap.push O).push o'}:=λv R2=>q _ _ _ v R2 (λ_ _ e=>ai _ (old e)) hk;have lists:∀{xs:List V}{pl pu}{ys:List V}(pick:List al->List al),d9 N o=some xs->IsPart lv pl->IsPart uv pu->(∀dy:Array al,slicePick dy pl pu none=(pick dy.toList).toArray)->
   (∀{vs h},ch h M vs xs->ch h M (pick vs) ys)->xs.length<=gS->x=.lst ys->so {s with heap:=s.heap.push O} ov/\am Γ.M A (xV ov (.ref s.heap.objs.size)) Q E {s with heap:=s.heap.push O}:=by
  intro xs pl pu ys pick h1 p1 p2 hp hv hl hx;refine fF R vo (eW l h1) λa dy i ho ra=>?_;refine⟨⟨"list",_,slot_list_getitem.lookup,_,old ho,rfl⟩,wpAny_getItem_list_slice (s:={s with heap:=s.heap.push O}) ⟨_,old ho,rfl,i,rfl⟩ Tq p1 p2 .none (by simp) ?_ (io (by have:=ra.length;simp at this;exact aR 0x1d7560836010d60813 rfl hl this))⟩;erw[hp dy];refine q2 ?_ (R'.push _ s.toks);erw[hx];exact VI.Jw R' (hv (ra.ext ex))
 cases h with
 | @y4 xs j h1 h2 h=>refine bz (VI.int_inv vl) λt aT=>?_;obtain rfl:=aT;obtain rfl:uv=.none:=vu;refine vo.ny λa vs k' ho hn ra=>?_;haveI hlen:=ra.length;refine⟨⟨"tuple",_,jL.lookup,_,old ho,rfl⟩,getItem_tuple_from (a:=j) (s:={s with heap:=s.heap.push O}) ⟨_,old ho,rfl,_,rfl⟩ Tq h1 (by simp;exact aR 0x1d7560c16020d60813 rfl h2 hlen) ?_ (io (by simp;exact aR 0x1d7560836010d60813 rfl h hlen))⟩;refine q2 ?_ (R'.push _ s.toks);exact VI.vS R' (by simpa using(ra.ext ex).drop j)
 | @Tg o xs j ho h=>refine bz (VI.int_inv vl) λt aT=>?_;obtain rfl:=aT;obtain rfl:uv=.none:=vu;exact lists (λvs=>vs.drop j) ho (.int _ _) .none (λdy=>slicePick_from' dy j) (λhv=>hv.drop j) h rfl
 | @Th xs j h1 h2 h=>
  obtain rfl:lv=.none:=vl;refine bz (VI.int_inv vu) λt aT=>?_;obtain rfl:=aT;refine vo.ny λa vs k' ho hn ra=>?_;haveI hlen:=ra.length;refine⟨⟨"tuple",_,jL.lookup,_,old ho,rfl⟩,ro (b:=j) (s:={s with heap:=s.heap.push O}) ⟨_,old ho,rfl,_,rfl⟩ Tq (by simp;exact aR 0x1d7560c16020d60813 rfl h2 hlen) (λe=>?_) ?_ (io (by simp;exact aR 0x1d7560836010d60813 rfl h hlen))⟩
  ·refine q _ _ _ (.tup (old ho) hn ?_) R' (λ_ _=>old) hk;erw[ef (by simp at e;exact aR 0x1d7560c26010d80813 rfl hlen e)];exact ra.ext ex
  ·refine q2 ?_ (R'.push _ s.toks);exact VI.vS R' (by simpa using(ra.ext ex).take j)
 | @GJ o xs j ho h=>obtain rfl:lv=.none:=vl;refine bz (VI.int_inv vu) λt aT=>?_;obtain rfl:=aT;exact lists (λvs=>vs.take j) ho .none (.int _ _) (λdy=>slicePick_upto' dy j) (λhv=>hv.take j) h rfl
end
end
section
theorem Ny(hd:o.data=.dict es ep)(hk:StrKeys es)(name:Str):lookIn name o=some (nsFind es name):=by
 unfold lookIn nsFind findBy;erw[hd];dsimp only;rw[<-Array.find?_toList];cases hf:es.toList.find? (·.key.isStr name) with
 |some e=>rfl
 |none=>
  dsimp only;have:es.toList.any (·.refKey)=false:=by erw[List.any_eq_false];intro e he;refine qv (hk e (EX.mp he)) λn t h=>?_;simp[Jb.refKey,h]
  erw[this];rfl
theorem inst_of{m:Str->Option al}(e:h.get? a=some (ii C dx))(n:h.Ns1 dx m):∃od,InstAt h a (ii C dx) C (some od)/\∀name,lookIn name od=some (m name):=by refine GD n λo es ep ho hd hk hu hm=>?_;clear n;exact⟨o,⟨e,rfl,rfl,ho⟩,λname=>by erw[Ny hd hk,hm]⟩
theorem GQ(i:VI h M v x)(n:x.GK=true):handedIn v=true:=i.ind (P:=λv x=>x.GK=true->handedIn v=true) (λ_=>rfl) (λ_ _=>rfl) (λ_ _ _=>rfl) (λ_ _ _=>rfl) (λ_ _ _ _ _=>rfl) (λ_ _ _ _ _=>rfl) (λ_ _ _ _ _ _ _=>rfl) (λ_ _ _=>rfl) (λ_ _=>rfl) (λ_ h=>iB h) n
section
variable {Γ:Cx} {A:bW} {E:al->aj->Prop} {s:aj} {M N:aL} {n:Nat}
theorem kF(h:mO o=true):attributeBase o name env whole=whole:=by
 cases o with
 |Call f args ue pos=>cases f with
  |Name id p=>cases args with
   |nil=>cases ue with
    |nil=>exact iB h
    |cons=>rfl
   |cons=>rfl
  |_=>rfl
 |_=>rfl
theorem JN(R:bS Γ M s)(l:∀a mo,N a=some mo->M a=some mo){ov:al}{a C dx:ax}{x:V}{name:Str}(vo:VI s.heap M ov (.obj a C dx))(h:vP Γ.K N C dx name x)
  {Q:al->aj->Prop} (q:∀r t,VI s.heap M r x->Q r {s with toks:=t}):am Γ.M A (getAttr ov name true) Q E s:=by
 revert R l vo h;exists Γ,A,E,s,M,N,ov,a,C,dx,x,name,Q;obtain⟨⟨p1,p2,p3,p4,p5⟩,pa,hx,ρ,c,e,hr⟩:=h;refine vo.Tj λho hn=>?_;refine vK (R.obj _ _ (l _ _ e)) λm ns CF hw hl h0 h1=>?_;refine aI (inst_of ho CF) λod I AR=>?_;refine aI (h1 name x hr) λv hv hi=>?_;refine get_value R.K I p1 (v:=v) ?_ (GQ hi hx) (q v _ hi);refine aI (any_some p4) λcd hc hd=>?_;unfold findObj;have W8:cR Γ.K (.ref C) name=some none:=pa;erw[hc,nq,W8,nq];simp only[nq];unfold W.ownOf;erw[if_pos hd];dsimp only;erw[AR name,hv];rfl
theorem Nz{a C dx:ax}{name:Str}{tk:Tok}{v:al}{m:Str->Option al}{ns:List Str}{R:EY->aj->Prop}(K:tc)(X:K.In s.heap)(ho:s.heap.get? a=some (ii C dx))(CF:s.heap.Ns1 dx m)(hw:Within m ns)
  (hl:ns.length<1000) (pl:plainOver K C=true) (pd:(clsIn K C).any (·.hasDict)=true) (pa:cM K C name)
  (q:∀h',h'.Ns1 dx (λx=>if x=name then some v else m x)->bu dx s.heap h'->R (.ok (.ret .none)) {s with heap:=h',toks:=s.toks+1}):
  ja Γ.M A (.call (.builtin "object.__setattr__") ⟨[.ref a,.str name tk,v],[]⟩) R s:=by
 exists Γ,A,s,a,C,dx,name,tk,v,m,ns,R,K;refine aI (inst_of ho CF) λod I AR=>?_;refine osa_open X I pl (r:=none) (by unfold takerIn;have W8:cR K (.ref C) name=some none:=pa;erw[W8];rfl) λb=>?_;refine aI (any_some pd) λcd hc hd=>?_;refine af (ah (af (af (wpAny_loadPart ho (af ((looks_clsIn X hc).here ?_))))));erw[hd];refine ah (a:=some dx) (af (ah (af (wpAny_nsSet1 CF λh' Pm hs=>?_))));refine yW (Pm.count (hw.cons name v)) λo' es' iz vc CC Nm=>?_;refine af (wpAny_lookBehind vc (by erw[CC];exact pastItsLine_dict (by erw[bF];simp at Nm;exact aR 0x1d75646079f79f79f79f79fbc25918010977a77ad8812 rfl hl Nm)) ?_);exact ah (q h' Pm hs)
theorem AS(R:bS Γ M s)(l:∀a mo,N a=some mo->M a=some mo){ov xv:al}{a C dx:ax}{x:V}{name:Str}{ρ:cf}{c:Nat}(vo:VI s.heap M ov (.obj a C dx))(vx:VI s.heap M xv x)(h:y6 Γ.K N C dx name ρ c)
  {Q:Unit->aj->Prop} (q:∀s',bS Γ (M.put dx (.at (ρ.set name x) (c+1))) s'->bu dx s.heap s'.heap->Q () s'):am Γ.M A (setAttr ov name xv) Q E s:=by
 revert R l vo vx h;exists Γ,A,E,s,M,N,ov,xv,a,C,dx,x,name,ρ,c,Q;obtain⟨⟨p1,p2,p3,p4,p5⟩,pa,e,hc⟩:=h;have eM:=l _ _ e;refine vo.Tj λho hn=>?_;refine vK (R.obj _ _ eM) λm ns CF hw hl h0 h1=>?_;refine aI (inst_of ho CF) λod I AR=>?_;refine set_plain R.K I p3 ?_;refine Nz (s:={s with toks:=s.toks+1}) Γ.K R.K ho CF hw (by exact aR 0x1d7577a77ad8825810977a39412 rfl hc hl) p5 p4 pa λh' Pm hs=>?_;have ex:cl M s.heap (M.put dx (.at (cf.set ρ name x) (c+1))) h':=cl.put (s:=s) eM hs;refine q _ (bS.put (s:={s with toks:=s.toks+1}) (t:=s.toks+1+1) (R.tok _) eM hs.extBut ⟨_,name::ns,Pm,hw.cons name xv,aw hl,λy hy=>?_,λy d hy=>?_⟩) hs
 ·by_cases Qp:y=name
  ·subst Qp;rw[cf.set_same]at hy;exact pS hy
  ·rw[cf.hG Qp]at hy;exact(if_neg Qp).trans (h0 y hy)
 ·by_cases Qp:y=name
  ·subst Qp;rw[cf.set_same]at hy;obtain rfl:=aA hy;exact⟨xv,if_pos rfl,vx.ext ex⟩
  ·rw[cf.hG Qp]at hy;refine aI (h1 y d hy) λu hu hi=>?_;exact⟨u,(if_neg Qp).trans hu,hi.ext ex⟩
theorem JO(R:bS Γ M s)(l:∀a mo,N a=some mo->M a=some mo)(vo:VI s.heap M ov (.obj a C dx))(h:y5 Γ.K N C dx name f)
  {Q:al×List al->aj->Prop} (q:Q (.ref f,[ov]) s):am Γ.M A (getMethod ov name pl) Q E s:=by
 obtain⟨pc,hf,W9,ρ,c,e,hn⟩:=h;refine ez vo.Fh λaT ho uT=>?_;obtain rfl:=aT;refine vK (R.obj _ _ (l _ _ e)) λm ns CF hw hl h0 h1=>?_;refine aI (inst_of ho CF) λod I AR=>?_;refine method_fn R.K I pc.1 pc.2.1 hf (beq_iff_eq.mp W9) ?_ q;unfold shadowIn;dsimp only;erw[AR,h0 name hn];rfl
theorem GR(R:bS Γ M s)(l:∀a mo,N a=some mo->M a=some mo){ov:al}{o:V}{name:Str}{id:String}{pl:Sem Bool}(vo:VI s.heap M ov o)(h:uS N o name id)
  {Q:al×List al->aj->Prop} (q:Q (.builtin id,[ov]) s):am Γ.M A (getMethod ov name pl) Q E s:=by
 revert R l vo h;exists Γ,A,E,s,M,N,ov,o,name,id,pl,Q;have nd:∀{a o},s.heap.get? a=some o->o.dict=none->∀b,eI a=.ref b->∃o,s.heap.get? b=some o/\o.dict=none:=λe h b eb=>⟨_,(eI.inj eb)▸e,h⟩
 cases h with
 |isspace=>refine bz vo.str_inv λt aT=>?_;obtain rfl:=aT;exact @db Γ.M A E s (.str _ t) "str" (aN "isspace") "str.isspace" pl Q (typeIs_str s _ t) PySem.F.plainAttrs_str PySem.F.slot_str_isspace PySem.F.type_str_isspace (λ_ e=>nomatch e) q
 |append h=>obtain rfl:=vo.kN;refine eQ (R.obj _ _ (l _ _ h)) λdy i ho ra=>?_;exact @db Γ.M A E s (.ref _) "list" (aN "append") "list.append" pl Q ⟨_,ho,rfl⟩ nh PySem.F.slot_list_append PySem.F.type_list_append (nd ho rfl) q
 |extend h=>obtain rfl:=vo.kN;refine eQ (R.obj _ _ (l _ _ h)) λdy i ho ra=>?_;exact @db Γ.M A E s (.ref _) "list" (aN "extend") "list.extend" pl Q ⟨_,ho,rfl⟩ nh xX PySem.F.type_list_extend (nd ho rfl) q
 |pop h=>obtain rfl:=vo.kN;refine eQ (R.obj _ _ (l _ _ h)) λdy i ho ra=>?_;exact @db Γ.M A E s (.ref _) "list" (aN "pop") "list.pop" pl Q ⟨_,ho,rfl⟩ nh PySem.F.slot_list_pop PySem.F.type_list_pop (nd ho rfl) q
 |get h=>obtain rfl:=vo.kN;refine cQ (R.obj _ _ (l _ _ h)) λks hd hk hr=>?_;exact @db Γ.M A E s (.ref _) "dict" (aN "get") "dict.get" pl Q hd.dictOf.typeIs i7 oK An hd.dictOf.mapOf.noDict q
 |Ti h=>obtain rfl:=vo.kN;refine cQ (R.obj _ _ (l _ _ h)) λks hd hk hr=>?_;exact @db Γ.M A E s (.ref _) "dict" (aN "pop") "dict.pop" pl Q hd.dictOf.typeIs i7 Ao PySem.F.type_dict_pop hd.dictOf.mapOf.noDict q
 |W6 h=>obtain rfl:=vo.kN;refine cQ (R.obj _ _ (l _ _ h)) λks hd hk hr=>?_;exact @db Γ.M A E s (.ref _) "dict" (aN "get") "dict.get" pl Q hd.typeIs i7 oK An (dictOfH_noDict hd) q
 |rl h=>obtain rfl:=vo.kN;refine cQ (R.obj _ _ (l _ _ h)) λks hd hk hr=>?_;exact @db Γ.M A E s (.ref _) "dict" (aN "setdefault") "dict.setdefault" pl Q hd.typeIs i7 u6 PySem.F.type_dict_setdefault (dictOfH_noDict hd) q
end
end
section
noncomputable def Off(wr:List ax)(h h':cg):Prop:=∀b o,b∉wr->h.get? b=some o->h'.get? b=some o
theorem Off.trans(x:Off wr h h')(y:Off wr h' MO):Off wr h MO:=λb o hb e=>y b o hb (x b o hb e)
theorem Off.refl(wr:List ax)(h:cg):Off wr h h:=λ_ _ _ e=>e
theorem Off.ext(x:Off wr h h')(hw:∀b∈wr,M b≠none):cl M h M h':=λb o e hn=>⟨x b o (λhb=>hw b hb hn) e,hn⟩
section
variable {Γ:Cx} {M N:aL} {s:aj} {wr:List ax} {h':cg}
theorem bS.GS(R:bS Γ M s)(x:Off wr s.heap h')(hw:∀b∈wr,M b=some .jd)(hl:∀b∈wr,∃o,h'.get? b=some o):bS Γ M {s with heap:=h',toks:=t}:=by
 haveI ex:cl M s.heap M h':=x.ext λb hb q=>by rw[hw b hb]at q;cases q
 refine⟨λa mo e=>?_,λb o e=>x b o (λhb=>?_) (R.base b o e),R.off,R.gens,R.os⟩
 ·by_cases ha:a∈wr
  ·rw[hw a ha]at e;cases e;exact hl a ha
  ·refine bz (R.live e) λo ho=>?_;exact(R.obj a mo e).ext ex ((x a o ha ho).trans ho.symm)
 ·have:=R.off b _ (hw b hb);rw[e]at this;cases this
end
section
variable {Γ:Cx} {M M':aL} {s:aj} {wr:List ax} {h':cg}
theorem bS.zc(R:bS Γ M s)(x:Off wr s.heap h')(hw:∀b∈wr,M b=some .jd)(hl:∀a mo,M' a=some mo->M a=some mo/\a∉wr):
  bS Γ M' {s with heap:=h',toks:=t}/\cl M s.heap M' h':=by
 have ex:cl M s.heap M' h':=λb o e hn=>⟨x b o (λhb=>by rw[hw b hb]at hn;cases hn) e,by
  cases q:M' b with
  |none=>rfl
  |some mo=>rw[(hl b mo q).1]at hn;cases hn⟩
 refine⟨⟨λa mo e=>?_,λb o e=>x b o (λhb=>?_) (R.base b o e),λa mo e=>R.off a mo (hl a mo e).1,R.gens,R.os⟩,ex⟩
 ·refine a9 (hl a mo e) λe1 e2=>?_;refine bz (R.live e1) λo ho=>?_;exact(R.obj a mo e1).ext ex ((x a o e2 ho).trans ho.symm)
 ·have:=R.off b _ (hw b hb);rw[e]at this;cases this
end
structure pU(Γ:Cx)(t:Expr)(I:ax)(wr:List ax)(xs:List V)(st:aL->Prop)(St:Nat->aL->cg->Prop)(Md:Nat->aL->al->cg->Prop):Prop where
 ext:∀{i M h M' h'},cl M h M' h'->(∀b∈wr,h'.get? b=h.get? b)->St i M h->St i M' h'
 live:∀{i M h},St i M h->∀b∈wr,∃o,h.get? b=some o
 Po:∀{i M v h},Md i M v h->∀b∈wr,∃o,h.get? b=some o
 next:∀{i N M A s Q E x},A.handled=none->bS Γ M s->(∀a mo,N a=some mo->M a=some mo)->(∀b∈wr,M b=some .jd)->st N->St i M s.heap->xs[i]?=some x->
  (∀v h' tk,Off wr s.heap h'->Md i M v h'->Q (some v) {s with heap:=h',toks:=tk})->am Γ.M A (kz (.ref I)) Q E s
 go:∀{i M A s Q E x v},xs[i]?=some x->(∀b∈wr,M b=some .jd)->Md i M v s.heap->(∀h',Off wr s.heap h'->VI h' M v x->St (i+1) M h'->Q () {s with heap:=h'})->am Γ.M A (jx t (.ref I) v) Q E s
 done:∀{N M A s Q E},A.handled=none->bS Γ M s->(∀a mo,N a=some mo->M a=some mo)->(∀b∈wr,M b=some .jd)->st N->St xs.length M s.heap->
  (∀h' tk,Off wr s.heap h'->Q none {s with heap:=h',toks:=tk})->am Γ.M A (kz (.ref I)) Q E s
 self:∀{i M A s Q E},St i M s.heap->Q (.ref I) s->am Γ.M A (rU (.ref I)) Q E s
noncomputable def ES:List String:=["enumerate","zip","dict_itemiterator","dict_reverseitemiterator","odict_iterator","itertools.zip_longest","itertools.pairwise"]
theorem W'{prog:cx}{w:eB}{A:bW}{E:al->aj->Prop}{s:aj}{t:Expr}{I:ax}{v:al}{o:Obj}{n:String}{Q:Unit->aj->Prop}(ho:s.heap.get? I=some o)(hc:o.cls=.type n)
  (hn:ES.contains n=false) (q:Q () s):am (bB prog w) A (jx t (.ref I) v) Q E s:=by
 exists prog,w,A,E,s,t,I,v,o,n,Q;obtain⟨c,d,dt,sl⟩:=o;have hc:c=.type n:=hc;subst hc;have main:∀elts k pos,am (bB prog w) A (jx (.Tuple elts k pos) (.ref I) v) Q E s:=by
  intro elts k pos;unfold jx;cases v with
  |ref a=>
   refine af (wpAny_load ho ?_);cases dt with
   |fields vs=>show am _ A (if(ES.contains n&&vs[0]?==some (gV a))=true then _ else _) Q E s;erw[hn,Bool.false_and,if_neg bU];exact ah q
   |_=>exact ah q
  |_=>exact ah q
 cases t with
 |Tuple elts k pos=>exact main elts k pos
 |List elts pos=>exact main elts 0 pos
 |_=>exact ah q
section
variable {Γ:Cx} {t:Expr} {I:ax} {xs:List V} {st:aL->Prop} {P:Nat->cg->Prop} {Src:aL->cg->Prop}
theorem pU.Sn(hP:∀{i h h'},P i h->h'.get? I=h.get? I->P i h')(hS:∀{M h M' h'},cl M h M' h'->Src M h->Src M' h')
  (hc:∀{i h},P i h->∃o n,h.get? I=some o/\o.cls=.type n/\ES.contains n=false)
  (next:∀{i N M A s Q E x},A.handled=none->bS Γ M s->(∀a mo,N a=some mo->M a=some mo)->M I=some .jd->st N->P i s.heap->Src M s.heap->xs[i]?=some x->
   (∀v h' tk,P (i+1) h'->bu I s.heap h'->VI s.heap M v x->Q (some v) {s with heap:=h',toks:=tk})->am Γ.M A (kz (.ref I)) Q E s)
  (done:∀{N M A s Q E},A.handled=none->bS Γ M s->(∀a mo,N a=some mo->M a=some mo)->M I=some .jd->st N->P xs.length s.heap->Src M s.heap->
   (∀h' tk,iC I s.heap h'->Q none {s with heap:=h',toks:=tk})->am Γ.M A (kz (.ref I)) Q E s)
  (self:∀{i A s Q E},P i s.heap->Q (.ref I) s->am Γ.M A (rU (.ref I)) Q E s):
  pU Γ t I [I] xs st (λi M h=>P i h/\Src M h) (λi M v h=>P (i+1) h/\Src M h/\∀x,xs[i]?=some x->VI h M v x) where
 ext:=λx hw gf=>⟨hP gf.1 (hw I (by simp)),hS x gf.2⟩
 live:=λgf b hb=>by simp at hb;subst hb;refine eQ (hc gf.1) λo _ ho _=>?_;exact⟨o,ho⟩
 Po:=λgf b hb=>by simp at hb;subst hb;refine eQ (hc gf.1) λo _ ho _=>?_;exact⟨o,ho⟩
 next:=λ{i N M A s Q E x}hh R l hw hs gf hx q=>next hh R l (hw I (by simp)) hs gf.1 gf.2 hx λv h' tk hp uU hv=>by
  have off:Off [I] s.heap h':=λb o hb e=>(uU.2 b (by simpa using hb)).trans e;have ex:cl M s.heap M h':=off.ext λb hb=>by erw[hw b hb];exactλq=>by cases q
  exact q v h' tk off ⟨hp,hS ex gf.2,λy hy=>by rw[hx]at hy;cases hy;exact hv.ext ex⟩
 go:=λ{i M A s Q E x v}hx hw hm q=>by refine fc (hc hm.1) λo n ho i8 hn=>?_;exact W' ho i8 hn (q s.heap (Off.refl _ _) (hm.2.2 x hx) ⟨hm.1,hm.2.1⟩)
 done:=λ{N M A s Q E}hh R l hw hs gf q=>done hh R l (hw I (by simp)) hs gf.1 gf.2 λh' tk he=>
  q h' tk (λb o hb e=>he b o (by simpa using hb) e)
 self:=λgf q=>self gf.1 q
end
section
variable {Γ:Cx} {t:Expr} {I a:ax} {xs:List V}
theorem sq{h h':cg}{i:Nat}(x:h.IsListIter I a i)(e:h'.get? I=h.get? I):h'.IsListIter I a i:=let⟨o,ho,r⟩:=x;⟨o,e.trans ho,r⟩
theorem pU.Xa:pU Γ t I [I] xs (λN=>N a=some (.list xs)) (λi M h=>h.IsListIter I a i/\True) (λi M v h=>h.IsListIter I a (i+1)/\True/\∀x,xs[i]?=some x->VI h M v x):=
 pU.Sn (P:=λi h=>h.IsListIter I a i) (Src:=λ_ _=>True) sq (λ_ x=>x) (λx=>cQ x λo ho hc _=>⟨o,_,ho,hc,by decide⟩)
  (λ{i N M A s Q E x}hh R l hw hs hp _ hx q=>by
   refine eQ (R.obj _ _ (l _ _ hs)) λdy m ho ra=>?_;refine aI (ra.get hx) λv hv hi=>?_;exact wpAny_pyNext_list_item hp ⟨_,ho,rfl,m,rfl⟩ (by rw[<-be];exact hv) λh' hit uU=>q v h' s.toks hit uU hi)
  (λ{N M A s Q E}hh R l hw hs hp _ q=>by
   refine eQ (R.obj _ _ (l _ _ hs)) λdy m ho ra=>?_;exact wpAny_pyNext_list_end hh hp ⟨_,ho,rfl,m,rfl⟩ (by rw[<-be];exact bQ (by erw[ra.length];exact ap _)) λh' he=>q h' s.toks he)
  (λhp q=>wpAny_pyIter_listiter hp q)
theorem pU.Xb:pU Γ t I [I] xs (λ_=>True) (λi M h=>h.IsListIter I a i/\∃vs n,h.get? a=some (listOf (bp vs) n)/\M a=none/\ch h M vs xs)
  (λi M v h=>h.IsListIter I a (i+1)/\(∃vs n,h.get? a=some (listOf (bp vs) n)/\M a=none/\ch h M vs xs)/\∀x,xs[i]?=some x->VI h M v x):=
 pU.Sn (P:=λi h=>h.IsListIter I a i) (Src:=λM h=>∃vs n,h.get? a=some (listOf (bp vs) n)/\M a=none/\ch h M vs xs) sq
  (λx z=>fc z λvs n e hn r=>⟨vs,n,(x _ _ e hn).1,(x _ _ e hn).2,r.ext x⟩) (λx=>cQ x λo ho hc _=>⟨o,_,ho,hc,by decide⟩)
  (λ{i N M A s Q E x}hh R l hw hs hp z hx q=>fc z λvs m ho hn ra=>by
   refine aI (ra.get hx) λv hv hi=>?_;exact wpAny_pyNext_list_item hp ⟨_,ho,rfl,m,rfl⟩ (by simpa using hv) λh' hit uU=>q v h' s.toks hit uU hi)
  (λ{N M A s Q E}hh R l hw hs hp z q=>fc z λvs m ho hn ra=>by
   exact wpAny_pyNext_list_end hh hp ⟨_,ho,rfl,m,rfl⟩ (by rw[<-be];exact bQ (by simp[ra.length])) λh' he=>q h' s.toks he)
  (λhp q=>wpAny_pyIter_listiter hp q)
theorem AT{h h':cg}{i:Nat}(x:h.IsTupleIter I a i)(e:h'.get? I=h.get? I):h'.IsTupleIter I a i:=let⟨o,ho,r⟩:=x;⟨o,e.trans ho,r⟩
theorem pU.Xc:pU Γ t I [I] xs (λ_=>True) (λi M h=>h.IsTupleIter I a i/\∃vs n,h.get? a=some (kK (bp vs) n)/\M a=none/\ch h M vs xs)
  (λi M v h=>h.IsTupleIter I a (i+1)/\(∃vs n,h.get? a=some (kK (bp vs) n)/\M a=none/\ch h M vs xs)/\∀x,xs[i]?=some x->VI h M v x):=
 pU.Sn (P:=λi h=>h.IsTupleIter I a i) (Src:=λM h=>∃vs n,h.get? a=some (kK (bp vs) n)/\M a=none/\ch h M vs xs) AT
  (λx z=>fc z λvs n e hn r=>⟨vs,n,(x _ _ e hn).1,(x _ _ e hn).2,r.ext x⟩) (λx=>cQ x λo ho hc _=>⟨o,_,ho,hc,by decide⟩)
  (λ{i N M A s Q E x}hh R l hw hs hp z hx q=>fc z λvs m ho hn ra=>by
   refine aI (ra.get hx) λv hv hi=>?_;exact wpAny_pyNext_tuple_item hp ⟨_,ho,rfl,m,rfl⟩ (by simpa using hv) λh' hit uU=>q v h' s.toks hit uU hi)
  (λ{N M A s Q E}hh R l hw hs hp z q=>fc z λvs m ho hn ra=>by
   exact wpAny_pyNext_tuple_end hh hp ⟨_,ho,rfl,m,rfl⟩ (by rw[<-be];exact bQ (by simp[ra.length])) λh' he=>q h' s.toks he)
  (λhp q=>wpAny_pyIter_tupleiter hp q)
theorem AU{h h':cg}{x:Str}{u:Tok}{i:Nat}(z:h.IsStrIter I "str_ascii_iterator" x u i)(e:h'.get? I=h.get? I):h'.IsStrIter I "str_ascii_iterator" x u i:=let⟨o,ho,r⟩:=z;⟨o,e.trans ho,r⟩
theorem pU.Xd{x:Str}{u:Tok}:pU Γ t I [I] (x.cps.toList.map λc=>V.str ⟨#[c]⟩) (λ_=>True) (λi M h=>h.IsStrIter I "str_ascii_iterator" x u i/\True)
  (λi M v h=>h.IsStrIter I "str_ascii_iterator" x u (i+1)/\True/\∀y,(x.cps.toList.map λc=>V.str ⟨#[c]⟩)[i]?=some y->VI h M v y):=
 pU.Sn (P:=λi h=>h.IsStrIter I "str_ascii_iterator" x u i) (Src:=λ_ _=>True) AU (λ_ x=>x) (λx=>cQ x λo ho hc _=>⟨o,_,ho,hc,by decide⟩)
  (λ{i N M A s Q E y}hh R l hw hs hp _ hx q=>by
   rw[aF,aJ]at hx;refine aI hx λc hc aT=>?_;clear hx;obtain rfl:=aT;exact wpAny_pyNext_ascii_item hp (by rw[<-be];exact hc) λh' hit uU=>q _ h' _ hit uU (.str _ _))
  (λ{N M A s Q E}hh R l hw hs hp _ q=>by
   exact wpAny_pyNext_ascii_end hh hp (by rw[<-be];exact bQ (by simp)) λh' he=>q h' s.toks he)
  (λhp q=>wpAny_pyIter_striter_ascii hp q)
theorem pU.Qq:pU Γ t I [I] ((aM m).map λ(i:Nat)=>V.int (b+(i:Int))) (λ_=>True) (λi M h=>IsRangeIter h I (b+(i:Int)) ((m:Int)-(i:Int)) 1/\True)
  (λi M v h=>IsRangeIter h I (b+((i+1:Nat):Int)) ((m:Int)-((i+1:Nat):Int)) 1/\True/\∀y,((aM m).map λ(i:Nat)=>V.int (b+(i:Int)))[i]?=some y->VI h M v y):=
 pU.Sn (P:=λ(i:Nat)h=>IsRangeIter h I (b+(i:Int)) ((m:Int)-(i:Int)) 1) (Src:=λ_ _=>True) (λx e=>e.trans x) (λ_ x=>x) (λx=>⟨_,_,x,rfl,by decide⟩)
  (λ{i N M A s Q E y}hh R l hw hs hp _ hx q=>by
   rw[aF,aJ]at hx;refine aI hx λc hc aT=>?_;clear hx;obtain rfl:=aT;have fY:i<m:=by
    by_cases h:i<m
    ·exact h
    ·rw[bQ (by simp;exact aR 0x7560426970812 rfl h)]at hc;cases hc
   rw[r8 fY]at hc;cases hc;refine wpAny_pyNext_range_item hp (by lia) λh' hit uU=>q _ h' _ ?_ uU (.int _ _);haveI e1:b+((i+1:Nat):Int)=b+(i:Int)+1:=by push_cast;lia
   haveI e2:(m:Int)-((i+1:Nat):Int)=(m:Int)-(i:Int)-1:=by push_cast;lia
   erw[e1,e2];exact hit)
  (λ{N M A s Q E}hh R l hw hs hp _ q=>by
   exact wpAny_pyNext_range_end hh hp (by simp) λh' he=>q h' s.toks he)
  (λhp q=>wpAny_pyIter_rangeiter hp q)
theorem AV{h h':cg}{i n ep:Nat}(x:h.IsKeyIter I a i n ep)(e:h'.get? I=h.get? I):h'.IsKeyIter I a i n ep:=let⟨o,ho,r⟩:=x;⟨o,e.trans ho,r⟩
theorem pU.Ts{kvs:List (PK×V)}{ep:Nat}:
  pU Γ t I [I] (kvs.map λp=>p.1.v) (λN=>∃xz,N a=some (.dp xz ep)/\xz.map (·.1)=kvs.map (·.1)) (λi M h=>h.IsKeyIter I a i kvs.length ep/\True)
  (λi M v h=>h.IsKeyIter I a (i+1) kvs.length ep/\True/\∀y,(kvs.map λp=>p.1.v)[i]?=some y->VI h M v y):=
 pU.Sn (P:=λi h=>h.IsKeyIter I a i kvs.length ep) (Src:=λ_ _=>True) AV (λ_ x=>x) (λx=>cQ x λo ho hc _=>⟨o,_,ho,hc,by decide⟩)
  (λ{i N M A s Q E y}hh R l hw hs hp _ hx q=>by
   refine aI hs λxz e GT=>?_;clear hs;refine cQ (R.obj _ _ (l _ _ e)) λks hd CD hr=>?_;rw[aF,aJ]at hx;refine aI hx λp CG aT=>?_;clear hx;obtain rfl:=aT;have hlen:ks.length=kvs.length:=by have:=congrArg cB (CD.trans GT);simpa using this
   haveI kj:(ks.map (·.1))[i]?=some p.1:=by erw[CD,GT,aF,CG];rfl
   rw[aF,aJ]at kj;refine aI kj λaT Wa Ak=>?_;clear kj;obtain⟨k,v⟩:=aT;dsimp only at Ak;subst Ak;rw[<-hlen]at hp;refine wpAny_pyNext_dict_item (knd:=pk Γ.prog Γ.w) hp hd Wa λkey h' kj hit uU=>?_;rw[hlen]at hit;refine q key h' s.toks hit uU ?_;haveI kj:PK.is p.1 key=true:=kj;cases yf:p.1 with
   |i n=>rw[yf]at kj;refine bz (dF (k:=n) kj) λu aT=>?_;obtain rfl:=aT;exact .int n u
   |s z=>rw[yf]at kj;refine bz (cT (x:=z) kj) λu aT=>?_;obtain rfl:=aT;exact .str z u)
  (λ{N M A s Q E}hh R l hw hs hp _ q=>by
   refine aI hs λxz e GT=>?_;clear hs;refine cQ (R.obj _ _ (l _ _ e)) λks hd CD hr=>?_;have hlen:ks.length=kvs.length:=by have:=congrArg cB (CD.trans GT);simpa using this
   haveI IX:s.heap.IsKeyIter I a ks.length ks.length ep:=by erw[hlen];simpa using hp
   exact wpAny_pyNext_dict_end (knd:=pk Γ.prog Γ.w) hh IX hd (bQ (ap _)) λh' he=>q h' s.toks he)
  (λhp q=>wpAny_pyIter_keyiter hp q)
end
end
section
section
variable {prog:cx} {w:eB} {A:bW} {E:al->aj->Prop} {s:aj}
theorem sr{Q:al->aj->Prop}(hit:s.heap.IsTupleIter it t i)(ht:s.heap.IsTuple t items)(hx:items[i]?=some x)
  (hQ:∀h',h'.IsTupleIter it t (i+1)->bu it s.heap h'->Q x {s with heap:=h'}):am (bB prog w) A (gE (.ref it)) Q E s:=by
 exists prog,w,A,E,s,it,t,i,items,x,Q;refine cQ (id hit) λo ho hc hd=>?_;refine cQ ht λol Xe _ aT=>?_;clear ht;refine bz aT λnl Xf=>?_;clear aT;unfold gE;refine af (fA (name:=aN "__next__") hit.typeIs iO
  (eX iO hit.typeIs Ap ?_ (Ag _)))
 show am _ _ (field (.ref it) 0 >>= _) _ _ s;refine af (lT ho hd (x:=.ref t) rfl ?_);show am _ _ (if(eI t==al.none)=true then _ else _) _ _ s;erw[if_neg (show ¬((eI t==al.none)=true) from bU)];show am _ _ (field (.ref it) 1 >>= _) _ _ s;refine af (lT ho hd (x:=.int i 0) rfl ?_);show am _ _ (Ah (.ref t) >>= _) _ _ s;refine af (iV Xe Xf ?_);simp only[Int.toNat_natCast,hx];refine af (wpAny_setField ho hd (by simp) (ah ⟨x,rfl,ah (hQ _ ?_ (bX ..))⟩));exact⟨_,fQ _ ho (Obj.isFreed_of_fields (Obj.data_mapFields hd _)),(Obj.cls_mapFields ..).trans hc,by
  erw[Obj.data_mapFields hd];simp[gV]⟩
theorem AW{Q:al->aj->Prop}(h:∀h' e,(∀I h0,iC I h0 s.heap->iC I h0 h')->(∀b o,s.heap.get? b=some o->h'.get? b=some o)->(∃o,h'.get? e=some o/\o.cls=.type "StopIteration")->Q (.ref e) {s with heap:=h'}):
  am (bB prog w) A (newExc (.type "StopIteration") []) Q E s:=by
 refine af (eD ?_ (by size_fits));refine af (m:=firstArgMember _ _) (Aq (a:=al.none) (by first |rfl |(simp only[firstArgMember];rfl)) ?_);exact eD (h _ _ (λ_ _ x=>(x.push _).push _) (λ_ _ e=>ai _ (ai _ e)) ⟨_,aB _ rfl,rfl⟩) (by size_fits)
theorem tz{Q:al->aj->Prop}(hh:A.handled=none)
  (hit:s.heap.IsTupleIter it t i) (ht:s.heap.IsTuple t items) (hx:items[i]?=none)
  (hE:∀h' e,iC it s.heap h'->(∃o,h'.get? e=some o/\o.cls=.type "StopIteration")->E (.ref e) {s with heap:=h'}):
  am (bB prog w) A (gE (.ref it)) Q E s:=by
 exists prog,w,A,E,s,it,t,i,items,Q;refine cQ (id hit) λo ho hc hd=>?_;refine cQ ht λol Xe _ aT=>?_;clear ht;refine bz aT λnl Xf=>?_;clear aT;unfold gE;refine af (fA (name:=aN "__next__") hit.typeIs iO
  (eX iO hit.typeIs Ap ?_ (Ag _)))
 show am _ _ (field (.ref it) 0 >>= _) _ _ s;refine af (lT ho hd (x:=.ref t) rfl ?_);show am _ _ (if(eI t==al.none)=true then _ else _) _ _ s;erw[if_neg (show ¬((eI t==al.none)=true) from bU)];show am _ _ (field (.ref it) 1 >>= _) _ _ s;refine af (lT ho hd (x:=.int i 0) rfl ?_);show am _ _ (Ah (.ref t) >>= _) _ _ s;refine af (iV Xe Xf ?_);show am _ _ (match items[i]? with |some _=>_ |none=>_) _ _ s;erw[hx];refine af (dZ (af (wpAny_setField ho hd (by simp) ?_)));show am _ _ (newExc (.type "StopIteration") [] >>= _) _ _ _;exact af (AW λh' e x _ c=>wpAny_raiseNew_none hh (hE h' e (x _ _ (bX ..).extBut) c))
theorem Drw.tuple(hh:A.handled=none)(it l:ax)(dM:l≠it)(items:Array al):
  Draws prog w A it [it,l] items.size (λi v=>items[i]?=some v) (λi h=>h.IsTupleIter it l i/\h.IsTuple l items) where
 live:=λ_ _ st=>aI st.1 λo ho _=>⟨o,ho⟩
 frame:=λ_ _ _ st hk=>⟨aI st.1 λo ho r=>⟨o,hk it (.head _) o ho,r⟩,aI st.2 λo ho r=>⟨o,hk l (.tail _ (.head _)) o ho,r⟩⟩
 item:=λi s Q E hi st hQ=>sr st.1 st.2 (mD hi) λh' Xh Nv=>hQ _ h' s.toks (mD hi) ⟨Xh,st.2.extBut Nv.extBut dM⟩ Nv
 done:=λs Q E st hE=>tz hh st.1 st.2 (Cs (ap _)) hE
open AutoSeq1 (wpAny_loadPart') in
theorem tA(l:ax)(items:Array al)(n:Nat):
  Meets (Builtin.«enumerate.__new__» ⟨[.type "enumerate",.ref l],[]⟩) (λ_ R s=>s.heap.get? l=some {cls:=.type "tuple",dict:=none,data:=.seq items n,slots:=#[]}/\
   R (.ok (.ret (.ref (s.heap.push {cls:=.type "tuple_iterator",data:=.fields #[.ref l,.int 0 0]}).objs.size)))
    {s with heap:=(s.heap.push {cls:=.type "tuple_iterator",data:=.fields #[.ref l,.int 0 0]}).push {cls:=.type "enumerate",data:=.fields #[.none,.bool false,.ref s.heap.objs.size,gV 0,.none,.none]}}):=
 .of_wp λprog w A R s h=>by
  exists l,items,n,prog,w,A,R,s;obtain⟨hp,g,d,tk,os⟩:=s;exists hp,g,d,tk,os;obtain⟨hl,h⟩:=h;haveI su:=sub_enumerate;haveI hL:cg.IsTuple (aj.heap ⟨hp,g,d,tk,os⟩) l items:=⟨_,hl,rfl,n,rfl⟩
  wp_walk using wpAny_loadPart' hl
  refine wpAny_stack_any λst=>ah ?_;generalize PySem.Builtin.SmallTypes.calledThroughType.match_1 _ _ _ _=b;cases b
  ·wp_walk using wpAny_loadPart' hl,xj hL
   exact⟨_,rfl,h⟩
  ·wp_walk using wpAny_loadPart' hl,xj hL
   exact⟨_,rfl,h⟩
theorem uV{Q:al->aj->Prop}(hl:s.heap.get? l=some (kK items n))
  (h:∀h',EZ h' (s.heap.objs.size+1) s.heap.objs.size 0 .none->h'.IsTupleIter s.heap.objs.size l 0->h'.objs.size=s.heap.objs.size+2->
   (∀b o,s.heap.get? b=some o->h'.get? b=some o)->Q (.ref (s.heap.objs.size+1)) {s with heap:=h'}):
  am (bB prog w) A (oI (.type "enumerate") [.ref l]) Q E s:=by
 refine callType_new F.called_enumerate (by decide) (F.typeCall_enumerate_1 _) (F.newCall_enumerate_1 _) (λobj=>F.args_object_init_2 obj _) F.entry_enumerate_new
  (tA l items n) ⟨hl,?_⟩
 haveI hz:(s.heap.push {cls:=.type "tuple_iterator",data:=.fields #[.ref l,.int 0 0]}).objs.size=s.heap.objs.size+1:=eT ..;show _/\_;erw[hz];haveI he:EZ ((s.heap.push {cls:=.type "tuple_iterator",data:=.fields #[.ref l,.int 0 0]}).push
   {cls:=.type "enumerate",data:=.fields #[.none,.bool false,.ref s.heap.objs.size,gV 0,.none,.none]}) (s.heap.objs.size+1) s.heap.objs.size 0 .none:=by
  have:=aB (s.heap.push {cls:=.type "tuple_iterator",data:=.fields #[.ref l,.int 0 0]})
   (o:={cls:=.type "enumerate",data:=.fields #[.none,.bool false,.ref s.heap.objs.size,gV 0,.none,.none]}) rfl
  rw[hz]at this;exact this
 refine⟨⟨_,he,rfl⟩,h _ he ⟨_,ai _ (aB _ rfl),rfl,rfl⟩ (by erw[eT,hz]) λb o x=>ai _ (ai _ x)⟩
end
noncomputable def gz(xs:List V):List V:=xs.zipIdx.map λp=>V.tup [V.int (p.2:Int),p.1]
theorem De{xs:List V}{i:Nat}{y:V}(h:(gz xs)[i]?=some y):∃x,xs[i]?=some x/\y=.tup [.int (i:Int),x]:=by
 exists xs,i,y;unfold gz at h;rw[aF,kH]at h;cases hx:xs[i]? with
 |none=>rw[hx]at h;cases h
 |some x=>rw[hx]at h;rw[<-aA h,gW];exact⟨x,rfl,rfl⟩
theorem xA(xs:List V):(gz xs).length=xs.length:=(ag ..).trans (eK ..)
noncomputable def yg(Γ:Cx)(t:Expr)(I:ax)(wr:List ax)(xs:List V)(st:aL->Prop)(M:aL)(h:cg):Prop:=∃St Md,pU Γ t I wr xs st St Md/\St 0 M h
section
variable {Γ:Cx} {t:Expr} {e it:ax} {xs:List V} {st:aL->Prop} {P:Nat->cg->Prop} {Src:aL->cg->Prop}
theorem pU.enum(ht:j7 t=true)(dM:e≠it)(hP:∀{i h h'},P i h->h'.get? it=h.get? it->P i h')(hS:∀{M h M' h'},cl M h M' h'->Src M h->Src M' h')
  (hl:∀{i h},P i h->∃o,h.get? it=some o)
  (mk:∀{N M s},bS Γ M s->(∀a mo,N a=some mo->M a=some mo)->(∀b∈[e,it],M b=some .jd)->st N->Src M s.heap->
   ∃(items:Array al)(fp:List ax)(DS:Nat->cg->Prop),(∀A:bW,A.handled=none->Draws Γ.prog Γ.w A it fp items.size (λi v=>items[i]?=some v) DS)/\e∉fp/\ch s.heap M items.toList xs/\
    (∀i,P i s.heap->DS i s.heap)/\∀i h',DS i h'->P i h'):
  pU Γ t e [e,it] (gz xs) st (λi M h=>(∃old,EZ h e it i old)/\P i h/\Src M h)
   (λi M v h=>∃T,v=.ref T/\(∃xv,IsEnumOut h e it ((i:Int)+1) xv T)/\P (i+1) h/\Src M h/\∀x,(gz xs)[i]?=some x->VI h M v x) where
 ext:=λx hw H=>⟨bz H.1 λold he=>⟨old,(hw e (.head _)).trans he⟩,hP H.2.1 (hw it (.tail _ (.head _))),hS x H.2.2⟩
 live:=λH b hb=>(aq.mp hb).elim (λz=>z▸bz H.1 λ_ he=>⟨_,he⟩) λhb=>ao.mp hb▸hl H.2.1
 Po:=λH b hb=>bz H λT H=>(aq.mp hb).elim (λz=>z▸bz H.2.1 λ_ he=>⟨_,he⟩) λhb=>ao.mp hb▸hl H.2.2.1
 next:=λ{i N M A s Q E y}hh R l hw gf H hy q=>by
  refine ez H λh1 hp hs=>bz h1 λold he=>?_;refine GD (mk R l hw gf hs) λitems fp DS D ZU rv d1 d2=>?_;refine aI (De hy) λx hx aT=>?_;obtain rfl:=aT;haveI hi:i<items.size:=(show items.size=xs.length from dD▸rv.length)▸(cq.mp hx).1;refine wpAny_pyNext_enum_itemD (D A.in1 hh) he (d1 i hp) hi dM ZU λxv h' tk hxv ho hd hT hsz hk=>?_;have off:Off [e,it] s.heap h':=λb o hb ex=>hk b o (λz=>hb (z▸.head _)) (λz=>hb (z▸.tail _ (.head _))) ex;have ex:cl M s.heap M h':=off.ext λb hb=>by erw[hw b hb];exact nofun
  refine q _ h' _ off ⟨_,rfl,⟨xv,ho⟩,d2 _ _ hd,hS ex hs,λy' ZV=>?_⟩;obtain rfl:=aA (hy.symm.trans ZV);refine aI (rv.get hx) λv' hv' uf=>?_;obtain rfl:v'=xv:=aA (hv'.symm.trans (be.trans hxv));exact .tup (vs:=[.int (i:Int) tk,v']) (n:=0) hT R.fresh (.cons (.int _ _) (.cons (uf.ext ex) .nil))
 go:=λ{i M A s Q E y v}hy hw H q=>by
  refine bz H λT H=>Qe H λhv h1 hp hs np=>bz h1 λxv he=>?_;subst hv;cases t with
  |Tuple elts k pos=>
   refine wpAny_letOwnedTupleGo_enum he λh' Nx uU=>?_;have off:Off [e,it] s.heap h':=λb o hb ex=>(uU.2 b λz=>hb (z▸.head _)).trans ex;have ex:cl M s.heap M h':=off.ext λb hb=>by erw[hw b hb];exact nofun
   exact q h' off ((np y hy).ext ex) ⟨⟨xv,Nx⟩,hP hp (uU.2 it dM.symm),hS ex hs⟩
  |_=>exact iB ht
 done:=λ{N M A s Q E}hh R l hw gf H q=>by refine ez H λh1 hp hs=>bz h1 λold he=>?_;refine GD (mk R l hw gf hs) λitems fp DS D ZU rv d1 d2=>?_;haveI hlen:(gz xs).length=items.size:=(xA xs).trans ((dD▸rv.length).symm);rw[hlen]at hp;rw[hlen]at he;exact wpAny_pyNext_enum_endD (D A.in1 hh) he (d1 _ hp) λh' hx=>q h' s.toks λb o hb y=>hx b o (λz=>hb (z▸.tail _ (.head _))) y
 self:=λH q=>bz H.1 λ_ he=>wpAny_pyIter_enum he q
theorem Df(h1:a≠b)(h2:a≠c):a∉[b,c]:=λz=>(aq.mp z).elim h1 λz=>h2 (ao.mp z)
theorem Dg{M:aL}{a:ax}(hw:∀b∈[e,it],M b=some .jd)(hn:M a≠some .jd):e≠a/\a≠it:=⟨λz=>hn (z▸hw e (.head _)),λz=>hn (z▸hw it (.tail _ (.head _)))⟩
theorem NA{a:ax}{M:aL}{h:cg}(ht:j7 t=true)(dM:e≠it)(h1:EZ h e it 0 .none)(h2:h.IsListIter it a 0):yg Γ t e [e,it] (gz xs) (λN=>N a=some (.list xs)) M h:=
 ⟨_,_,pU.enum (Γ:=Γ) (xs:=xs) (st:=λN=>N a=some (.list xs)) (P:=λi h=>h.IsListIter it a i) (Src:=λ_ _=>True) ht dM (λx e=>aI x λo ho r=>⟨o,e.trans ho,r⟩) (λ_ x=>x)
  (λx=>aI x λo ho _=>⟨o,ho⟩) (λ{N M s}R l hw hs _=>by
   refine eQ (R.obj _ _ (l _ _ hs)) λdy m ho ra=>?_;have ne:=Dg (a:=a) hw (by erw[l _ _ hs];exact nofun);exact⟨dy,_,_,λA hh=>Draws.list hh it a ne.2 dy,Df dM ne.1,ra,λi hp=>⟨hp,_,ho,rfl,m,rfl⟩,λi h' hd=>hd.1⟩),⟨_,h1⟩,h2,trivial⟩
theorem NB{a:ax}{M:aL}{h:cg}(ht:j7 t=true)(dM:e≠it)(h1:EZ h e it 0 .none)(h2:h.IsListIter it a 0)(h3:∃vs n,h.get? a=some (listOf (bp vs) n)/\M a=none/\ch h M vs xs):
  yg Γ t e [e,it] (gz xs) (λ_=>True) M h:=
 ⟨_,_,pU.enum (Γ:=Γ) (xs:=xs) (st:=λ_=>True) (P:=λi h=>h.IsListIter it a i) (Src:=λM h=>∃vs n,h.get? a=some (listOf (bp vs) n)/\M a=none/\ch h M vs xs) ht dM
  (λx e=>aI x λo ho r=>⟨o,e.trans ho,r⟩) (λx H=>fc H λvs n e hn r=>⟨vs,n,(x _ _ e hn).1,(x _ _ e hn).2,r.ext x⟩)
  (λx=>aI x λo ho _=>⟨o,ho⟩) (λ{N M s}R l hw _ H=>by
   refine fc H λvs m ho hn ra=>?_;have ne:=Dg (a:=a) hw (by erw[hn];exact nofun);exact⟨vs.toArray,_,_,λA hh=>Draws.list hh it a ne.2 _,Df dM ne.1,ra,λi hp=>⟨hp,_,ho,rfl,m,rfl⟩,λi h' hd=>hd.1⟩),⟨_,h1⟩,h2,h3⟩
theorem NC{a:ax}{M:aL}{h:cg}(ht:j7 t=true)(dM:e≠it)(h1:EZ h e it 0 .none)(h2:h.IsTupleIter it a 0)(h3:∃vs n,h.get? a=some (kK (bp vs) n)/\M a=none/\ch h M vs xs):
  yg Γ t e [e,it] (gz xs) (λ_=>True) M h:=
 ⟨_,_,pU.enum (Γ:=Γ) (xs:=xs) (st:=λ_=>True) (P:=λi h=>h.IsTupleIter it a i) (Src:=λM h=>∃vs n,h.get? a=some (kK (bp vs) n)/\M a=none/\ch h M vs xs) ht dM
  (λx e=>aI x λo ho r=>⟨o,e.trans ho,r⟩) (λx H=>fc H λvs n e hn r=>⟨vs,n,(x _ _ e hn).1,(x _ _ e hn).2,r.ext x⟩)
  (λx=>aI x λo ho _=>⟨o,ho⟩) (λ{N M s}R l hw _ H=>by
   refine fc H λvs m ho hn ra=>?_;have ne:=Dg (a:=a) hw (by erw[hn];exact nofun);exact⟨vs.toArray,_,_,λA hh=>Drw.tuple hh it a ne.2 _,Df dM ne.1,ra,λi hp=>⟨hp,_,ho,rfl,m,rfl⟩,λi h' hd=>hd.1⟩),⟨_,h1⟩,h2,h3⟩
end
end
section
inductive EPs(Γ:Cx)(env:Env)(ρ:cf)(L:ax->Bool)(N:aL)(s:aj)(k:ve)(v:List al)(s':aj):Prop
 |mk (x:List V) (N':aL) (hv:ch s'.heap (full env ρ L N') v x) (hr:bS Γ (full env ρ L N') s') (he:cl N s.heap N' s'.heap) (hk:k x N')
inductive zd(Γ:Cx)(env:Env)(ρ:cf)(L:ax->Bool)(N:aL)(s:aj)(k:KB)(b:Bool)(s':aj):Prop
 |mk (N':aL) (hr:bS Γ (full env ρ L N') s') (he:cl N s.heap N' s'.heap) (hk:k b N')
inductive EPo(Γ:Cx)(env:Env)(ρ:cf)(L:ax->Bool)(N:aL)(s:aj)(k:Option V->aL->Prop)(v:al)(s':aj):Prop
 |mk (x:Option V) (N':aL) (hv:Qo s'.heap (full env ρ L N') v x) (hr:bS Γ (full env ρ L N') s') (he:cl N s.heap N' s'.heap) (hk:k x N')
noncomputable def JP(op:BoolOp)(c:Bool)(Y:Prop)(k:Bool->Prop):Prop:=match op,c with
 |.And,true=>Y
 |.And,false=>k false
 |.Or,true=>k true
 |.Or,false=>Y
noncomputable def xm(Γ:Cx)(n:Nat)(sc:List (Str×bj))(es:List Expr)(ρ:cf)(N:aL)(k:ve):Prop:=∀{A},Lv n A->∀{env L s pos},fe env sc->fu env L N->bS Γ (full env ρ L N) s->
 am Γ.M A (CV (mE pos (fK es env))) (EPs Γ env ρ L N s k) ju s
noncomputable def TB(Γ:Cx)(n:Nat)(sc:List (Str×bj))(e:Expr)(ρ:cf)(N:aL)(k:KB):Prop:=∀{A},Lv n A->∀{env L s},fe env sc->fu env L N->bS Γ (full env ρ L N) s->am Γ.M A (isTrue e env (eval e env)) (zd Γ env ρ L N s k) ju s
noncomputable def TO(Γ:Cx)(n:Nat)(sc:List (Str×bj))(e:Option Expr)(ρ:cf)(N:aL)(k:Option V->aL->Prop):Prop:=∀{A},Lv n A->∀{env L s},fe env sc->fu env L N->bS Γ (full env ρ L N) s->
 am Γ.M A (evalPart e env) (EPo Γ env ρ L N s k) ju s
section
variable {Γ:Cx} {A:bW} {s fJ:aj} {env:Env} {ρ:cf} {L:ax->Bool} {M N eo:aL} {n:Nat} {sc:List (Str×bj)} {k:KV}
theorem bL{α:Type}{Mo:Ja}{t:Sem α}{Q Q':α->aj->Prop}{E:al->aj->Prop}(h:am Mo A t Q ju s)(q:∀v s',Q v s'->Q' v s'):am Mo A t Q' E s:=aS h q λ_ _ f=>f.elim
theorem fu.step(F:fu env L N)(R:bS Γ (full env ρ L N) s)(x:cl N s.heap eo fJ.heap):fu env L eo:=F.ext R x
theorem EP.un{m:Sem al}{Q:al->aj->Prop}{E:al->aj->Prop}(F:fu env L N)(R:bS Γ (full env ρ L N) s)(h:am Γ.M A m (EP Γ env ρ L N s k) ju s)
  (q:∀v s' x N',VI s'.heap (full env ρ L N') v x->bS Γ (full env ρ L N') s'->fu env L N'->cl N s.heap N' s'.heap->k x N'->Q v s'):am Γ.M A m Q E s:=
 bL h λv s' h=>by obtain⟨x,N',a,b,c,d⟩:=h;exact q v s' x N' a b (F.step R c) c d
theorem TE.run{Q:al->aj->Prop}{E:al->aj->Prop}(h:TE Γ n sc e ρ N k)(hA:Lv n A)(S:fe env sc)(F:fu env L N)(R:bS Γ (full env ρ L N) s)
  (q:∀v s' x N',VI s'.heap (full env ρ L N') v x->bS Γ (full env ρ L N') s'->fu env L N'->cl N s.heap N' s'.heap->k x N'->Q v s'):am Γ.M A (eval e env) Q E s:=EP.un F R (h hA S F R) q
theorem xm.run{es:List Expr}{pos:Pos}{k:ve}{Q:List al->aj->Prop}{E:al->aj->Prop}(h:xm Γ n sc es ρ N k)(hA:Lv n A)(S:fe env sc)(F:fu env L N)(R:bS Γ (full env ρ L N) s)
  (q:∀v s' x N',ch s'.heap (full env ρ L N') v x->bS Γ (full env ρ L N') s'->fu env L N'->cl N s.heap N' s'.heap->k x N'->Q v s'):am Γ.M A (CV (mE pos (fK es env))) Q E s:=
 bL (h hA S F R) λv s' h=>by obtain⟨x,N',a,b,c,d⟩:=h;exact q v s' x N' a b (F.step R c) c d
theorem TB.run{e:Expr}{k:KB}{Q:Bool->aj->Prop}{E:al->aj->Prop}(h:TB Γ n sc e ρ N k)(hA:Lv n A)(S:fe env sc)(F:fu env L N)(R:bS Γ (full env ρ L N) s)
  (q:∀b s' N',bS Γ (full env ρ L N') s'->fu env L N'->cl N s.heap N' s'.heap->k b N'->Q b s'):am Γ.M A (isTrue e env (eval e env)) Q E s:=
 bL (h hA S F R) λv s' h=>by obtain⟨N',b,c,d⟩:=h;exact q v s' N' b (F.step R c) c d
theorem TO.run{e:Option Expr}{k:Option V->aL->Prop}{Q:al->aj->Prop}{E:al->aj->Prop}(h:TO Γ n sc e ρ N k)(hA:Lv n A)(S:fe env sc)(F:fu env L N)(R:bS Γ (full env ρ L N) s)
  (q:∀v s' x N',Qo s'.heap (full env ρ L N') v x->bS Γ (full env ρ L N') s'->fu env L N'->cl N s.heap N' s'.heap->k x N'->Q v s'):am Γ.M A (evalPart e env) Q E s:=
 bL (h hA S F R) λv s' h=>by obtain⟨x,N',a,b,c,d⟩:=h;exact q v s' x N' a b (F.step R c) c d
theorem EP.of(x:V)(a:VI s'.heap (full env ρ L N') v x)(b:bS Γ (full env ρ L N') s')(c:cl N s.heap N' s'.heap)(d:k x N'):EP Γ env ρ L N s k v s':=⟨x,N',a,b,c,d⟩
theorem zd.of{k:KB}{N':aL}{v:Bool}{s':aj}(b:bS Γ (full env ρ L N') s')(c:cl N s.heap N' s'.heap)(d:k v N'):zd Γ env ρ L N s k v s':=⟨N',b,c,d⟩
theorem EP.trans(x:cl N s.heap eo fJ.heap)(h:EP Γ env ρ L eo fJ k v s'):EP Γ env ρ L N s k v s':=by obtain⟨y,N',a,b,c,d⟩:=h;exact⟨y,N',a,b,x.trans c,d⟩
theorem zd.trans{k:KB}{v:Bool}{s':aj}(x:cl N s.heap eo fJ.heap)(h:zd Γ env ρ L eo fJ k v s'):zd Γ env ρ L N s k v s':=by obtain⟨N',b,c,d⟩:=h;exact⟨N',b,x.trans c,d⟩
theorem EP.same(hv:VI s'.heap (full env ρ L N) v x)(R:bS Γ (full env ρ L N) s')(h:∀b o,s.heap.get? b=some o->s'.heap.get? b=some o)(hk:k x N):EP Γ env ρ L N s k v s':=⟨x,N,hv,R,cl.keeps h,hk⟩
theorem EP.tok(t:Nat)(hv:VI s.heap (full env ρ L N) v x)(R:bS Γ (full env ρ L N) s)(hk:k x N):EP Γ env ρ L N s k v {s with toks:=t}:=⟨x,N,hv,R.tok t,cl.refl _ _,hk⟩
theorem TE.two{k:V->V->aL->Prop}{Q:al->al->aj->Prop}{E E':al->aj->Prop}(h:TE Γ n sc l ρ N λa N1=>TE Γ n sc r ρ N1 (k a))(hA:Lv n A)(S:fe env sc)(F:fu env L N)(R:bS Γ (full env ρ L N) s)
  (q:∀v u s2 a b N2,VI s2.heap (full env ρ L N2) v a->VI s2.heap (full env ρ L N2) u b->bS Γ (full env ρ L N2) s2->fu env L N2->cl N s.heap N2 s2.heap->k a b N2->Q v u s2):
  am Γ.M A (eval l env) (λv s1=>am Γ.M A (eval r env) (Q v) E' s1) E s:=
 h.run hA S F R λv s1 a N1 va R1 F1 x1 h1=>h1.run hA S F1 R1 λu s2 b N2 vb R2 F2 x2 h2=>q v u s2 a b N2 (va.ext (eA x2)) vb R2 F2 (x1.trans x2) h2
theorem TE.loc(hl:sc.lookup x=some kd)(hk:kd=.local\/kd=.cell\/kd=.free)(hr:ρ x=some v)(h:k v N):TE Γ n sc (.Name x pos) ρ N k:=λhA _ _ _ S F R=>
 jb (Nl S F R hl hk hr) λ_ q=>q.2 _ (EP.same q.1 R (λ_ _ e=>e) h)
theorem TE.ZW(hl:sc.lookup x=some .globalImplicit)(hg:ee Γ.K x=some v)(h:k (.raw v) N):TE Γ n sc (.Name x pos) ρ N k:=λhA _ _ _ S F R=>
 Fi S F R hl hg (EP.same (.raw v) R (λ_ _ e=>e) h)
theorem TE.none(h:k .none N):TE Γ n sc (.Constant .none kd pos) ρ N k:=λ_ _ _ _ _ _ R=>wpAny_Constant_none (EP.same .none R (λ_ _ e=>e) h)
theorem TE.bool(h:k (.bool b) N):TE Γ n sc (.Constant (.bool b) kd pos) ρ N k:=λ_ _ _ _ _ _ R=>wpAny_Constant_bool (EP.same (.bool b) R (λ_ _ e=>e) h)
theorem TE.int(h:k (.int i) N):TE Γ n sc (.Constant (.int i) kd pos) ρ N k:=λ_ _ _ _ _ _ R=>wpAny_Constant_int (EP.tok _ (.int i _) R h)
theorem TE.str(h:k (.str x) N):TE Γ n sc (.Constant (.str x) kd pos) ρ N k:=λ_ _ _ _ _ _ R=>n9 (EP.tok _ (.str x _) R h)
theorem TE.bin(h:TE Γ n sc l ρ N λa N1=>TE Γ n sc r ρ N1 λb N2=>∃x,jg N2 op a b x/\k x N2):TE Γ n sc (.BinOp l op r pos) ρ N k:=λhA _ _ _ S F R=>
 wpAny_BinOp (h.two hA S F R λv u s2 a b N2 va vb R2 F2 x2 h=>jb h λx h=>Nn R2 (d7 F2) va vb h.1 h.2 λr y s' hr R' kp hk=>EP.of y hr R' (x2.trans (cl.keeps kp)) hk)
theorem TE.cmp(hm:lK op r=false)(h:TE Γ n sc l ρ N λa N1=>TE Γ n sc r ρ N1 λb N2=>∃c,dA N2 op a b c/\k (.bool c) N2):TE Γ n sc (.Compare l [op] [r] pos) ρ N k:=λhA _ _ _ S F R=>
 wpAny_Compare1 (h.two hA S F R λv u s2 a b N2 va vb R2 F2 x2 h=>jb h λc h=>vh hA R2 (d7 F2) va vb h.1 λt=>EP.of _ (.bool c) (R2.tok t) x2 h.2) hm
theorem TB.cmp{l r:Expr}{op:CmpOp}{pos:Pos}{k:KB}(hm:lK op r=false)(h:TE Γ n sc l ρ N λa N1=>TE Γ n sc r ρ N1 λb N2=>∃c,dA N2 op a b c/\k c N2):TB Γ n sc (.Compare l [op] [r] pos) ρ N k:=λhA _ _ _ S F R=>
 wpAny_isTrue_Compare1 (h.two hA S F R λv u s2 a b N2 va vb R2 F2 x2 h=>jb h λc h=>vh hA R2 (d7 F2) va vb h.1 λt=>eC (zd.of (R2.tok t) x2 h.2)) hm
theorem TB.Xi{l r r':Expr}{op xn:CmpOp}{pos:Pos}{k:KB}(hm:lK xn r'=false)(h:TE Γ n sc l ρ N λa N1=>TE Γ n sc r ρ N1 λb N2=>∃c,dA N2 op a b c/\
   (c=true->TE Γ n sc r' ρ N2 λb' N3=>∃c',dA N3 xn b b' c'/\k c' N3)/\(c=false->k false N2)):TB Γ n sc (.Compare l [op,xn] [r,r'] pos) ρ N k:=λhA _ _ _ S F R=>
 isTrue_chain (rs:=[]) (h.run hA S F R λv s1 a N1 va R1 F1 x1 h1=>test_link (h1.run hA S F1 R1 λu s2 b N2 vb R2 F2 x2 h=>by
  refine cQ h λc hc h2 h3=>?_;clear h;refine vh hA R2 (d7 F2) (va.ext (eA x2)) vb hc λt=>eC ?_;cases c with
  |false=>exact zd.of (R2.tok t) (x1.trans x2) (h3 rfl)
  |true=>exact test_last (TE.run (h2 rfl) hA S F2 (R2.tok t) λu' s3 z N3 vz R3 F3 uW h=>jb h λc' h=>vh hA R3 (d7 F3) (vb.ext (eA uW)) vz h.1 λt=>eC (zd.of (R3.tok t) ((x1.trans x2).trans uW) h.2)))) hm
theorem TE.neg(h:TE Γ n sc x ρ N λa N1=>∃i,a=.int i/\k (.int (-i)) N1):TE Γ n sc (.UnaryOp .USub x pos) ρ N k:=λhA _ _ _ S F R=>
 wpAny_UnaryOp (h.run hA S F R λv s1 _ N1 vx R1 F1 eE h=>by
  refine aI h λi aT hk=>?_;clear h;obtain rfl:=aT;refine vx.fX λt=>?_;exact PyProof.Rows.neg_int (EP.of _ (.int _ _) (R1.tok _) eE hk))
theorem TE.ife{t b o:Expr}{pos:Pos}(h:TB Γ n sc t ρ N λc N1=>TE Γ n sc (bif c then b else o) ρ N1 k):TE Γ n sc (.IfExp t b o pos) ρ N k:=λhA _ _ _ S F R=>
 wpAny_IfExp (h.run hA S F R λc s1 N1 R1 F1 eE h1=>by
  cases c with
  |true=>exact bL (h1 hA S F1 R1) λv s2=>EP.trans eE
  |false=>exact bL (h1 hA S F1 R1) λv s2=>EP.trans eE)
theorem TE.Xj(h:TE Γ n sc x ρ N λa N1=>∃b,a=.bool b/\k (.bool (!b)) N1):TE Γ n sc (.UnaryOp .Not x pos) ρ N k:=λhA _ _ _ S F R=>
 wpAny_UnaryOp (h.run hA S F R λv s1 _ N1 vx R1 F1 eE h=>by
  refine aI h λb aT hk=>?_;clear h;obtain rfl:=aT;refine vx.Jt ?_;exact not_value (eC (EP.of _ (.bool _) R1 eE hk)))
theorem TE.Tt{x y:Expr}{op:BoolOp}{pos:Pos}(h:TE Γ n sc x ρ N λa N1=>∃c,a=.bool c/\JP op c (TE Γ n sc y ρ N1 k) λb=>k (.bool b) N1):TE Γ n sc (.BoolOp op [x,y] pos) ρ N k:=λhA _ _ _ S F R=>by
 cases op with
 |And=>exact wpAny_And2 (h.run hA S F R λv s1 _ N1 vx R1 F1 eE h=>by
   refine aI h λc aT hk=>?_;clear h;obtain rfl:=aT;obtain rfl:=vx.bool_inv;refine eC ?_;cases c with
   |true=>exact bL (hk hA S F1 R1) λv s2=>EP.trans eE
   |false=>exact EP.of _ vx R1 eE hk)
 |Or=>exact wpAny_Or2 (h.run hA S F R λv s1 _ N1 vx R1 F1 eE h=>by
   refine aI h λc aT hk=>?_;clear h;obtain rfl:=aT;obtain rfl:=vx.bool_inv;refine eC ?_;cases c with
   |true=>exact EP.of _ vx R1 eE hk
   |false=>exact bL (hk hA S F1 R1) λv s2=>EP.trans eE)
theorem TE.attr(hs:mO o=true)(h:TE Γ n sc o ρ N λov N1=>∃a C dx x,ov=.obj a C dx/\vP Γ.K N1 C dx name x/\k x N1):TE Γ n sc (.Attribute o name pos) ρ N k:=λhA _ _ _ S F R=>by erw[arm_eval_Attribute,kF hs];refine af (h.run hA S F R λov s1 _ N1 vx R1 F1 eE h=>af (c8 (af (aZ ?_))));refine S3 h λa C dx x aT ha hk=>?_;clear h;obtain rfl:=aT;exact JN R1 (d7 F1) vx ha λr t hr=>af (wpAny_letTemporaryGo (ah (EP.of x hr (R1.tok t) eE hk)))
theorem TE.item(h:TE Γ n sc o ρ N λov N1=>TE Γ n sc i ρ N1 λiv N2=>∃x,gy N2 ov iv x/\k x N2):TE Γ n sc (.Subscript o i pos) ρ N k:=λhA env L s S F R=>
 Subscript_ (h.two hA S F R λv u s2 a b N2 va vb R2 F2 x2 h=>by
  refine aI h λx hx hk=>?_;clear h;obtain⟨⟨T,id,hl,hT⟩,hw⟩:=JM hA R2 (d7 F2) (E:=ju) va vb hx (Q:=EP Γ env ρ L N s k) λr t hr=>EP.of x hr (R2.tok t) x2 hk;exact Fy hT hl hw)
theorem TO.none{k:Option V->aL->Prop}(h:k none N):TO Γ n sc none ρ N k:=λ_ _ _ _ _ _ R=>by erw[evalPart_none];exact ah ⟨Option.none,N,rfl,R,cl.refl _ _,h⟩
theorem TO.some{k:Option V->aL->Prop}(h:TE Γ n sc e ρ N λv=>k (some v)):TO Γ n sc (some e) ρ N k:=λhA _ _ _ S F R=>by erw[evalPart_some];exact h.run hA S F R λv s1 x N1 vx R1 F1 eE h1=>⟨mF x,N1,vx,R1,eE,h1⟩
theorem Qo.ext(x:cl M h M' h')(i:Qo h M v y):Qo h' M' v y:=by
 cases y with
 |none=>exact i
 |some y=>exact VI.ext x i
theorem TE.slice(h:TE Γ n sc o ρ N λov N1=>TO Γ n sc l ρ N1 λlv N2=>TO Γ n sc u ρ N2 λuv N3=>∃x,lb N3 ov lv uv x/\k x N3):TE Γ n sc (.Subscript o (.Slice l u Option.none p) pos) ρ N k:=λhA env L s S F R=>
 Subscript_ (h.run hA S F R λov s1 x N1 vx R1 F1 eE h1=>wpAny_Slice (h1.run hA S F1 R1 λlv s2 y N2 vy R2 F2 li h2=>h2.run hA S F2 R2 λuv s3 z N3 vz R3 F3 uW h=>by
  refine aI h λw hw hk=>?_;clear h;erw[evalPart_none];refine ah ?_;obtain⟨⟨T,id,hl,hT⟩,hw⟩:=GP (E:=ju) (Q:=EP Γ env ρ L N s k) R3 (d7 F3) ((vx.ext (eA li)).ext (eA uW)) (vy.ext (eA uW)) vz hw hk λr x s' hr R' kp hk=>EP.of x hr R' (((eE.trans li).trans uW).trans (cl.keeps kp)) hk;exact Fy (T:=T) (id:=id) hT hl hw))
theorem TB.val{e:Expr}{k:KB}(he:∀env,isTrue e env (eval e env)=(do let v <-eval e env;standAt e.pos;CW [v] (truthy v)))(h:TE Γ n sc e ρ N λv N1=>∃b,v=.bool b/\k b N1):TB Γ n sc e ρ N k:=λhA _ _ _ S F R=>
 wpAny_isTrue_value (h.run hA S F R λv s1 _ N1 vx R1 F1 eE h=>by
  refine aI h λb aT hk=>?_;clear h;obtain rfl:=aT;refine vx.Jt ?_;exact eC (zd.of R1 eE hk)) (he _)
theorem TB.not{x:Expr}{p:Pos}{k:KB}(h:TB Γ n sc x ρ N λb=>k (!b)):TB Γ n sc (.UnaryOp .Not x p) ρ N k:=λhA _ _ _ S F R=>wpAny_isTrue_Not (bL (h hA S F R) λb s1 p=>by obtain⟨N',a,b,c⟩:=p;exact⟨N',a,b,c⟩)
noncomputable def Qr(Γ:Cx)(n:Nat)(sc:List (Str×bj))(ρ:cf)(k:KB)(c:Bool):List Expr->aL->Prop
 | [],N=>k c N
 |x::r,N=>TB Γ n sc x ρ N λb N1=>(b=c->Qr Γ n sc ρ k c r N1)/\(b=(!c)->k (!c) N1)
theorem TB.Qs{k:KB}(hA:Lv n A)(S:fe env sc):∀(es:List Expr){N:aL}{s:aj},Qr Γ n sc ρ k true es N->fu env L N->bS Γ (full env ρ L N) s->am Γ.M A (allTrue .And es env) (zd Γ env ρ L N s k) ju s:=by
 intro es;induction es with
 |nil=>intro N s h F R;exact wpAny_allTrue_And_nil (zd.of R (cl.refl _ _) h)
 |cons x r ih=>
  intro N s h F R;exact wpAny_allTrue_And_cons (TB.run (e:=x) h hA S F R λb s1 N1 R1 F1 eE h=>by
   cases b with
   |false=>exact zd.of R1 eE (h.2 rfl)
   |true=>exact bL (ih (h.1 rfl) F1 R1) λb s2=>zd.trans eE)
theorem TB.Tu{k:KB}(hA:Lv n A)(S:fe env sc):∀(es:List Expr){N:aL}{s:aj},Qr Γ n sc ρ k false es N->fu env L N->bS Γ (full env ρ L N) s->am Γ.M A (allTrue .Or es env) (zd Γ env ρ L N s k) ju s:=by
 intro es;induction es with
 |nil=>intro N s h F R;exact wpAny_allTrue_Or_nil (zd.of R (cl.refl _ _) h)
 |cons x r ih=>
  intro N s h F R;exact wpAny_allTrue_Or_cons (TB.run (e:=x) h hA S F R λb s1 N1 R1 F1 eE h=>by
   cases b with
   |true=>exact zd.of R1 eE (h.2 rfl)
   |false=>exact bL (ih (h.1 rfl) F1 R1) λb s2=>zd.trans eE)
theorem TB.and{es:List Expr}{p:Pos}{k:KB}(h:Qr Γ n sc ρ k true es N):TB Γ n sc (.BoolOp .And es p) ρ N k:=λhA _ _ _ S F R=>wpAny_isTrue_BoolOp (TB.Qs hA S es h F R)
theorem TB.or{es:List Expr}{p:Pos}{k:KB}(h:Qr Γ n sc ρ k false es N):TB Γ n sc (.BoolOp .Or es p) ρ N k:=λhA _ _ _ S F R=>wpAny_isTrue_BoolOp (TB.Tu hA S es h F R)
end
end
section
noncomputable def bC(L:ax->Bool):List ax->ax->Bool
 | []=>L
 |b::wr=>λa=>a==b||bC L wr a
section
variable {Γ:Cx} {A:bW} {s fJ:aj} {env:Env} {ρ:cf} {L:ax->Bool} {M N eo:aL} {n:Nat} {sc:List (Str×bj)} {k:KV}
theorem GU(hA:Lv n A)(F:fu env L N)(R:bS Γ (full env ρ L N) s)(hv:ch s.heap (full env ρ L N) vs args)(h:aV Γ n f args N k):
  am Γ.M A (oI f vs []) (EP Γ env ρ L N s k) ju s:=
 bL (h.2 A hA (jQ env L) s (λa ha=>F.Jq ha) (R.into F) vs (vL (λa=>fS) hv)) λv s' h=>by obtain⟨x,N',vi,R',ex,hk⟩:=h;exact EP.of x (y3 (λa=>fS.symm) vi) (R.back F R' ex) ex hk
theorem oZ(h:iU (e::es)=true):gT e=false/\iU es=true:=by have:=bo.mp h;exact⟨Bool.not_eq_true' _▸this.1,this.2⟩
theorem iY(h:gT e=false):fK (e::es) env=(false,eval e env)::fK es env:=by
 cases e with
 |Starred a p=>exact lX h
 |_=>rfl
theorem qE(h:iU (e::es)=true):fK (e::es) env=(false,eval e env)::fK es env/\iU es=true:=⟨iY (oZ h).1,(oZ h).2⟩
theorem gB:∀{es:List Expr},iU es=true->∀{pos:Pos},(mE pos (fK es env)).any (·.1)=false:=by
 intro es;induction es with
 |nil=>intro _ _;exact rfl
 |cons e es ih=>intro h pos;erw[(qE h).1];exact ih (oZ h).2
theorem iZ{f:al}{es:List Expr}{pos:Pos}(hs:iU es=true){Q:Args->aj->Prop}{E:al->aj->Prop}{Mo:Ja}(h:am Mo A (CV (mE pos (fK es env))) (λvs s'=>Q ⟨vs,[]⟩ s') E s):
  am Mo A (evalArgs f true (mE pos (fK es env)) []) Q E s:=by
 revert hs;exists A,s,env,f,es,pos,Q,E,Mo;cases es with
 |nil=>exact af (aS (show am Mo A (CV []) _ E s from h) (λvs s' h'=>af (ah (aZ (af (ah (af (ah (ah h')))))))) λ_ _ x=>x)
 |cons e es=>rw[(qE hs).1]at h ⊢;exact evalArgs_plain h
theorem sv(hA:Lv n A)(S:fe env sc)(F:fu env L N)(R:bS Γ (full env ρ L N) s){f:al}{first:List al}{fd:List V}{args:List Expr}{pos:Pos}(hs:iU args=true)
  (hf:ch s.heap (full env ρ L N) first fd) (h:xm Γ n sc args ρ N λvs N2=>aV Γ n f (fd++vs) N2 k):
  am Γ.M A (E0 pos f first (mE pos (fK args env)) []) (EP Γ env ρ L N s k) ju s:=by
 revert hA S F R;exists Γ,A,s,env,ρ,L,N,n,sc,k,f,first,fd,args,pos;have go:∀{Q:List al->aj->Prop},(∀vs s',hU Γ.K f->Γ.K.In s'.heap->am Γ.M A (oI f (first++vs) []) (EP Γ env ρ L N s k) ju s'->Q vs s')->am Γ.M A (CV (mE pos (fK args env))) Q ju s:=λq=>
  h.run hA S F R λvs s' xs N' hv R' F' ex hc=>q vs s' hc.1 R'.K (bL (GU hA F' R' ((hf.ext (eA ex)).append hv) hc) λv uX=>EP.trans ex)
 have bad:(∀{K},hU K f->False)->am Γ.M A (E0 pos f first (mE pos (fK args env)) []) (EP Γ env ρ L N s k) ju s:=λn=>
  callWith_of (P:=λ_=>False) (by erw[gB hs];rfl) (λ_ f=>f.elim) (iZ hs (go λvs s' h1 _ _=>(n h1).elim))
 cases f with
 |ref a=>
  by_cases hk:xg Γ.K (.ref a)=true
  ·exact callWith_of (by erw[gB hs];rfl) (keeps_K hk) (iZ hs (go λvs s' h1 h2 h3=>⟨h2,h3⟩))
  ·exact callWith_of (P:=λ_=>False) (by erw[gB hs];rfl) (λ_ f=>f.elim) (iZ hs (go λvs s' h1 _ _=>absurd h1 hk))
 |builtin id=>exact callWith_builtin (gB hs) (iZ hs (go λvs s' _ _ h=>h))
 |type T=>exact tn (gB hs) (iZ hs (go λvs s' _ _ h=>h))
 |_=>exact bad λh=>h
noncomputable def Dh(e:Expr):Bool:=e.ctorIdx==20
theorem qF{f:Expr}{args:List Expr}{pos:Pos}{Q:al->aj->Prop}{E:al->aj->Prop}{Mo:Ja}(hf:Dh f=false)
  (h:am Mo A (eval f env) (λv fJ=>am Mo A (E0 pos v [] (mE pos (fK args env)) []) Q E fJ) E s):am Mo A (eval (.Call f args [] pos) env) Q E s:=by
 exists A,s,env,f,args,pos,Q,E,Mo;have h:=show am Mo A (do E0 pos (<-eval f env) [] (mE pos (fK args env)) []) Q E s from af h;cases f with
 |Attribute o name apos=>exact lX hf
 |_=>exact h
theorem Di{o:Expr}{name:Str}{apos pos:Pos}{args:List Expr}{Q:al->aj->Prop}{E:al->aj->Prop}(hs:iU args=true)(hl:args.length<=5)(Qt:mO o=true)(JQ:(apos.endLine==pos.line)=true)
  (h:am Γ.M A (eval o env) (λov fJ=>∃f first,(∀(pl:Sem Bool)Q',Q' (f,first) fJ->am Γ.M A (getMethod ov name pl) Q' E fJ)/\am Γ.M A (E0 pos f first (mE pos (fK args env)) []) Q E fJ) E s):
  am Γ.M A (eval (.Call (.Attribute o name apos) args [] pos) env) Q E s:=by
 exists Γ,A,s,env,o,name,apos,pos,args,Q,E;erw[arm_eval_Call,kF Qt];refine af (aS h (λov fJ h=>af (c8 ?_)) λ_ _ e=>e);refine eQ h λf first hm hc=>?_
 clear h;haveI Tv:methodCallForm (args.length+([]:List CX).length) (mE pos (fK args env)) (backToKw pos (keywordEach [] env))=true:=by
  haveI h1:=gB (env:=env) hs (pos:=pos);haveI h2:(mE pos (fK args env)).all (λx=>!x.1)=true:=by erw[List.all_eq_not_any_not];simp only[lJ];erw[h1];rfl
  unfold methodCallForm;erw[h2];haveI h3:(backToKw pos (keywordEach [] env)).all (λx=>x.1.isSome)=true:=rfl;erw[h3];haveI h4:(backToKw pos (keywordEach [] env)).isEmpty=true:=rfl;erw[h4];simp;exact aR 32297354432529 rfl hl
 unfold methodCall;erw[Tv];refine af (aZ (hm _ _ (af (Aq ?_ hc))));unfold methodCallPos;simp[JQ]
theorem xm.nil{k:ve}(h:k [] N):xm Γ n sc [] ρ N k:=λ_ _ _ _ _ _ _ R=>r9 ⟨[],N,.nil,R,cl.refl _ _,h⟩
theorem xm.cons{e:Expr}{es:List Expr}{k:ve}(hs:gT e=false)(h:TE Γ n sc e ρ N λv N1=>xm Γ n sc es ρ N1 λvs N2=>k (v::vs) N2):xm Γ n sc (e::es) ρ N k:=λhA _ _ _ _ S F R=>
 lE (h.run hA S F R λv s1 x N1 vx R1 F1 eE h1=>xm.run h1 hA S F1 R1 λvs s2 xs N2 vxs R2 F2 li h2=>⟨_,N2,.cons (vx.ext (eA li)) vxs,R2,eE.trans li,h2⟩) (iY hs)
theorem TE.call(hf:Dh f=false)(hs:iU args=true)(h:TE Γ n sc f ρ N λfv N1=>∃v,fv=.raw v/\xm Γ n sc args ρ N1 λvs N2=>aV Γ n v vs N2 k):TE Γ n sc (.Call f args [] pos) ρ N k:=λhA _ _ _ S F R=>
 qF hf (h.run hA S F R λfv s1 x N1 vx R1 F1 eE h=>by
  obtain⟨v,rfl,h⟩:=h;obtain rfl:=vx.Nk;exact bL (sv hA S F1 R1 hs .nil h) λv s2=>EP.trans eE)
theorem TE.Xk(hs:iU args=true)(hl:args.length<=5)(Qt:mO o=true)(JQ:(apos.endLine==pos.line)=true)
  (h:TE Γ n sc o ρ N λov N1=>∃f,((∃a C dx g,ov=.obj a C dx/\f=.ref g/\y5 Γ.K N1 C dx name g)\/∃id,f=.builtin id/\uS N1 ov name id)/\xm Γ n sc args ρ N1 λvs N2=>aV Γ n f (ov::vs) N2 k):
  TE Γ n sc (.Call (.Attribute o name apos) args [] pos) ρ N k:=λhA _ _ _ S F R=>
 Di hs hl Qt JQ (h.run hA S F R λov s1 x N1 vx R1 F1 eE h=>by
  obtain⟨f,hf,h⟩:=h;refine⟨f,[ov],λpl Q' q=>?_,bL (sv hA S F1 R1 hs (ch.one vx) h) λv s2=>EP.trans eE⟩;rcases hf with⟨a,C,dx,g,rfl,rfl,hm⟩ |⟨id,rfl,hb⟩
  ·exact JO R1 (d7 F1) vx hm q
  ·exact GR R1 (d7 F1) vx hb q)
theorem Pp(hL:L C=false)(hf:aQ env ρ C=none)(hN:N C=none)(R:bS Γ (full env ρ (bC L [C]) N) s)(hs:bu C s.heap h'):
  bS Γ (full env ρ L N) {s with heap:=h',toks:=t}/\cl (full env ρ (bC L [C]) N) s.heap (full env ρ L N) h':=by
 have e:∀a,a≠C->full env ρ (bC L [C]) N a=full env ρ L N a:=λa ha=>by unfold full hide bC bC;erw[beq_false_of_ne ha,Ar]
 refine R.zc (wr:=[C]) (λb o hb e=>(hs.2 b λe=>hb (ao.mpr e)).trans e) (λb hb=>?_) λa mo ha=>?_
 ·obtain rfl:=ao.mp hb;unfold full hide bC bC;erw[hf,beq_self_eq_true];rfl
 ·have dM:a≠C:=by rintro rfl;rw[ba.mpr ⟨hf,hL,hN⟩]at ha;exact cy ha
  exact⟨(e a dM).trans ha,λh=>dM (ao.mp h)⟩
theorem GV(F:fu env L N)(R:bS Γ (full env ρ L N) s)(ha:s.heap.get? a=none)(mo:cA):(full env ρ L N).put a mo=full env ρ L (N.put a mo)/\fu env L (N.put a mo):=by haveI h:=ba.mp (R.ce ha);exact⟨vM h.1 h.2.1,F.put ((cr (ρ:=ρ)).mp h.1) h.2.1⟩
theorem EP.Dj(R:bS Γ (full env ρ L eo) fJ)(F:fu env L eo)(ex:cl N s.heap eo fJ.heap)(ha:fJ.heap.get? a=none)(kp:∀b o,fJ.heap.get? b=some o->h'.get? b=some o)
  (hm:MI Γ.prog Γ.w h' ((full env ρ L eo).put a mo) a mo) (hk:k (.ref a) (eo.put a mo)):EP Γ env ρ L N s k (.ref a) {fJ with heap:=h',toks:=t}:=by
 haveI R':=bS.new (t:=t) R ha kp hm;rw[(GV F R ha mo).1]at R';refine⟨_,_,.ref a,R',ex.trans (λb o hb hn=>⟨kp b o hb,?_⟩),hk⟩;erw[aL.bE (by rintro rfl;rw[ha]at hb;exact cy hb)];exact hn
theorem TE.AX(h:(∀a ep,N a=Option.none->k (.ref a) (N.put a (.dp [] ep)))\/(∀a,N a=Option.none->k (.ref a) (N.put a (.dt [])))):TE Γ n sc (.Dict [] [] pos) ρ N k:=λhA _ _ s S F R=>by
 refine wpAny_Dict_empty ?_;rcases h with h |h
 ·exact EP.Dj (t:=s.toks) R F (cl.refl _ _) (cN _) (λb o e=>ai _ e) (mo:=.dp [] 0) ⟨[],⟨_,_,aB _ rfl,⟨rfl,rfl,rfl⟩,rfl,λ_ he=>by simp at he,Pairs.nil,cH⟩,rfl,.nil⟩ (h _ 0 (k9 R.fresh))
 ·exact EP.Dj (t:=s.toks) R F (cl.refl _ _) (cN _) (λb o e=>ai _ e) (mo:=.dt []) ⟨[],cg.DictOfH.new _,(λ_ h=>nomatch h),rfl,.nil⟩ (h _ (k9 R.fresh))
theorem TE.list(hl:es.length<=10)(h:xm Γ n sc es ρ N λvs N1=>vs.length<=10/\(k (.lst vs) N1\/∀a,N1 a=Option.none->k (.ref a) (N1.put a (.list vs)))):TE Γ n sc (.List es pos) ρ N k:=λhA _ _ _ S F R=>
 wpAny_List (h.run hA S F R λvs s1 xs N1 vx R1 F1 eE h1=>by
  refine⟨by have:=vx.length;erw[bF];have:=h1.1;lia,?_⟩;rcases h1.2 with h1 |h1
  ·exact EP.of _ (VI.Jw R1 vx) (R1.push _ s1.toks) (eE.trans (cl.push _ _ _)) h1
  ·exact EP.Dj (mo:=.list xs) (t:=s1.toks) R1 F1 eE (cN _) (λb o e=>ai _ e) ⟨vs.toArray,0,aB _ rfl,vx.ext (cl.new (s:=s1) (mo:=.list xs) (cN _) (λb o e=>ai (listOf vs.toArray 0) e))⟩ (h1 _ (k9 R1.fresh)))
theorem TE.tuple(hl:es.length<=10)(h:xm Γ n sc es ρ N λvs N1=>vs.length<=10/\k (.tup vs) N1):TE Γ n sc (.Tuple es q pos) ρ N k:=λhA _ _ _ S F R=>
 wpAny_Tuple (h.run hA S F R λvs s1 xs N1 vx R1 F1 eE h1=>⟨by have:=vx.length;erw[bF];have:=h1.1;lia,EP.of _ (VI.vS R1 vx) (R1.push _ s1.toks) (eE.trans (cl.push _ _ _)) h1.2⟩)
end
end
section
section
variable {Γ:Cx} {A:bW} {s fJ:aj} {env:Env} {ρ:cf} {L:ax->Bool} {M N eo:aL} {n:Nat} {sc:List (Str×bj)} {k:KV}
theorem yh(R:bS Γ (full env ρ L N) s)(hD:s.heap.get? D=none):(full env ρ L N).put D .jd=full env ρ (bC L [D]) N:=by
 haveI h:=R.ce hD;rw[ba]at h
 funext b
 by_cases e:b=D
 ·subst e;erw[aL.bH];unfold full hide bC bC;erw[h.1];simp
 ·erw[aL.bE e];unfold full hide bC bC;have:(b==D)=false:=beq_false_of_ne e;simp only[this,Ar]
theorem fu.JR(F:fu env L N)(h:N D=none):fu env (bC L [D]) N:=by
 refine⟨F.kind,F.glob,F.AC,F.apart,F.nodup,F.mN,F.yY,F.yZ,λa ha=>?_⟩;unfold bC bC at ha;rcases ft.mp ha with ha |ha
 ·erw[beq_iff_eq.mp ha];exact h
 ·exact F.kL a ha
theorem JS(h1:aQ env ρ D=none)(h2:L D=false):(full env ρ (bC L [D]) N).put D mo=full env ρ L (N.put D mo):=by
 funext b
 by_cases e:b=D
 ·subst e;erw[aL.bH];unfold full;erw[h1,mw h2,aL.bH];rfl
 ·erw[aL.bE e];unfold full hide bC bC;have:(b==D)=false:=beq_false_of_ne e;simp only[this,Ar,aL.bE e]
theorem Dk{Q:List (al×al)->aj->Prop}{E:al->aj->Prop}
  (h:am Mo A k1 (λa1 s1=>am Mo A v1 (λb1 s2=>am Mo A k2 (λa2 s3=>am Mo A v2 (λb2 s4=>am Mo A k3 (λa3 s5=>am Mo A v3 (λb3 s6=>Q [(a1,b1),(a2,b2),(a3,b3)] s6) E s5) E s4) E s3) E s2) E s1) E s):
  am Mo A (uK [(k1,v1),(k2,v2),(k3,v3)]) Q E s:=by
 exists A,s,k1,k2,k3,v1,v2,v3,Q,E,Mo;unfold uK;refine af (aS h (λa1 s1 h1=>af (aZ (aS h1 (λb1 s2 h2=>af (aZ ?_)) λ_ _ e=>e))) λ_ _ e=>e);unfold uK;refine af (aS h2 (λa2 s3 h3=>af (aZ (aS h3 (λb2 s4 h4=>af (aZ ?_)) λ_ _ e=>e))) λ_ _ e=>e);unfold uK;refine af (aS h4 (λa3 s5 h5=>af (aZ (aS h5 (λb3 s6 h6=>af (aZ ?_)) λ_ _ e=>e))) λ_ _ e=>e);unfold uK;exact ah (ah (ah (ah h6)))
theorem TE.Tw(dM:a≠b/\a≠c/\b≠c)
  (h:TE Γ n sc x ρ N λv1 N1=>TE Γ n sc y ρ N1 λv2 N2=>TE Γ n sc z ρ N2 λv3 N3=>∀d ep,N3 d=Option.none->k (.ref d) (N3.put d (.dp [(.s a,v1),(.s b,v2),(.s c,v3)] ep))):
  TE Γ n sc (.Dict [mF (.Constant (.str a) kd1 p1),mF (.Constant (.str b) kd2 p2),mF (.Constant (.str c) kd3 p3)] [x,y,z] p) ρ N k:=λ{A}hA{env L s}S F R=>by
 revert p2 p3 p A env L s;exists Γ,ρ,N,n,sc,k,a,b,c,x,y,z,kd1,kd2,kd3,p1;revert hA;exists p2,p3,p,A,env,L,s;haveI lj:=cN s.heap;haveI hD:=R.ce lj;have So:=ba.mp hD;haveI kp:∀q o,s.heap.get? q=some o->(s.heap.push (fB)).get? q=some o:=λq o e=>ai _ e;haveI R0:bS Γ (full env ρ (bC L [s.heap.objs.size]) N) {s with heap:=s.heap.push fB}:=by have:=bS.new (mo:=.jd) (t:=s.toks) R lj kp ⟨_,aB _ rfl⟩;rw[yh R lj]at this;exact this
 haveI F0:=F.JR So.2.2;haveI AX:(s.heap.push fB).DictOf (pk Γ.prog Γ.w) s.heap.objs.size []:=cg.DictOf.new _;refine wpAny_Dict_walk (knd:=pk Γ.prog Γ.w) rfl rfl (by simp) (by simp) ?_;show am Γ.M A (uK [_,_,_]) _ _ _;refine Dk ?_;refine n9 ?_;refine af (h.run hA S F0 (R0.tok _) λv1 s1 x1 N1 i1 R1 F1 e1 h1=>af (c8 (ah ?_)));exists v1,s1,x1,N1;refine n9 ?_;refine af (h1.run hA S F1 (R1.tok _) λv2 s2 x2 N2 i2 R2 F2 e2 h2=>af (c8 (ah ?_)));exists v2,s2,x2,N2;refine n9 ?_;refine af (h2.run hA S F2 (R2.tok _) λv3 s3 x3 N3 i3 R3 F3 e3 h3=>af (c8 (ah ?_)));exists v3,s3,x3,N3;have ex:cl N (s.heap.push fB) N3 s3.heap:=(e1.trans e2).trans e3;haveI hN3:=(ex _ _ (aB _ rfl) So.2.2).2;haveI ND:=(ex _ _ (aB _ rfl) So.2.2).1;have d3:s3.heap.DictOf (pk Γ.prog Γ.w) s.heap.objs.size []:=by refine uR AX λo es ep ho r=>?_;clear AX;rw[aB _ rfl]at ho;cases ho;exact⟨_,es,ep,ND,r⟩
 refine⟨[(.s a,v1),(.s b,v2),(.s c,v3)],⟨by simp[pk,PK.is,j8],rfl,by simp[pk,PK.is,j8],rfl,by simp[pk,PK.is,j8],rfl,trivial⟩,d3,λh' hm hs=>?_⟩;exists h';have Wb:merged [] [(PK.s a,v1),(PK.s b,v2),(PK.s c,v3)]=[(PK.s a,v1),(PK.s b,v2),(PK.s c,v3)]:=by refine ez dM λn1 n2 n3=>?_;clear dM;simp[merged,n8,n1,n2,n3]
 rw[Wb]at hm;refine bz hm.dictAt λep hm=>?_;exists ep,_;intro hm;haveI Tx:full env ρ (bC L [s.heap.objs.size]) N3 s.heap.objs.size=some .jd:=by unfold full hide bC bC;erw[So.1];simp
 haveI i1':=((i1.ext (eA e2)).ext (eA e3))
 haveI i2':=i2.ext (eA e3);haveI xx:cl (full env ρ (bC L [s.heap.objs.size]) N3) s3.heap ((full env ρ (bC L [s.heap.objs.size]) N3).put s.heap.objs.size (.dp [(.s a,x1),(.s b,x2),(.s c,x3)] ep)) h':=cl.put (s:=s3) Tx hs;haveI R':=bS.put (t:=s3.toks+3) R3 Tx hs.extBut (mo:=.dp [(.s a,x1),(.s b,x2),(.s c,x3)] ep) ⟨_,hm,rfl,.cons (i1'.ext xx) (.cons (i2'.ext xx) (.cons (i3.ext xx) .nil))⟩;rw[JS So.1 So.2.1]at R';refine⟨_,_,.ref _,R',?_,h3 _ ep hN3⟩;intro q o hq hn;have dM:q≠s.heap.objs.size:=by rintro rfl;rw[lj]at hq;cases hq
 refine a9 (ex q o (kp q o hq) hn) λu1 u2=>?_;exact⟨(hs.2 q dM).trans u1,by erw[aL.bE dM];exact u2⟩
end
end
section
section
variable {Mo:Ja} {A:bW} {E:al->aj->Prop} {s:aj}
noncomputable def vj(ifs:List Expr)(env:Env):Sem Bool:=forIn ifs true λc r=>if r=true then do let ok <-isTrue c env (eval c env);pure (nt ok) else pure (nt r)
noncomputable def jD(Mo:Ja)(A:bW)(E:al->aj->Prop)(elt:Expr)(gens:List bh)(scope:mJ)(pos:Pos)(d:Nat)(acc:al)(env:Env)(Q:aj->Prop)(s:aj):Prop:=match gens[d+1]? with
 |some g'=>g'.is_async=0/\(∀x,xY g'.iter env x=pure x)/\am Mo A (eval g'.iter env) (λx s5=>am Mo A (rU x) (λQu s6=>
   ja Mo A (.compStart (.ListComp elt gens scope pos) (d+1) Qu acc env) (λr s7=>r=.ok .next/\Q s7) s6) E s5) E s
 |none=>am Mo A (eval elt env) (λv s5=>am Mo A (oI (.builtin "list.append") [acc,v]) (λ_ s6=>Q s6) E s5) E s
theorem GW{Q:Fin->aj->Prop}(hg:gens[d]?=some g)(ha:g.is_async=0)
  (h:am Mo A (kz it) (λr s1=>match r with
   |none=>Q (.done .next) s1
   |some v=>am Mo A (jx g.target it v) (λ_ s2=>am Mo A (kq g.target env v) (λ_ s3=>am Mo A (vj g.ifs env) (λok s4=>
     if ok=true then jD Mo A E elt gens scope pos d acc env (λs5=>Q (.again (.compLoop (.ListComp elt gens scope pos) d it acc env)) s5) s4
     else Q (.again (.compLoop (.ListComp elt gens scope pos) d it acc env)) s4) E s3) E s2) E s1) E s):
  am Mo A (compTurn (.ListComp elt gens scope pos) d it acc env) Q E s:=by
 exists Mo,A,E,s,elt,gens,scope,pos,d,it,acc,env,g,Q;unfold compTurn;dsimp only;erw[hg];dsimp only;erw[ha];simp only[bne_self_eq_false,bc,if_false];refine af (c8 (af (aS h (λr s1 h1=>?_) λ_ _ e=>e)));cases r with
 |none=>exact ah h1
 |some v=>
  refine af (aS h1 (λ_ s2 h2=>af (aS h2 (λ_ s3 h3=>af (aS h3 (λok s4 h4=>?_) λ_ _ e=>e)) λ_ _ e=>e)) λ_ _ e=>e);cases ok with
  |false=>exact ah (by simpa using h4)
  |true=>
   simp only[if_true]at h4 ⊢;unfold jD at h4;split at h4
   ·rename_i g' Wc;erw[Wc];obtain⟨Tz,Dl,h4⟩:=h4;dsimp only;erw[Tz];simp only[bne_self_eq_false,bc,if_false];refine af (aS h4 (λx s5 h5=>af (c8 (af (Aq (Dl x) (af (aZ (aS h5 (λQu s6 h6=>?_) λ_ _ e=>e))))))) λ_ _ e=>e);refine af (wpAny_runOwn (dJ h6 λr s7 h7=>?_));obtain⟨rfl,h7⟩:=h7;exact ah h7
   ·rename_i Wc;erw[Wc];dsimp only;exact af (af (aS h4 (λv s5 h5=>af (aS h5 (λ_ s6 h6=>ah (ah h6)) λ_ _ e=>e)) λ_ _ e=>e))
theorem Dm:(Code.compLoop (.ListComp elt gens scope pos) d it acc env).quiet=true:=rfl
variable {prog:cx} {w:eB}
theorem GX{elt:Expr}{gens:List bh}{scope:mJ}{pos:Pos}{d:Nat}{it acc:al}{env:Env}{g:bh}{R:EY->aj->Prop}(hg:gens[d]?=some g)(ha:g.is_async=0)(I:Nat->aj->Prop)
  (turn:∀n s,I n s->am (bB prog w) A (kz it) (λr s1=>match r with
   |none=>R (.ok .next) s1
   |some v=>am (bB prog w) A (jx g.target it v) (λ_ s2=>am (bB prog w) A (kq g.target env v) (λ_ s3=>am (bB prog w) A (vj g.ifs env) (λok s4=>
     if ok=true then jD (bB prog w) A (λ_ _=>False) elt gens scope pos d acc env (λs5=>∃m,m<n/\I m s5) s4
     else ∃m,m<n/\I m s4) (λ_ _=>False) s3) (λ_ _=>False) s2) (λ_ _=>False) s1) (λ_ _=>False) s)
  (n:Nat) (h:I n s):ja (bB prog w) A (.compLoop (.ListComp elt gens scope pos) d it acc env) R s:=by
 revert hg ha turn;exists A,s,prog,w,elt,gens,scope,pos,d,it,acc,env,g,R,I,n;refine codeAny_loop' Dm I (λn s hI=>?_) n h;exists n,s;show am _ _ ((compTurn (.ListComp elt gens scope pos) d it acc env).onRaise (λx=>do noteFrame x env;theTreesLotGoes x)) _ _ s;refine wpAny_noted (aS (GW (E:=λ_ _=>False) hg ha (Q:=λfin s'=>match fin with
  |.done f=>R (.ok f) s'
  |.again c'=>(c'=.compLoop (.ListComp elt gens scope pos) d it acc env/\∃m,m<n/\I m s')\/(c'.quiet=true/\ja (bB prog w) A c' R s')) (aS (turn n s hI) (λr s1 h1=>?_) λ_ _ e=>e)) (λ_ _ q=>q) λ_ _ f=>f.elim)
 cases r with
 |none=>exact h1
 |some v=>
  exists s1,v;refine aS h1 (λ_ s2 h2=>aS h2 (λ_ s3 h3=>aS h3 (λok s4 h4=>?_) λ_ _ e=>e) λ_ _ e=>e) λ_ _ e=>e;cases ok with
  |false=>simp only[bc,if_false]at h4 ⊢;exact .inl ⟨trivial,h4⟩
  |true=>
   simp only[if_true]at h4 ⊢;unfold jD at h4 ⊢;split at h4
   ·rename_i g' Wc;exact⟨h4.1,h4.2.1,aS h4.2.2 (λx s5 h5=>aS h5 (λQu s6 h6=>dJ h6 λr s7 h7=>⟨h7.1,.inl ⟨trivial,h7.2⟩⟩) λ_ _ e=>e) λ_ _ e=>e⟩
   ·exact aS h4 (λv s5 h5=>aS h5 (λ_ s6 h6=>.inl ⟨trivial,h6⟩) λ_ _ e=>e) λ_ _ e=>e
theorem vY{elt:Expr}{gens:List bh}{scope:mJ}{pos:Pos}{d:Nat}{it acc:al}{env:Env}{g:bh}{R:EY->aj->Prop}(hg:gens[d]?=some g)(ha:g.is_async=0)
  (TC:∀(A:bW)(Q:al->aj->Prop),Q it s->am (bB prog w) A (rU it) Q (λ_ _=>False) s)
  (h:ja (bB prog w) A (.compLoop (.ListComp elt gens scope pos) d it acc env) R s):ja (bB prog w) A (.compStart (.ListComp elt gens scope pos) d it acc env) R s:=by
 exists A,s,prog,w,elt,gens,scope,pos,d,it,acc,env,g,R;refine Ct ?_;show am _ _ ((compStart (.ListComp elt gens scope pos) d it acc env).onRaise (λx=>do noteFrame x env;standAt theWindowsPlace)) _ _ s;refine wpAny_notedAt ?_;unfold compStart;have hc:(clausesOf (.ListComp elt gens scope pos))[d]?=some g:=hg;erw[hc];simp only[Option.elim,ha,bne_self_eq_false,bc,if_false];refine af (gX (wpAny_ite ?_));split
 ·first
   |exact af (ah (ah (And.intro rfl h)))
   |exact ah (And.intro rfl h)
 ·refine af (dZ (af (c8 (af (aS (TC _ (λQu s'=>Qu=it/\s'=s) ⟨rfl,rfl⟩) (λQu s' h'=>?_) λ_ _ f=>f.elim)))));refine a9 h' λaT il=>?_;clear h';obtain rfl:=aT;obtain rfl:=il;exact ah (And.intro rfl h)
end
end
section
noncomputable def jE(ρ ρ':cf):Prop:=∀x v,ρ x=some v->ρ' x=some v
theorem jE.refl(ρ:cf):jE ρ ρ:=λ_ _ e=>e
theorem jE.trans(x:jE a b)(y:jE b c):jE a c:=λz v e=>y z v (x z v e)
theorem jE.set(h:ρ x=none):jE ρ (ρ.set x v):=λy u e=>by
 by_cases q:y=x
 ·subst q;rw[h]at e;cases e
 ·erw[cf.hG q];exact e
theorem jE.names:∀{vs:List V}{ρ0 ρ:cf},jE ρ0 ρ->(∀x∈xs,ρ0 x=none)->jE ρ0 (eN xs vs ρ):=by
 induction xs with
 |nil=>intro vs ρ0 ρ h _;exact h
 |cons x xs ih=>
  intro vs ρ0 ρ h hn;cases vs with
  |nil=>exact h
  |cons v vs=>
   show jE ρ0 (eN xs vs (ρ.set x v));refine ih (λy u e=>?_) λy hy=>hn y (.tail _ hy);by_cases q:y=x
   ·subst q;rw[hn _ (.head _)]at e;cases e
   ·erw[cf.hG q];exact h y u e
theorem jE.bind{k:cf->Prop}(hf:Ab t ρ)(h:fM sc t x ρ N k):fM sc t x ρ N λρ'=>k ρ'/\jE ρ ρ':=by
 exists sc,t,x,ρ,N,k;rcases h with⟨y,p,e,h1,h2⟩ |⟨ts,m,p,xs,vs,e,h1,h2,h3,h4,h5⟩
 ·exact .inl ⟨y,p,e,h1,h2,jE.set (hf.1 y p e)⟩
 ·exact .inr ⟨ts,m,p,xs,vs,e,h1,h2,h3,h4,h5,jE.names (jE.refl _) (hf.2 ts m p xs e h1)⟩
section
variable {Γ:Cx} {A:bW} {s s' fJ:aj} {env cenv:Env} {ρ ρ' cn:cf} {L:ax->Bool} {M N N' eo:aL} {n m:Nat} {sc:List (Str×bj)} {D:ax} {acc:List V} {wr:List ax} {h0 h':cg}
theorem bS.weak(R:bS Γ (full env ρ' L N) s)(l:jE ρ ρ'):bS Γ (full env ρ L N) s:=by
 exists Γ,s,env,ρ,ρ',L,N;haveI e:∀a,full env ρ' L N a=none↔full env ρ L N a=none:=λa=>by erw[ba,ba,cr (ρ:=ρ) (ρ':=ρ')]
 refine R.swap e λa mo h=>?_;exists a,mo;have keep:full env ρ' L N a=some mo->MI Γ.prog Γ.w s.heap (full env ρ L N) a mo:=λq=>(R.obj a mo q).less λb=>(e b).mp;by_cases hL:a=env.locals
 ·subst hL;rw[oU]at h;cases h;refine aI (R.obj _ _ (oU (L:=L) (N:=N) (ρ:=ρ') (env:=env))) λmm hn hm=>?_;exists mm;refine⟨mm,hn,λx d hx=>?_⟩;exists x,d;refine aI (hm x d (by
   dsimp only at hx ⊢;split at hx
   ·rename_i hk;erw[if_pos hk];exact l _ _ hx
   ·cases hx)) λv hv hi=>?_
  exact⟨v,hv,hi.less λb=>(e b).mp⟩
 ·cases q:eY env.cells a with
  |some x=>
   exists x;have h1:∀σ:cf,full env σ L N a=some (.cell (σ x)):=λσ=>by unfold full aQ;erw[if_neg hL,q];rfl
   rw[h1]at h;cases h;refine aI (R.obj _ _ (h1 ρ')) λcv hc hm=>?_;refine⟨cv,hc,λy hy=>?_⟩;refine aI (hm y (l _ _ hy)) λc V9 hi=>?_;exact⟨c,V9,hi.less λb=>(e b).mp⟩
  |none=>
   have h1:∀σ:cf,full env σ L N a=hide L N a:=λσ=>by unfold full aQ;erw[if_neg hL,q];rfl
   exact keep (by rw[h1]at h ⊢;exact h)
structure CI(Γ:Cx)(cenv:Env)(ρ:cf)(L:ax->Bool)(D:ax)(acc:List V)(N:aL)(s:aj):Prop where
 rep:bS Γ (full cenv ρ L N) s
 rq:fu cenv L N
 jQ:L D=true
 off:aQ cenv ρ D=none
 acc:∃dy nn,s.heap.get? D=some (listOf dy nn)/\ch s.heap (full cenv ρ L N) dy.toList acc
noncomputable def jF(cenv:Env)(N:aL)(D:ax):aL:=λa=>if a=D\/a=cenv.locals then some .jd else N a
theorem fx:jF cenv N D b=none↔b≠D/\b≠cenv.locals/\N b=none:=by
 unfold jF;by_cases e:b=D
 ·simp[e]
 ·by_cases e2:b=cenv.locals
  ·simp[e2]
  ·simp[e,e2]
theorem Dp(x:cl N h N' h'):cl (jF cenv N D) h (jF cenv N' D) h':=λb o e hn=>by refine ez (fx.mp hn) λh1 h2 h3=>?_;refine a9 (x b o e h3) λp q=>?_;exact⟨p,fx.mpr ⟨h1,h2,q⟩⟩
theorem yi(x:eF cenv sc h h')(ze:∀x,sc.lookup x≠some .cell):cl (jF cenv N D) h (jF cenv N D) h':=λb o e hn=>by refine ez (fx.mp hn) λh1 h2 h3=>?_;exact⟨x b o h2 (λp _ hp=>absurd hp (ze _)) e,hn⟩
theorem CI.own(C:CI Γ cenv ρ L D acc N s)(R:bS Γ (full cenv ρ' L N') s')(F:fu cenv L N')(x:cl (own cenv ρ N) s.heap (own cenv ρ' N') s'.heap):CI Γ cenv ρ' L D acc N' s':=by refine eQ C.acc λdy nn ho hv=>?_;haveI hD:Mine.own cenv ρ N D=none:=cY.mpr ⟨C.off,C.rq.kL _ C.jQ⟩;exact⟨R,F,C.jQ,(cr (ρ:=ρ)).mp C.off,dy,nn,(x _ _ ho hD).1,hv.ext (oT x)⟩
theorem CI.expr(C:CI Γ cenv ρ L D acc N s)(R:bS Γ (full cenv ρ L N') s')(x:cl N s.heap N' s'.heap):CI Γ cenv ρ L D acc N' s':=C.own R (C.rq.step C.rep x) (y0 x)
theorem CI.weak(C:CI Γ cenv ρ' L D acc N s)(l:jE ρ ρ'):CI Γ cenv ρ L D acc N s:=by refine eQ C.acc λdy nn ho hv=>?_;exact⟨C.rep.weak l,C.rq,C.jQ,(cr (ρ:=ρ')).mp C.off,dy,nn,ho,vL (λa=>by erw[ba,ba,cr (ρ:=ρ) (ρ':=ρ')]) hv⟩
theorem lY(h1:aQ cenv ρ b=none)(h2:L b=true):full cenv ρ L N b=some .jd:=by unfold full hide;erw[h1,if_pos h2];rfl
noncomputable def TP(Γ:Cx)(cenv:Env)(ρ:cf)(L:ax->Bool)(D:ax)(acc:List V)(N:aL)(h0:cg)(k:ve):aj->Prop:=λs'=>
 ∃vs N' ρ',jE ρ ρ'/\CI Γ cenv ρ' L D (acc++vs) N' s'/\cl (jF cenv N D) h0 (jF cenv N' D) s'.heap/\k vs N'
theorem TP.nil(C:CI Γ cenv ρ' L D acc N' s')(l:jE ρ ρ')(x:cl (jF cenv N D) h0 (jF cenv N' D) s'.heap)(h:k [] N'):TP Γ cenv ρ L D acc N h0 k s':=⟨[],N',ρ',l,by erw[bG];exact C,x,h⟩
theorem JT(C:CI Γ cenv ρ L D acc N s)(hv:VI s.heap (full cenv ρ L N) v x)(hl:acc.length<=3*gS)(h:k [x] N){E:al->aj->Prop}:
  am Γ.M A (oI (.builtin "list.append") [.ref D,v]) (λ_ s'=>TP Γ cenv ρ L D acc N s.heap k s') E s:=by
 refine eQ C.acc λdy nn ho ha=>?_;refine wpAny_list_append_plain ⟨nn,ho⟩ (λh' hp hs=>?_) (by have:=ha.length;simp at this;erw[bF];unfold gS at hl;exact aR 0x1d75679f79f79f79f79fbc260109655e7dea5e9778812 rfl hl this);refine bz hp λn' vc=>?_;clear hp;have off:Off [D] s.heap h':=λb o hb e=>(hs.2 b (by simpa using hb)).trans e;have hw:∀b∈[D],full cenv ρ L N b=some .jd:=λb hb=>by simp at hb;subst hb;exact lY C.off C.jQ
 haveI R':=bS.GS (t:=s.toks) C.rep off hw (λb hb=>by simp at hb;subst hb;exact⟨_,vc⟩);haveI ex:cl (full cenv ρ L N) s.heap (full cenv ρ L N) h':=off.ext λb hb=>by erw[hw b hb];exactλq=>by cases q
 refine⟨[x],N,ρ,jE.refl _,⟨R',C.rq,C.jQ,C.off,dy.push v,n',vc,?_⟩,λb o e hn=>⟨(hs.2 b (fx.mp hn).1).trans e,hn⟩,h⟩;erw[t5];exact(ha.ext ex).append (ch.one (hv.ext ex))
structure SPx(Γ:Cx)(t:Expr)(env:Env)(ρ:cf)(L:ax->Bool)(N:aL)(h:cg)(it:al)(s2:aj)(I:ax)(wr:List ax)(xs:List V)(st:aL->Prop)(N':aL):Prop where
 it:it=.ref I
 src:yg Γ t I wr xs st (full env ρ (bC L wr) N') s2.heap
 rep:bS Γ (full env ρ (bC L wr) N') s2
 rq:fu env (bC L wr) N'
 ext:cl N h N' s2.heap
 off:∀b∈wr,L b=false/\aQ env ρ b=none/\N' b=none
 old:∀b o,h.get? b=some o->N b=none->b∉wr
noncomputable abbrev SP(Γ:Cx)(t:Expr)(env:Env)(ρ:cf)(L:ax->Bool)(N:aL)(h:cg)(k:Nh):al->aj->Prop:=λit s2=>∃I wr xs st N',SPx Γ t env ρ L N h it s2 I wr xs st N'/\k xs st N'
noncomputable def kP(Γ:Cx)(n:Nat)(sc:List (Str×bj))(t e:Expr)(ρ:cf)(N:aL)(k:Nh):Prop:=∀{A},Lv n A->∀{env L s},fe env sc->fu env L N->bS Γ (full env ρ L N) s->
 (∀x,xY e env x=pure x)/\am Γ.M A (eval e env) (λxv s1=>am Γ.M A (rU xv) (SP Γ t env ρ L N s.heap k) ju s1) ju s
noncomputable def o0(Γ:Cx)(n:Nat)(sc:List (Str×bj))(gs:List bh)(elt:Expr)(ρ:cf)(N:aL)(k:ve):Prop:=∀{A},Lv n A->∀{cenv L s D acc gens d scope pos},kf (d+1) gens=gs->(gens.all λg=>g.is_async==0)=true->fe cenv sc->(∀x,sc.lookup x≠some .cell)->
 CI Γ cenv ρ L D acc N s->acc.length+gs.length*gS<=2*gS->jD Γ.M A ju elt gens scope pos d (.ref D) cenv (TP Γ cenv ρ L D acc N s.heap k) s
noncomputable def gG(Γ:Cx)(n:Nat)(sc:List (Str×bj))(g:bh)(gs:List bh)(elt:Expr)(ρ:cf)(x:V)(N:aL)(k:ve):Prop:=∀{A},Lv n A->∀{cenv L s D acc gens d scope pos v},kf d gens=g::gs->(gens.all λg=>g.is_async==0)=true->fe cenv sc->(∀x,sc.lookup x≠some .cell)->
 CI Γ cenv ρ L D acc N s->VI s.heap (full cenv ρ L N) v x->acc.length+gs.length*gS<=2*gS->
 am Γ.M A (kq g.target cenv v) (λ_ s3=>am Γ.M A (vj g.ifs cenv) (λok s4=>
  if ok=true then jD Γ.M A ju elt gens scope pos d (.ref D) cenv (TP Γ cenv ρ L D acc N s.heap k) s4 else TP Γ cenv ρ L D acc N s.heap k s4) ju s3) ju s
theorem jD.mono{Q Q':aj->Prop}(h:jD Mo A ju elt gens scope pos d a cenv Q s)(q:∀s',Q s'->Q' s'):
  jD Mo A ju elt gens scope pos d a cenv Q' s:=by
 exists A,s,cenv,Mo,elt,gens,scope,pos,d,a,Q,Q';unfold jD at h ⊢;split at h
 ·exact⟨h.1,h.2.1,bL h.2.2 λx s5 h5=>bL h5 λQu s6 h6=>dJ h6 λr s7 h7=>⟨h7.1,q _ h7.2⟩⟩
 ·exact bL h λv s5 h5=>bL h5 λ_ s6 h6=>q _ h6
theorem TP.lift(hle:jE ρ cn)(ex:cl (jF cenv N D) h0 (jF cenv N2 D) h2)(h:TP Γ cenv cn L D acc N2 h2 k s'):TP Γ cenv ρ L D acc N h0 k s':=by refine rh h λvs N' ρ' l' C' x' mG=>?_;clear h;exact⟨vs,N',ρ',hle.trans l',C',ex.trans x',mG⟩
theorem tB{α:Type}{l:List α}{d:Nat}{x:α}{r:List α}(h:kf d l=x::r):l[d]?=some x/\kf (d+1) l=r:=⟨by have:=congrArg yP h;rwa[pK]at this,by have:=congrArg (kf 1) h;rwa[mh]at this⟩
theorem gG.plain{g:bh}{gs:List bh}{elt:Expr}{x:V}{k:ve}(hi:g.ifs=[])(hf:Ab g.target ρ)(h:fM sc g.target x ρ N λcn=>o0 Γ n sc gs elt cn N k):gG Γ n sc g gs elt ρ x N k:=by intro A hA cenv L s D acc gens d scope pos v hd has S ze C hv hl;refine oW hA.1 S C.rq C.rep (jE.bind hf h) hv λcn s1 hk R1 eE=>?_;erw[hi];exact ah ((hk.1 hA (tB hd).2 has S ze (C.own R1 C.rq (eE.own C.rq)) hl).mono λs'=>TP.lift hk.2 (yi eE ze))
theorem gG.test{g:bh}{gs:List bh}{elt c:Expr}{x:V}{k:ve}(hi:g.ifs=[c])(hf:Ab g.target ρ)(h:fM sc g.target x ρ N λcn=>TB Γ n sc c cn N λb N1=>(b=true->o0 Γ n sc gs elt cn N1 k)/\(b=false->k [] N1)):gG Γ n sc g gs elt ρ x N k:=by
 exists Γ,ρ,N,n,sc,g,gs,elt,c,x,k;intro A hA cenv L s D acc gens d scope pos v hd has S ze C hv hl;revert hA;exists A,cenv,L,s,D,acc,gens,d,scope,pos,v;refine oW hA.1 S C.rq C.rep (jE.bind hf h) hv λcn s1 hk R1 eE=>?_;haveI C1:=C.own R1 C.rq (eE.own C.rq);erw[hi];unfold vj;erw[List.forIn_cons];refine af (af (TB.run hk.1 hA S C.rq R1 λok s2 N2 R2 F2 li h2=>ah ?_));dsimp only;erw[List.forIn_nil];refine ah ?_;haveI C2:=C1.expr R2 li;have JU:=(yi (N:=N) (D:=D) eE ze).trans (Dp li);cases ok with
 |true=>exact(h2.1 rfl hA (tB hd).2 has S ze C2 hl).mono λs'=>TP.lift hk.2 JU
 |false=>exact TP.nil C2 hk.2 JU (h2.2 rfl)
end
end
section
section
variable {Γ:Cx} {A:bW} {s s' fJ:aj} {env cenv:Env} {ρ ρ' cn:cf} {L:ax->Bool} {M N N' eo:aL} {n m:Nat} {sc:List (Str×bj)} {D:ax} {acc:List V} {wr:List ax} {h0 h':cg}
theorem bT:∀{wr:List ax},bC L wr b=true↔b∈wr\/L b=true:=by
 intro wr;induction wr with
 |nil=>simp[bC]
 |cons c wr ih=>show((b==c)||bC L wr b)=true↔_;erw[pJ,ih,beq_iff_eq,aq,or_assoc]
theorem gY(h:b∉wr):bC L wr b=L b:=by
 cases e:L b with
 |true=>exact bT.mpr (.inr e)
 |false=>
  cases q:bC L wr b with
  |false=>rfl
  |true=>
   rcases bT.mp q with q |q
   ·exact absurd q h
   ·rw[e]at q;cases q
theorem nz(h:b∉wr):full env ρ (bC L wr) N b=full env ρ L N b:=by unfold full hide;erw[gY h]
theorem CI.drop(C:CI Γ cenv ρ (bC L wr) D acc N s)(off:Off wr s.heap h')(hD:D∉wr)(hw:∀b∈wr,L b=false/\aQ cenv ρ b=none):CI Γ cenv ρ L D acc N {s with heap:=h',toks:=t}:=by
 refine eQ C.acc λdy nn ho hv=>?_;have hN:∀b∈wr,N b=none:=λb hb=>C.rq.kL b (bT.mpr (.inl hb));refine a9 (bS.zc (t:=t) C.rep off (λb hb=>lY (hw b hb).2 (bT.mpr (.inl hb))) (M':=full cenv ρ L N) λa mo e=>by
  have ha:a∉wr:=λha=>by rw[ba.mpr ⟨(hw a ha).2,(hw a ha).1,hN a ha⟩]at e;cases e
  exact⟨(nz ha).trans e,ha⟩) λR' ex=>?_
 refine⟨R',⟨C.rq.kind,C.rq.glob,C.rq.AC,C.rq.apart,C.rq.nodup,C.rq.mN,C.rq.yY,C.rq.yZ,λa ha=>C.rq.kL a (bT.mpr (.inr ha))⟩,(gY hD).symm.trans C.jQ,C.off,dy,nn,off D _ hD ho,hv.ext ex⟩
theorem CI.turn(C:CI Γ cenv ρ (bC L wr) D acc N s)(off:Off wr s.heap h')(hD:D∉wr)(hw:∀b∈wr,aQ cenv ρ b=none)(hl:∀b∈wr,∃o,h'.get? b=some o):CI Γ cenv ρ (bC L wr) D acc N {s with heap:=h',toks:=t}:=by refine eQ C.acc λdy nn ho hv=>?_;have hq:∀b∈wr,full cenv ρ (bC L wr) N b=some .jd:=λb hb=>lY (hw b hb) (bT.mpr (.inl hb));exact⟨bS.GS C.rep off hq hl,C.rq,C.jQ,C.off,dy,nn,off D _ hD ho,hv.ext (off.ext λb hb=>by erw[hq b hb];exactλq=>by cases q)⟩
theorem AY{g:bh}{gs gens:List bh}{elt:Expr}{d:Nat}{scope:mJ}{pos:Pos}{items:List V}{st:aL->Prop}{JV:List V}{k:ve}{I:ax}{St:Nat->aL->cg->Prop}{Md:Nat->aL->al->cg->Prop}{N0:aL}
  (hA:Lv n A) (S:fe cenv sc) (ze:∀x,sc.lookup x≠some .cell) (hd:kf d gens=g::gs) (has:(gens.all λg=>g.is_async==0)=true) (T:pU Γ g.target I wr items st St Md)
  (hD:D∉wr) (hw:∀b∈wr,L b=false/\aQ cenv ρ b=none) (hK:∀b o,h0.get? b=some o->jF cenv N0 D b=none->b∉wr)
  (hb:base.length+(gs.length+1)*gS<=2*gS)
  (i:Nat) (hi:i<=items.length) (h:c9 st (λx N2 kk=>gG Γ n sc g gs elt ρ x N2 kk) (items.drop i) JV N k) (gf:St i (full cenv cn (bC L wr) N) s.heap) (C:CI Γ cenv cn (bC L wr) D (base++JV) N s) (hle:jE ρ cn)
  (hx:cl (jF cenv N0 D) h0 (jF cenv N D) s.heap):
  ja Γ.M A (.compLoop (.ListComp elt gens scope pos) d (.ref I) (.ref D) cenv) (λr s'=>r=.ok .next/\∃vs N' ρ',jE ρ ρ'/\CI Γ cenv ρ' L D (base++vs) N' s'/\cl (jF cenv N0 D) h0 (jF cenv N' D) s'.heap/\k vs N') s:=by
 revert gens elt d scope pos items st JV k I St Md N0 i;exists Γ,A,s,cenv,ρ,cn,L,N,n,sc,D,wr,h0,base,g,gs;revert hd has T hK;exists gens,elt,d,scope,pos,items,st,JV,k,I,St,Md,N0,i;haveI hg:gens[d]?=some g:=by have:=congrArg yP hd;rwa[pK]at this
 haveI ha:g.is_async=0:=by have:=dm.mp has g (a7 hg);simpa using this
 refine GX hg ha (λc s'=>∃i cn N acc,c=items.length-i/\i<=items.length/\c9 st (λx N2 kk=>gG Γ n sc g gs elt ρ x N2 kk) (items.drop i) acc N k/\St i (full cenv cn (bC L wr) N) s'.heap/\
   CI Γ cenv cn (bC L wr) D (base++acc) N s'/\jE ρ cn/\cl (jF cenv N0 D) h0 (jF cenv N D) s'.heap) ?_ _ ⟨i,cn,N,JV,rfl,hi,h,gf,C,hle,hx⟩
 clear h gf C hle hx hi;rintro c s' ⟨i,cn,N,acc,rfl,hi,h,gf,C,hle,hx⟩;exists s',i,cn,N,acc;have Pq:∀b∈wr,aQ cenv cn b=none:=λb hb=>(cr (ρ:=ρ)).mp (hw b hb).2;have hq:∀b∈wr,full cenv cn (bC L wr) N b=some .jd:=λb hb=>lY (Pq b hb) (bT.mpr (.inl hb));haveI lN:=d7 (ρ:=cn) C.rq;have JW:∀{h1 h2:cg},cl (jF cenv N0 D) h0 (jF cenv N D) h1->Off wr h1 h2->cl (jF cenv N0 D) h0 (jF cenv N D) h2:=λx off b o e hn=>by haveI Sp:b∉wr:=hK b o e hn;exact⟨off b o Sp (x b o e hn).1,(x b o e hn).2⟩
 cases lZ:items.drop i with
 |nil=>
  rw[lZ]at h;refine ez h λhl hs hk=>?_;clear h;haveI hlen:i=items.length:=by have:=congrArg cB lZ;simp at this;exact aR 0x1d75808161f4810960812 rfl hi this
  subst hlen;refine T.done hA.1 C.rep lN hq hs gf λh' tk off=>?_;exact⟨rfl,acc,N,cn,hle,C.drop off hD λb hb=>⟨(hw b hb).1,Pq b hb⟩,JW hx off,hk⟩
 |cons x xs=>
  exists x,xs;rw[lZ]at h;refine ez h λhl hs hk=>?_;clear h;haveI GY:items[i]?=some x:=by have:=congrArg yP lZ;rwa[pK]at this
  haveI IY:items.drop (i+1)=xs:=by have:=congrArg (kf 1) lZ;simpa[mh,gU]using this
  haveI JX:i<items.length:=(cq.mp GY).1;refine T.next hA.1 C.rep lN hq hs gf GY λv h1 tk Qv Xl=>?_;exists v,h1,tk;refine T.go GY hq Xl λh2 GZ hv Dq=>?_;exists h2;have off:=Qv.trans GZ;have C2:CI Γ cenv cn (bC L wr) D (base++acc) N {s' with heap:=h2,toks:=tk}:=C.turn off hD Pq (T.live Dq);have C3:=C2.weak hle;haveI hnn:∀a,full cenv cn (bC L wr) N a=none↔full cenv ρ (bC L wr) N a=none:=λa=>by erw[ba,ba,cr (ρ:=ρ) (ρ':=cn)]
  have go:=hk hA (cenv:=cenv) (s:={s' with heap:=h2,toks:=tk}) (scope:=scope) (pos:=pos) hd has S ze C3 (y3 hnn hv) (by
   erw[an];have:(gs.length+1)*gS=gs.length*gS+gS:=by rw[Nat.add_mul,Nat.one_mul]
   lia)
  haveI fin:∀s5,TP Γ cenv ρ (bC L wr) D (base++acc) N h2 (λvs N'=>c9 st (λx N2 kk=>gG Γ n sc g gs elt ρ x N2 kk) xs (acc++vs) N' k) s5->
    ∃TD,TD<items.length-i/\∃i cn N acc,TD=items.length-i/\i<=items.length/\c9 st (λx N2 kk=>gG Γ n sc g gs elt ρ x N2 kk) (items.drop i) acc N k/\St i (full cenv cn (bC L wr) N) s5.heap/\
     CI Γ cenv cn (bC L wr) D (base++acc) N s5/\jE ρ cn/\cl (jF cenv N0 D) h0 (jF cenv N D) s5.heap:=by
   rintro s5 ⟨vs,N',ρ',l',C',x',mG⟩;exists s5,vs,N',ρ';refine⟨items.length-(i+1),by exact aR 0x1d7574810924600425c20560812 rfl hi JX,i+1,ρ',N',acc++vs,rfl,JX,by erw[IY];exact mG,?_,by rw[<-bY];exact C',l',?_⟩
   ·refine T.ext ?_ (λb hb=>?_) Dq
    ·intro b o e hn;refine ez (ba.mp hn) λn1 n2 n3=>?_;have Xm:b≠D:=by rintro rfl;rw[C.jQ]at n2;cases n2
     refine a9 (x' b o e (fx.mpr ⟨Xm,(λe=>by subst e;simp[aQ]at n1),n3⟩)) λp q=>?_;exact⟨p,ba.mpr ⟨cr.mp n1,n2,(fx.mp q).2.2⟩⟩
    ·refine bz (T.live Dq b hb) λo ho=>?_;have Xm:b≠D:=by rintro rfl;exact hD hb
     erw[ho];exact(x' b o ho (fx.mpr ⟨Xm,(λe=>by have:=(hw b hb).2;subst e;simp[aQ]at this),C.rq.kL b (bT.mpr (.inl hb))⟩)).1
   ·haveI y:=JW hx off;intro b o e hn;refine a9 (y b o e hn) λp q=>?_;exact x' b o p q
  refine aS go (λ_ s3 h3=>aS h3 (λok s4 h4=>?_) λ_ _ e=>e) λ_ _ e=>e;cases ok with
  |true=>simp only[if_true]at h4 ⊢;exact h4.mono fin
  |false=>simp only[bc,if_false]at h4 ⊢;exact fin _ h4
end
end
section
section
variable {Γ:Cx} {A:bW} {s s' fJ:aj} {env cenv:Env} {ρ ρ' cn:cf} {L:ax->Bool} {M N N' eo:aL} {n m:Nat} {sc:List (Str×bj)} {D:ax} {acc:List V} {wr:List ax} {h0 h':cg}
theorem Qw(x:cl N h N' h')(hw:∀b o,h.get? b=some o->N b=none->b∉wr):cl (full env ρ L N) h (full env ρ (bC L wr) N') h':=λb o e hn=>by refine ez (ba.mp hn) λh1 h2 h3=>?_;refine a9 (x b o e h3) λp q=>?_;have hb:b∉wr:=hw b o e h3;exact⟨p,ba.mpr ⟨h1,(gY hb).trans h2,q⟩⟩
theorem o0.nil(h:TE Γ n sc elt ρ N λv N1=>k [v] N1):o0 Γ n sc [] elt ρ N k:=by intro A hA cenv L s D acc gens d scope pos hd has S ze C hl;unfold jD;erw[mK.mpr (kI.mp hd)];refine h.run hA S C.rq C.rep λv s1 x N1 vx R1 F1 eE h1=>?_;refine bL (JT (C.expr R1 eE) vx (by simp at hl;exact aR 0x1d5950a20565428412 rfl hl) h1) λ_ s2 h=>?_;exact TP.lift (jE.refl _) (Dp eE) h
theorem o0.cons{elt:Expr}{g:bh}{Xn:List bh}{k:ve}(h:kP Γ n sc g.target g.iter ρ N λitems st N1=>c9 st (λx N2 kk=>gG Γ n sc g Xn elt ρ x N2 kk) items [] N1 k):o0 Γ n sc (g::Xn) elt ρ N k:=by
 exists Γ,ρ,N,n,sc,elt,g,Xn,k;intro A hA cenv L s D acc gens d scope pos hd has S ze C hl;revert hA;exists A,cenv,L,s,D,acc,gens,d,scope,pos;have hg:=(tB hd).1;have ha:g.is_async=0:=beq_iff_eq.mp (dm.mp has g (a7 hg));refine a9 (h hA S C.rq C.rep) λDl go=>?_;unfold jD;erw[hg];refine⟨ha,Dl,bL go λxv s1 h1=>bL h1 λit s2 h2=>?_⟩;revert h1;exists xv,s1,it,s2;refine Ng h2 λI wr xs st N' aT JY=>?_;exists I,wr,xs,st,N';clear h2;obtain⟨rfl,⟨St,Md,T,gf⟩,R2,F2,li,NE,CH⟩:=aT;refine eQ C.acc λdy nn ho hv=>?_;haveI ZX:N D=none:=C.rq.kL D C.jQ;haveI C2:CI Γ cenv ρ (bC L wr) D (acc++[]) N' s2:=⟨R2,F2,bT.mpr (.inr C.jQ),C.off,dy,nn,(li D _ ho ZX).1,by
  erw[bG];exact hv.ext (Qw li CH)⟩
 refine vY hg ha (λA' Q q=>T.self gf q) ?_;exact AY hA S ze hd has T (CH D _ ho ZX) (h0:=s.heap) (N0:=N) (ρ:=ρ) (λb hb=>⟨(NE b hb).1,(NE b hb).2.1⟩) (λb o e hn=>CH b o e (fx.mp hn).2.2) hl 0 (aG _) JY gf C2 (jE.refl _) (Dp li)
theorem Dr{f:Str×bj->Str×bj}{g:Str->bj->bj}(hf:∀p,f p=(p.1,g p.1 p.2))(x:Str)(l:List (Str×bj)):(l.map f).lookup x=(l.lookup x).map (g x):=by
 induction l with
 |nil=>rfl
 |cons p r ih=>
  erw[aP,hf p];show(match x==p.1 with |true=>some (g p.1 p.2) |false=>(r.map f).lookup x)=xt (g x) (match x==p.1 with |true=>some p.2 |false=>r.lookup x);cases e:x==p.1 with
  |true=>erw[beq_iff_eq.mp e];rfl
  |false=>exact ih
theorem vZ{scope:mJ}(hk:env.scope.kind=.function)(names:List (Str×bj))(x:Str):
  (names.map λ(n,k)=>if(k==gM&&env.scope.kind==.function&&env.kindOf n==some .cell) then(n,iH) else(n,k)).lookup x=
   (names.lookup x).map λk=>if k=.free/\env.kindOf x=some .cell then .cell else k:=
 Dr (g:=λn k=>if k=.free/\env.kindOf n=some .cell then .cell else k) (λp=>by
  show(if(p.2==gM&&env.scope.kind==.function&&env.kindOf p.1==some .cell)=true then(p.1,iH) else(p.1,p.2))=_;by_cases h:p.2=.free/\env.kindOf p.1=some .cell
  ·erw[if_pos h,h.1,hk,h.2];rfl
  ·erw[if_neg h,if_neg λq=>h (a9 (bo.mp q) λa b=>⟨beq_iff_eq.mp (bo.mp a).1,beq_iff_eq.mp b⟩)]) x names
noncomputable def frees(scope:mJ)(env:Env):List (Str×ax):=((scope.names.filter λp=>p.2==.free).map λp=>(p.1,(env.cells.lookup p.1).getD 0)).reverse
theorem Ds{scope:mJ}{env:Env}(h:∀p∈scope.names,p.2=.free->∃c,env.cells.lookup p.1=some c):rV scope env=pure (frees scope env):=by
 exists scope,env;haveI key:∀(l:List (Str×bj))(cs:List (Str×ax)),(∀p∈l,p.2=.free->∃c,env.cells.lookup p.1=some c)->
   (forIn l cs λ(x:Str×bj)r=>(if(x.2==gM)=true then do let c <-cellOf env x.1;pure (nt ((x.1,c)::r)) else pure (nt r):Sem (ForInStep (List (Str×ax)))))=
    pure (((l.filter λp=>p.2==.free).map λp=>(p.1,(env.cells.lookup p.1).getD 0)).reverse++cs):=by
  intro l;induction l with
  |nil=>intro cs _;rfl
  |cons p l ih=>
   intro cs hp;revert ih;exists p,l,cs;erw[List.forIn_cons];by_cases hf:p.2=.free
   ·refine bz (hp p (.head _) hf) λc hc=>?_;haveI hb:(p.2==gM)=true:=beq_iff_eq.mpr hf;haveI yb:cellOf env p.1=pure c:=by unfold cellOf;erw[hc]
    simp only[hb,if_true,yb,pure_bind,cV,aP,hc,Jd,ik];erw[ih _ λq hq=>hp q (.tail _ hq)];simp
   ·haveI hb:(p.2==gM)=false:=beq_eq_false_iff_ne.mpr hf;simp only[hb,bc,if_false,pure_bind,cV];exact ih _ λq hq=>hp q (.tail _ hq)
 unfold rV frees;have:=key scope.names [] h;rw[bG]at this;simp only[bind_pure]at this ⊢;exact this
theorem i0(h:iR scope sc=true):scope.kind=.function/\(∀p∈scope.names,p.2=.local\/p.2=.globalImplicit\/(p.2=.free/\sc.lookup p.1=some .cell))/\(scope.names.map (·.1)).Nodup/\
  ∀p∈scope.names,p.1≠("__debug__":Str)/\p.1≠("__classdict__":Str):=by
 exists sc,scope;unfold iR at h;simp only[iG,dm,pJ,beq_iff_eq,decide_eq_true_eq,Bool.not_eq_true',List.any_eq_false,not_or]at h;refine a9 h λaT h4=>?_;clear h;refine a9 aT λil h3=>?_;clear aT;refine a9 il λh1 h2=>?_;clear il;exact⟨h1,λp hp=>by rcases h2 p hp with(h |h) |h<;>simp[h],h3,h4⟩
theorem jI{names:List (Str×bj)}{x:Str}{k:bj}(hn:(names.map (·.1)).Nodup)(h:(x,k)∈names):names.lookup x=some k:=by
 exists names,x,k;induction names with
 |nil=>cases h
 |cons p r ih=>
  exists p,r;rw[aP,bt]at hn;rcases aq.mp h with rfl |h'
  ·simp
  ·have:x≠p.1:=λe=>hn.1 (e▸ak.mpr ⟨(x,k),h',rfl⟩);have hb:(x==p.1)=false:=beq_eq_false_iff_ne.mpr this;obtain⟨a,b⟩:=p;erw[gv,hb];exact ih hn.2 h'
section
variable {scope:mJ} {C:ax}
theorem iq(S:fe env sc)(ok:iR scope sc=true)(hp:p∈frees scope env):(p.1,gM)∈scope.names/\env.cells.lookup p.1=some p.2/\p∈env.cells:=by
 revert S ok;exists env,sc,scope,p;unfold frees at hp;rw[oz,ak]at hp;refine aI hp λq hq aT=>?_;exists q;clear hp;obtain rfl:=aT;rw[a8]at hq;have hf:q.2=.free:=by simpa using hq.2
 refine qw (i0 ok) λh1 h2 h3 h4=>?_;have hc:sc.lookup q.1=some .cell:=by
  rcases h2 q hq.1 with h |h |h
  ·rw[hf]at h;cases h
  ·rw[hf]at h;cases h
  ·exact h.2
 refine bz (S.cell _ hc).2 λc hl=>?_;exists c;refine⟨?_,by simp[hl],?_⟩
 ·have:(q.1,gM)=q:=by obtain⟨a,b⟩:=q;dsimp only at hf;erw[hf]
  erw[this];exact hq.1
 ·simp only[hl,Jd];exact mem_of_lookup hl
theorem G0(S:fe env sc)(ok:iR scope sc=true)(hx:(x,gM)∈scope.names):∃c,(x,c)∈frees scope env/\env.cells.lookup x=some c/\env.kindOf x=some .cell:=by
 revert S ok;exists env,sc,scope,x;refine qw (i0 ok) λh1 h2 h3 h4=>?_;have hc:sc.lookup x=some .cell:=by
  rcases h2 _ hx with h |h |h
  ·cases h
  ·cases h
  ·exact h.2
 refine a9 (S.cell _ hc) λhk aT=>?_;refine bz aT λc hl=>?_;clear aT;refine⟨c,?_,hl,hk⟩;unfold frees;erw[oz,ak];exact⟨(x,.free),a8.mpr ⟨hx,rfl⟩,by simp[hl]⟩
theorem o6(ok:iR scope sc=true):((frees scope env).map (·.1)).Nodup:=by refine qw (i0 ok) λh1 h2 h3 h4=>?_;unfold frees;erw[vE,ay];unfold Je;erw[E1];exact((gn.map _).nodup h3).imp λh=>h.symm
theorem mx{cs:List (Str×ax)}(hn:(cs.map (·.1)).Nodup){x:Str}{c:ax}(h:(x,c)∈cs):cs.lookup x=some c:=by
 induction cs with
 |nil=>cases h
 |cons p r ih=>
  exists x,c,p,r;rw[aP,bt]at hn;rcases aq.mp h with rfl |h'
  ·simp
  ·have:x≠p.1:=λe=>hn.1 (e▸ak.mpr ⟨(x,c),h',rfl⟩);have hb:(x==p.1)=false:=beq_eq_false_iff_ne.mpr this;obtain⟨a,b⟩:=p;erw[gv,hb];exact ih hn.2 h'
theorem ug(S:fe env sc)(F:fu env L N)(ok:iR scope sc=true):(frees scope env).Pairwise λx y=>x.2≠y.2:=by have:=o6 (env:=env) ok;unfold Je at this;rw[dK]at this;refine List.Pairwise.imp_of_mem (λ{a b}ha hb pV e=>pV ?_) this;haveI h1:=eL F.apart (x:=a.1) (a:=a.2) (iq S ok ha).2.2;haveI h2:=eL F.apart (x:=b.1) (a:=b.2) (iq S ok hb).2.2;rw[e,h2]at h1;exact(aA h1).symm
theorem pW(F:fu env L N){x:Str}:(dL scope (frees scope env) C env).kindOf x=(scope.names.lookup x).map λk=>if k=.free/\env.kindOf x=some .cell then .cell else k:=vZ (scope:=scope) F.kind scope.names x
theorem fe.comp(S:fe env sc)(F:fu env L N)(ok:iR scope sc=true):fe (dL scope (frees scope env) C env) scope.names:=by
 refine qw (i0 ok) λh1 h2 h3 h4=>?_;have none_of:∀y:Str,(∀p∈scope.names,p.1≠y)->scope.names.lookup y=none:=λy hy=>by
  cases e:scope.names.lookup y with
  |none=>rfl
  |some k=>exact absurd rfl (hy _ (mem_of_lookup e))
 refine⟨none_of _ λp hp=>(h4 p hp).1,none_of _ λp hp=>(h4 p hp).2,λx hx=>⟨?_,λp hp e=>?_⟩,λx hx=>?_,λx hx=>?_,λx hx=>?_⟩
 ·erw[pW F,hx];rfl
 ·have:=jI h3 (iq S ok hp).1;rw[e,hx]at this;cases this
 ·rcases h2 _ (mem_of_lookup hx) with h |h |h<;>simp at h
 ·refine cQ (G0 (env:=env) S ok (mem_of_lookup hx)) λc hc hl hk=>?_;refine⟨.inl ?_,c,mx (o6 ok) hc⟩;erw[pW F,hx];simp[hk]
 ·erw[pW F,hx];rfl
theorem AZ(ok:iR scope sc=true):∀x,scope.names.lookup x≠some .cell:=λx e=>by refine qw (i0 ok) λh1 h2 h3 h4=>?_;rcases h2 _ (mem_of_lookup e) with h |h |h<;>simp at h
end
end
end
section
section
variable {Γ:Cx} {A:bW} {s s' fJ s2:aj} {env cenv:Env} {ρ ρ' cn:cf} {L:ax->Bool} {M N N' eo:aL} {n m:Nat} {k:KV} {sc:List (Str×bj)} {D C:ax} {acc:List V} {wr:List ax} {h0 h' h1:cg} {scope:mJ}
theorem JZ(S:fe env sc)(ok:iR scope sc=true)(R2:bS Γ (full env ρ (bC L wr) N') s2)(F2:fu env (bC L wr) N')(hD:D=s2.heap.objs.size)(hC:C=s2.heap.objs.size+1)
  (CF:h1.Ns C λx=>([]:List (Str×al)).reverse.lookup x) (uU:bu C ((s2.heap.push (listOf #[] 0)).push {cls:=.type "dict",data:=.dict #[]}) h1):
  CI Γ (dL scope (frees scope env) C env) (gd scope.names ρ) (bC (bC (jQ env L) [D]) wr) D [] N' {s2 with heap:=h1,toks:=t}/\(∀b o,s2.heap.get? b=some o->h1.get? b=some o):=by
 revert S ok;exists Γ,s2,env,ρ,L,N',sc,D,C,wr,h1,scope,t;refine qw (i0 ok) λk1 k2 k3 k4=>?_;haveI hz:(s2.heap.push (listOf #[] 0)).objs.size=s2.heap.objs.size+1:=eT ..;have v4:s2.heap.get? D=none:=by erw[hD];exact cN _
 have zf:(s2.heap.push (listOf #[] 0)).get? C=none:=by rw[hC,<-hz];exact cN _
 have yj:s2.heap.get? C=none:=by
  cases e:s2.heap.get? C with
  |none=>rfl
  |some o=>rw[ai _ e]at zf;cases zf
 have TF:D≠C:=by erw[hD,hC];exact bd (cK _)
 haveI Wd:∀b o,s2.heap.get? b=some o->(s2.heap.push (listOf #[] 0)).get? b=some o:=λb o e=>ai _ e;have Qx:∀b o,(s2.heap.push (listOf #[] 0)).get? b=some o->h1.get? b=some o:=λb o e=>by
  haveI hb:b≠C:=by rintro rfl;rw[zf]at e;cases e
  exact uU.extBut b o hb (ai _ e)
 have TG:∃o,h1.get? C=some o:=by refine uR CF λo _ _ ho _=>?_;clear CF;exact⟨o,ho⟩
 have hgD:h1.get? D=some (listOf #[] 0):=Qx _ _ (by erw[hD];exact aB _ rfl);have RD:bS Γ ((full env ρ (bC L wr) N').put D .jd) {s2 with heap:=s2.heap.push (listOf #[] 0)}:=bS.new (mo:=.jd) (t:=s2.toks) R2 v4 Wd ⟨_,by erw[hD];exact aB _ rfl⟩;have RC:bS Γ (((full env ρ (bC L wr) N').put D .jd).put C .jd) {s2 with heap:=h1,toks:=t}:=bS.new (s:={s2 with heap:=s2.heap.push (listOf #[] 0)}) (mo:=.jd) (t:=t) RD zf Qx TG;have nD:=ba.mp (R2.ce v4);have nC:=ba.mp (R2.ce yj);have fr:∀a,aQ (dL scope (frees scope env) C env) (gd scope.names ρ) a=none↔a≠C/\∀p∈frees scope env,p.2≠a:=λa=>by
  exists a;erw[eV];constructor
  ·rintro⟨x,y⟩;refine⟨by simpa[dL]using x,λp hp e=>?_⟩;exists p;have:=eL (ug S F2 ok) (x:=p.1) (a:=p.2) hp;rw[e]at this;haveI y':eY (frees scope env) a=none:=y;rw[this]at y';cases y'
  ·rintro⟨x,y⟩;exact⟨by simpa[dL]using x,gN y⟩
 have tC:∀p∈frees scope env,aQ env ρ p.2≠none:=λp hp e=>by have:=(iq S ok hp).2.2;unfold aQ at e;rw[if_neg (F2.mN p this),eL F2.apart (x:=p.1) this]at e;cases e
 have nn:∀a,((full env ρ (bC L wr) N').put D .jd).put C .jd a=none↔full (dL scope (frees scope env) C env) (gd scope.names ρ) (bC (bC (jQ env L) [D]) wr) N' a=none:=λa=>by
  exists a;erw[ba,fr];constructor
  ·intro e;have a1:a≠C:=by rintro rfl;rw[aL.bH]at e;cases e
   rw[aL.bE a1]at e;have a2:a≠D:=by rintro rfl;rw[aL.bH]at e;cases e
   rw[aL.bE a2]at e;refine ez (ba.mp e) λx y z=>?_;refine⟨⟨a1,λp hp q=>by rw[<-q]at x;exact tC p hp x⟩,?_,z⟩;cases q:bC (bC (jQ env L) [D]) wr a with
   |false=>rfl
   |true=>
    rcases bT.mp q with h |h
    ·rw[bT.mpr (.inl h)]at y;cases y
    ·rcases bT.mp h with h |h
     ·simp at h;exact absurd h a2
     ·have hl:L a=false:=by
       cases r:L a with
       |false=>rfl
       |true=>rw[bT.mpr (.inr r)]at y;cases y
      rw[(gO (ρ:=ρ)).mpr ⟨x,hl⟩]at h;cases h
  ·rintro⟨⟨x1,x2⟩,y,z⟩;have a2:a≠D:=by rintro rfl;rw[bT.mpr (.inr (bT.mpr (.inl (by simp))))]at y;cases y
   erw[aL.bE x1,aL.bE a2];haveI hh:jQ env L a=false:=by
    cases q:jQ env L a with
    |false=>rfl
    |true=>rw[bT.mpr (.inr (bT.mpr (.inr q)))]at y;cases y
   refine a9 ((gO (ρ:=ρ)).mp hh) λu v=>?_;haveI w:bC L wr a=false:=by
    cases q:bC L wr a with
    |false=>rfl
    |true=>
     rcases bT.mp q with h |h
     ·rw[bT.mpr (.inl h)]at y;cases y
     ·rw[v]at h;cases h
   exact ba.mpr ⟨u,w,z⟩
 have F':fu (dL scope (frees scope env) C env) (bC (bC (jQ env L) [D]) wr) N':=by
  refine⟨k1,F2.glob,F2.AC,ug S F2 ok,o6 ok,λp hp e=>?_,nC.2.2,λp hp=>F2.yZ p (iq S ok hp).2.2,λa ha=>?_⟩
  ·have:aQ env ρ p.2=none:=by erw[e];exact nC.1
   exact tC p hp this
  ·exists a;rcases bT.mp ha with h |h
   ·exact F2.kL a (bT.mpr (.inl h))
   ·rcases bT.mp h with h |h
    ·simp at h;erw[h];exact nD.2.2
    ·have:jQ env (bC L wr) a=true:=by
      unfold jQ at h ⊢;rcases ft.mp h with h |h
      ·erw[h];rfl
      ·erw[bT.mpr (.inr h)];simp
     exact F2.Jq this
 refine⟨⟨RC.swap nn λa mo e=>?_,F',bT.mpr (.inr (bT.mpr (.inl (by simp)))),(fr D).mpr ⟨TF,λp hp e=>?_⟩,#[],0,hgD,.nil⟩,λb o e=>Qx b o (Wd b o e)⟩
 ·exists a,mo;by_cases aC:a=C
  ·subst aC;have:full (dL scope (frees scope env) a env) (gd scope.names ρ) (bC (bC (jQ env L) [D]) wr) N' a=some (.ns λx=>if(dL scope (frees scope env) a env).kindOf x=some .local then gd scope.names ρ x else none):=oU;rw[this]at e;cases e;refine⟨_,CF,λx d hx=>?_⟩;exists x,d;exfalso;dsimp only at hx;split at hx
   ·rename_i hk;rw[pW F2]at hk;unfold gd at hx;cases hl:scope.names.lookup x with
    |none=>rw[hl]at hk;cases hk
    |some kk=>
     exists kk;rw[hl]at hk;simp only[Option.map_some,As]at hk;split at hk
     ·cases hk
     ·subst hk;rw[if_pos hl]at hx;cases hx
   ·cases hx
  ·by_cases ac:∃p∈frees scope env,p.2=a
   ·refine aI ac λp hp aT=>?_;exists p;clear ac;obtain rfl:=aT;refine ez (iq S ok hp) λm1 m2 m3=>?_;have e1:full (dL scope (frees scope env) C env) (gd scope.names ρ) (bC (bC (jQ env L) [D]) wr) N' p.2=some (.cell (gd scope.names ρ p.1)):=tq (x:=p.1) F' hp;rw[e1]at e;cases e;haveI aD:p.2≠D:=λq=>by have:=tC p hp;rw[q]at this;exact this nD.1
    haveI e2:((full env ρ (bC L wr) N').put D .jd).put C .jd p.2=some (.cell (ρ p.1)):=by erw[aL.bE aC,aL.bE aD];exact tq (x:=p.1) F2 m3
    haveI Qy:gd scope.names ρ p.1=ρ p.1:=by unfold gd;erw[jI k3 m1];simp
    erw[Qy];exact(RC.obj _ _ e2).less λb=>(nn b).mp
   ·have f0:aQ (dL scope (frees scope env) C env) (gd scope.names ρ) a=none:=(fr a).mpr ⟨aC,λp hp q=>ac ⟨p,hp,q⟩⟩;cases q:((full env ρ (bC L wr) N').put D .jd).put C .jd a with
    |none=>rw[(nn a).mp q]at e;cases e
    |some mo'=>
     exists mo';unfold full hide at e;rw[f0]at e;exists mo';split at e
     ·cases e;exact RC.live q
     ·rename_i hl;have hn:N' a=some mo:=e;have:((full env ρ (bC L wr) N').put D .jd).put C .jd a=some mo:=by
       haveI aD:a≠D:=by rintro rfl;rw[nD.2.2]at hn;cases hn
       erw[aL.bE aC,aL.bE aD];exact iX F2 hn
      exact(RC.obj _ _ this).less λb=>(nn b).mp
 ·have:=tC p hp;rw[e]at this;exact this nD.1
theorem Qz{s5:aj}{vs:List V}{N5:aL}(S:fe env sc)(ok:iR scope sc=true)(R:bS Γ (full env ρ L N) s)(F:fu env L N)(nD:aQ env ρ D=none/\L D=false)(nC:aQ env ρ C=none/\L C=false)(hb:∀b o,s.heap.get? b=some o->N b=none->b≠D/\b≠C)(TF:D≠C)
  (hle:jE (gd scope.names ρ) ρ') (X:CI Γ (dL scope (frees scope env) C env) ρ' (bC (jQ env L) [D]) D vs N5 s5) (x:cl (jF (dL scope (frees scope env) C env) N D) s.heap (jF (dL scope (frees scope env) C env) N5 D) s5.heap):
  bS Γ (full env ρ (bC L [C]) N5) s5/\VI s5.heap (full env ρ (bC L [C]) N5) (.ref D) (.lst vs)/\cl N s.heap N5 s5.heap/\(∃mm,s5.heap.Ns C mm)/\L C=false/\aQ env ρ C=none/\N5 C=none:=by
 exists Γ,s,env,ρ,ρ',L,N,sc,D,C,scope,s5,vs,N5;refine qw (i0 ok) λk1 k2 k3 k4=>?_;have n5C:N5 C=none:=X.rq.yY;have n5D:N5 D=none:=X.rq.kL D X.jQ;have ex:cl N s.heap N5 s5.heap:=λb o e hn=>by refine a9 (hb b o e hn) λb1 b2=>?_;refine a9 (x b o e (fx.mpr ⟨b1,b2,hn⟩)) λp q=>?_;exact⟨p,(fx.mp q).2.2⟩
 haveI tC:∀p∈frees scope env,aQ env ρ p.2≠none:=λp hp e=>by have:=(iq S ok hp).2.2;unfold aQ at e;rw[if_neg (F.mN p this),eL F.apart (x:=p.1) this]at e;cases e
 have nn:∀a,full (dL scope (frees scope env) C env) ρ' (bC (jQ env L) [D]) N5 a=none↔(full env ρ (bC L [C]) N5).put D .jd a=none:=λa=>by
  exists a;constructor
  ·intro e;refine ez (ba.mp e) λu v w=>?_;have aD:a≠D:=by rintro rfl;rw[X.jQ]at v;cases v
   haveI aC:a≠C:=by rintro rfl;simp[aQ,dL]at u
   haveI hh:jQ env L a=false:=(gY (L:=jQ env L) (wr:=[D]) (by simpa using aD)).symm.trans v;refine a9 ((gO (ρ:=ρ)).mp hh) λy z=>?_;erw[aL.bE aD];exact ba.mpr ⟨y,by erw[gY (by simpa using aC)];exact z,w⟩
  ·intro e;have aD:a≠D:=by rintro rfl;rw[aL.bH]at e;cases e
   rw[aL.bE aD]at e;refine ez (ba.mp e) λu v w=>?_;haveI aC:a≠C:=by rintro rfl;rw[bT.mpr (.inl (by simp))]at v;cases v
   refine ba.mpr ⟨eV.mpr ⟨by simpa[dL]using aC,gN λp hp q=>?_⟩,?_,w⟩
   ·rw[<-q]at u;exact tC p hp u
   ·erw[gY (by simpa using aD)];exact(gO (ρ:=ρ)).mpr ⟨u,(gY (L:=L) (wr:=[C]) (by simpa using aC)).symm.trans v⟩
 have R5:=X.rep;have exM:cl (full env ρ L N) s.heap ((full env ρ (bC L [C]) N5).put D .jd) s5.heap:=λb o e hn=>by refine ez (ba.mp hn) λu v w=>?_;refine a9 (ex b o e w) λp q=>?_;refine a9 (hb b o e w) λb1 b2=>?_;exact⟨p,by erw[aL.bE b1];exact ba.mpr ⟨u,by erw[gY (by simpa using b2)];exact v,q⟩⟩
 have R1:bS Γ ((full env ρ (bC L [C]) N5).put D .jd) s5:=by
  refine R5.swap nn λa mo e=>?_;exists a,mo;have lv:∀b,(full env ρ (bC L [C]) N5).put D .jd b≠none->∃o,s5.heap.get? b=some o:=λb hb=>by
   cases q:full (dL scope (frees scope env) C env) ρ' (bC (jQ env L) [D]) N5 b with
   |none=>exact absurd ((nn b).mp q) hb
   |some mo'=>exact R5.live q
  by_cases aD:a=D
  ·subst aD;rw[aL.bH]at e;cases e;exact lv a (by erw[aL.bH];exactλq=>by cases q)
  ·haveI e':=e;rw[aL.bE aD]at e';cases hf:aQ env ρ a with
   |some mf=>
    haveI hm:full env ρ (bC L [C]) N5 a=some mf:=hH hf;rw[hm]at e';cases e';haveI aC:a≠C:=by rintro rfl;rw[nC.1]at hf;cases hf
    haveI h0:full env ρ L N a=some mo:=hH hf;haveI old:s5.heap.get? a=s.heap.get? a:=by refine bz (R.live h0) λo ho=>?_;erw[ho];exact(ex a o ho (F.off (by erw[hf];exactλq=>by cases q))).1
    exact(R.obj a mo h0).ext exM old
   |none=>
    unfold full hide at e';rw[hf]at e';split at e'
    ·cases e';exact lv a (by erw[e];exactλq=>by cases q)
    ·haveI hn:N5 a=some mo:=e';exact(R5.obj a mo (iX X.rq hn)).less λb=>(nn b).mp
 have lD:full env ρ (bC L [C]) N5 D=none:=ba.mpr ⟨nD.1,by erw[gY (by simpa using TF)];exact nD.2,n5D⟩;have sub:∀a mo,full env ρ (bC L [C]) N5 a=some mo->(full env ρ (bC L [C]) N5).put D .jd a=some mo:=λa mo e=>by
  have:a≠D:=by rintro rfl;rw[lD]at e;cases e
  erw[aL.bE this];exact e
 haveI Xo:∀a,(full env ρ (bC L [C]) N5).put D .jd a=none->full env ρ (bC L [C]) N5 a=none:=λa e=>by
  cases q:full env ρ (bC L [C]) N5 a with
  |none=>rfl
  |some mo=>rw[sub a mo q]at e;cases e
 refine eQ X.acc λdy nn' ho hv=>?_;refine⟨R1.less sub,.lst (vs:=dy.toList) (n:=nn') (by simpa using ho) lD ?_,ex,?_,nC.2,nC.1,n5C⟩
 ·exact(vL nn hv).less Xo
 ·refine aI (R5.obj _ _ (oU (L:=bC (jQ env L) [D]) (N:=N5) (ρ:=ρ') (env:=dL scope (frees scope env) C env))) λmm hn _=>?_;exact⟨mm,hn⟩
theorem Ba{elt:Expr}{g:bh}{gs:List bh}{scope:mJ}{pos:Pos}(ok:iR scope sc=true)(Pr:gs.length<=1)(has:(g::gs).all (λg=>g.is_async==0)=true)
  (h:kP Γ n sc g.target g.iter ρ N λitems st N1=>c9 st (λx N2 kk=>gG Γ n scope.names g gs elt (gd scope.names ρ) x N2 kk) items [] N1 λvs N2=>k (.lst vs) N2)
  (hA:Lv n A) (S:fe env sc) (F:fu env L N) (R:bS Γ (full env ρ L N) s) {use:Option (al->Sem Unit)} {Q:al->aj->Prop}
  (q:∀D C s1 x N',L C=false->aQ env ρ C=none->N' C=none->bS Γ (full env ρ (bC L [C]) N') s1->VI s1.heap (full env ρ (bC L [C]) N') (.ref D) x->cl N s.heap N' s1.heap->(∃mm,s1.heap.Ns C mm)->(∀b o,s.heap.get? b=some o->N b=none->b≠C)->k x N'->
   (match use with
    |none=>∀h',bu C s1.heap h'->Q (.ref D) {s1 with heap:=h'}
    |some u=>am Γ.M A (u (.ref D)) (λ_ s2=>∃mm,s2.heap.Ns C mm/\∀h',bu C s2.heap h'->Q .none {s2 with heap:=h'}) ju s1)):
  am Γ.M A (vF (.ListComp elt (g::gs) scope pos) scope env (firstIterPos (g::gs) pos) (newList []) (firstAsync (g::gs)) (firstIter (g::gs) env) use) Q ju s:=by
 revert ok Pr has h hA S F R Q;exists Γ,A,s,env,ρ,L,N,n,k,sc,elt,g,gs,scope,pos,use;exists Q;refine qw (i0 ok) λk1 k2 k3 k4=>?_;refine a9 (h hA S F R) λDl go=>?_;obtain⟨Ps,iter,ifs,ia⟩:=g;exists Ps,iter,ifs,ia;haveI hia:ia=0:=by have:=dm.mp has _ (mj ..);simpa using this
 subst hia;haveI i8:rV scope env=pure (frees scope env):=Ds λp hp hf=>by
  rcases k2 p hp with h |h |h
  ·rw[hf]at h;cases h
  ·rw[hf]at h;cases h
  ·exact(S.cell _ h.2).2
 show am Γ.M A (vF (.ListComp elt (⟨Ps,iter,ifs,0⟩::gs) scope pos) scope env _ (newList []) false (eval iter env) use) Q ju s;refine wpAny_comprehension_free (g:=⟨Ps,iter,ifs,0⟩) (gs:=gs) rfl Dl i8 k1 (λx hx hl=>by
  have:(x.1,bj.local)∈scope.names:=by obtain⟨a,b⟩:=x;dsimp only at hl;rw[<-hl];exact hx
  exact jI k3 this) ?_
 refine aS go (λxv s1 h1=>aS h1 (λit s2 h2=>?_) λ_ _ e=>e) λ_ _ e=>e;revert h1;exists xv,s1,it,s2;refine Ng h2 λI wr xs st N' aT JY=>?_;exists I,wr,xs,st,N';clear h2;obtain⟨rfl,⟨St,Md,T,gf⟩,R2,F2,li,NE,CH⟩:=aT;exists St,Md;refine eD (wpAny_newFunctionEnv (λx hx e=>?_) (by intro y hy;simp at hy) (λQA Dt Du=>?_) k1)
 ·rcases k2 x hx with h |h |h
  ·rw[e]at h;cases h
  ·rw[e]at h;cases h
  ·rw[e]at h;cases h.1
 exists QA;dsimp only at Dt Du ⊢;generalize ZY:s2.heap.push {cls:=.type "list",dict:=none,data:=.seq ([]:List al).toArray}=H2 at Dt Du ⊢;exists H2;have hC:H2.objs.size=s2.heap.objs.size+1:=by rw[<-ZY,eT]
 haveI Xp:bu H2.objs.size ((s2.heap.push (listOf #[] 0)).push {cls:=.type "dict",data:=.dict #[]}) QA:=by have:H2=s2.heap.push (listOf #[] 0):=ZY.symm;rw[<-this];exact Du
 refine a9 (JZ (t:=s2.toks+([]:List (Str×al)).length) (L:=L) (wr:=wr) (D:=s2.heap.objs.size) (C:=H2.objs.size) S ok R2 F2 rfl hC Dt Xp) λC4 Xq=>?_;haveI v4:s2.heap.get? s2.heap.objs.size=none:=cN _;have yj:s2.heap.get? H2.objs.size=none:=by
  cases e:s2.heap.get? H2.objs.size with
  |none=>rfl
  |some o=>exact absurd (bO e) (pL.mpr (by erw[hC];exact cD _))
 haveI GZ:∀a,s2.heap.get? a=none->aQ env ρ a=none/\L a=false:=λa ha=>by
  exists a;refine ez (ba.mp (R2.ce ha)) λu v w=>?_;refine⟨u,?_⟩;cases q:L a with
  |false=>rfl
  |true=>rw[bT.mpr (.inr q)]at v;cases v
 have hb:∀b o,s.heap.get? b=some o->N b=none->b≠s2.heap.objs.size/\b≠H2.objs.size:=λb o e hn=>by refine a9 (li b o e hn) λp _=>?_;exact⟨(by rintro rfl;rw[v4]at p;cases p),(by rintro rfl;rw[yj]at p;cases p)⟩
 haveI TF:s2.heap.objs.size≠H2.objs.size:=by erw[hC];exact bd (cK _)
 have TH:St 0 (full (dL scope (frees scope env) H2.objs.size env) (gd scope.names ρ) (bC (bC (jQ env L) [s2.heap.objs.size]) wr) N') QA:=by
  refine T.ext (λb o e hn=>⟨Xq b o e,?_⟩) (λb Sp=>?_) gf
  ·exists b,o;refine ez (ba.mp hn) λu v w=>?_;haveI b1:b≠s2.heap.objs.size:=by rintro rfl;rw[v4]at e;cases e
   haveI b2:b≠H2.objs.size:=by rintro rfl;rw[yj]at e;cases e
   refine ba.mpr ⟨eV.mpr ⟨by simpa[dL]using b2,gN λp hp q=>?_⟩,?_,w⟩
   ·exists p,_;intro hp q;have h3:=(iq S ok hp).2.2;rw[<-q]at u;unfold aQ at u;rw[if_neg (F2.mN p h3),eL F2.apart (x:=p.1) h3]at u;cases u
   ·have Sp:b∉wr:=λhb=>by rw[bT.mpr (.inl hb)]at v;cases v
    erw[gY Sp,gY (by simpa using b1)];exact(gO (ρ:=ρ)).mpr ⟨u,by rw[gY Sp]at v;exact v⟩
  ·refine bz (T.live gf b Sp) λo ho=>?_;erw[ho];exact Xq b o ho
 refine vY (g:=⟨Ps,iter,ifs,0⟩) rfl rfl (λA' Q' q'=>T.self TH q') ?_;haveI TI:c9 st (λx N2 kk=>gG Γ n scope.names ⟨Ps,iter,ifs,0⟩ gs elt (gd scope.names ρ) x N2 kk) (xs.drop 0) [] N' λvs N2=>k (.lst vs) N2:=JY;have TJ:s2.heap.objs.size∉wr:=λhb=>by refine bz (T.live gf _ hb) λo ho=>?_;rw[v4]at ho;cases ho
 haveI Xr:∀b∈wr,b≠H2.objs.size:=λb hb e=>by refine bz (T.live gf _ hb) λo ho=>?_;rw[e,yj]at ho;cases ho
 haveI go2:=AY hA (cenv:=dL scope (frees scope env) H2.objs.size env) (S.comp F2 ok) (AZ ok) (gens:=⟨Ps,iter,ifs,0⟩::gs) (d:=0) (base:=[]) rfl has T TJ (h0:=s.heap) (N0:=N) (ρ:=gd scope.names ρ)
  (L:=bC (jQ env L) [s2.heap.objs.size]) (elt:=elt) (scope:=scope) (pos:=pos) (λb hb=>⟨?_,?_⟩) (λb o e hn=>CH b o e (fx.mp hn).2.2) (by simp;unfold gS;exact aR 0x1d59579f7a97a5de155e7dea5e9774600568011 rfl Pr) 0 (aG _) TI TH C4 (jE.refl _) ?_
 ·refine dJ go2 λr s5 z=>a9 z λhr z=>rh z λvs N5 ZZ hle X xx hk=>?_;revert vs N5 ZZ;exists r,s5;exists vs,N5,ZZ;subst hr;rw[List.nil_append]at X;refine Qg (Qz S ok R F (GZ _ v4) (GZ _ yj) hb TF hle X xx) λe1 e2 e3 e4 e5 e6 e7=>?_;have fin:=q _ _ s5 _ N5 e5 e6 e7 e1 e2 e3 e4 (λb o MQ hn=>(hb b o MQ hn).2) hk;unfold compPost;cases use with
  |none=>refine bz e4 λmm hm=>?_;clear e4;exact⟨mm,hm,fin⟩
  |some u=>exact fin
 ·erw[gY (by simp;rintro rfl;exact TJ hb)];exact(gO (ρ:=ρ)).mpr ⟨(NE b hb).2.1,(NE b hb).1⟩
 ·exists b,_;intro hb;refine eV.mpr ⟨by simpa[dL]using Xr b hb,gN λp hp q=>?_⟩;exists p,_;intro hp q;have h3:=(iq S ok hp).2.2;have u:=(NE b hb).2.1;rw[<-q]at u;unfold aQ at u;rw[if_neg (F.mN p h3),eL F.apart (x:=p.1) h3]at u;cases u
 ·intro b o e hn;refine ez (fx.mp hn) λu v w=>?_;obtain⟨p,q⟩:=li b o e w;exact⟨Xq b o p,fx.mpr ⟨u,v,q⟩⟩
theorem TE.comp(ok:iR scope sc=true)(Pr:gs.length<=1)(has:(g::gs).all (λg=>g.is_async==0)=true)
  (h:kP Γ n sc g.target g.iter ρ N λitems st N1=>c9 st (λx N2 kk=>gG Γ n scope.names g gs elt (gd scope.names ρ) x N2 kk) items [] N1 λvs N2=>k (.lst vs) N2):TE Γ n sc (.ListComp elt (g::gs) scope pos) ρ N k:=λhA _ _ _ S F R=>by
 erw[arm_eval_ListComp];refine Ba ok Pr has h hA S F R (use:=Option.none) λD C s1 x N' Xs QB We R1 vx eE _ hC hk h' hs=>?_;obtain⟨R2,li⟩:=Pp Xs QB We R1 hs;exact EP.of x (vx.ext li) R2 (λb o hb hn=>⟨(hs.2 b (hC b o hb hn)).trans (eE b o hb hn).1,(eE b o hb hn).2⟩) hk
end
end
section
section
variable {Γ:Cx} {A:bW} {s s' fJ s2:aj} {env:Env} {ρ ρ' cn:cf} {L:ax->Bool} {M N N' eo:aL} {n m:Nat} {sc:List (Str×bj)} {D C:ax} {wr:List ax} {h0 h' h1:cg}
theorem TK(R:bS Γ (full env ρ L N) s)(F:fu env L N)(o:Obj)(hf:o.isFreed=false){t:Nat}:
  bS Γ (full env ρ (bC L [s.heap.objs.size]) N) {s with heap:=s.heap.push o,toks:=t}/\fu env (bC L [s.heap.objs.size]) N/\(L s.heap.objs.size=false/\aQ env ρ s.heap.objs.size=none/\N s.heap.objs.size=none)/\
   (s.heap.push o).get? s.heap.objs.size=some o/\cl (full env ρ L N) s.heap (full env ρ (bC L [s.heap.objs.size]) N) (s.heap.push o):=by
 revert R F hf;exists Γ,s,env,ρ,L,N,o,t;have hd:=cN s.heap;refine ez (ba.mp (R.ce hd)) λu v w=>?_;have hg:=aB s.heap hf;have R':=bS.new (mo:=.jd) (t:=t) R hd (λb o' e=>ai o e) ⟨o,hg⟩;rw[yh R hd]at R';refine⟨R',F.JR w,⟨v,u,w⟩,hg,λb o' e hn=>⟨ai o e,?_⟩⟩;refine ez (ba.mp hn) λx y z=>?_;exact ba.mpr ⟨x,by erw[gY (by simp;rintro rfl;rw[hd]at e;cases e)];exact y,z⟩
theorem QC(x:cl N h eo h1):∀b o,h.get? b=some o->N b=none->b∉[h1.objs.size]:=λb o e hn hb=>by simp at hb;have:=(x b o e hn).1;rw[hb,cN]at this;cases this
theorem SP.push(R:bS Γ (full env ρ L eo) s)(F:fu env L eo)(ex:cl N h0 eo s.heap)(o:Obj)(hf:o.isFreed=false){st:aL->Prop}(tk:Nat)
  (hs:cl (full env ρ L eo) s.heap (full env ρ (bC L [s.heap.objs.size]) eo) (s.heap.push o)->yg Γ t s.heap.objs.size [s.heap.objs.size] xs st (full env ρ (bC L [s.heap.objs.size]) eo) (s.heap.push o)) (hk:k xs st eo):
  SP Γ t env ρ L N h0 k (.ref s.heap.objs.size) {s with heap:=s.heap.push o,toks:=tk}:=by
 refine Qe (TK (t:=tk) R F o hf) λa1 a2 a3 a4 a5=>?_;exact⟨_,[s.heap.objs.size],xs,st,eo,⟨rfl,hs a5,a1,a2,ex.trans (cl.keeps λb o' e=>ai o e),λb hb=>ao.mp hb▸a3,QC ex⟩,hk⟩
theorem J0(R:bS Γ (full env ρ L eo) s)(F:fu env L eo){st:aL->Prop}(hv:VI s.heap (full env ρ L eo) v x)(h:nx eo x xs st)(hk:k xs st eo)(ex:cl N h0 eo s.heap){E:al->aj->Prop}:
  am Γ.M A (rU v) (SP Γ t env ρ L N h0 k) E s:=by
 revert R F hv h hk ex;exists Γ,A,s,env,ρ,L,N,eo,v,x,xs,st,k,h0,t,E;cases h with
 |tup=>refine hv.ny λa vs m e hn r=>?_;exact xj ⟨_,e,rfl,_,rfl⟩ (SP.push R F ex _ rfl s.toks (λa5=>⟨_,_,pU.Xc,⟨_,aB _ rfl,rfl,rfl⟩,_,_,(a5 _ _ e hn).1,(a5 _ _ e hn).2,r.ext a5⟩) hk)
 |lst=>refine hv.GL λa vs m e hn r=>?_;exact iI ⟨_,e,rfl,_,rfl⟩ (SP.push R F ex _ rfl s.toks (λa5=>⟨_,_,pU.Xb,⟨_,aB _ rfl,rfl,rfl⟩,_,_,(a5 _ _ e hn).1,(a5 _ _ e hn).2,r.ext a5⟩) hk)
 |str h=>refine hv.oB λt=>?_;exact wpAny_pyIter_ascii h (SP.push R F ex _ rfl s.toks (λ_=>⟨_,_,pU.Xd,⟨_,aB _ rfl,rfl,rfl⟩,trivial⟩) hk)
 |ref e=>refine hv.sh ?_;refine eQ (R.obj _ _ (iX F e)) λdy mm ho ra=>?_;exact iI ⟨_,ho,rfl,mm,rfl⟩ (SP.push R F ex _ rfl s.toks (λ_=>⟨_,_,pU.Xa,⟨_,aB _ rfl,rfl,rfl⟩,trivial⟩) hk)
 | @keys _ kvs _ e=>
  refine hv.sh ?_;refine cQ (R.obj _ _ (iX F e)) λks hd o7 hr=>?_;have hlen:ks.length=kvs.length:=by simpa using congrArg cB o7
  refine wpAny_pyIter_dict (knd:=pk Γ.prog Γ.w) (R.nw (iX F e)) hd (SP.push R F ex _ rfl s.toks (λ_=>⟨_,_,pU.Ts,?_,trivial⟩) hk);rw[<-hlen];exact⟨_,aB _ rfl,rfl,rfl⟩
theorem G3(hh:A.handled=none)(R:bS Γ (full env ρ L eo) s)(F:fu env L eo){v:al}{x:V}{k:Nh}(hv:VI s.heap (full env ρ L eo) v x){t:Expr}(ht:j7 t=true){ys:List V}{st:aL->Prop}(h:rj eo x ys st)(hk:k (gz ys) st eo){h0:cg}
  (ex:cl N h0 eo s.heap):am Γ.M A (oI (.type "enumerate") [v]) (λev s1=>am Γ.M A (rU ev) (SP Γ t env ρ L N h0 k) ju s1) ju s:=by
 revert hh R F hv ht h hk;exists Γ,A,s,env,ρ,L,N,eo,v,x,k,t,ys,st,h0;have fin:∀(hh:cg)(xs:List V)(st:aL->Prop),EZ hh (s.heap.objs.size+1) s.heap.objs.size 0 .none->(∃o,hh.get? s.heap.objs.size=some o)->(∀b o,s.heap.get? b=some o->hh.get? b=some o)->
   (cl (full env ρ L eo) s.heap (full env ρ (bC L [s.heap.objs.size+1,s.heap.objs.size]) eo) hh->yg Γ t (s.heap.objs.size+1) [s.heap.objs.size+1,s.heap.objs.size] xs st (full env ρ (bC L [s.heap.objs.size+1,s.heap.objs.size]) eo) hh)->k xs st eo->
   am Γ.M A (rU (.ref (s.heap.objs.size+1))) (SP Γ t env ρ L N h0 k) ju {s with heap:=hh}:=by
  intro hh xs st he hl kp hs hk;exists hh,xs,st,_;intro he hl kp hs hk;haveI d1:=cN s.heap;haveI d2:s.heap.get? (s.heap.objs.size+1)=none:=by
   cases e:s.heap.get? (s.heap.objs.size+1) with
   |none=>rfl
   |some o=>exact absurd (bO e) (pL.mpr (cD _))
  haveI dM:s.heap.objs.size+1≠s.heap.objs.size:=kA _;refine ez (ba.mp (R.ce d1)) λu v w=>?_;refine ez (ba.mp (R.ce d2)) λu2 v2 w2=>?_;have e2:full env ρ (bC L [s.heap.objs.size+1,s.heap.objs.size]) eo=((full env ρ L eo).put s.heap.objs.size .jd).put (s.heap.objs.size+1) .jd:=by
   funext b
   by_cases b1:b=s.heap.objs.size+1
   ·subst b1;erw[aL.bH];exact lY u2 (bT.mpr (.inl (by simp)))
   ·erw[aL.bE b1];by_cases b2:b=s.heap.objs.size
    ·subst b2;erw[aL.bH];exact lY u (bT.mpr (.inl (by simp)))
    ·erw[aL.bE b2];exact nz (by simp[b1,b2])
  have J1:cl (full env ρ L eo) s.heap (full env ρ (bC L [s.heap.objs.size+1,s.heap.objs.size]) eo) hh:=λb o e hn=>by
   have b1:b≠s.heap.objs.size+1:=by rintro rfl;rw[d2]at e;cases e
   haveI b2:b≠s.heap.objs.size:=by rintro rfl;rw[d1]at e;cases e
   exact⟨kp b o e,by erw[e2,aL.bE b1,aL.bE b2];exact hn⟩
  haveI Rf:bS Γ (full env ρ (bC L [s.heap.objs.size+1,s.heap.objs.size]) eo) {s with heap:=hh}:=by
   refine⟨λa mo ha=>?_,λb o e=>kp b o (R.base b o e),λa mo ha=>?_,R.gens,R.os⟩
   ·rw[e2]at ha;by_cases b1:a=s.heap.objs.size+1
    ·subst b1;rw[aL.bH]at ha;cases ha;exact⟨_,he⟩
    ·rw[aL.bE b1]at ha;by_cases b2:a=s.heap.objs.size
     ·subst b2;rw[aL.bH]at ha;cases ha;exact hl
     ·rw[aL.bE b2]at ha;refine bz (R.live ha) λo ho=>?_;exact(R.obj a mo ha).ext J1 ((kp a o ho).trans ho.symm)
   ·rw[e2]at ha;by_cases b1:a=s.heap.objs.size+1
    ·subst b1;cases q:Γ.H0.get? (s.heap.objs.size+1) with
     |none=>rfl
     |some o=>rw[R.base _ _ q]at d2;cases d2
    ·rw[aL.bE b1]at ha;by_cases b2:a=s.heap.objs.size
     ·subst b2;cases q:Γ.H0.get? s.heap.objs.size with
      |none=>rfl
      |some o=>rw[R.base _ _ q]at d1;cases d1
     ·rw[aL.bE b2]at ha;exact R.off a mo ha
  haveI Ff:fu env (bC L [s.heap.objs.size+1,s.heap.objs.size]) eo:=by
   refine⟨F.kind,F.glob,F.AC,F.apart,F.nodup,F.mN,F.yY,F.yZ,λa ha=>?_⟩;rcases bT.mp ha with h |h
   ·simp at h;rcases h with h |h
    ·erw[h];exact w2
    ·erw[h];exact w
   ·exact F.kL a h
  refine wpAny_pyIter_enum he ⟨_,[s.heap.objs.size+1,s.heap.objs.size],xs,st,eo,⟨rfl,hs J1,Rf,Ff,ex.trans (cl.keeps kp),λb hb=>?_,λb o e hn hb=>?_⟩,hk⟩
  ·simp at hb;rcases hb with rfl |rfl
   ·exact⟨v2,u2,w2⟩
   ·exact⟨v,u,w⟩
  ·have:=(ex b o e hn).1;simp at hb;rcases hb with rfl |rfl
   ·rw[d2]at this;cases this
   ·rw[d1]at this;cases this
 cases h with
 |tup=>refine hv.ny λa vs m e hn r=>?_;exact uV e λhh he hi hz kp=>fin hh _ _ he (jb hi λo h=>⟨o,h.1⟩) kp (λJ1=>NC ht (kA _) he hi ⟨_,_,(J1 _ _ e hn).1,(J1 _ _ e hn).2,r.ext J1⟩) hk
 |lst=>refine hv.GL λa vs m e hn r=>?_;exact call_enumerate_list ⟨_,e,rfl,_,rfl⟩ λhh he hi hz kp=>fin hh _ _ he (jb hi λo h=>⟨o,h.1⟩) kp (λJ1=>NB ht (kA _) he hi ⟨_,_,(J1 _ _ e hn).1,(J1 _ _ e hn).2,r.ext J1⟩) hk
 |ref e=>refine hv.sh ?_;refine eQ (R.obj _ _ (iX F e)) λdy mm ho ra=>?_;exact call_enumerate_list ⟨_,ho,rfl,_,rfl⟩ λhh he hi hz kp=>fin hh _ _ he (jb hi λo h=>⟨o,h.1⟩) kp (λJ1=>NA ht (kA _) he hi) hk
end
section
variable {Γ:Cx} {A:bW} {s s' fJ s2:aj} {env:Env} {ρ ρ' cn:cf} {L:ax->Bool} {M N N' eo:aL} {n:Nat} {sc:List (Str×bj)} {h0 h' h1:cg}
theorem v5(R:bS Γ (full env ρ L N) s)(F:fu env L N)(hr:IsRange s.heap r a e 1 t u v)(hb:(e-a).toNat=b)(h0:-100000<=a)(h1:a<2 ^ 62)(h2:e<=100000)(h3:-(2 ^ 62)<=e)(ex:cl N0 hp N s.heap)
  (h:k ((aM b).map λ(i:Nat)=>V.int (a+(i:Int))) (λ_=>True) N) {E:al->aj->Prop}:am Γ.M A (rU (.ref r)) (SP Γ Ps env ρ L N0 hp k) E s:=by
 refine wpAny_pyIter_range hr (small_one (by lia) (by lia) (by lia) (by lia)) (SP.push R F ex _ rfl s.toks (λ_=>⟨_,_,pU.Qq (b:=a) (m:=b),?_,trivial⟩) h);haveI hz:uL a e 1=(b:Int):=by rw[rangeSize_one,<-hb];split<;>lia
 haveI e1:a+((0:Nat):Int)=a:=f' a;haveI e2:(b:Int)-((0:Nat):Int)=uL a e 1:=by erw[hz];exact Int.sub_zero _
 erw[e1,e2];exact aB _ rfl
theorem hG(h:MJ e=false)(x:al):xY e env x=pure x:=by
 cases e with
 |Set a k p=>exact lX h
 |_=>rfl
theorem kP.val(hs:MJ e=false)(h:TE Γ n sc e ρ N λv N1=>∃xs st,nx N1 v xs st/\k xs st N1):kP Γ n sc t e ρ N k:=λhA _ _ _ S F R=>
 ⟨hG hs,h.run hA S F R λv s1 x N1 vx R1 F1 eE h=>by refine eQ h λxs st h1 hk=>?_;clear h;exact J0 R1 F1 vx h1 hk eE⟩
theorem v6{Q:al->aj->Prop}(S:fe env sc)(F:fu env L N)(R:bS Γ (full env ρ L N) s)(hl:sc.lookup x=some .globalImplicit)(hg:ee Γ.K x=some (.type T))(hs:iU args=true)
  (h:am Γ.M A (CV (mE pos (fK args env))) (λvs s'=>am Γ.M A (oI (.type T) vs []) Q ju s') ju s):am Γ.M A (eval (.Call (.Name x p) args [] pos) env) Q ju s:=
 qF rfl (Fi S F R hl hg (tn (gB hs) (iZ hs h)))
theorem kP.enum(hl:sc.lookup ("enumerate":Str)=some .globalImplicit)(hg:ee Γ.K ("enumerate":Str)=some (.type "enumerate"))(ht:j7 t=true)(hs:gT b=false)
  (h:TE Γ n sc b ρ N λv N1=>∃xs st,rj N1 v xs st/\k (gz xs) st N1):kP Γ n sc t (.Call (.Name "enumerate" p) [b] [] pos) ρ N k:=λhA _ _ _ S F R=>
 ⟨λ_=>rfl,v6 S F R hl hg (by simp[iU,hs]) (lE (h.run hA S F R λv s1 y N1 vy R1 F1 eE h=>r9 (by refine eQ h λxs st h1 hk=>?_;clear h;exact G3 hA.1 R1 F1 vy ht h1 hk eE)) (iY hs))⟩
theorem kP.range(hl:sc.lookup ("range":Str)=some .globalImplicit)(hg:ee Γ.K ("range":Str)=some (.type "range"))(hs:gT b=false)
  (h:TE Γ n sc b ρ N λv N1=>∃b:Nat,v=.int (b:Int)/\b<=100000/\k ((aM b).map λ(i:Nat)=>V.int (i:Int)) (λ_=>True) N1):kP Γ n sc t (.Call (.Name "range" p) [b] [] pos) ρ N k:=λhA _ _ _ S F R=>
 ⟨λ_=>rfl,v6 S F R hl hg (by simp[iU,hs]) (lE (h.run hA S F R λv s1 y N1 vy R1 F1 eE h=>r9 (by
  refine cQ h λb aT hb hk=>?_;clear h;obtain rfl:=aT;refine vy.fX λt=>?_;exact call_range_1 (v5 (a:=0) (b:=b) ((R1.push _ s1.toks).tok _) F1 (IsRange.new ..) (by lia) (by lia) (by lia) (by lia) (by lia) (eE.trans (cl.push _ _ _)) (by simpa using hk)))) (iY hs))⟩
theorem kP.QD(hl:sc.lookup ("range":Str)=some .globalImplicit)(hg:ee Γ.K ("range":Str)=some (.type "range"))(hs:gT a=false)(Fz:gT b=false)
  (h:TE Γ n sc a ρ N λav N1=>TE Γ n sc b ρ N1 λbv N2=>∃a b:Int,av=.int a/\bv=.int b/\(-100000<=a/\a<2 ^ 62/\b<=100000/\-(2 ^ 62)<=b)/\k ((aM (b-a).toNat).map λ(i:Nat)=>V.int (a+(i:Int))) (λ_=>True) N2):kP Γ n sc t (.Call (.Name "range" p) [a,b] [] pos) ρ N k:=λhA _ _ _ S F R=>
 ⟨λ_=>rfl,v6 S F R hl hg (by simp[iU,hs,Fz]) (lE (h.run hA S F R λv s1 y N1 vy R1 F1 eE h1=>lE (h1.run hA S F1 R1 λu s2 z N2 vz R2 F2 li h=>r9 (by
  refine S0 h λa b aT il Bb hk=>?_;clear h;obtain rfl:=aT;obtain rfl:=il;refine qw Bb λh1 h2 h3 h4=>?_;clear Bb;refine vy.fX λt=>?_;refine vz.fX λt'=>?_;exact call_range_2 (v5 ((R2.push _ s2.toks).tok _) F2 (IsRange.new ..) rfl h1 h2 h3 h4 ((eE.trans li).trans (cl.push _ _ _)) hk))) (iY Fz)) (iY hs))⟩
end
end
section
inductive PS(Γ:Cx)(env:Env)(ρ:cf)(L:ax->Bool)(N:aL)(h0:cg)(K:KS)(f:Flow)(s':aj):Prop
 |mk (fl:Fl) (ρ':cf) (N':aL) (hf:FI s'.heap (full env ρ' L N') f fl) (hr:bS Γ (full env ρ' L N') s') (hF:fu env L N') (he:cl (own env ρ N) h0 (own env ρ' N') s'.heap) (hk:K fl ρ' N')
noncomputable def TS(Γ:Cx)(n:Nat)(sc:List (Str×bj))(st:c7)(ρ:cf)(N:aL)(K:KS):Prop:=∀{A},Lv n A->∀{env L s},fe env sc->fu env L N->bS Γ (full env ρ L N) s->am Γ.M A (exec st env) (PS Γ env ρ L N s.heap K) ju s
noncomputable def my(Γ:Cx)(n:Nat)(sc:List (Str×bj))(st:List c7)(ρ:cf)(N:aL)(K:KS):Prop:=∀{A},Lv n A->∀{env L s},fe env sc->fu env L N->bS Γ (full env ρ L N) s->am Γ.M A (E2 st env) (PS Γ env ρ L N s.heap K) ju s
section
variable {Γ:Cx} {A:bW} {s s' fJ s2:aj} {env:Env} {ρ ρ' cn ρ0:cf} {L:ax->Bool} {M N N' eo N0:aL} {n m:Nat} {sc:List (Str×bj)} {wr:List ax} {h0 h' h1:cg}
theorem PS.trans{K:KS}{f:Flow}(x:cl (own env ρ0 N0) h0 (own env ρ N) h1)(p:PS Γ env ρ L N h1 K f s'):PS Γ env ρ0 L N0 h0 K f s':=by obtain⟨fl,ρ',N',a,b,c,d,e⟩:=p;exact⟨fl,ρ',N',a,b,c,x.trans d,e⟩
theorem jh(x:cl N h N' h'):cl (own env ρ N) h (own env ρ' N') h':=(AD (y0 x (ρ:=ρ)) (λ_=>Iff.rfl) λa=>by erw[cY,cY,cr (ρ:=ρ) (ρ':=ρ')])
theorem PS.of{K:KS}{f:Flow}(fl:Fl){ρ':cf}(a:FI s'.heap (full env ρ' L N') f fl)(b:bS Γ (full env ρ' L N') s')(c:fu env L N')(d:cl (own env ρ N) h0 (own env ρ' N') s'.heap)(e:K fl ρ' N'):PS Γ env ρ L N h0 K f s':=⟨fl,ρ',N',a,b,c,d,e⟩
theorem PS.un{m:Sem Flow}{K:KS}{Q:Flow->aj->Prop}{E:al->aj->Prop}(h:am Γ.M A m (PS Γ env ρ L N h0 K) ju s)
  (q:∀f s' fl ρ' N',FI s'.heap (full env ρ' L N') f fl->bS Γ (full env ρ' L N') s'->fu env L N'->cl (own env ρ N) h0 (own env ρ' N') s'.heap->K fl ρ' N'->Q f s'):am Γ.M A m Q E s:=
 bL h λf s' h=>by obtain⟨fl,ρ',N',a,b,c,d,e⟩:=h;exact q f s' fl ρ' N' a b c d e
noncomputable def TL(K':cf->aL->Prop)(K:KS):KS:=λfl ρ N=>match fl with
 |.next=>K' ρ N
 |fl=>K fl ρ N
theorem my.nil{K:KS}(h:K .next ρ N):my Γ n sc [] ρ N K:=λ_ _ _ _ _ F R=>Cu (PS.of .next .next R F (cl.refl _ _) h)
theorem my.cons{st:c7}{ss:List c7}{K:KS}(h:TS Γ n sc st ρ N (TL (λcn N1=>my Γ n sc ss cn N1 K) K)):my Γ n sc (st::ss) ρ N K:=λhA _ _ _ S F R=>
 wpAny_execs_cons (PS.un (h hA S F R) λf s1 fl cn N1 hf R1 F1 eE h1=>by
  cases hf with
  |next=>exact bL (h1 hA S F1 R1) λf s2=>PS.trans eE
  |brk=>exact PS.of .brk .brk R1 F1 eE h1
  |cont=>exact PS.of .cont .cont R1 F1 eE h1
  |ret v=>exact PS.of (.ret _) (.ret v) R1 F1 eE h1)
theorem FB(R:bS Γ (full env ρ (bC L wr) N) s)(F:fu env (bC L wr) N)(off:Off wr s.heap h')(hw:∀b∈wr,L b=false/\aQ env ρ b=none):
  bS Γ (full env ρ L N) {s with heap:=h',toks:=t}/\fu env L N/\cl (full env ρ (bC L wr) N) s.heap (full env ρ L N) h':=by
 have hN:∀b∈wr,N b=none:=λb hb=>F.kL b (bT.mpr (.inl hb));refine a9 (bS.zc (t:=t) R off (λb hb=>lY (hw b hb).2 (bT.mpr (.inl hb))) (M':=full env ρ L N) λa mo e=>by
  have ha:a∉wr:=λha=>by rw[ba.mpr ⟨(hw a ha).2,(hw a ha).1,hN a ha⟩]at e;cases e
  exact⟨(nz ha).trans e,ha⟩) λR' ex=>?_
 exact⟨R',⟨F.kind,F.glob,F.AC,F.apart,F.nodup,F.mN,F.yY,F.yZ,λa ha=>F.kL a (bT.mpr (.inr ha))⟩,ex⟩
theorem NF{t:Expr}{body:List c7}{items:List V}{st:aL->Prop}{K:KS}{I:ax}{St:Nat->aL->cg->Prop}{Md:Nat->aL->al->cg->Prop}{R:EY->aj->Prop}
  (hA:Lv n A) (S:fe env sc) (T:pU Γ t I wr items st St Md) (hw:∀b∈wr,L b=false/\aQ env ρ b=none) (hK:∀b o,h0.get? b=some o->own env ρ0 N0 b=none->b∉wr)
  (hR:∀f s',PS Γ env ρ0 L N0 h0 K f s'->R (.ok f) s')
  (i:Nat) (hi:i<=items.length) (h:hV st (λx qx N2 KK=>fM sc t x qx N2 λo8=>my Γ n sc body o8 N2 KK) (items.drop i) ρ N K) (gf:St i (full env ρ (bC L wr) N) s.heap)
  (Rr:bS Γ (full env ρ (bC L wr) N) s) (F:fu env (bC L wr) N) (hx:cl (own env ρ0 N0) h0 (own env ρ N) s.heap):
  ja Γ.M A (.forLoop t (.ref I) body [] env) R s:=by
 revert st K I St Md R i;exists Γ,A,s,env,ρ,ρ0,L,N,N0,n,sc,wr,h0,t,body,items;revert T hR;exists st,K,I,St,Md,R,i;refine codeAny_forLoop_any (λc s'=>∃i ρ N,c=items.length-i/\i<=items.length/\hV st (λx qx N2 KK=>fM sc t x qx N2 λo8=>my Γ n sc body o8 N2 KK) (items.drop i) ρ N K/\St i (full env ρ (bC L wr) N) s'.heap/\
   bS Γ (full env ρ (bC L wr) N) s'/\fu env (bC L wr) N/\cl (own env ρ0 N0) h0 (own env ρ N) s'.heap/\∀b∈wr,aQ env ρ b=none) ?_ _ ⟨i,ρ,N,rfl,hi,h,gf,Rr,F,hx,λb hb=>(hw b hb).2⟩
 have Z0:∀b∈wr,L b=false:=λb hb=>(hw b hb).1;clear h gf Rr F hx hi hw;rintro c s' ⟨i,ρ,N,rfl,hi,h,gf,Rr,F,hx,Wf⟩;exists s',i,ρ,N;have hq:∀b∈wr,full env ρ (bC L wr) N b=some .jd:=λb hb=>lY (Wf b hb) (bT.mpr (.inl hb));haveI lN:=d7 (ρ:=ρ) F;have JW:∀{h2:cg},Off wr s'.heap h2->cl (own env ρ0 N0) h0 (own env ρ N) h2:=λoff b o e hn=>⟨off b o (hK b o e hn) (hx b o e hn).1,(hx b o e hn).2⟩
 cases lZ:items.drop i with
 |nil=>
  rw[lZ]at h;refine a9 h λhs hk=>?_;clear h;haveI hlen:i=items.length:=by have:=congrArg cB lZ;simp at this;exact aR 0x1d75808161f4810960812 rfl hi this
  subst hlen;refine aS (T.done (E:=ju) hA.1 Rr lN hq hs gf λh' tk off=>?_) (λr s1 q=>q) λ_ _ f=>f.elim;refine ez (FB (t:=tk) Rr F off λb hb=>⟨Z0 b hb,Wf b hb⟩) λR' F' ex=>?_;exact Cu (hR _ _ ⟨.next,ρ,N,.next,R',F',JW off,hk⟩)
 |cons x xs=>
  exists x,xs;rw[lZ]at h;refine a9 h λhs hk=>?_;clear h;haveI GY:items[i]?=some x:=by have:=congrArg yP lZ;rwa[pK]at this
  haveI IY:items.drop (i+1)=xs:=by have:=congrArg (kf 1) lZ;simpa[mh,gU]using this
  haveI JX:i<items.length:=(cq.mp GY).1;refine aS (T.next (E:=ju) hA.1 Rr lN hq hs gf GY λv h1 tk Qv Xl=>?_) (λr s1 q=>q) λ_ _ f=>f.elim;exists v,h1,tk;refine aS (T.go (E:=ju) GY hq Xl λh2 GZ hv Dq=>?_) (λr s1 q=>q) λ_ _ f=>f.elim;exists h2;haveI off:=Qv.trans GZ;haveI R2:bS Γ (full env ρ (bC L wr) N) {s' with heap:=h2,toks:=tk}:=bS.GS Rr off hq (T.live Dq);refine aS (oW (E:=ju) hA.1 S F R2 hk hv λo8 s3 NG R3 uW=>?_) (λr s1 q=>q) λ_ _ f=>f.elim;exists o8,s3;refine aS (NG hA S F R3) (λf s4 p=>?_) λ_ _ f=>f.elim;obtain⟨fl,CJ,N4,hf,R4,F4,Sq,Wg⟩:=p;exists f,s4,fl,CJ,N4;have Xt:cl (own env ρ N) h2 (own env CJ N4) s4.heap:=(uW.own F).trans Sq;have Xu:cl (own env ρ0 N0) h0 (own env CJ N4) s4.heap:=(JW off).trans Xt;have TM:∀b∈wr,aQ env CJ b=none:=λb hb=>(cr (ρ:=ρ)).mp (Wf b hb);have next:(hV st (λx qx N2 KK=>fM sc t x qx N2 λo8=>my Γ n sc body o8 N2 KK) xs CJ N4 K)->∃TD,TD<items.length-i/\∃i ρ N,TD=items.length-i/\i<=items.length/\hV st (λx qx N2 KK=>fM sc t x qx N2 λo8=>my Γ n sc body o8 N2 KK) (items.drop i) ρ N K/\
    St i (full env ρ (bC L wr) N) s4.heap/\bS Γ (full env ρ (bC L wr) N) s4/\fu env (bC L wr) N/\cl (own env ρ0 N0) h0 (own env ρ N) s4.heap/\∀b∈wr,aQ env ρ b=none:=λmG=>by
   refine⟨items.length-(i+1),by exact aR 0x1d7574810924600425c20560812 rfl hi JX,i+1,CJ,N4,rfl,JX,by erw[IY];exact mG,T.ext (oT Xt) (λb hb=>?_) Dq,R4,F4,Xu,TM⟩;refine bz (T.live Dq b hb) λo ho=>?_;erw[ho];exact(Xt b o ho (cY.mpr ⟨Wf b hb,F.kL b (bT.mpr (.inl hb))⟩)).1
  refine ez (FB (t:=s4.toks) R4 F4 (Off.refl _ _) λb hb=>⟨Z0 b hb,TM b hb⟩) λR5 F5 ex5=>?_;cases hf with
  |next=>exact next Wg
  |cont=>exact next Wg
  |brk=>exact hR _ _ ⟨.next,CJ,N4,.next,R5,F5,Xu,Wg⟩
  |ret v=>exact hR _ _ ⟨.ret _,CJ,N4,.ret (v.ext ex5),R5,F5,Xu,Wg⟩
end
end
section
theorem xB(h:xs.length=vs.length):eN (xs++[x]) (vs++[v]) ρ=(eN xs vs ρ).set x v:=by
 induction xs generalizing vs ρ with
 |nil=>cases vs with
  |nil=>rfl
  |cons b vs=>exact nomatch h
 |cons a xs ih=>cases vs with
  |nil=>exact nomatch h
  |cons b vs=>exact ih (ρ:=ρ.set a b) (cU h)
theorem cf.set_comm{ρ:cf}{x y:Str}{u v:V}(h:x≠y):(ρ.set x u).set y v=(ρ.set y v).set x u:=by
 funext z
 by_cases hx:z=x
 ·subst hx;erw[cf.hG h,cf.set_same,cf.set_same]
 ·by_cases hy:z=y
  ·subst hy;erw[cf.set_same,cf.hG hx,cf.set_same]
  ·erw[cf.hG hy,cf.hG hx,cf.hG hx,cf.hG hy]
theorem xC{xs:List Str}{vs:List V}{ρ:cf}{x:Str}{v:V}(h:x∉xs):eN xs vs (ρ.set x v)=(eN xs vs ρ).set x v:=by
 induction xs generalizing vs ρ with
 |nil=>rfl
 |cons a xs ih=>cases vs with
  |nil=>rfl
  |cons b vs=>show eN xs vs ((ρ.set x v).set a b)=(eN xs vs (ρ.set a b)).set x v;erw[cf.set_comm λ(e:x=a)=>h (e▸.head _)];exact ih λq=>h (.tail _ q)
theorem tD(h:xs.length=vs.length)(hn:xs.Nodup):eN xs.reverse vs.reverse ρ=eN xs vs ρ:=by
 induction xs generalizing vs with
 |nil=>cases vs with
  |nil=>rfl
  |cons b vs=>exact nomatch h
 |cons x xs ih=>cases vs with
  |nil=>exact nomatch h
  |cons v vs=>have hn:=bt.mp hn;erw[ik,ik,xB (by erw[lF,lF];exact cU h),ih (cU h) hn.2];exact(xC hn.1).symm
theorem Dv{ts:List Expr}{xs:List Str}(h:namesOf ts=some xs)(f:Expr->Option Str)(hf:∀x p,f (.Name x p)=some x\/f (.Name x p)=none)(hl:(ts.filterMap f).length=ts.length):ts.filterMap f=xs:=by
 induction ts generalizing xs with
 |nil=>cases h;rfl
 |cons t ts ih=>
  refine yW (si h) λx p ys aT hy il=>?_;obtain rfl:=aT;rcases hf x p with e |e
  ·rw[IP,e]at hl ⊢;exact il▸congrArg (x::·) (ih hy (cU hl))
  ·rw[IP,e]at hl;exact absurd (hl▸List.length_filterMap_le f ts) (kV _)
noncomputable def zg:Expr->Expr->Bool
 |.Tuple ts _ _,.Tuple vs _ _=>!(vs.all (constantsAlone 8))&&(match namesOf ts with
  |some xs=>decide xs.Nodup
  |none=>false)
 |.List ..,_=>false
 |_,_=>true
section
variable {Γ:Cx} {A:bW} {s s' fJ s2:aj} {env:Env} {ρ ρ' cn ρ0:cf} {L:ax->Bool} {M N N' eo N0:aL} {n m:Nat} {sc:List (Str×bj)} {wr:List ax} {h0 h' h1:cg}
theorem zh{α:Type}{c:Prop}[Decidable c]{a b u v:α}(h:a=u)(g:¬c->b=u\/b=v):(if c then a else b)=u\/(if c then a else b)=v:=by
 by_cases q:c
 ·exact .inl ((if_pos q).trans h)
 ·erw[if_neg q];exact g q
theorem Dw(F:fu env L N){ts vs:List Expr}{k1 k2:Nat}{p1 p2:Pos}(h:zg (.Tuple ts k1 p1) (.Tuple vs k2 p2)=true):∃xs,namesOf ts=some xs/\xs.Nodup/\(lL [.Tuple ts k1 p1] (.Tuple vs k2 p2) env=pure none\/lL [.Tuple ts k1 p1] (.Tuple vs k2 p2) env=pure (some xs)):=by
 revert F;exists env,L,N,ts,vs,k1,k2,p1,p2;refine a9 (bo.mp (show(!(vs.all (constantsAlone 8))&&(match namesOf ts with |some xs=>decide xs.Nodup |none=>false))=true from h)) λhc h=>?_;cases hn:namesOf ts with
 |none=>rw[hn]at h;exact iB h
 |some xs=>
  rw[hn]at h;refine⟨xs,rfl,of_decide_eq_true h,zh rfl λ_=>zh rfl λ_=>zh rfl λhl=>zh rfl λ_=>.inr ((if_neg λc=>?_).trans (congrArg (λx=>(pure (some x):Sem (Option (List Str)))) (Dv hn _ (λx p=>(Decidable.em _).imp (λh=>if_pos h) λh=>if_neg h) ?_)))⟩
  ·rw[c]at hc;exact iB hc
  ·exact Decidable.byContradiction λn=>hl (ft.mpr (.inl (bne_iff_ne.mpr n)))
theorem G4(S:fe env sc)(F:fu env L N)(hl:xs.length=ds.length)(hk:∀x∈xs,sc.lookup x=some .local\/sc.lookup x=some .cell)(R:bS Γ (full env ρ L N) s)(hv:ch s.heap (full env ρ L N) vs ds)
  {Q:Unit->aj->Prop} {E:al->aj->Prop} (h:∀s',bS Γ (full env (eN xs ds ρ) L N) s'->eF env sc s.heap s'.heap->Q () s'):am Γ.M A (lI (xs.map λx=>bindName env x) vs) Q E s:=by
 induction xs generalizing vs ds ρ s with
 |nil=>
  cases ds with
  |nil=>exact hv.n2 (P:=λvs=>am Γ.M A (lI [] vs) Q E s) (ah (h s R (eF.refl _)))
  |cons d ds=>exact nomatch hl
 |cons x xs ih=>
  cases ds with
  |nil=>exact nomatch hl
  |cons d ds=>refine hv.c2 (P:=λvs=>am Γ.M A (lI (bindName env x::xs.map λx=>bindName env x) vs) Q E s) λhv hr=>af (aZ (wpAny_bindName (yc S F R (hk x (.head _)) hv λs1 R1 eE=>?_)));exact ih (cU hl) (λy hy=>hk y (.tail _ hy)) R1 (hr.ext (oT (eE.own F))) λs' R' Fj=>h s' R' (eE.trans Fj)
theorem ch.reverse(x:ch h M vs ds):ch h M vs.reverse ds.reverse:=x.ind (P:=λvs ds=>ch h M vs.reverse ds.reverse) .nil λa _ ih=>by erw[ik,ik];exact ih.append (ch.one a)
theorem FC(F:fu env L N)(e:N a=some C8)(hs:bu a h h'):cl (own env ρ N) h (own env ρ (N.put a mo)) h':=λb o hb hn=>by
 refine a9 (cY.mp hn) λh1 h2=>?_;have dM:b≠a:=by rintro rfl;rw[e]at h2;cases h2
 exact⟨(hs.2 b dM).trans hb,cY.mpr ⟨h1,by erw[aL.bE dM];exact h2⟩⟩
theorem nA(h:gT t=false):(assignEach [t] env).map (·.2)=[kq t env]:=by
 cases t with
 |Starred a p=>exact lX h
 |_=>rfl
noncomputable abbrev PN(Γ:Cx)(env:Env)(ρ:cf)(L:ax->Bool)(N:aL)(h0:cg)(K:cf->aL->Prop):aj->Prop:=λs'=>PS Γ env ρ L N h0 (TL K λ_ _ _=>False) .next s'
noncomputable def TA(Γ:Cx)(n:Nat)(sc:List (Str×bj))(t:Expr)(x:V)(ρ:cf)(N:aL)(K:cf->aL->Prop):Prop:=∀{A},Lv n A->∀{env L s},fe env sc->fu env L N->bS Γ (full env ρ L N) s->∀{v},VI s.heap (full env ρ L N) v x->
 am Γ.M A (kq t env v) (λ_ s'=>PS Γ env ρ L N s.heap (TL K λ_ _ _=>False) .next s') ju s
theorem TA.bind{K:cf->aL->Prop}(h:fM sc t x ρ N λcn=>K cn N):TA Γ n sc t x ρ N K:=λhA _ _ _ S F R _ hv=>
 oW hA.1 S F R h hv λcn s1 hk R1 eE=>PS.of .next .next R1 F (eE.own F) hk
theorem TA.attr{K:cf->aL->Prop}(h:TE Γ n sc o ρ N λov N1=>∃a C dx σ c,ov=.obj a C dx/\y6 Γ.K N1 C dx name σ c/\K ρ (N1.put dx (.at (σ.set name x) (c+1)))):TA Γ n sc (.Attribute o name p) x ρ N K:=λhA _ _ _ S F R _ hv=>by erw[arm_assign_Attribute];refine af (aZ (h.run hA S F R λov s1 _ N1 vx R1 F1 eE h=>af (c8 (af (aZ ?_)))));refine WX h λa C dx σ c aT ha hk=>?_;clear h;obtain rfl:=aT;refine AS R1 (d7 F1) vx (hv.ext (eA eE)) ha λs2 R2 hs=>wpAny_release ?_;haveI f1:=ki (ρ:=ρ) F1 ha.h;rw[vM f1 (jS F1 ha.h)]at R2;exact PS.of .next .next R2 (F1.put ((cr (ρ:=ρ)).mp f1) (jS F1 ha.h)) ((jh eE).trans (FC F1 ha.h hs)) hk
theorem TA.item{K:cf->aL->Prop}(h:TE Γ n sc o ρ N λov N1=>TE Γ n sc i ρ N1 λiv N2=>∃d P,ov=.ref d/\jC N2 d iv x P/\∀N3,P N3->K ρ N3):TA Γ n sc (.Subscript o i p) x ρ N K:=λhA _ _ _ S F R _ hv=>by erw[arm_assign_Subscript];refine af (aZ (h.run hA S F R λov s1 _ N1 vx R1 F1 eE h1=>af (aZ (h1.run hA S F1 R1 λiv s2 y N2 vy R2 F2 li h=>af (c8 (af (aZ ?_)))))));refine fc h λd P aT hs hk=>?_;clear h;obtain rfl:=aT;refine vx.sh ?_;refine AQ hA R2 (d7 F2) vy ((hv.ext (eA eE)).ext (eA li)) hs λC8 mo s3 ha R3 hs hp=>wpAny_release ?_;have f1:=ki (ρ:=ρ) F2 ha;rw[vM f1 (jS F2 ha)]at R3;exact PS.of .next .next R3 (F2.put ((cr (ρ:=ρ)).mp f1) (jS F2 ha)) ((jh (eE.trans li)).trans (FC F2 ha hs)) (hk _ hp)
theorem xD{use:al->Sem Unit}{Q:Unit->aj->Prop}{E:al->aj->Prop}
  (h:am Mo A (vF (.ListComp elt gens scope pos) scope env (firstIterPos gens pos) (newList []) (firstAsync gens) (firstIter gens env) (some use)) (λ_ s'=>Q () s') E s):am Mo A (evalThenUse (.ListComp elt gens scope pos) env use) Q E s:=by
 show am Mo A (do let _ <-vF (.ListComp elt gens scope pos) scope env (firstIterPos gens pos) (newList []) (firstAsync gens) (firstIter gens env) (some use)) Q E s;exact af (aS h (λ_ _ q=>ah q) λ_ _ e=>e)
end
end
section
section
variable {Γ:Cx} {A:bW} {s s' fJ s2:aj} {env:Env} {ρ ρ' cn ρ0:cf} {L:ax->Bool} {M N N' eo N0:aL} {n m:Nat} {sc:List (Str×bj)} {wr:List ax} {h0 h' h1:cg}
noncomputable def Dx(e:Expr):Bool:=e.ctorIdx==8||e.ctorIdx==9||e.ctorIdx==10
theorem rr(h:Dx e=false):pM [t] e l env=pure false:=by
 show swapsWith e (some t) l env=pure false;cases e with
 |ListComp a b c d=>exact lX h
 |SetComp a b c d=>exact lX h
 |DictComp a b c d f=>exact lX h
 |_=>rfl
theorem G5:pM [t] (.ListComp a b c d) l env=pure false\/((∃x p,t=.Name x p)/\pM [t] (.ListComp a b c d) l env=pure true):=by
 cases t with
 |Name x p=>
  have:∃q,pM [.Name x p] (.ListComp a b c d) l env=pure q:=⟨_,rfl⟩
  refine bz this λq hq=>?_;clear this;cases q with
  |true=>exact .inr ⟨⟨x,p,rfl⟩,hq⟩
  |false=>exact .inl hq
 |_=>exact .inl rfl
theorem TE.mono(h:TE Γ n sc e ρ N k)(w:∀v N1,k v N1->k' v N1):TE Γ n sc e ρ N k':=λhA _ _ _ S F R=>h.run hA S F R λv s1 x N1 vx R1 _ eE h1=>EP.of x vx R1 eE (w _ _ h1)
theorem kP.mono(h:kP Γ n sc t e ρ N k)(w:∀xs st N1,k xs st N1->k' xs st N1):kP Γ n sc t e ρ N k':=λhA _ _ _ S F R=>
 ⟨(h hA S F R).1,bL (h hA S F R).2 λv s1 h1=>bL h1 λit s2 h2=>by refine Ng h2 λI wr xs st N' sp hk=>?_;clear h2;exact⟨I,wr,xs,st,N',sp,w _ _ _ hk⟩⟩
theorem gG.mono(w:∀vs N1,k vs N1->k' vs N1)(h:gG Γ n sc g gs elt ρ x N k):gG Γ n sc g gs elt ρ x N k':=by
 intro A hA cenv L s D acc gens d scope pos v hd has S ze C hv hl;have up:∀s',TP Γ cenv ρ L D acc N s.heap k s'->TP Γ cenv ρ L D acc N s.heap k' s':=λs' p=>by refine rh p λvs N' ρ' a b c d=>?_;clear p;exact⟨vs,N',ρ',a,b,c,w _ _ d⟩
 refine bL (h hA (scope:=scope) (pos:=pos) hd has S ze C hv hl) λ_ s3 h3=>bL h3 λok s4 h4=>?_;cases ok with
 |true=>exact jD.mono h4 up
 |false=>exact up _ h4
theorem kQ{st:aL->Prop}(w:∀vs N1,k vs N1->k' vs N1):∀{items acc:List V}{N:aL},c9 st (λx N2 kk=>gG Γ n sc g gs elt ρ x N2 kk) items acc N k->c9 st (λx N2 kk=>gG Γ n sc g gs elt ρ x N2 kk) items acc N k':=by
 intro items;induction items with
 |nil=>intro _ _ h;exact⟨h.1,h.2.1,w _ _ h.2.2⟩
 |cons _ _ ih=>intro _ _ h;exact⟨h.1,h.2.1,gG.mono (λvs N1 h=>ih h) h.2.2⟩
theorem PS.Z1{K:KS}{K':cf->aL->Prop}{s1:aj}{N1:aL}(ex:cl N s.heap N1 s1.heap)(hk:∀ρ N,K' ρ N->K .next ρ N){s2:aj}(p:PS Γ env ρ L N1 s1.heap (TL K' λ_ _ _=>False) .next s2):PS Γ env ρ L N s.heap K .next s2:=by obtain⟨fl,ρ',N',a,b,c,d,e⟩:=p;cases a;exact PS.of .next .next b c ((jh ex).trans d) (hk _ _ e)
theorem v7(hA:Lv n A)(S:fe env sc)(F:fu env L N)(R:bS Γ (full env ρ L N) s){K:cf->aL->Prop}(h0:∀ρ N,K ρ N->K0 .next ρ N)(Pt:pM [t] e pos.line env=pure false)(hss:∀env:Env,env.scope.kind=.function->lL [t] e env=pure none)(gf:gT t=false)
  (h:TE Γ n sc e ρ N λv N1=>TA Γ n sc t v ρ N1 K):am Γ.M A (exec (.Assign [t] e pos) env) (PS Γ env ρ L N s.heap K0) ju s:=by
 erw[se,Pt];refine af (c8 (af (ah ?_)));erw[if_neg bU];refine af (h.run hA S F R λv s1 x N1 vx R1 F1 eE h1=>?_);erw[hss env F.kind,nA gf];refine af (ah ?_);unfold assignStores;exact af (m:=assignAll v [kq t env]) (bL (h1 hA S F1 R1 vx) λ_ s2 p=>ah (PS.Z1 eE h0 p))
theorem TS.asg{t e:Expr}{pos:Pos}{K:KS}(hc:Dx e=false)(gf:gT t=false)(hnt:(j7 t&&j7 e)=false)(J2:(t.ctorIdx==24)=false)(h:TE Γ n sc e ρ N λv N1=>TA Γ n sc t v ρ N1 λcn N2=>K .next cn N2):TS Γ n sc (.Assign [t] e pos) ρ N K:=λhA _ _ _ S F R=>
 v7 hA S F R (λ_ _ h=>h) (rr hc) (λenv _=>by
  unfold lL;cases t with
  |Tuple ts k p=>
   cases e with
   |Tuple vs k2 p2=>exact lX hnt
   |_=>rfl
  |List ts p=>exact lX J2
  |_=>rfl) gf h
theorem TS.Xv{ts vs:List Expr}{k1 k2:Nat}{p1 p2 pos:Pos}{K:KS}(Wh:zg (.Tuple ts k1 p1) (.Tuple vs k2 p2)=true)
  (h:TE Γ n sc (.Tuple vs k2 p2) ρ N λv N1=>fM sc (.Tuple ts k1 p1) v ρ N1 λcn=>K .next cn N1):TS Γ n sc (.Assign [.Tuple ts k1 p1] (.Tuple vs k2 p2) pos) ρ N K:=λ{A}hA{env L s}S F R=>by
 revert Wh h hA s;exists Γ,ρ,N,n,sc,ts,vs,k1,k2,p1,p2,pos,K,A,env,L;exists s;refine cQ (Dw F Wh) λxs hn uh hs=>?_;exists xs;erw[se,rr rfl];refine af (c8 (af (ah ?_)));erw[if_neg bU];refine af (h.run hA S F R λv s1 x N1 vx R1 F1 eE h1=>?_);exists v,s1,x,N1;rcases hs with hs |hs<;>erw[hs]<;>refine af (ah ?_)<;>unfold assignStores
 ·erw[nA rfl];exact af (m:=assignAll v [kq _ env]) (bL (TA.bind (K:=λρ N=>K .next ρ N) h1 hA S F1 R1 vx) λ_ s2 p=>ah (PS.Z1 eE (λ_ _ h=>h) p))
 ·rcases h1 with⟨_,_,e,_⟩ |⟨_,_,_,xs',ds,e,Pm,hq,hl,hx,hk⟩
  ·exact nomatch e
  ·cases e;obtain rfl:=aA (hn.symm.trans Pm);refine af (dZ (af (oh hA.1 R1 vx (vQ (d7 F1) hq) hl λus s2 R2 kp hus=>?_)));refine af (G4 (E:=ju) S F1 (xs:=xs.reverse) (by erw[lF,lF];exact hl) (λy hy=>hx y (oz.mp hy)) R2 (ch.reverse hus) λs3 R3 uW=>ah ?_);rw[tD hl uh]at R3;exact PS.of .next .next R3 F1 ((jh (ρ':=ρ) eE).trans (((eF.keeps (sc:=sc) kp).trans uW).own F1)) hk
theorem TS.Xw{t elt:Expr}{g:bh}{gs:List bh}{scope:mJ}{cp pos:Pos}{K:KS}{K':List V->aL->Prop}(gf:gT t=false)(J2:(t.ctorIdx==24)=false)(ok:iR scope sc=true)(Pr:gs.length<=1)(has:(g::gs).all (λg=>g.is_async==0)=true)
  (hT:∀vs N2,K' vs N2->TA Γ n sc t (.lst vs) ρ N2 λcn N3=>K .next cn N3) (hB:∀x p,t=.Name x p->∀vs N2,K' vs N2->fM sc t (.lst vs) ρ N2 λcn=>K .next cn N2)
  (h:kP Γ n sc g.target g.iter ρ N λitems st N1=>c9 st (λx N2 kk=>gG Γ n scope.names g gs elt (gd scope.names ρ) x N2 kk) items [] N1 K'):
  TS Γ n sc (.Assign [t] (.ListComp elt (g::gs) scope cp) pos) ρ N K:=λ{A}hA{env L s}S F R=>by
 revert gf J2 ok Pr has hT hB h hA L s;exists Γ,ρ,N,n,sc,t,elt,g,gs,scope,cp,pos,K,K',A,env;exists L,s;rcases G5 (env:=env) (t:=t) (a:=elt) (b:=g::gs) (c:=scope) (d:=cp) (l:=pos.line) with hs |⟨⟨x,xp,rfl⟩,hs⟩
 ·refine v7 hA S F R (λ_ _ h=>h) hs (λenv _=>by
   unfold lL;cases t with
   |List ts p=>exact lX J2
   |_=>rfl) gf (TE.mono (TE.comp (k:=λv N2=>∃vs,v=.lst vs/\K' vs N2) ok Pr has (kP.mono h λitems st N1 hr=>kQ (λvs N2 hk=>⟨vs,rfl,hk⟩) hr)) λv N2 hv=>?_)
  refine aI hv λvs aT hk=>?_;clear hv;obtain rfl:=aT;exact hT vs N2 hk
 ·erw[se,hs];refine af (c8 (af (ah ?_)));erw[if_pos rfl];refine af (xD (Ba (k:=λv N2=>∃vs,v=.lst vs/\K' vs N2) ok Pr has (kP.mono h λitems st N1 hr=>kQ (λvs N2 hk=>⟨vs,rfl,hk⟩) hr) hA S F R (Q:=λ_ s'=>am Γ.M A (pure Flow.next) (PS Γ env ρ L N s.heap K) ju s') λD C s1 y N' Xs QB We R1 vx eE CF CH hk=>?_));obtain⟨vs,rfl,hk⟩:=hk;have F1:=F.step R eE;haveI Z2:=F1.JR We;show am Γ.M A (kq (.Name x xp) env (.ref D)) _ _ s1;refine oW hA.1 S Z2 R1 (hB x xp rfl vs N' hk) vx λqx s2 kX R2 li=>?_;refine GC CF λmm o es ep ho r=>?_;clear CF;have Z3:C≠env.locals/\∀p∈env.cells,p.2≠C:=by
   refine⟨λe=>?_,λp hp e=>?_⟩
   ·rw[e,eV]at QB;exact lX ((beq_self_eq_true env.locals).symm.trans QB.1)
   ·rw[<-e,eV,eL F.apart (x:=p.1) hp]at QB;exact pS QB.2
  refine⟨mm,⟨o,es,ep,li C o Z3.1 (λp hp _=>Z3.2 p hp) ho,r⟩,λh' uU=>ah ?_⟩;refine a9 (Pp (t:=s2.toks) Xs ((cr (ρ:=ρ)).mp QB) We R2 uU) λR3 uW=>?_;refine PS.of .next .next R3 F1 (λb o hb hn=>?_) kX;obtain⟨p,q⟩:=(jh (ρ':=ρ) eE).trans (li.own Z2) b o hb hn;exact⟨(uU.2 b (CH b o hb (cY.mp hn).2)).trans p,q⟩
theorem sw(x:cl (own env ρ N) h (own env cn N') h'):cl (own env ρ' N) h (own env ρ0 N') h':=AD x (λa=>by erw[cY,cY,cr (ρ:=ρ) (ρ':=ρ')]) λa=>by erw[cY,cY,cr (ρ:=cn) (ρ':=ρ0)]
theorem FI.weak(x:FI h (full env ρ' L N) f fl):FI h (full env ρ L N) f fl:=by
 cases x with
 |next=>exact .next
 |brk=>exact .brk
 |cont=>exact .cont
 |ret v=>exact .ret (y3 (λa=>by erw[ba,ba,cr (ρ:=ρ') (ρ':=ρ)]) v)
theorem PS.weak{K1 K:KS}(w:∀fl σ N',K1 fl σ N'->∃ρ',jE ρ' σ/\K fl ρ' N'){f:Flow}(p:PS Γ env ρ L N h0 K1 f s'):PS Γ env ρ L N h0 K f s':=by obtain⟨fl,σ,N',a,b,c,d,e⟩:=p;refine aI (w _ _ _ e) λρ' l hk=>?_;exact⟨fl,ρ',N',a.weak,b.weak l,c,sw d,hk⟩
theorem my.weak{st:List c7}{K:KS}(l:jE ρ ρ')(h:my Γ n sc st ρ N K):my Γ n sc st ρ' N K:=λhA _ _ _ S F R=>bL (h hA S F (R.weak l)) λf s' p=>by obtain⟨fl,σ,N',a,b,c,d,e⟩:=p;exact⟨fl,σ,N',a,b,c,sw d,e⟩
noncomputable def V.Xx:V->Bool
 |.none |.bool _ |.int _=>true
 |_=>false
theorem TS.expr{f:Expr}{args:List Expr}{ue:List CX}{p p1:Pos}{K:KS}(h:TE Γ n sc (.Call f args ue p1) ρ N λv N1=>v.Xx=true/\K .next ρ N1):TS Γ n sc (.Expr (.Call f args ue p1) p) ρ N K:=λhA env _ _ S F R=>
 wpAny_Expr (h.run hA S F R λv s1 x N1 vx R1 F1 eE h1=>by
  have:=PS.of (K:=K) .next .next R1 F1 (jh (ρ:=ρ) eE) h1.2;cases x with
  |none=>refine vx.Js ?_;exact this
  |bool b=>refine vx.Jt ?_;exact this
  |int i=>refine vx.fX λt=>?_;exact this
  |_=>exact iB h1.1) (by unfold interactive;erw[show(env.scope.kind==.module)=false by erw[F.kind];rfl];rfl)
theorem TS.ret{e:Expr}{p:Pos}{K:KS}(h:TE Γ n sc e ρ N λv N1=>K (.ret v) ρ N1):TS Γ n sc (.Return (some e) p) ρ N K:=λhA _ _ _ S F R=>
 wpAny_Return_some (h.run hA S F R λv s1 x N1 vx R1 F1 eE h1=>PS.of (.ret x) (.ret vx) R1 F1 (jh eE) h1)
theorem TS.cont{p:Pos}{K:KS}(h:K .cont ρ N):TS Γ n sc (.Continue p) ρ N K:=λ_ _ _ _ _ F R=>wpAny_Continue (PS.of .cont .cont R F (cl.refl _ _) h)
theorem TS.ite{t:Expr}{b o:List c7}{p:Pos}{K:KS}(h:TB Γ n sc t ρ N λc N1=>my Γ n sc (bif c then b else o) ρ N1 K):TS Γ n sc (.If t b o p) ρ N K:=λhA _ _ _ S F R=>
 wpAny_If (h.run hA S F R λc s1 N1 R1 F1 eE h1=>by
  cases c with
  |true=>exact bL (h1 hA S F1 R1) λf s2=>PS.trans (jh eE)
  |false=>exact bL (h1 hA S F1 R1) λf s2=>PS.trans (jh eE))
theorem TS.Xy{t it:Expr}{body:List c7}{p:Pos}{K:KS}(h:kP Γ n sc t it ρ N λitems st N1=>∃K1:KS,hV st (λx qx N2 KK=>fM sc t x qx N2 λo8=>my Γ n sc body o8 N2 KK) items ρ N1 K1/\∀fl σ N',K1 fl σ N'->∃ρ',jE ρ' σ/\K fl ρ' N'):TS Γ n sc (.For t it body [] p) ρ N K:=λhA _ _ _ S F R=>by refine a9 (h hA S F R) λDl go=>?_;refine wpAny_For (bL go λxv s1 h1=>bL h1 λitv s2 h2=>?_) Dl;refine Ng h2 λI wr xs st N' aT il=>?_;clear h2;obtain⟨rfl,⟨St,Md,T,gf⟩,R2,F2,li,NE,CH⟩:=aT;refine aI il λK1 JY hw=>?_;clear il;exact NF hA S T (λb hb=>⟨(NE b hb).1,(NE b hb).2.1⟩) (ρ0:=ρ) (N0:=N) (K:=K1) (λb o e hn=>CH b o e (cY.mp hn).2) (λf s' p=>PS.weak hw p) 0 (aG _) JY gf R2 F2 (jh li)
theorem TS.v8{t:Expr}{body:List c7}{p:Pos}{K:KS}(J:Nat->cf->aL->Prop){z:Nat}(hz:∃ρ0,jE ρ0 ρ/\J z ρ0 N)
  (h:∀z cn N1,J z cn N1->TB Γ n sc t cn N1 λc N2=>(c=true->my Γ n sc body cn N2 λfl o8 N3=>(fl=.next\/fl=.cont)/\∃z' CJ,z'<z/\jE CJ o8/\J z' CJ N3)/\(c=false->K .next cn N2)):TS Γ n sc (.While t body [] p) ρ N K:=λ{A}hA{env L s}S F R=>by
 revert hz h hA;exists Γ,ρ,N,n,sc,t,body,p,K,J,z,A,env,L,s;obtain⟨ρ0,l0,hz⟩:=hz;exists ρ0;refine wpAny_While (codeAny_whileLoop (λz s'=>∃cn N1,J z cn N1/\bS Γ (full env cn L N1) s'/\fu env L N1/\cl (own env ρ N) s.heap (own env cn N1) s'.heap) ?_ z ⟨ρ0,N,hz,R.weak l0,F,sw (cl.refl (own env ρ N) _)⟩);intro z s1 hh;exists z,s1;refine S0 hh λcn N1 hJ R1 F1 eE=>?_;exists cn,N1;clear hh;refine TB.run (h z cn N1 hJ) hA S F1 R1 λc s2 N2 R2 F2 li h2=>?_;exists c,s2,N2;have JU:=eE.trans (jh (ρ':=cn) li);cases c with
 |true=>
  refine PS.un (h2.1 rfl hA S F2 R2) λf s3 fl o8 N3 hf R3 F3 uW h3=>?_;exists f,s3,fl,o8,N3;refine a9 h3 λTN aT=>?_;clear h3;refine fc aT λz' CJ Pu l4 Wi=>?_;exists z',CJ;clear aT;have R4:=R3.weak l4;have Sq:=sw (ρ':=ρ) (ρ0:=CJ) (JU.trans uW);cases hf with
  |next=>exact⟨z',Pu,CJ,N3,Wi,R4,F3,Sq⟩
  |cont=>exact⟨z',Pu,CJ,N3,Wi,R4,F3,Sq⟩
  |brk=>rcases TN with h |h<;>exact nomatch h
  |ret v=>rcases TN with h |h<;>exact nomatch h
 |false=>exact Cu (PS.of .next .next R2 F2 JU (h2.2 rfl))
end
end
section
noncomputable abbrev fN:=List (Str×V)
noncomputable abbrev Sc:=List (Str×bj)
noncomputable def fN.fn(ρ:fN):cf:=λx=>ρ.lookup x
noncomputable def fN.put(x:Str)(v:V):fN->fN
 | []=>[(x,v)]
 |(y,u)::r=>bif x==y then(x,v)::r else(y,u)::fN.put x v r
theorem fN.Dy:(fN.put x v ρ).fn=ρ.fn.set x v:=by
 induction ρ with
 |nil=>
  funext y
  show(match y==x with |true=>some v |false=>none)=if y=x then some v else none
  by_cases h:y=x
  ·erw[if_pos h,beq_iff_eq.mpr h]
  ·erw[if_neg h,beq_false_of_ne h]
 |cons p r ih=>
  funext y
  haveI ih:=congrFun ih y;show fN.fn (bif x==p.1 then(x,v)::r else p::fN.put x v r) y=if y=x then some v else(match y==p.1 with |true=>some p.2 |false=>r.lookup y)
  by_cases h:x=p.1
  ·erw[h,beq_self_eq_true];show(match y==p.1 with |true=>some v |false=>r.lookup y)=_;by_cases h:y=p.1
   ·erw[if_pos h,beq_iff_eq.mpr h]
   ·erw[if_neg h,beq_false_of_ne h]
  ·erw[beq_false_of_ne h];show(match y==p.1 with |true=>some p.2 |false=>(fN.put x v r).lookup y)=_;by_cases h2:y=p.1
   ·erw[if_neg λe=>h (e.symm.trans h2),beq_iff_eq.mpr h2]
   ·erw[beq_false_of_ne h2];exact ih
noncomputable def fN.J3:List Str->List V->fN->fN
 |x::xs,v::vs,ρ=>fN.J3 xs vs (ρ.put x v)
 |_,_,ρ=>ρ
theorem fN.NH:∀{vs:List V}{ρ:fN},(fN.J3 xs vs ρ).fn=eN xs vs ρ.fn:=by
 induction xs with
 |nil=>exact rfl
 |cons x xs ih=>
  intro vs ρ;cases vs with
  |nil=>rfl
  |cons v vs=>exact ih.trans (congrArg _ fN.Dy)
noncomputable def fN.off(sc:Sc)(ρ:fN):fN:=ρ.filter λp=>!(sc.lookup p.1==some .local)
theorem fN.QE:(fN.off sc ρ).fn=gd sc ρ.fn:=by
 induction ρ with
 |nil=>funext y;exact(ite_self _).symm
 |cons p r ih=>
  funext y
  haveI ih:=congrFun ih y;show fN.fn (xk _ (p::r)) y=if sc.lookup y=some .local then none else(match y==p.1 with |true=>some p.2 |false=>r.lookup y)
  by_cases h:sc.lookup p.1=some .local
  ·erw[Cv (by erw[h];exact bU)];refine ih.trans ?_;by_cases h2:y=p.1
   ·erw[h2,if_pos h];exact if_pos h
   ·erw[beq_false_of_ne h2];rfl
  ·erw[Cw (by erw[beq_false_of_ne h];rfl)];show(match y==p.1 with |true=>some p.2 |false=>(fN.off sc r).lookup y)=_;by_cases h2:y=p.1
   ·erw[h2,if_neg h,beq_self_eq_true]
   ·erw[beq_false_of_ne h2];exact ih
noncomputable abbrev CE:=Prop->V->aL->Prop
noncomputable abbrev CB:=Prop->Bool->aL->Prop
noncomputable abbrev CL:=Prop->List V->aL->Prop
noncomputable abbrev QF:=Prop->List V->(aL->Prop)->aL->Prop
noncomputable abbrev CS:=Prop->Fl->fN->aL->Prop
structure RR where
 e:Sc->Expr->fN->aL->CE->Prop->Prop
 b:Sc->Expr->fN->aL->CB->Prop->Prop
noncomputable instance:Nonempty RR:=⟨⟨λ_ _ _ _ _ _=>True,λ_ _ _ _ _ _=>True⟩⟩
noncomputable def Is{α:Type}(x:α)(N:aL):α->aL->Prop:=λv N'=>v=x/\N'=N
theorem dU{α:Type}{x:α}:Is x N x N:=⟨rfl,rfl⟩
inductive Do{α:Type}(W:(α->aL->Prop)->Prop):Type 1
 |one {x:α} {N:aL} (h:W (Is x N))
 |all {k:α->aL->Prop} (h:W k)
noncomputable def Do.C{α:Type}{W:(α->aL->Prop)->Prop}(C:Prop->α->aL->Prop)(G:Prop):Do W->Prop
 |.one (x:=x) (N:=N) _=>C G x N
 |.all (k:=k) _=>(∀v N',k v N'->∀G',C G' v N'->G')->G
noncomputable def qV(k:Option Expr):Option Str:=match k with
 |some e=>(match e with
  |.Constant c _ _=>(match c with
   |.str x=>some x
   |_=>none)
  |_=>none)
 |none=>none
noncomputable def Dz:Expr->Option (Expr×Str×Pos)
 |.Attribute o n p=>some (o,n,p)
 |_=>none
noncomputable def vA:Expr->Option (Option Expr×Option Expr×Option Expr×Pos)
 |.Slice l u s p=>some (l,u,s,p)
 |_=>none
noncomputable def fO(K:tc)(N:aL)(ov:V)(name:Str)(f:al):Prop:=(∃a C dx g,ov=.obj a C dx/\f=.ref g/\y5 K N C dx name g)\/∃id,f=.builtin id/\uS N ov name id
noncomputable def iJ(K:tc)(N:aL)(ov:V)(name:Str)(x:V):Prop:=∃a C dx,ov=.obj a C dx/\vP K N C dx name x
theorem me{K:tc}{N:aL}{a C dx g:ax}{name:Str}(h:y5 K N C dx name g):fO K N (.obj a C dx) name (.ref g):=.inl ⟨a,C,dx,g,rfl,rfl,h⟩
theorem mb{K:tc}{N:aL}{ov:V}{name:Str}{id:String}(h:uS N ov name id):fO K N ov name (.builtin id):=.inr ⟨id,rfl,h⟩
theorem ae{K:tc}{N:aL}{a C dx:ax}{name:Str}{x:V}(h:vP K N C dx name x):iJ K N (.obj a C dx) name x:=⟨a,C,dx,rfl,h⟩
noncomputable def J5(K:tc)(sc:Sc)(x:Str)(ρ:fN)(C:V->Prop):Prop:=match sc.lookup x with
 |some .local |some .cell |some .free=>(match ρ.lookup x with
  |some v=>C v
  |none=>True)
 |some .globalImplicit=>∀{v},ee K x=some v->C (.raw v)
 |_=>True
noncomputable def Sr(re:Expr->aL->CE->Prop->Prop):List Expr->aL->CL->Prop->Prop
 | [],N,C,G=>C G [] N
 |e::es,N,C,G=>bif gT e then True else re e N (λG v N1=>Sr re es N1 (λG vs N2=>C G (v::vs) N2) G) G
noncomputable def Xz(rb:Expr->aL->CB->Prop->Prop)(c:Bool):List Expr->aL->CB->Prop->Prop
 | [],N,C,G=>C G c N
 |x::r,N,C,G=>rb x N (λG b N1=>bif b==c then Xz rb c r N1 C G else C G (!c) N1) G
noncomputable def rO(re:Expr->aL->CE->Prop->Prop)(e:Option Expr)(N:aL)(C:Prop->Option V->aL->Prop)(G:Prop):Prop:=match e with
 |none=>C G none N
 |some e=>re e N (λG v=>C G (some v)) G
inductive QG where
 |enum (b:Expr)
 |TQ (b:Expr)
 |J6 (a b:Expr)
 |val
noncomputable def QH:Expr->Option (Expr×List Expr×List CX×Pos)
 |.Call f args ue p=>some (f,args,ue,p)
 |_=>none
noncomputable def TR(x:Str)(args:List Expr)(ue:List CX):QG:=match ue with
 | []=>(match args with
  | [b]=>if x=("range":Str) then .TQ b else if x=("enumerate":Str) then .enum b else .val
  | [a,b]=>if x=("range":Str) then .J6 a b else .val
  |_=>.val)
 |_=>.val
noncomputable def QI(e:Expr):QG:=match QH e with
 |some (f,args,ue,_)=>(match mB f with
  |some x=>TR x args ue
  |none=>.val)
 |none=>.val
noncomputable def Wj(sc:Sc)(x:Str):Bool:=sc.lookup x==some .globalImplicit
noncomputable def G6(Γ:Cx)(r:RR)(sc:Sc)(t e:Expr)(ρ:fN)(N:aL)(C:QF)(G:Prop):Prop:=match QI e with
 |.enum b=>bif Wj sc "enumerate"&&j7 t&&!gT b then ee Γ.K "enumerate"=some (.type "enumerate")->r.e sc b ρ N (λG v N1=>∀{xs st},rj N1 v xs st->C G (gz xs) st N1) G else True
 |.TQ b=>bif Wj sc "range"&&!gT b then ee Γ.K "range"=some (.type "range")->r.e sc b ρ N (λG v N1=>∀{b:Nat},v=.int (b:Int)->b<=100000->C G ((aM b).map λ(i:Nat)=>V.int (i:Int)) (λ_=>True) N1) G else True
 |.J6 a b=>bif Wj sc "range"&&!gT a&&!gT b then ee Γ.K "range"=some (.type "range")->r.e sc a ρ N (λG av N1=>r.e sc b ρ N1 (λG bv N2=>∀{a b:Int},av=.int a->bv=.int b->(-100000<=a/\a<2 ^ 62/\b<=100000/\-(2 ^ 62)<=b)->
   C G ((aM (b-a).toNat).map λ(i:Nat)=>V.int (a+(i:Int))) (λ_=>True) N2) G) G else True
 |.val=>bif MJ e then True else r.e sc e ρ N (λG v N1=>∀{xs st},nx N1 v xs st->C G xs st N1) G
noncomputable def Wk(sc:Sc)(x:Str):Bool:=sc.lookup x==some .local||sc.lookup x==some .cell
noncomputable def o9(sc:Sc)(t:Expr)(v:V)(ρ:fN)(N:aL)(D:fN->Prop):Prop:=match mB t with
 |some x=>bif Wk sc x then D (ρ.put x v) else True
 |none=>match t with
  |.Tuple ts _ _=>(match namesOf ts with
   |some xs=>bif xs.all (Wk sc) then ∀{vs},oV N v=some vs->(bif xs.length==vs.length then D (ρ.J3 xs vs) else True) else True
   |none=>True)
  |_=>True
noncomputable def J7(t:Expr):List Str:=match mB t with
 |some x=>[x]
 |none=>match t with
  |.Tuple ts _ _=>(namesOf ts).getD []
  |_=>[]
noncomputable def J8(Γ:Cx)(n:Nat)(r:RR)(sc:Sc)(elt:Expr)(gens:List bh)(scope:mJ)(ρ:fN)(N:aL)(C:CL)(G:Prop):Prop:=match gens with
 | []=>True
 |g::gs=>bif iR scope sc&&yQ gs.length 1&&(g::gs).all (λg=>g.is_async==0) then
   G6 Γ r sc g.target g.iter ρ N (λG items st N1=>∀d:Do (λk=>c9 st (λx N2 kk=>gG Γ n scope.names g gs elt (fN.off scope.names ρ).fn x N2 kk) items [] N1 k),d.C C G) G else True
noncomputable def Bc(Γ:Cx)(n:Nat)(r:RR)(sc:Sc)(e:Expr)(ρ:fN)(N:aL)(C:CE)(G:Prop):Prop:=match e with
 |.Constant c _ _=>(match c with
  |.none=>C G .none N
  |.bool b=>C G (.bool b) N
  |.int i=>C G (.int i) N
  |.str x=>C G (.str x) N
  |_=>True)
 |.Name x _=>J5 Γ.K sc x ρ λv=>C G v N
 |.BinOp l op r' _=>r.e sc l ρ N (λG a N1=>r.e sc r' ρ N1 (λG b N2=>∀{x},jg N2 op a b x->C G x N2) G) G
 |.UnaryOp op x _=>(match op with
  |.USub=>r.e sc x ρ N (λG a N1=>match a with
   |.int i=>C G (.int (-i)) N1
   |_=>True) G
  |.Not=>r.e sc x ρ N (λG a N1=>match a with
   |.bool b=>C G (.bool (!b)) N1
   |_=>True) G
  |_=>True)
 |.IfExp t b o _=>r.b sc t ρ N (λG c N1=>r.e sc (bif c then b else o) ρ N1 C G) G
 |.BoolOp op es _=>(match es with
  | [x,y]=>r.e sc x ρ N (λG a N1=>match a with
   |.bool c=>JP op c (r.e sc y ρ N1 C G) λb=>C G (.bool b) N1
   |_=>True) G
  |_=>True)
 |.Dict ks vs _=>(match ks,vs with
  | [],[]=>∀t:Bool,(match t with
   |true=>(∀a ep,N a=none->∀G',C G' (.ref a) (N.put a (.dp [] ep))->G')->G
   |false=>(∀a,N a=none->∀G',C G' (.ref a) (N.put a (.dt []))->G')->G)
  | [k1,k2,k3],[x,y,z]=>(match qV k1,qV k2,qV k3 with
   |some a,some b,some c=>bif !(a==b)&&!(a==c)&&!(b==c) then
    r.e sc x ρ N (λG v1 N1=>r.e sc y ρ N1 (λG v2 N2=>r.e sc z ρ N2 (λG v3 N3=>(∀d ep,N3 d=none->∀G',C G' (.ref d) (N3.put d (.dp [(.s a,v1),(.s b,v2),(.s c,v3)] ep))->G')->G) G) G) G else True
   |_,_,_=>True)
  |_,_=>True)
 |.List es _=>bif yQ es.length 10 then Sr (λe N=>r.e sc e ρ N) es N (λG vs N1=>bif yQ vs.length 10 then ∀t:Bool,(match t with
   |true=>C G (.lst vs) N1
   |false=>(∀a,N1 a=none->∀G',C G' (.ref a) (N1.put a (.list vs))->G')->G) else True) G else True
 |.Tuple es _ _=>bif yQ es.length 10 then Sr (λe N=>r.e sc e ρ N) es N (λG vs N1=>bif yQ vs.length 10 then C G (.tup vs) N1 else True) G else True
 |.ListComp elt gens scope _=>J8 Γ n r sc elt gens scope ρ N (λG vs N1=>C G (.lst vs) N1) G
 |.Compare l ops rs _=>(match ops,rs with
  | [op],[r']=>bif lK op r' then True else r.e sc l ρ N (λG a N1=>r.e sc r' ρ N1 (λG b N2=>∀{c},dA N2 op a b c->C G (.bool c) N2) G) G
  |_,_=>True)
 |.Call f args ue pos=>(match ue with
  | []=>bif iU args&&yQ args.length 5 then(match Dz f with
   |some (o,name,apos)=>bif mO o&&(apos.endLine==pos.line) then r.e sc o ρ N (λG ov N1=>∀{f},fO Γ.K N1 ov name f->Sr (λe N=>r.e sc e ρ N) args N1 (λG vs N2=>∀d:Do (aV Γ n f (ov::vs) N2),d.C C G) G) G else True
   |none=>r.e sc f ρ N (λG fv N1=>match fv with
    |.raw v=>Sr (λe N=>r.e sc e ρ N) args N1 (λG vs N2=>∀d:Do (aV Γ n v vs N2),d.C C G) G
    |_=>True) G) else True
  |_=>True)
 |.Attribute o name _=>bif mO o then r.e sc o ρ N (λG ov N1=>∀{x},iJ Γ.K N1 ov name x->C G x N1) G else True
 |.Subscript o i _=>(match vA i with
  |some (l,u,s,_)=>(match s with
   |none=>r.e sc o ρ N (λG ov N1=>rO (λe N=>r.e sc e ρ N) l N1 (λG lv N2=>rO (λe N=>r.e sc e ρ N) u N2 (λG uv N3=>∀{x},lb N3 ov lv uv x->C G x N3) G) G) G
   |some _=>True)
  |none=>r.e sc o ρ N (λG ov N1=>r.e sc i ρ N1 (λG iv N2=>∀{x},gy N2 ov iv x->C G x N2) G) G)
 |_=>True
noncomputable def Gu(e:Expr):Bool:=e.ctorIdx==16||e.ctorIdx==23
noncomputable def J9(r:RR)(sc:Sc)(e:Expr)(ρ:fN)(N:aL)(C:CB)(G:Prop):Prop:=match e with
 |.UnaryOp .Not x _=>r.b sc x ρ N (λG b=>C G (!b)) G
 |.BoolOp op es _=>Xz (λe N=>r.b sc e ρ N) (match op with
  |.And=>true
  |.Or=>false) es N C G
 |.Compare l ops rs _=>(match ops,rs with
  | [op],[r']=>bif lK op r' then True else r.e sc l ρ N (λG a N1=>r.e sc r' ρ N1 (λG b N2=>∀{c},dA N2 op a b c->C G c N2) G) G
  | [op,xn],[r1,r2]=>bif lK xn r2 then True else r.e sc l ρ N (λG a N1=>r.e sc r1 ρ N1 (λG b N2=>∀{c},dA N2 op a b c->
    bif c then r.e sc r2 ρ N2 (λG b' N3=>∀{c'},dA N3 xn b b' c'->C G c' N3) G else C G false N2) G) G
  |_,_=>True)
 |e=>bif Gu e then r.e sc e ρ N (λG v N1=>match v with
  |.bool b=>C G b N1
  |_=>True) G else True
noncomputable def rX(Γ:Cx)(n:Nat):Nat->RR
 |0=>⟨λ_ _ _ _ _ _=>True,λ_ _ _ _ _ _=>True⟩
 |m+1=>⟨Bc Γ n (rX Γ n m),J9 (rX Γ n m)⟩
noncomputable def J'(Γ:Cx)(n:Nat)(r:RR)(sc:Sc)(gs:List bh)(elt:Expr)(ρ:fN)(N:aL)(C:CL)(G:Prop):Prop:=match gs with
 | []=>r.e sc elt ρ N (λG v N1=>C G [v] N1) G
 |g::gs=>G6 Γ r sc g.target g.iter ρ N (λG items st N1=>∀d:Do (λk=>c9 st (λx N2 kk=>gG Γ n sc g gs elt ρ.fn x N2 kk) items [] N1 k),d.C C G) G
noncomputable def Bd(Γ:Cx)(n:Nat)(r:RR)(sc:Sc)(g:bh)(gs:List bh)(elt:Expr)(ρ:fN)(x:V)(N:aL)(C:CL)(G:Prop):Prop:=
 bif (J7 g.target).all (λx=>(ρ.lookup x).isNone) then(match g.ifs with
  | []=>o9 sc g.target x ρ N λcn=>J' Γ n r sc gs elt cn N C G
  | [c]=>o9 sc g.target x ρ N λcn=>r.b sc c cn N (λG b N1=>bif b then J' Γ n r sc gs elt cn N1 C G else C G [] N1) G
  |_=>True) else True
noncomputable def G7{δ:Type}(env:δ->fN)(P:δ->aL->Prop)(R:V->aL->Prop):KS:=λfl σ N=>match fl with
 |.next=>∃d,P d N/\jE (env d).fn σ
 |.ret v=>R v N
 |_=>False
noncomputable def zi{δ:Type}(env:δ->fN)(J:Nat->δ->aL->Prop)(z:Nat):KS:=λfl σ N=>(fl=.next\/fl=.cont)/\∃z' d,z'<z/\J z' d N/\jE (env d).fn σ
inductive QJ(N:aL)(d:ax)(i x:V):Type
 |one {N':aL} (h:jC N d i x (· =N'))
 |all {P:aL->Prop} (h:jC N d i x P)
noncomputable def QJ.C{N:aL}{d:ax}{i x:V}(C:Prop->aL->Prop)(G:Prop):QJ N d i x->Prop
 |.one (N':=N') _=>C G N'
 |.all (P:=P) _=>(∀N',P N'->∀G',C G' N'->G')->G
noncomputable def Ka(Γ:Cx)(r:RR)(sc:Sc)(t:Expr)(v:V)(ρ:fN)(N:aL)(C:Prop->fN->aL->Prop)(G:Prop):Prop:=match t with
 |.Attribute o name _=>r.e sc o ρ N (λG ov N1=>match ov with
  |.obj a K dx=>∀{σ c},y6 Γ.K N1 K dx name σ c->C G ρ (N1.put dx (.at (σ.set name v) (c+1)))
  |_=>True) G
 |.Subscript o i _=>r.e sc o ρ N (λG ov N1=>r.e sc i ρ N1 (λG iv N2=>match ov with
  |.ref d=>∀s:QJ N2 d iv v,s.C (λG N3=>C G ρ N3) G
  |_=>True) G) G
 |t=>o9 sc t v ρ N λcn=>C G cn N
noncomputable def DA:Expr->Option (Expr×List bh×mJ×Pos)
 |.ListComp elt gens scope p=>some (elt,gens,scope,p)
 |_=>none
inductive QK(W:KS->Prop):Type 1
 |all {δ:Type} {env:δ->fN} {P:δ->aL->Prop} {R:V->aL->Prop} (h:W (G7 env P R))
noncomputable def QK.C{W:KS->Prop}(C:CS)(G:Prop):QK W->Prop
 |.all (env:=env) (P:=P) (R:=R) _=>(∀d N',P d N'->∀G',C G' .next (env d) N'->G')->(∀v N',R v N'->∀G',C G' (.ret v) [] N'->G')->G
noncomputable def TT(Γ:Cx)(n:Nat)(sc:Sc)(t:Expr)(body:List c7)(ρ:fN)(C:CS):QF:=λG items st N1=>∀f:QK (λK1=>hV st (λx qx N2 KK=>fM sc t x qx N2 λo8=>my Γ n sc body o8 N2 KK) items ρ.fn N1 K1),f.C C G
noncomputable def TU(rs:fN->aL->CS->Prop->Prop)(C:CS):CS:=λG fl cn N1=>match fl with
 |.next=>rs cn N1 C G
 |fl=>C G fl cn N1
noncomputable def FE(Γ:Cx)(n:Nat)(r:RR)(rs:List c7->fN->aL->CS->Prop->Prop)(sc:Sc)(s:c7)(ρ:fN)(N:aL)(C:CS)(G:Prop):Prop:=match s with
 |.Expr e _=>bif e.ctorIdx==16 then r.e sc e ρ N (λG v N1=>bif v.Xx then C G .next ρ N1 else True) G else True
 |.Assign ts e _=>(match ts with
  | [t]=>bif gT t||(t.ctorIdx==24) then True else(match DA e with
   |some (elt,gens,scope,_)=>J8 Γ n r sc elt gens scope ρ N (λG vs N1=>Ka Γ r sc t (.lst vs) ρ N1 (λG cn N2=>C G .next cn N2) G) G
   |none=>bif Dx e||(j7 t&&j7 e&&!zg t e) then True else r.e sc e ρ N (λG v N1=>Ka Γ r sc t v ρ N1 (λG cn N2=>C G .next cn N2) G) G)
  |_=>True)
 |.Return e _=>(match e with
  |some e=>r.e sc e ρ N (λG v N1=>C G (.ret v) ρ N1) G
  |none=>True)
 |.Continue _=>C G .cont ρ N
 |.If t b o _=>r.b sc t ρ N (λG c N1=>rs (bif c then b else o) ρ N1 C G) G
 |.For t it body Pv _=>(match Pv with
  | []=>G6 Γ r sc t it ρ N (TT Γ n sc t body ρ C) G
  |_=>True)
 |.While t body Pv _=>(match Pv with
  | []=>∀{δ:Type}{env:δ->fN}{J:Nat->δ->aL->Prop}{P:δ->aL->Prop}(z:Nat)(d:δ),jE (env d).fn ρ.fn->J z d N->
    (∀z d N1,J z d N1->TB Γ n sc t (env d).fn N1 λc N2=>(c=true->my Γ n sc body (env d).fn N2 (zi env J z))/\(c=false->P d N2))->(∀d N',P d N'->∀G',C G' .next (env d) N'->G')->G
  |_=>True)
 |_=>True
noncomputable def DB(Γ:Cx)(n:Nat)(r:RR):Nat->Sc->List c7->fN->aL->CS->Prop->Prop
 |0,_,_,_,_,_,_=>True
 |m+1,sc,ss,ρ,N,C,G=>match ss with
  | []=>C G .next ρ N
  |s::ss=>FE Γ n r (DB Γ n r m sc) sc s ρ N (TU (DB Γ n r m sc ss) C) G
end
section
noncomputable def NI(e:Expr):QG->Prop
 |.enum b=>∃p q,e=.Call (.Name "enumerate" p) [b] [] q
 |.TQ b=>∃p q,e=.Call (.Name "range" p) [b] [] q
 |.J6 a b=>∃p q,e=.Call (.Name "range" p) [a,b] [] q
 |.val=>True
section
variable {Γ:Cx} {n:Nat} {sc:Sc} {ρ:fN} {N:aL} {G:Prop}
noncomputable def Z4(Γ:Cx)(n:Nat)(re:Sc->Expr->fN->aL->CE->Prop->Prop):Prop:=∀{sc e ρ N}{C:CE}{G:Prop}{k:KV},(∀{G:Prop}{v N'},(k v N'->G)->C G v N')->(TE Γ n sc e ρ.fn N k->G)->re sc e ρ N C G
noncomputable def Z5(Γ:Cx)(n:Nat)(rb:Sc->Expr->fN->aL->CB->Prop->Prop):Prop:=∀{sc e ρ N}{C:CB}{G:Prop}{k:KB},(∀{G:Prop}{v N'},(k v N'->G)->C G v N')->(TB Γ n sc e ρ.fn N k->G)->rb sc e ρ N C G
structure Wl(Γ:Cx)(n:Nat)(r:RR):Prop where
 e:Z4 Γ n r.e
 b:Z5 Γ n r.b
theorem Kb{P Q:Prop}(h:b=true->P)(q:b=false->Q):bif b then P else Q:=by
 cases b with
 |true=>exact h rfl
 |false=>exact q rfl
theorem nB{P:Prop}(h:b=true->P):bif b then P else True:=Kb h λ_=>trivial
theorem DC{P:Prop}(h:b=false->P):bif b then True else P:=Kb (λ_=>trivial) h
theorem ji(h:(a&&b)=true):a=true/\b=true:=bo.mp h
theorem sx(h:(!a)=true):a=false:=by rw[<-lJ a,h];rfl
theorem Do.ok{α:Type}{W:(α->aL->Prop)->Prop}{C:Prop->α->aL->Prop}{k:α->aL->Prop}(mono:∀{k'},W k'->(∀v N',k' v N'->k v N')->W k)(HC:∀{G:Prop}{v N'},(k v N'->G)->C G v N')(h:W k->G)(d:Do W):d.C C G:=by
 cases d with
 |one w=>exact HC λhk=>h (mono w λv N' e=>by refine a9 e λaT il=>?_;clear e;obtain rfl:=aT;obtain rfl:=il;exact hk)
 |all w=>exactλf=>h (mono w λv N' e=>f v N' e _ (HC id))
theorem Kc{C:V->Prop}(HC:∀v,(k v N->G)->C v)(h:TE Γ n sc (.Name x p) ρ.fn N k->G):J5 Γ.K sc x ρ C:=by
 have loc:∀kd,sc.lookup x=some kd->(kd=.local\/kd=.cell\/kd=.free)->(match ρ.lookup x with |some v=>C v |none=>True):=λkd hl hk=>by
  cases e:ρ.lookup x with
  |none=>trivial
  |some v=>exact HC v λq=>h (TE.loc hl hk e q)
 unfold J5;cases hl:sc.lookup x with
 |none=>trivial
 |some kd=>
  cases kd with
  | «local»=>exact loc _ hl (.inl rfl)
  |cell=>exact loc _ hl (.inr (.inl rfl))
  |free=>exact loc _ hl (.inr (.inr rfl))
  |globalImplicit=>exactλ{v}hg=>HC _ λq=>h (TE.ZW hl hg q)
  |_=>trivial
section
variable {r:RR} (I:Wl Γ n r)
include I
theorem zj:∀{es:List Expr}{N:aL}{C:CL}{G:Prop}{k:ve},(∀{G:Prop}{v N'},(k v N'->G)->C G v N')->(xm Γ n sc es ρ.fn N k->G)->Sr (λe N=>r.e sc e ρ N) es N C G:=by
 intro es;induction es with
 |nil=>intro N C G k HC h;exact HC λq=>h (xm.nil q)
 |cons e es ih=>intro N C G k HC h;exact DC λhs=>I.e (k:=λv N1=>xm Γ n sc es ρ.fn N1 λvs N2=>k (v::vs) N2) (λg=>ih (λg2=>HC g2) g) λt=>h (xm.cons hs t)
theorem Kd:∀{es:List Expr}{N:aL}{C:CB}{G:Prop}{k:KB},(∀{G:Prop}{v N'},(k v N'->G)->C G v N')->(Qr Γ n sc ρ.fn k c es N->G)->Xz (λe N=>r.b sc e ρ N) c es N C G:=by
 intro es;induction es with
 |nil=>intro N C G k HC h;exact HC h
 |cons x es ih=>
  intro N C G k HC h;exact I.b (k:=λb N1=>(b=c->Qr Γ n sc ρ.fn k c es N1)/\(b=(!c)->k (!c) N1)) (λ{G b N1}g=>Kb (λe=>by
   obtain rfl:=beq_iff_eq.mp e;exact ih HC λt=>g ⟨λ_=>t,λe=>by cases b<;>exact nomatch e⟩) λe=>HC λt=>g ⟨λe2=>by subst e2;rw[beq_self_eq_true]at e;exact lX e,λ_=>t⟩) h
theorem Pw{C:Prop->Option V->aL->Prop}{k:Option V->aL->Prop}(HC:∀{G:Prop}{v N'},(k v N'->G)->C G v N')(h:TO Γ n sc e ρ.fn N k->G):rO (λe N=>r.e sc e ρ N) e N C G:=by
 cases e with
 |none=>exact HC λq=>h (TO.none q)
 |some e=>exact I.e (k:=λv=>k (some v)) (λg=>HC g) λt=>h (TO.some t)
omit I in
theorem G8{x:Str}{q p:Pos}{args:List Expr}{ue:List CX}:NI (.Call (.Name x q) args ue p) (TR x args ue):=by
 exists x,q,p,args,ue;cases ue with
 |cons _ _=>trivial
 |nil=>
  cases args with
  |nil=>trivial
  |cons b as=>
   exists b,as;cases as with
   |nil=>
    show NI _ (if x=("range":Str) then .TQ b else if x=("enumerate":Str) then .enum b else .val);by_cases h:x=("range":Str)
    ·erw[if_pos h,h];exact⟨_,_,rfl⟩
    ·erw[if_neg h];by_cases h:x=("enumerate":Str)
     ·erw[if_pos h,h];exact⟨_,_,rfl⟩
     ·erw[if_neg h];trivial
   |cons c as=>
    cases as with
    |nil=>
     show NI _ (if x=("range":Str) then .J6 b c else .val);by_cases h:x=("range":Str)
     ·erw[if_pos h,h];exact⟨_,_,rfl⟩
     ·erw[if_neg h];trivial
    |cons _ _=>trivial
omit I in
theorem G9(e:Expr):NI e (QI e):=by
 cases e with
 |Call f args ue p=>
  cases f with
  |Name x q=>exact G8
  |_=>trivial
 |_=>trivial
omit I in
theorem DD(h:Wj sc x=true):sc.lookup x=some .globalImplicit:=beq_iff_eq.mp h
theorem zk{t e:Expr}{C:QF}{k:Nh}(HC:∀{G:Prop}{xs st N'},(k xs st N'->G)->C G xs st N')(h:kP Γ n sc t e ρ.fn N k->G):G6 Γ r sc t e ρ N C G:=by
 revert I;exists Γ,n,sc,ρ,N,G,r,t,e,C,k;have sp:=G9 e;unfold G6;cases hk:QI e with
 |enum b=>rw[hk]at sp;refine qv sp λp q aT=>?_;clear sp;obtain rfl:=aT;refine nB λhb hg=>I.e (k:=λv N1=>∃xs st,rj N1 v xs st/\k (gz xs) st N1) (λ{G v N1}g{xs st}he=>HC λq=>g ⟨xs,st,he,q⟩) λt=>h ?_;refine a9 (ji hb) λh1 h3=>?_;refine a9 (ji h1) λh1 h2=>?_;exact kP.enum (DD h1) hg h2 (sx h3) t
 |TQ b=>rw[hk]at sp;refine qv sp λp q aT=>?_;clear sp;obtain rfl:=aT;refine nB λhb hg=>I.e (k:=λv N1=>∃b:Nat,v=.int (b:Int)/\b<=100000/\k ((aM b).map λ(i:Nat)=>V.int (i:Int)) (λ_=>True) N1) (λ{G v N1}g{b}h1 h2=>HC λq=>g ⟨b,h1,h2,q⟩) λt=>h ?_;exact kP.range (DD (ji hb).1) hg (sx (ji hb).2) t
 |J6 a b=>
  rw[hk]at sp;refine qv sp λp q aT=>?_;clear sp;obtain rfl:=aT;refine nB λhb hg=>I.e (k:=λav N1=>TE Γ n sc b ρ.fn N1 λbv N2=>∃a b:Int,av=.int a/\bv=.int b/\(-100000<=a/\a<2 ^ 62/\b<=100000/\-(2 ^ 62)<=b)/\k ((aM (b-a).toNat).map λ(i:Nat)=>V.int (a+(i:Int))) (λ_=>True) N2)
   (λ{G av N1}g=>I.e (λ{G bv N2}g2{a b}h1 h2 h3=>HC λq=>g2 ⟨a,b,h1,h2,h3,q⟩) g) λt=>h ?_
  refine a9 (ji hb) λh1 h3=>?_;refine a9 (ji h1) λh1 h2=>?_;exact kP.QD (DD h1) hg (sx h2) (sx h3) t
 |val=>exact DC λhs=>I.e (k:=λv N1=>∃xs st,nx N1 v xs st/\k xs st N1) (λ{G v N1}g{xs st}hi=>HC λq=>g ⟨xs,st,hi,q⟩) λt=>h (kP.val hs t)
omit I in
theorem DE(h:Wk sc x=true):sc.lookup x=some .local\/sc.lookup x=some .cell:=(ft.mp h).imp beq_iff_eq.mp beq_iff_eq.mp
omit I in
theorem mQ{D:fN->Prop}{k:cf->Prop}(HD:∀cn:fN,(k cn.fn->G)->D cn)(h:fM sc t v ρ.fn N k->G):o9 sc t v ρ N D:=by
 exists sc,ρ,N,G,t,v,D,k;unfold o9;cases hn:mB t with
 |some x=>refine bz (tu hn) λp aT=>?_;obtain rfl:=aT;exact nB λhb=>HD _ λq=>h (.inl ⟨x,p,rfl,DE hb,fN.Dy▸q⟩)
 |none=>
  cases t with
  |Tuple ts m p=>
   show(match namesOf ts with |some xs=>_ |none=>True);cases hx:namesOf ts with
   |none=>trivial
   |some xs=>exact nB λhb{vs}hs=>nB λhl=>HD _ λq=>h (.inr ⟨ts,m,p,xs,vs,rfl,hx,hs,beq_iff_eq.mp hl,λx hx=>DE (dm.mp hb x hx),fN.NH▸q⟩)
  |_=>trivial
theorem Be(HC:∀{G:Prop}{v N'},(k v N'->G)->C G v N')
  (h:iR scope sc=true->gs.length<=1->(g::gs).all (λg=>g.is_async==0)=true->(kP Γ n sc g.target g.iter ρ.fn N λitems st N1=>c9 st (λx N2 kk=>gG Γ n scope.names g gs elt (gd scope.names ρ.fn) x N2 kk) items [] N1 k)->G):J8 Γ n r sc elt (g::gs) scope ρ N C G:=by
 refine nB λhb=>zk I (k:=λitems st N1=>c9 st (λx N2 kk=>gG Γ n scope.names g gs elt (fN.off scope.names ρ).fn x N2 kk) items [] N1 k) (λ{G items st N1}g d=>Do.ok (λw m=>kQ m w) HC g d) λt=>?_;refine a9 (ji hb) λh1 h3=>?_;refine a9 (ji h1) λh1 h2=>?_;rw[fN.QE]at t;exact h h1 (eJ h2) h3 t
omit I in
@[elab_as_elim] theorem Ha{P:Option (Expr×Str×Pos)->Expr->Prop}(e:Dz f=o)(h0:∀f,Dh f=false->P none f)(h1:∀o n p,P (some (o,n,p)) (.Attribute o n p)):P o f:=by
 subst e;cases f with
 |Attribute o n p=>exact h1 o n p
 |_=>exact h0 _ rfl
omit I in
@[elab_as_elim] theorem DF{P:Option (Option Expr×Option Expr×Option Expr×Pos)->Expr->Prop}(e:vA f=o)(h0:∀f,P none f)(h1:∀l u s p,P (some (l,u,s,p)) (.Slice l u s p)):P o f:=by
 subst e;cases f with
 |Slice l u s p=>exact h1 l u s p
 |_=>exact h0 _
omit I in
theorem aV.mono(h:aV Γ n f vs N k')(w:∀v N',k' v N'->k v N'):aV Γ n f vs N k:=⟨h.1,λA hA L s a b c d=>bL (h.2 A hA L s a b c d) λv s' q=>by obtain⟨x,N',q1,q2,q3,q4⟩:=q;exact⟨x,N',q1,q2,q3,w _ _ q4⟩⟩
theorem NJ{e f:Expr}{args:List Expr}{ue:List CX}{pos:Pos}{C:CE}{k:KV}(HC:∀{G:Prop}{v N'},(k v N'->G)->C G v N')(h:TE Γ n sc (.Call f args ue pos) ρ.fn N k->G):Bc Γ n r sc (.Call f args ue pos) ρ N C G:=by
 revert I;exists Γ,n,sc,ρ,N,G,r,e,f,args,ue,pos,C,k;cases ue with
 |cons a b=>trivial
 |nil=>
  refine nB λhb=>?_;refine a9 (ji hb) λhs hl=>?_;generalize ha:Dz f=o;revert h;refine Ha ha (λf hf h=>?_) λo name apos h=>?_
  ·exact I.e (k:=λfv N1=>∃v,fv=.raw v/\xm Γ n sc args ρ.fn N1 λvs N2=>aV Γ n v vs N2 k) (λ{G fv N1}g=>by
    cases fv with
    |raw v=>exact zj I (k:=λvs N2=>aV Γ n v vs N2 k) (λ{G vs N2}g2 d=>Do.ok (λw m=>w.mono m) HC g2 d) λt=>g ⟨v,rfl,t⟩
    |_=>trivial) λt=>h (TE.call hf hs t)
  ·exact nB λFG=>I.e (k:=λov N1=>∃f,fO Γ.K N1 ov name f/\xm Γ n sc args ρ.fn N1 λvs N2=>aV Γ n f (ov::vs) N2 k) (λ{G ov N1}g{f}e=>zj I (k:=λvs N2=>aV Γ n f (ov::vs) N2 k) (λ{G vs N2}g2 d=>Do.ok (λw m=>w.mono m) HC g2 d) λt=>g ⟨f,e,t⟩) λt=>h (TE.Xk hs (eJ hl) (ji FG).1 (ji FG).2 t)
omit I in
@[elab_as_elim] theorem v9{P:Option Str->Option Expr->Prop}(e:qV k=o)(h0:∀k,P none k)(h1:∀a q p,P (some a) (some (.Constant (.str a) q p))):P o k:=by
 subst e;cases k with
 |none=>exact h0 _
 |some e=>
  cases e with
  |Constant c q p=>
   cases c with
   |str x=>exact h1 x q p
   |_=>exact h0 _
  |_=>exact h0 _
theorem Ke(HC:∀{G:Prop}{v N'},(k v N'->G)->C G v N')(h:TE Γ n sc (.Dict [k1,k2,k3] [x,y,z] pos) ρ.fn N k->G):Bc Γ n r sc (.Dict [k1,k2,k3] [x,y,z] pos) ρ N C G:=by
 show(match qV k1,qV k2,qV k3 with |some a,some b,some c=>_ |_,_,_=>True);generalize e1:qV k1=o1;generalize e2:qV k2=o2;generalize e3:qV k3=o3;revert h;refine v9 e1 (λ_ _=>trivial) λa _ _=>?_;refine v9 e2 (λ_ _=>trivial) λb _ _=>?_;refine v9 e3 (λ_ _=>trivial) λc _ _ h=>?_;refine nB λhb=>I.e (k:=λv1 N1=>TE Γ n sc y ρ.fn N1 λv2 N2=>TE Γ n sc z ρ.fn N2 λv3 N3=>∀d ep,N3 d=none->k (.ref d) (N3.put d (.dp [(.s a,v1),(.s b,v2),(.s c,v3)] ep)))
  (λg=>I.e (λg2=>I.e (λ{G v3 N3}g3 f=>g3 λd ep hd=>f d ep hd _ (HC id)) g2) g) λt=>h (TE.Tw ?_ t)
 refine a9 (ji hb) λh1 h3=>?_;refine a9 (ji h1) λh1 h2=>?_;exact⟨ne_of_beq_false (sx h1),ne_of_beq_false (sx h2),ne_of_beq_false (sx h3)⟩
theorem NK{ks:List (Option Expr)}{vs:List Expr}{pos:Pos}{C:CE}{k:KV}(HC:∀{G:Prop}{v N'},(k v N'->G)->C G v N')(h:TE Γ n sc (.Dict ks vs pos) ρ.fn N k->G):Bc Γ n r sc (.Dict ks vs pos) ρ N C G:=by
 revert I;exists Γ,n,sc,ρ,N,G,r,ks,vs,pos,C,k;cases ks with
 |nil=>
  cases vs with
  |cons _ _=>trivial
  |nil=>
   intro t;cases t with
   |true=>exactλf=>h (TE.AX (.inl λa ep ha=>f a ep ha _ (HC id)))
   |false=>exactλf=>h (TE.AX (.inr λa ha=>f a ha _ (HC id)))
 |cons k1 ks=>
  cases ks with
  |nil=>trivial
  |cons k2 ks=>
   cases ks with
   |nil=>trivial
   |cons k3 ks=>
    cases ks with
    |cons _ _=>trivial
    |nil=>
     cases vs with
     |nil=>trivial
     |cons x vs=>
      cases vs with
      |nil=>trivial
      |cons y vs=>
       cases vs with
       |nil=>trivial
       |cons z vs=>
        cases vs with
        |cons _ _=>trivial
        |nil=>exact Ke I HC h
theorem Kf:Z4 Γ n (Bc Γ n r):=by
 exists Γ,n,r;intro sc e ρ N C G k HC h;exists sc,e,ρ,N,C,G,k;cases e with
 |Constant c q p=>
  cases c with
  |none=>exact HC λq=>h (TE.none q)
  |bool b=>exact HC λq=>h (TE.bool q)
  |int i=>exact HC λq=>h (TE.int q)
  |str x=>exact HC λq=>h (TE.str q)
  |_=>trivial
 |Name x p=>exact Kc (λv=>HC) h
 |BinOp l op r' p=>exact I.e (k:=λa N1=>TE Γ n sc r' ρ.fn N1 λb N2=>∃x,jg N2 op a b x/\k x N2) (λg=>I.e (λ{G b N2}g2{x}hx=>HC λq=>g2 ⟨x,hx,q⟩) g) λt=>h (TE.bin t)
 |UnaryOp op x p=>
  cases op with
  |USub=>exact I.e (k:=λa N1=>∃i,a=.int i/\k (.int (-i)) N1) (λ{G a N1}g=>by
    cases a with
    |int i=>exact HC λq=>g ⟨i,rfl,q⟩
    |_=>trivial) λt=>h (TE.neg t)
  |Not=>exact I.e (k:=λa N1=>∃b,a=.bool b/\k (.bool (!b)) N1) (λ{G a N1}g=>by
    cases a with
    |bool i=>exact HC λq=>g ⟨i,rfl,q⟩
    |_=>trivial) λt=>h (TE.Xj t)
  |_=>trivial
 |IfExp t b o p=>exact I.b (k:=λc N1=>TE Γ n sc (bif c then b else o) ρ.fn N1 k) (λg=>I.e HC g) λt=>h (TE.ife t)
 |BoolOp op es p=>
  exists op,es,p;match es,h with
  | [x,y],h=>
   refine I.e (k:=λa N1=>∃c,a=.bool c/\JP op c (TE Γ n sc y ρ.fn N1 k) λb=>k (.bool b) N1) (λ{G a N1}g=>?_) λt=>h (TE.Tt t);cases a with
   |bool c=>
    cases op with
    |And=>cases c with
     |true=>exact I.e HC λt=>g ⟨true,rfl,t⟩
     |false=>exact HC λq=>g ⟨false,rfl,q⟩
    |Or=>cases c with
     |true=>exact HC λq=>g ⟨true,rfl,q⟩
     |false=>exact I.e HC λt=>g ⟨false,rfl,t⟩
   |_=>trivial
  | [],_=>trivial
  | [_],_=>trivial
  |_::_::_::_,_=>trivial
 |Dict ks vs p=>exact NK I HC h
 |List es p=>exact nB λhl=>zj I (k:=λvs N1=>vs.length<=10/\(k (.lst vs) N1\/∀a,N1 a=none->k (.ref a) (N1.put a (.list vs)))) (λ{G vs N1}g=>nB λhv t=>by
   cases t with
   |true=>exact HC λq=>g ⟨eJ hv,.inl q⟩
   |false=>exactλf=>g ⟨eJ hv,.inr λa ha=>f a ha _ (HC id)⟩) λt=>h (TE.list (eJ hl) t)
 |Tuple es q p=>exact nB λhl=>zj I (k:=λvs N1=>vs.length<=10/\k (.tup vs) N1) (λ{G vs N1}g=>nB λhv=>HC λq=>g ⟨eJ hv,q⟩) λt=>h (TE.tuple (eJ hl) t)
 |ListComp elt gens scope p=>
  cases gens with
  |nil=>trivial
  |cons g gs=>exact Be I (k:=λvs N2=>k (.lst vs) N2) (λg=>HC g) λh1 h2 h3 t=>h (TE.comp h1 h2 h3 t)
 |Compare l ops rs p=>
  match ops,rs,h with
  | [op],[r'],h=>exact DC λhm=>I.e (k:=λa N1=>TE Γ n sc r' ρ.fn N1 λb N2=>∃c,dA N2 op a b c/\k (.bool c) N2) (λg=>I.e (λ{G b N2}g2{x}hx=>HC λq=>g2 ⟨x,hx,q⟩) g) λt=>h (TE.cmp hm t)
  | [],_,_=>trivial
  |_::_::_,_,_=>trivial
  | [_],[],_=>trivial
  | [_],_::_::_,_=>trivial
 |Call f args ue pos=>exact NJ I (e:=f) HC h
 |Attribute o name p=>exact nB λhs=>I.e (k:=λov N1=>∃a C dx x,ov=.obj a C dx/\vP Γ.K N1 C dx name x/\k x N1) (λ{G ov N1}g{x}he=>HC λq=>g (by refine uR he λa C dx e1 e2=>?_;clear he;exact⟨a,C,dx,x,e1,e2,q⟩)) λt=>h (TE.attr hs t)
 |Subscript o i p=>
  exists o,i,p;show(match vA i with |some (l,u,s,_)=>_ |none=>_);generalize hi:vA i=o2;exists o2;revert h;refine DF hi (λi h=>?_) λl u s p' h=>?_
  ·exact I.e (k:=λov N1=>TE Γ n sc i ρ.fn N1 λiv N2=>∃x,gy N2 ov iv x/\k x N2) (λg=>I.e (λ{G b N2}g2{x}hx=>HC λq=>g2 ⟨x,hx,q⟩) g) λt=>h (TE.item t)
  ·cases s with
   |some _=>trivial
   |none=>exact I.e (k:=λov N1=>TO Γ n sc l ρ.fn N1 λlv N2=>TO Γ n sc u ρ.fn N2 λuv N3=>∃x,lb N3 ov lv uv x/\k x N3) (λg=>Pw I (λg2=>Pw I (λ{G uv N3}g3{x}hx=>HC λq=>g3 ⟨x,hx,q⟩) g2) g) λt=>h (TE.slice t)
 |_=>trivial
end
end
end
section
section
variable {Γ:Cx} {n:Nat} {sc:Sc} {ρ:fN} {N:aL} {G:Prop}
theorem Hb{P:Bool->Expr->Prop}(h0:∀t,P false t)(h1:∀f a k p,P true (.Call f a k p))(h2:∀x p,P true (.Name x p))(t:Expr):P (Gu t) t:=by
 cases t with
 |Call f a k p=>exact h1 f a k p
 |Name x p=>exact h2 x p
 |_=>exact h0 _
theorem DG(h:Gu e=true)(env:Env):isTrue e env (eval e env)=(do let v <-eval e env;standAt e.pos;CW [v] (truthy v)):=by exact Hb (P:=λb e=>b=true->isTrue e env (eval e env)=(do let v <-eval e env;standAt e.pos;CW [v] (truthy v))) (λ_ h=>iB h) (λ_ _ _ _ _=>rfl) (λ_ _ _=>rfl) e h
section
variable {r:RR} (I:Wl Γ n r)
include I
theorem Kg{e:Expr}{C:CB}{k:KB}(HC:∀{G:Prop}{v N'},(k v N'->G)->C G v N')(h:TB Γ n sc e ρ.fn N k->G):bif Gu e then r.e sc e ρ N (λG v N1=>match v with
  |.bool b=>C G b N1
  |_=>True) G else True:=
 nB λhv=>I.e (k:=λv N1=>∃b,v=.bool b/\k b N1) (λ{G v N1}g=>by
  cases v with
  |bool b=>exact HC λq=>g ⟨b,rfl,q⟩
  |_=>trivial) λt=>h (TB.val (DG hv) t)
theorem NL(HC:∀{G:Prop}{v N'},(k v N'->G)->C G v N')(h:TB Γ n sc (.Compare l ops rs p) ρ.fn N k->G):J9 r sc (.Compare l ops rs p) ρ N C G:=by
 match ops,rs,h with
 | [op],[r'],h=>exact DC λhm=>I.e (k:=λa N1=>TE Γ n sc r' ρ.fn N1 λb N2=>∃c,dA N2 op a b c/\k c N2) (λg=>I.e (λ{G b N2}g2{x}hx=>HC λq=>g2 ⟨x,hx,q⟩) g) λt=>h (TB.cmp hm t)
 | [op,xn],[r1,r2],h=>
  refine DC λhm=>I.e (k:=λa N1=>TE Γ n sc r1 ρ.fn N1 λb N2=>∃c,dA N2 op a b c/\(c=true->TE Γ n sc r2 ρ.fn N2 λb' N3=>∃c',dA N3 xn b b' c'/\k c' N3)/\(c=false->k false N2))
   (λg=>I.e (λ{G b N2}g2{c}hx=>Kb (λhc=>I.e (k:=λb' N3=>∃c',dA N3 xn b b' c'/\k c' N3) (λ{G b' N3}g3{c'}Pn=>HC λq=>g3 ⟨c',Pn,q⟩) λt=>g2 ⟨c,hx,λ_=>t,λe=>lX (hc.symm.trans e)⟩) λhc=>HC λq=>g2 ⟨c,hx,λe=>iB (hc.symm.trans e),λ_=>q⟩) g) λt=>h (TB.Xi hm t)
 | [],_,_=>trivial
 |_::_::_::_,_,_=>trivial
 | [_],[],_=>trivial
 | [_],_::_::_,_=>trivial
 | [_,_],[],_=>trivial
 | [_,_],[_],_=>trivial
 | [_,_],_::_::_::_,_=>trivial
theorem Kh:Z5 Γ n (J9 r):=by
 intro sc e ρ N C G k HC h;cases e with
 |UnaryOp op x p=>
  cases op with
  |Not=>exact I.b (k:=λb=>k (!b)) (λg=>HC g) λt=>h (TB.not t)
  |_=>trivial
 |BoolOp op es p=>
  cases op with
  |And=>exact Kd I HC λt=>h (TB.and t)
  |Or=>exact Kd I HC λt=>h (TB.or t)
 |Compare l ops rs p=>exact NL I HC h
 |Name x p=>exact Kg I HC h
 |Call f args ue p=>exact Kg I HC h
 |_=>trivial
end
theorem yk(Γ:Cx)(n:Nat):∀m,Wl Γ n (rX Γ n m):=by
 intro m;induction m with
 |zero=>exact⟨λ_ _=>trivial,λ_ _=>trivial⟩
 |succ m ih=>exact⟨Kf ih,Kh ih⟩
section
variable {r:RR} (I:Wl Γ n r)
include I
theorem Bf(HC:∀{G:Prop}{v N'},(k v N'->G)->C G v N')(h:o0 Γ n sc gs elt ρ.fn N k->G):J' Γ n r sc gs elt ρ N C G:=by
 cases gs with
 |nil=>exact I.e (k:=λv=>k [v]) (λg=>HC g) λt=>h (o0.nil t)
 |cons g gs=>exact zk I (k:=λitems st N1=>c9 st (λx N2 kk=>gG Γ n sc g gs elt ρ.fn x N2 kk) items [] N1 k) (λ{G items st N1}g d=>Do.ok (λw m=>kQ m w) HC g d) λt=>h (o0.cons t)
omit I in
theorem Ki(h:(J7 t).all (λx=>(ρ.lookup x).isNone)=true):Ab t ρ.fn:=by
 refine⟨λx p e=>?_,λts m p xs e hx x hm=>?_⟩
 ·subst e;exact xZ.mp (dm.mp h x (.head _))
 ·subst e;have h:((namesOf ts).getD []).all (λx=>(ρ.lookup x).isNone)=true:=h;rw[hx]at h;exact xZ.mp (dm.mp h x hm)
theorem NM(HC:∀{G:Prop}{v N'},(k v N'->G)->C G v N')(h:gG Γ n sc g gs elt ρ.fn x N k->G):Bd Γ n r sc g gs elt ρ x N C G:=by
 refine nB λhf=>?_;have hf:=Ki hf;obtain⟨Ps,iter,ifs,ia⟩:=g
 match ifs,h with
 | [],h=>exact mQ (k:=λcn=>o0 Γ n sc gs elt cn N k) (λcn g=>Bf I HC g) λt=>h (gG.plain rfl hf t)
 | [c],h=>exact mQ (k:=λcn=>TB Γ n sc c cn N λb N1=>(b=true->o0 Γ n sc gs elt cn N1 k)/\(b=false->k [] N1)) (λcn g=>I.b (λ{G b N1}g2=>Kb (λe=>Bf I HC λt=>g2 ⟨λ_=>t,λe2=>lX (e.symm.trans e2)⟩) λe=>HC λq=>g2 ⟨λe2=>iB (e.symm.trans e2),λ_=>q⟩) g) λt=>h (gG.test rfl hf t)
 |_::_::_,_=>trivial
omit I in
theorem TB.mono{ρ:cf}{e:Expr}{k k':KB}(h:TB Γ n sc e ρ N k)(w:∀v N1,k v N1->k' v N1):TB Γ n sc e ρ N k':=λhA _ _ _ S F R=>TB.run h hA S F R λb s1 N1 R1 _ eE h1=>zd.of R1 eE (w _ _ h1)
omit I in
theorem my.mono{ρ:cf}{ss:List c7}{K K':KS}(h:my Γ n sc ss ρ N K)(w:∀fl σ N1,K fl σ N1->K' fl σ N1):my Γ n sc ss ρ N K':=λhA _ _ _ S F R=>PS.un (h hA S F R) λf s' fl ρ' N' a b c d e=>PS.of fl a b c d (w _ _ _ e)
omit I in
theorem TA.mono{K K':cf->aL->Prop}(h:TA Γ n sc t x ρ.fn N K)(w:∀ρ N,K ρ N->K' ρ N):TA Γ n sc t x ρ.fn N K':=λhA _ _ _ S F R _ hv=>bL (h hA S F R hv) λ_ s' p=>by obtain⟨fl,ρ',N',a,b,c,d,e⟩:=p;cases a;exact PS.of .next .next b c d (w _ _ e)
theorem FH{C:Prop->fN->aL->Prop}{K:cf->aL->Prop}(HC:∀{G:Prop}{cn:fN}{N'},(K cn.fn N'->G)->C G cn N')(h:TA Γ n sc t v ρ.fn N K->G):Ka Γ r sc t v ρ N C G:=by
 revert I;exists Γ,n,sc,ρ,N,G,r,t,v,C,K;have bnd:∀t',(TA Γ n sc t' v ρ.fn N K->G)->o9 sc t' v ρ N λcn=>C G cn N:=λt' h=>mQ (k:=λcn=>K cn N) (λcn g=>HC g) λt=>h (TA.bind t);cases t with
 |Attribute o name p=>
  refine I.e (k:=λov N1=>∃a K' dx σ c,ov=.obj a K' dx/\y6 Γ.K N1 K' dx name σ c/\K ρ.fn (N1.put dx (.at (σ.set name v) (c+1)))) ?_ λt=>h (TA.attr t);intro G ov N1 g;cases ov with
  |obj a K' dx=>exactλ{σ c}e2=>HC λq=>g ⟨a,K',dx,σ,c,rfl,e2,q⟩
  |_=>trivial
 |Subscript o i p=>
  refine I.e (k:=λov N1=>TE Γ n sc i ρ.fn N1 λiv N2=>∃d P,ov=.ref d/\jC N2 d iv v P/\∀N3,P N3->K ρ.fn N3) (λ{G ov N1}g=>I.e ?_ g) λt=>h (TA.item t);intro G iv N2 g2;cases ov with
  |ref d=>
   intro s;cases s with
   |one hs=>exact HC λq=>g2 ⟨d,_,rfl,hs,λN3 e3=>e3▸q⟩
   |all hs=>exactλf=>g2 ⟨d,_,rfl,hs,λN3 hp=>f N3 hp _ (HC id)⟩
  |_=>trivial
 |_=>exact bnd _ h
omit I in
@[elab_as_elim] theorem IH{P:Option (Expr×List bh×mJ×Pos)->Expr->Prop}(h:DA e=o)(h0:∀e,P none e)(h1:∀a b c d,P (some (a,b,c,d)) (.ListComp a b c d)):P o e:=by
 subst h;cases e with
 |ListComp a b c d=>exact h1 a b c d
 |_=>exact h0 _
omit I in
theorem TV(h:(!a)=false):a=true:=by rw[<-lJ a,h];rfl
omit I in
theorem Hc{P:Bool->Expr->Prop}(h0:∀t,P false t)(h1:∀ts k p,P true (.Tuple ts k p))(t:Expr):P (j7 t) t:=by
 cases t with
 |Tuple a b c=>exact h1 a b c
 |_=>exact h0 _
omit I in
@[elab_as_elim] theorem wa{P:Expr->Prop}(h:j7 t=true)(k:∀ts k p,P (.Tuple ts k p)):P t:=Hc (P:=λb t=>b=true->P t) (λ_ h=>iB h) (λa b c _=>k a b c) t h
theorem NN{C:Prop->fN->aL->Prop}{K:cf->aL->Prop}(HC:∀{G:Prop}{cn:fN}{N'},(K cn.fn N'->G)->C G cn N')(h:(TA Γ n sc t v ρ.fn N K/\∀x p,t=.Name x p->fM sc t v ρ.fn N λcn=>K cn N)->G):Ka Γ r sc t v ρ N C G:=by
 cases hn:mB t with
 |some x=>refine bz (tu hn) λp aT=>?_;obtain rfl:=aT;exact mQ (k:=λcn=>K cn N) (λcn g=>HC g) λt=>h ⟨TA.bind t,λ_ _ _=>t⟩
 |none=>exact FH I HC λt=>h ⟨t,λx p e=>cy (hn.symm.trans (congrArg mB e))⟩
theorem NO{C:Prop->fN->aL->Prop}{K:cf->aL->Prop}(HC:∀{G:Prop}{cn:fN}{N'},(K cn.fn N'->G)->C G cn N')(h:(TA Γ n sc t v ρ.fn N K/\∀ts k p,t=.Tuple ts k p->fM sc t v ρ.fn N λcn=>K cn N)->G):Ka Γ r sc t v ρ N C G:=by
 cases hn:j7 t with
 |true=>revert h;refine wa hn λts k p h=>?_;exact mQ (k:=λcn=>K cn N) (λcn g=>HC g) λt=>h ⟨TA.bind t,λ_ _ _ _=>t⟩
 |false=>exact FH I HC λt=>h ⟨t,λts k p e=>iB (hn.symm.trans (congrArg j7 e))⟩
theorem QL{rs:List c7->fN->aL->CS->Prop->Prop}{ts:List Expr}{e:Expr}{p':Pos}{C:CS}{K:KS}(HC:∀{G:Prop}{fl}{cn:fN}{N'},(K fl cn.fn N'->G)->C G fl cn N')(h:TS Γ n sc (.Assign ts e p') ρ.fn N K->G):FE Γ n r rs sc (.Assign ts e p') ρ N C G:=by
 revert I;exists Γ,n,sc,ρ,N,G,r,rs,ts,e,p',C,K;cases ts with
 |nil=>trivial
 |cons t ts=>
  exists t,ts;cases ts with
  |cons _ _=>trivial
  |nil=>
  refine DC λht=>?_;refine a9 (qY.mp ht) λgf J2=>?_;generalize hc:DA e=o;exists o;revert h;refine IH hc (λe h=>?_) λelt gens scope cp h=>?_;exists e;rotate_left
  ·cases gens with
   |nil=>trivial
   |cons g gs=>
    exact Be I (k:=λvs N2=>TA Γ n sc t (.lst vs) ρ.fn N2 (λcn N3=>K .next cn N3)/\∀x p,t=.Name x p->fM sc t (.lst vs) ρ.fn N2 λcn=>K .next cn N2) (λ{G vs N1}g=>NN I (K:=λcn N3=>K .next cn N3) (λg2=>HC g2) g)
     λh1 h2 h3 tt=>h (TS.Xw gf J2 h1 h2 h3 (λvs N2 q=>q.1) (λx p e vs N2 q=>q.2 x p e) tt)
  ·refine DC λhq=>I.e (k:=λv N1=>TA Γ n sc t v ρ.fn N1 (λcn N2=>K .next cn N2)/\∀ts k p,t=.Tuple ts k p->fM sc t v ρ.fn N1 λcn=>K .next cn N1) (λ{G v N1}g=>NO I (K:=λcn N3=>K .next cn N3) (λg2=>HC g2) g) λtt=>h ?_;obtain⟨Z6,Pt⟩:=qY.mp hq;cases hb:(j7 t&&j7 e) with
   |false=>have XA:TE Γ n sc e ρ.fn N λv N1=>TA Γ n sc t v ρ.fn N1 λcn N2=>K .next cn N2:=TE.mono tt (by intro v N1 q;exact q.1);intro A;exact TS.asg (K:=K) (pos:=p') Z6 gf hb J2 XA
   |true=>rw[hb]at Pt;refine a9 (ji hb) λh1 h2=>?_;clear Z6 gf J2 hb ht hq;revert h tt Pt;refine wa h1 λts k p=>?_;refine wa h2 λvs k2 p2 h tt Pt=>?_;have Wh:zg (.Tuple ts k p) (.Tuple vs k2 p2)=true:=TV Pt;have XA:TE Γ n sc (.Tuple vs k2 p2) ρ.fn N λv N1=>fM sc (.Tuple ts k p) v ρ.fn N1 λcn=>K .next cn N1:=TE.mono tt (by intro v N1 q;exact q.2 ts k p rfl);intro A _;exact TS.Xv (K:=K) (pos:=p') Wh XA ‹_›
theorem Kj{rs:List c7->fN->aL->CS->Prop->Prop}(H:∀{ss ρ N}{C:CS}{G:Prop}{K:KS},(∀{G:Prop}{fl}{cn:fN}{N'},(K fl cn.fn N'->G)->C G fl cn N')->(my Γ n sc ss ρ.fn N K->G)->rs ss ρ N C G)
  {s:c7} {C:CS} {K:KS} (HC:∀{G:Prop}{fl}{cn:fN}{N'},(K fl cn.fn N'->G)->C G fl cn N') (h:TS Γ n sc s ρ.fn N K->G):FE Γ n r rs sc s ρ N C G:=by
 revert I H;exists Γ,n,sc,ρ,N,G,r,rs,s,C,K;cases s with
 |Expr e p=>
  refine nB λhe=>I.e (k:=λv N1=>v.Xx=true/\K .next ρ.fn N1) (λ{G v N1}g=>nB λhv=>HC λq=>g ⟨hv,q⟩) λt=>?_;cases e with
  |Call f args ue p1=>exact h (TS.expr t)
  |_=>exact iB he
 |Assign ts e p=>exact QL I HC h
 |Return e p=>
  cases e with
  |none=>trivial
  |some e=>exact I.e (k:=λv N1=>K (.ret v) ρ.fn N1) (λg=>HC g) λt=>h (TS.ret t)
 |Continue p=>exact HC λq=>h (TS.cont q)
 |If t b o p=>exact I.b (k:=λc N1=>my Γ n sc (bif c then b else o) ρ.fn N1 K) (λg=>H HC g) λt=>h (TS.ite t)
 |For t it body Pv p=>
  exists t,it,body,Pv,p;cases Pv with
  |cons _ _=>trivial
  |nil=>
   show G6 Γ r sc t it ρ N (TT Γ n sc t body ρ C) G;refine zk I (k:=λitems st N1=>∃K1:KS,hV st (λx qx N2 KK=>fM sc t x qx N2 λo8=>my Γ n sc body o8 N2 KK) items ρ.fn N1 K1/\∀fl σ N',K1 fl σ N'->∃ρ',jE ρ' σ/\K fl ρ' N')
    ?_ λt=>h (TS.Xy t)
   intro G items st N1 g f;cases f with
   |all hr=>
    intro h1 h2;refine g ⟨_,hr,λfl σ N' hk=>?_⟩;cases fl with
    |next=>exact aI hk λd hp hl=>⟨_,hl,h1 d N' hp _ (HC id)⟩
    |ret v=>exact⟨_,λx v e=>cy e,h2 v N' hk _ (HC id)⟩
    |_=>exact hk.elim
 |While t body Pv p=>
  cases Pv with
  |cons _ _=>trivial
  |nil=>exactλ{δ env J P}z d hl hz ht hk=>h (TS.v8 (λz σ N=>∃d,σ=(env d).fn/\J z d N) ⟨_,hl,d,rfl,hz⟩ λz cn N1 hj=>by
    obtain⟨d,rfl,hj⟩:=hj;refine TB.mono (ht z d N1 hj) λc N2 q=>⟨λe=>my.mono (q.1 e) λfl σ N3 w=>?_,λe=>hk d N2 (q.2 e) _ (HC id)⟩
    refine a9 w λw1 aT=>?_;clear w;refine fc aT λz' d' w2 w3 w4=>?_;clear aT;exact⟨w1,z',_,w2,w4,d',rfl,w3⟩)
 |_=>trivial
theorem DH{m:Nat}:∀{sc:Sc}{ss:List c7}{ρ:fN}{N:aL}{C:CS}{G:Prop}{K:KS},(∀{G:Prop}{fl}{cn:fN}{N'},(K fl cn.fn N'->G)->C G fl cn N')->(my Γ n sc ss ρ.fn N K->G)->DB Γ n r m sc ss ρ N C G:=by
 induction m with
 |zero=>intros;trivial
 |succ m ih=>
  intro sc ss ρ N C G K HC h;cases ss with
  |nil=>exact HC λq=>h (my.nil q)
  |cons s ss=>
   show FE Γ n r (DB Γ n r m sc) sc s ρ N (TU (DB Γ n r m sc ss) C) G;refine Kj I (rs:=DB Γ n r m sc) (λ{ss ρ N C G K}a b=>ih a b) (K:=TL (λcn N1=>my Γ n sc ss cn N1 K) K) ?_ λt=>h (my.cons t);intro G fl cn N1 g;cases fl with
   |next=>exact ih HC g
   |_=>exact HC g
end
theorem Ss{ss:List c7}{ρ:fN}{K:KS}{a m:Nat}(h:∀G,DB Γ n (rX Γ n a) m sc ss ρ N (λG fl cn N'=>K fl cn.fn N'->G) G->G):my Γ n sc ss ρ.fn N K:=by apply h;exact DH (yk Γ n a) (K:=K) (λg=>g) λt=>t
theorem gen(a:Nat)(h:∀G,Bd Γ n (rX Γ n a) sc g gs elt ρ x N (λG v N'=>k v N'->G) G->G):gG Γ n sc g gs elt ρ.fn x N k:=by apply h;exact NM (yk Γ n a) (k:=k) (λg=>g) λt=>t
theorem exp(a:Nat)(h:∀G,(rX Γ n a).e sc e ρ N (λG v N'=>k v N'->G) G->G):TE Γ n sc e ρ.fn N k:=by apply h;exact(yk Γ n a).e (k:=k) (λg=>g) λt=>t
end
end
section
inductive zl:V->aL->V->aL->Prop
 |refl (v:V) (N:aL):zl v N v N
 |lst {a:ax} {xs:List V} {N:aL}:N a=some (.list xs)->zl (.ref a) N (.lst xs) (N.drop a)
 |drop (v:V) (N:aL) (a:ax):zl v N v (N.drop a)
 |trans {v v' Z7:V} {N N' V7:aL}:zl v N v' N'->zl v' N' Z7 V7->zl v N Z7 V7
theorem yl{N:aL}{a b:ax}{mo:cA}(h:(N.drop a) b=some mo):N b=some mo/\b≠a:=by
 unfold aL.drop at h;split at h
 ·cases h
 ·exact⟨h,by assumption⟩
theorem pX{N:aL}{a b:ax}(h:N b=none):(N.drop a) b=none:=by unfold aL.drop;split<;>first |rfl |exact h
theorem zl.none{v v':V}{N N':aL}(f:zl v N v' N'):∀{a:ax},N a=Option.none->N' a=Option.none:=by
 induction f with
 |refl=>exact id
 |lst e=>exact pX
 |drop=>exact pX
 |trans _ _ h1 h2=>exactλh=>h2 (h1 h)
theorem zl.some(f:zl v N v' N'):∀{a:ax}{mo:cA},N' a=some mo->N a=some mo:=by
 induction f with
 |refl=>exact id
 |lst e=>exactλh=>(yl h).1
 |drop=>exactλh=>(yl h).1
 |trans _ _ h1 h2=>exactλh=>h1 (h2 h)
theorem zl.Bg(f:zl v N v' N'){L:ax->Bool}(h:hide L N' a=mF mo):hide L N a=mF mo:=by
 unfold hide at h ⊢;split at h
 ·rename_i q;erw[if_pos q];exact h
 ·rename_i q;erw[if_neg q];exact f.some h
theorem zl.vi{Γ:Cx}{s:aj}{v v':V}{N N':aL}(f:zl v N v' N'){L:ax->Bool}(R:bS Γ (hide L N) s)(hL:∀a,L a=true->N a=Option.none):∀{u:al},VI s.heap (hide L N) u v->VI s.heap (hide L N') u v':=by
 revert f;exists Γ,s,v,v',N,N',L,_;intro R hL f;induction f with
 |refl=>exact id
 | @lst a xs N e=>
  exists a,xs,N,_;intro e R hL;intro u h;exists u;cases h;refine eQ (R.obj a _ (kM hL e)) λdy n ho hv=>?_;exists dy,n;have la:L a=false:=by
   cases q:L a with
   |false=>rfl
   |true=>rw[hL a q]at e;cases e
  have less:∀b,hide L N b=Option.none->hide L (N.drop a) b=Option.none:=λb hb=>co.mpr ⟨(co.mp hb).1,pX (co.mp hb).2⟩;exact .lst (vs:=dy.toList) (n:=n) (by simpa using ho) (co.mpr ⟨la,by simp[aL.drop]⟩) (hv.less less)
 |drop v N a=>intro u h;exact h.less λb hb=>co.mpr ⟨(co.mp hb).1,pX (co.mp hb).2⟩
 |trans f1 f2 h1 h2=>intro u h;exact h2 (R.less λa mo e=>f1.Bg e) (λa ha=>f1.none (hL a ha)) (h1 R hL h)
noncomputable def eO(k:KV):KS:=λfl _ N=>match fl with
 |.ret v=>∃v' N',zl v N v' N'/\k v' N'
 |.next=>∃v' N',zl .none N v' N'/\k v' N'
 |_=>False
theorem eO.ret(h:k v N):eO k (.ret v) ρ N:=⟨v,N,.refl _ _,h⟩
theorem eO.next(h:k .none N):eO k .next ρ N:=⟨.none,N,.refl _ _,h⟩
structure FnAt(K:tc)(f:ax)(params:List Str)(body:List c7)(names:List (Str×bj)):Prop where
 at_:∃o fd,K.lookup f=some o/\o.data=.func fd/\fd.scope.isCoroutine=false/\fd.scope.isGenerator=false/\fd.scope.kind=.function/\fd.body=.stmts body/\fd.closure=[]/\fd.globals=dN/\fd.builtins=rT/\
  fd.scope.names=names/\(∃c oc vs t,fd.code=.ref c/\K.lookup c=some oc/\oc.data=.fields vs/\vs[1]?=some (.str fd.qualname t))/\∀vals,vals.length=params.length->bindArgs fd ⟨vals,[]⟩=pure (params.zip vals)
 keep:xg K (.ref f)=true
 nodup:(names.map (·.1)).Nodup
 tE:params.Nodup
 kinds:∀p∈names,(p.2=.local\/p.2=.cell\/p.2=.globalImplicit)/\p.1≠("__debug__":Str)/\p.1≠("__classdict__":Str)
 pk:∀x∈params,names.lookup x=some .local\/names.lookup x=some .cell
theorem zm(names:List (Str×bj))(n:Nat)(acc:List (Str×ax)):∃cs:List (Str×ax),gm n names acc=cs.reverse++acc/\cs.map (·.1)=(names.filter λp=>p.2==.cell).map (·.1):=by
 induction names generalizing n acc with
 |nil=>exact⟨[],rfl,rfl⟩
 |cons p r ih=>
  erw[cV];show ∃cs:List (Str×ax),(if(p.2==iH)=true then gm (n+1) r ((p.1,n)::acc) else gm n r acc)=_/\_;cases hk:p.2==iH with
  |true=>
   refine aI (ih (n+1) ((p.1,n)::acc)) λcs h1 h2=>⟨(p.1,n)::cs,?_,congrArg _ h2⟩
   erw[ik,bY];exact h1
  |false=>exact ih n acc
theorem l3(hn:(names.map (·.1)).Nodup):((gm n names []).map (·.1)).Nodup/\(∀p∈gm n names [],(p.1,iH)∈names)/\
  ∀x,(x,iH)∈names->∃c,(gm n names []).lookup x=some c:=by
 refine aI (zm names n []) λcs h1 h2=>?_;rw[bG]at h1;have hm:∀x,x∈(gm n names []).map (·.1)↔(x,iH)∈names:=λx=>by
  erw[h1,vE,oz,h2,ak];constructor
  ·rintro⟨p,hp,rfl⟩;rw[a8]at hp;have:p.2=.cell:=by simpa using hp.2
   rw[<-this];exact hp.1
  ·intro h;exact⟨(x,.cell),a8.mpr ⟨h,rfl⟩,rfl⟩
 have uh:((gm n names []).map (·.1)).Nodup:=by erw[h1,vE];unfold Je;erw[E1,h2];exact((gn.map _).nodup hn).imp λh=>h.symm
 refine⟨uh,λp hp=>(hm p.1).mp (ak.mpr ⟨p,hp,rfl⟩),λx hx=>?_⟩;refine aI (ak.mp ((hm x).mpr hx)) λp hp e=>?_;exact⟨p.2,mx uh (by rw[<-e];exact hp)⟩
theorem Cm{r:List (Str×al)}{x:Str}(h:x∉r.map (·.1)):r.lookup x=none:=by
 cases e:r.lookup x with
 |none=>rfl
 |some c=>exact absurd (ak.mpr ⟨(x,c),mem_of_lookup e,rfl⟩) h
theorem ui{B:List (Str×al)->(Str->Option al)->Str->Option al}{x:Str}{c:Str->Prop}[DecidablePred c](hx:c x)(b0:∀m,B [] m=m)
  (b1:∀p r m,B (p::r) m=B r (if c p.1 thenλy=>if y=p.1 then some p.2 else m y else m)) {binds:List (Str×al)} {m:Str->Option al} (hn:(binds.map (·.1)).Nodup):B binds m x=(binds.lookup x).or (m x):=by
 induction binds generalizing m with
 |nil=>erw[b0];rfl
 |cons p r ih=>
  have hn:=bt.mp hn;erw[b1,ih hn.2,gv];by_cases e:x=p.1
  ·erw[Cm (e▸hn.1),if_pos (e▸hx),beq_iff_eq.mpr e];exact if_pos e
  ·erw[beq_false_of_ne e];by_cases q:c p.1
   ·erw[if_pos q];exact congrArg _ (if_neg e)
   ·erw[if_neg q]
theorem zn{kindOf:Str->Option bj}{m:Str->Option al}(hn:(binds.map (·.1)).Nodup)(hk:kindOf x=some .local):bindL kindOf binds m x=(binds.lookup x).or (m x):=ui (c:=λy=>kindOf y=some .local) hk (λ_=>rfl) (λ_ _ _=>rfl) hn
theorem zo{kindOf:Str->Option bj}{m:Str->Option al}(hn:(binds.map (·.1)).Nodup)(hk:kindOf x≠some .local):bindC kindOf binds m x=(binds.lookup x).or (m x):=ui (c:=λy=>¬kindOf y=some .local) hk (λ_=>rfl) (λ_ r _=>congrArg (bindC kindOf r) (ite_not ..).symm) hn
noncomputable def mR(params:List Str)(args:List V):cf:=λx=>(params.zip args).lookup x
theorem Kk{h:cg}{M:aL}{ps:List Str}{vs:List al}{ds:List V}(r:ch h M vs ds){x:Str}{d:V}(e:(ps.zip ds).lookup x=some d):∃v,(ps.zip vs).lookup x=some v/\VI h M v d:=by
 induction ps generalizing vs ds with
 |nil=>exact cy e
 |cons p ps ih=>
  refine r.ca (P:=λvs ds=>((p::ps).zip ds).lookup x=some d->∃v,((p::ps).zip vs).lookup x=some v/\VI h M v d) (λe=>cy e) (λ{v y vs ds}hv r e=>?_) e;rw[ma,gv]at e ⊢;cases hb:x==p with
  |true=>rw[hb]at e;exact⟨v,rfl,aA e▸hv⟩
  |false=>rw[hb]at e;exact ih r e
section
variable {Γ:Cx} {f:ax} {params:List Str} {body:List c7} {names:List (Str×bj)}
theorem Lv.deeper(h:Lv (n+1) A)(env:Env):Lv n (A.deeper env):=by
 refine ez h λh1 h2 h3=>?_;clear h;refine⟨h1,?_,?_⟩
 ·show A.depth+1+n+1<1000;exact aR 0x1d5de9deb624604424600577a77ad8918114600812 rfl h2
 ·show A.units+3+12*n+200<=9900;exact aR 0x1d59eadea5e96145e9eb4550ab4620567ab7a97a58517a7ad1551802ac12 rfl h3
noncomputable def QM(Γ:Cx)(L:ax->Bool)(N:aL)(h:cg)(k:KV):EY->aj->Prop:=λr s'=>match r with
 |.ok (.ret v)=>End (hide L) Γ N h k v s'
 |_=>False
noncomputable def nE(Γ:Cx)(n:Nat)(f:al)(args:List V)(N:aL)(k:KV):Prop:=hU Γ.K f/\∀A,Lv n A->∀(L:ax->Bool)s,(∀a,L a=true->N a=none)->bS Γ (hide L N) s->∀vs,ch s.heap (hide L N) vs args->
 ja Γ.M A (.call f ⟨vs,[]⟩) (QM Γ L N s.heap k) s
theorem nE.call{n:Nat}{f:al}{args:List V}{N:aL}{k:KV}(h:nE Γ n f args N k):aV Γ n f args N k:=
 ⟨h.1,λA hA L s hL R vs pT=>wpAny_call (dJ (h.2 A hA L s hL R vs pT) λr s' q=>by
  cases r with
  |error e=>exact q
  |ok f=>cases f<;>exact q)⟩
structure DI(Γ:Cx)(params:List Str)(names:List (Str×bj))(args:List V)(L:ax->Bool)(N:aL)(s s1:aj)(env:Env):Prop where
 F:fu env L N
 S:fe env names
 R:bS Γ (full env (mR params args) L N) s1
 kp:∀b o,s.heap.get? b=some o->s1.heap.get? b=some o
 dead:∀a,aQ env (mR params args) a≠none->s.heap.get? a=none
 off:∀a,s.heap.get? a=none->L a=false/\N a=none
theorem DI.back{L:ax->Bool}(X:DI Γ params names args L N s s1 env)(F2:fu env L N2):
  (∀a,full env qx L N2 a=none->hide L N2 a=none)/\∀a mo,hide L N2 a=some mo->full env qx L N2 a=some mo:=by
 refine⟨λa e=>co.mpr (ba.mp e).2,λa mo e=>?_⟩;cases q:aQ env qx a with
 |none=>unfold full;erw[q];exact e
 |some mf=>haveI hd:=X.dead a λz=>pS (q.symm.trans ((cr (ρ:=mR params args)).mp z));haveI h1:N2 a=none:=F2.off (ρ:=qx) (by erw[q];exact nofun);exact cy ((co.mpr ⟨(X.off a hd).1,h1⟩).symm.trans e)
theorem ym{vs:List al}{n:Nat}(nodup:(names.map (·.1)).Nodup)(pk:∀x∈params,names.lookup x=some .local\/names.lookup x=some .cell)(MR:(params.zip vs).map (·.1)=params):
  ∀x∈params.zip vs,names.lookup x.1=some .local\/(names.lookup x.1=some .cell/\((gm n names []).lookup x.1).isSome=true):=λx hx=>
 (pk x.1 (MR▸ak.mpr ⟨x,hx,rfl⟩)).imp (λh=>h) λh=>⟨h,ez (l3 (n:=n) nodup) λ_ _ TW=>bz (TW x.1 (mem_of_lookup h)) λc hc=>by erw[hc];rfl⟩
theorem Bh(nodup:(names.map (·.1)).Nodup)(kinds:∀p∈names,(p.2=.local\/p.2=.cell\/p.2=.globalImplicit)/\p.1≠("__debug__":Str)/\p.1≠("__classdict__":Str))
  (e2:env.cells=gm m names []) (e3:∀x,env.kindOf x=names.lookup x):fe env names:=by
 refine ez (l3 (n:=m) nodup) λTX TY TW=>?_;haveI none_of:∀y:Str,(∀p∈names,p.1≠y)->names.lookup y=none:=λy hy=>by
  cases e:names.lookup y with
  |none=>rfl
  |some k=>exact absurd rfl (hy _ (mem_of_lookup e))
 refine⟨none_of _ λp hp=>(kinds p hp).2.1,none_of _ λp hp=>(kinds p hp).2.2,λx hx=>⟨(e3 x).trans hx,λp hp e=>?_⟩,λx hx=>⟨(e3 x).trans hx,?_⟩,λx hx=>?_,λx hx=>(e3 x).trans hx⟩
 ·rw[e2]at hp;have:=jI nodup (TY p hp);rw[e,hx]at this;exact nomatch aA this
 ·erw[e2];exact TW x (mem_of_lookup hx)
 ·rcases(kinds _ (mem_of_lookup hx)).1 with h |h |h<;>exact nomatch h
set_option tactic.hygienic true in
theorem yn{args:List V}{L:ax->Bool}{N:aL}{s s1:aj}{env:Env}{vs:List al}(nodup:(names.map (·.1)).Nodup)(tE:params.Nodup)
  (kinds:∀p∈names,(p.2=.local\/p.2=.cell\/p.2=.globalImplicit)/\p.1≠("__debug__":Str)/\p.1≠("__classdict__":Str)) (MR:(params.zip vs).map (·.1)=params) (hL:∀a,L a=true->N a=none) (R:bS Γ (hide L N) s) (pT:ch s.heap (hide L N) vs args)
  (e1:env.locals=s.heap.objs.size) (e2:env.cells=gm (s.heap.objs.size+1) names []) (e3:∀x,env.kindOf x=names.lookup x) (e4:env.scope.kind=.function) (e5:env.globals=dN) (e6:env.builtins=rT)
  (X:InCallC s env.locals (bindL env.kindOf (params.zip vs) λ_=>none) env.cells (bindC env.kindOf (params.zip vs) λ_=>none) s1):DI Γ params names args L N s s1 env:=by
 exists Γ,params,names,args,L,N,s,s1,env,vs;refine ez (l3 (n:=s.heap.objs.size+1) nodup) λTX TY TW=>?_;haveI dead:∀a,s.heap.objs.size<=a->s.heap.get? a=none:=λa ha=>by
  cases e:s.heap.get? a with
  |none=>rfl
  |some o=>exact absurd (bO e) (pL.mpr ha)
 have DJ:∀p∈env.cells,s.heap.objs.size<p.2:=λp hp=>by rw[<-e1];exact X.above p.1 p.2 hp
 have Kl:∀a,aQ env (mR params args) a≠none->s.heap.get? a=none:=λa ha=>by
  refine dead a ?_;by_cases q:a=env.locals
  ·erw[q,e1];exact ap _
  ·cases q2:eY env.cells a with
   |none=>exact absurd (eV.mpr ⟨beq_false_of_ne q,q2⟩) ha
   |some x=>exact bq (DJ _ (fm q2))
 have zp:∀a,s.heap.get? a=none->L a=false/\N a=none:=λa ha=>co.mp (R.ce ha);refine qv X.toInCall.same λKm tk aT=>?_;exists Km,tk;obtain rfl:=aT;haveI kp:=X.toInCall.keep;have live:∀{b o},s.heap.get? b=some o->aQ env (mR params args) b=none:=λ{b o}e=>by
  cases q:aQ env (mR params args) b with
  |none=>rfl
  |some mo=>exact cy ((Kl b (by erw[q];exact nofun)).symm.trans e)
 haveI F:fu env L N:=by refine⟨e4,e5,e6,X.apart,by erw[e2];exact TX,λp hp e=>?_,(zp _ (dead _ (by erw[e1];exact ap _))).2,λp hp=>(zp _ (dead _ (bq (DJ p hp)))).2,hL⟩;have:=DJ p hp;rw[e,e1]at this;exact gj _ this
 have ex:cl (hide L N) s.heap (full env (mR params args) L N) Km:=λb o e hn=>⟨kp b o e,ba.mpr ⟨live e,co.mp hn⟩⟩
 haveI S:fe env names:=Bh nodup kinds e2 e3;haveI Px:ch Km (full env (mR params args) L N) vs args:=pT.ext ex;refine⟨F,S,⟨λa mo e=>?_,λb o e=>kp b o (R.base b o e),λa mo e=>?_,R.gens,R.os⟩,kp,Kl,zp⟩
 ·exists a,mo;cases q:aQ env (mR params args) a with
  |none=>
   have hn:hide L N a=some mo:=by unfold full at e;rw[q]at e;exact e
   refine bz (R.live hn) λo ho=>?_;exact(R.obj a mo hn).ext ex ((kp a o ho).trans ho.symm)
  |some mf=>
   exists mf;rw[hH q]at e;obtain rfl:=aA e;unfold aQ at q;split at q
   ·rename_i ha;obtain rfl:=aA q;refine⟨_,by erw[ha];exact X.toInCall.ns,λx d hx=>?_⟩;dsimp only at hx;split at hx
    ·rename_i XB;refine aI (Kk Px hx) λv hv hi=>?_;refine⟨v,?_,hi⟩;erw[zn (by erw[MR];exact tE) XB,hv];rfl
    ·exact cy hx
   ·split at q
    ·rename_i x XC;obtain rfl:=aA q;haveI hm:=fm XC;haveI NP:env.cells.lookup x=some a:=mx (by erw[e2];exact TX) hm;refine⟨_,X.cell x a NP,λd hx=>?_⟩;refine aI (Kk Px hx) λv hv hi=>?_;refine⟨v,?_,hi⟩;haveI XB:env.kindOf x≠some .local:=by erw[e3];rw[e2]at hm;erw[jI nodup (TY _ hm)];exact nofun
     erw[zo (by erw[MR];exact tE) XB,hv];rfl
    ·exact cy q
 ·cases q:aQ env (mR params args) a with
  |none=>exact R.off a mo (by unfold full at e;rw[q]at e;exact e)
  |some mf=>
   cases r:Γ.H0.get? a with
   |none=>rfl
   |some o=>exact cy (q.symm.trans (live (R.base a o r))▸rfl:(none:Option cA)=some mf)
theorem sy(FA:FnAt Γ.K f params body names){n:Nat}{args:List V}{N:aL}{k:KV}(hlen:args.length=params.length)(h:my Γ n names body (mR params args) N (eO k)):nE Γ (n+1) (.ref f) args N k:=by
 refine⟨FA.keep,λA hA L s hL R vs pT=>?_⟩;refine Pk FA.at_ λo fd ho hd QN DK hk Bi Kn Ko Kq rt aT Bj=>?_;refine yX aT λc oc cvs ct DM MS hc3 hc4=>?_;clear aT;have Bk:vs.length=params.length:=pT.length.trans hlen;haveI MR:((params.zip vs).map (·.1))=params:=List.map_fst_zip (eR Bk.symm);refine codeAny_call_cells (fd:=fd) (body:=body) (vals:=vs) (binds:=params.zip vs) (by have:=hA.2.1;show A.depth<1000;exact aR 0x1d5de9deb620577a77ad8918114600812 rfl this) (R.K f o ho) hd R.nolimit ⟨c,oc,cvs,ct,DM,R.K c oc MS,hc3,hc4⟩ Bi (Bj vs Bk) Kn (rt▸ym FA.nodup FA.pk MR) ?_ QN DK hk;intro s1 X;have Y:=yn (s1:=s1) FA.nodup FA.tE FA.kinds MR hL R pT rfl (rt▸rfl) (λ_=>rt▸rfl) hk Ko Kq X;generalize qz fd s.heap.objs.size f=env at Y ⊢;refine aS (h (hA.deeper env) Y.S Y.F Y.R) (λfl s2 p=>?_) λ_ _ f=>f.elim;obtain⟨g,qx,N2,hf,R2,F2,li,kX⟩:=p;haveI R3:bS Γ (hide L N2) s2:=R2.less (Y.back F2).2;have exN:cl N s.heap N2 s2.heap:=λb o e hn=>by
  haveI hb:aQ env (mR params args) b=none:=by
   cases q:aQ env (mR params args) b with
   |none=>rfl
   |some mo=>exact cy ((Y.dead b (by erw[q];exact nofun)).symm.trans e)
  exact a9 (li b o (Y.kp b o e) (cY.mpr ⟨hb,hn⟩)) λp q=>⟨p,(cY.mp q).2⟩
 have fin:∀(v:al)(x:V),VI s2.heap (hide L N2) v x->(∃v' N',zl x N2 v' N'/\k v' N')->End (hide L) Γ N s.heap k v s2:=λv x hv H=>
  eQ H λv' N' fz hk=>⟨v',N',fz.vi R3 F2.kL hv,R3.less λa mo e=>fz.Bg e,exN.trans (λb o e hn=>⟨e,fz.none hn⟩),hk⟩
 show QM Γ L N s.heap k _ s2;cases hf with
 |next=>exact fin _ _ .none kX
 |brk=>exact kX.elim
 |cont=>exact kX.elim
 |ret v=>exact fin _ _ (v.less (Y.back F2).1) kX
theorem ck(FA:FnAt Γ.K f params body names)(hlen:args.length=params.length)(h:∀G,DB Γ n (rX Γ n 14) 40 names body (params.zip args) N (λG fl ρ N'=>eO k fl ρ.fn N'->G) G->G):aV Γ (n+1) (.ref f) args N k:=(sy FA hlen (Ss h)).call
end
end
section
section
variable {Γ:Cx} {f C:ax}
theorem Lv.made(h:Lv (n+1) A)(vals:List al):Lv n (A.under (.builtin "type.__call__" ⟨.ref C::vals,[]⟩)):=by
 refine ez h λh1 h2 h3=>?_;clear h;refine⟨h1,?_,?_⟩
 ·erw[depth_under_kw];exact aR 0x1d5de9deb624604424600577a77ad8918114600812 rfl h2
 ·have:(A.under (.builtin "type.__call__" ⟨.ref C::vals,[]⟩)).units=A.units+1:=rfl;erw[this];exact aR 0x1d59eadea5e96145e9eb4550ab4600567ab7a97a58517a7ad1551802ac12 rfl h3
theorem mS{L:ax->Bool}(h:L a=false):hide L (N.put a mo)=(hide L N).put a mo:=by
 funext b
 by_cases e:b=a
 ·subst e;erw[mw h,aL.bH,aL.bH]
 ·erw[aL.bE e];unfold hide;erw[aL.bE e]
theorem call_cls{n:Nat}{args:List V}{N:aL}{k:KV}(hm:makesIn Γ.K C=true)(hi:cR Γ.K (.ref C) "__init__"=some (some (.ref f)))(W9:typeIn Γ.K (.ref f)=some (.type "function"))(hk:xg Γ.K (.ref C)=true)
  (h:∀a dx,N a=none->N dx=none->a≠dx->nE Γ n (.ref f) (.obj a C dx::args) (N.put dx (.at (λ_=>none) 0)) λx N'=>x=.none/\k (.obj a C dx) N'):nE Γ (n+1) (.ref C) args N k:=by
 exists Γ,f,C,n,args,N,k;refine⟨hk,λA hA L s hL R vs pT=>?_⟩;revert hA hL R;exists A,L,s,vs;obtain⟨hp,g,d,tk,os⟩:=s;exists hp,g,d,tk,os;haveI X:Γ.K.In hp:=R.K;haveI FJ:hp.get? hp.objs.size=none:=cN _;haveI hz:(hp.push fB).objs.size=hp.objs.size+1:=eT ..;haveI Py:(hp.push fB).get? (hp.objs.size+1)=none:=by rw[<-hz];exact cN _
 haveI QO:hp.get? (hp.objs.size+1)=none:=by
  cases e:hp.get? (hp.objs.size+1) with
  |none=>rfl
  |some o=>rw[ai _ e]at Py;cases Py
 have o1:=co.mp (R.ce FJ);have o2:=co.mp (R.ce QO);haveI dM:hp.objs.size+1≠hp.objs.size:=kA _;haveI kp:∀b o,hp.get? b=some o->((hp.push fB).push (ii C hp.objs.size)).get? b=some o:=λb o e=>ai _ (ai _ e);haveI gD:((hp.push fB).push (ii C hp.objs.size)).get? hp.objs.size=some fB:=ai _ (aB _ rfl);haveI gA:((hp.push fB).push (ii C hp.objs.size)).get? (hp.objs.size+1)=some (ii C hp.objs.size):=by have:=aB (hp.push fB) (o:=ii C hp.objs.size) rfl;rw[hz]at this;exact this
 haveI R1:bS Γ (hide L (N.put hp.objs.size (.at (λ_=>none) 0))) ⟨(hp.push fB).push (ii C hp.objs.size),g,d,tk,os⟩:=by erw[mS o1.1];refine bS.new (t:=tk) R FJ kp ⟨λ_=>none,[],⟨fB,#[],0,gD,rfl,λ_ he=>by simp at he,?_,λ_=>rfl⟩,PySem.Within.nil,by simp,λ_ _=>rfl,λ_ _ e=>by cases e⟩;unfold UniqKeys;exact pN
 haveI eE:cl (hide L N) hp (hide L (N.put hp.objs.size (.at (λ_=>none) 0))) ((hp.push fB).push (ii C hp.objs.size)):=λb o e hn=>by
  refine⟨kp b o e,?_⟩;have:b≠hp.objs.size:=by rintro rfl;rw[FJ]at e;cases e
  erw[mS o1.1,aL.bE this];exact hn
 haveI iA:VI ((hp.push fB).push (ii C hp.objs.size)) (hide L (N.put hp.objs.size (.at (λ_=>none) 0))) (.ref (hp.objs.size+1)) (.obj (hp.objs.size+1) C hp.objs.size):=by refine .obj gA ?_;erw[mS o1.1,aL.bE dM];exact co.mpr o2
 refine make_core (init:=.ref f) (makes_of X hm) (looks_findIn X hi) (λself=>bind_fn X self W9) (.inl rfl) ?_;haveI go:=(h (hp.objs.size+1) hp.objs.size o2.2 o1.2 dM).2 _ (hA.made (C:=C) vs) L ⟨(hp.push fB).push (ii C hp.objs.size),g,d,tk,os⟩ (λa ha=>by
  have:a≠hp.objs.size:=by rintro rfl;rw[o1.1]at ha;cases ha
  erw[aL.bE this];exact hL a ha) R1 (.ref (hp.objs.size+1)::vs) (.cons iA (pT.ext eE))
 refine dJ go λr s' q=>?_;exists r,s';cases r with
 |error e=>exact q.elim
 |ok fl=>
  exists fl;cases fl with
  |ret v=>
   exists v;obtain⟨x,N',hv,R',Fj,rfl,mG⟩:=q;exists N';cases hv;refine⟨rfl,_,N',?_,R',?_,mG⟩
   ·refine a9 (Fj _ _ gA (by erw[aL.bE dM];exact o2.2)) λp q=>?_;exact .obj p (co.mpr ⟨o2.1,q⟩)
   ·intro b o e hn;have:b≠hp.objs.size:=by rintro rfl;rw[FJ]at e;cases e
    exact Fj b o (kp b o e) (by erw[aL.bE this];exact hn)
  |_=>exact q.elim
end
end
section
theorem V6(a b:Nat):(a+b) / 2+(a+b) / 2<=a+b/\a+b<=(a+b) / 2+(a+b) / 2+1:=by have h:=Nat.div_mul_le_self (a+b) 2;have h2:=Nat.lt_mul_div_succ (a+b) (bP 1);rw[Nat.mul_two]at h;rw[Nat.mul_add,Nat.two_mul]at h2;exact⟨h,e9 h2⟩
section
variable {cmp:Nat->Nat->(Bool->aj->Prop)->aj->Prop} {r:Nat->Nat} {n:Nat} {s:aj}
noncomputable def vk(n:Nat)(p:Array Nat):Prop:=p.toList.Perm (aM n)
theorem vk.size(h:vk n p):p.size=n:=by have:=h.length_eq;simpa using this
theorem vk.lt(h:vk n p)(hi:i<n):p.getD i 0<n:=by
 haveI hs:i<p.size:=by erw[h.size];exact hi
 haveI e:p.getD i 0=p[i]:=by simp[gL,hs]
 erw[e];have:p[i]∈p.toList:=by simp
 simpa using h.mem_iff.mp this
theorem vk.rev(h:vk n p)(i j:Nat):vk n (CY p i j):=(x5.mp (mirror_perm p i j _)).trans h
theorem vk.bub(h:vk n p)(i j:Nat):vk n (bubble p i j):=(x5.mp (bubble_perm p i j)).trans h
noncomputable def tF(cmp:Nat->Nat->(Bool->aj->Prop)->aj->Prop)(r:Nat->Nat)(n:Nat)(s:aj):Prop:=∀i j C,i<n->j<n->C (decide (r i<r j)) s->cmp i j C s
theorem tF.by(H:tF cmp r n s){C:Bool->aj->Prop}(hi:i<n)(hj:j<n)(y:r i<r j->C true s)(z:¬r i<r j->C false s):cmp i j C s:=
 H i j C hi hj (by
  by_cases c:r i<r j
  ·erw[decide_eq_true c];exact y c
  ·erw[decide_eq_false c];exact z c)
noncomputable def vl(r:Nat->Nat)(p:Array Nat)(i:Nat):Nat:=r (p.getD i 0)
theorem sA{p q:Array Nat}{i j:Nat}(h:p[i]?=q[j]?):p.getD i 0=q.getD j 0:=by erw[lG,lG,h]
theorem yo{p:Array Nat}{k d:Nat}(hk:k<p.size)(hd:d<=k)(i:Nat):vl r (bubble p k d) i=if i=k-d then vl r p k else if k-d<i/\i<=k then vl r p (i-1) else vl r p i:=by
 haveI e:=getElem?_bubble hk d hd i;unfold vl;split at e
 ·rename_i q;erw[if_pos q,sA e]
 ·rename_i q;erw[if_neg q];split at e
  ·rename_i q;erw[if_pos q,sA e]
  ·rename_i q;erw[if_neg q,sA e]
theorem zq{p:Array Nat}{i j:Nat}(hj:j<=p.size)(k:Nat):vl r (CY p i j) k=if i<=k/\k<j then vl r p (i+j-1-k) else vl r p k:=by
 haveI e:=getElem?_mirror_all (i:=i) hj k;unfold vl CY;split at e
 ·rename_i q;erw[if_pos q,sA e]
 ·rename_i q;erw[if_neg q,sA e]
noncomputable def Up(r:Nat->Nat)(p:Array Nat)(k:Nat):Prop:=∀i j,i<=j->j<k->vl r p i<=vl r p j
noncomputable def Dn(r:Nat->Nat)(p:Array Nat)(k:Nat):Prop:=∀i j,i<=j->j<k->vl r p j<=vl r p i
theorem Up.snoc(h:Up r p k)(e:0<k->vl r p (k-1)<=vl r p k):Up r p (k+1):=λi j mT hj=>by
 by_cases q:j<k
 ·exact h i j mT q
 ·have:j=k:=by exact aR 0x75d60205a5c20574600812 rfl hj q
  subst this;by_cases q2:i=j
  ·subst q2;exact ap _
  ·exact aa (h i (j-1) (by exact aR 0x75d59280205a6020560812 rfl mT q2) (by exact aR 0x75d5c24a009a6020560812 rfl mT q2)) (e (by exact aR 0x75d5c27da6020560812 rfl mT q2))
theorem Dn.snoc(h:Dn r p k)(e:0<k->vl r p k<=vl r p (k-1)):Dn r p (k+1):=λi j mT hj=>by
 by_cases q:j<k
 ·exact h i j mT q
 ·have:j=k:=by exact aR 0x75d60205a5c20574600812 rfl hj q
  subst this;by_cases q2:i=j
  ·subst q2;exact ap _
  ·exact aa (e (by exact aR 0x75d5c27da6020560812 rfl mT q2)) (h i (j-1) (by exact aR 0x75d59280205a6020560812 rfl mT q2) (by exact aR 0x75d5c24a009a6020560812 rfl mT q2))
theorem Kr(H:tF cmp r n s)(P:vk n p){Q:Nat->aj->Prop}(f k:Nat)(hk:1<=k)(hf:k+f<=n)(hu:Up r p k)(q:∀m,k<=m->m<=k+f->Up r p m->(m<k+f->vl r p m<vl r p (m-1))->Q m s):(kas_asc p f k).kasWp cmp Q s:=by
 induction f generalizing k with
 |zero=>exact q k (ap _) (ap _) hu λh=>absurd h (gj _)
 |succ f ih=>refine H.by (P.lt (by exact aR 0x1d5c30560d14600813 rfl hf)) (P.lt (by exact aR 0x1d7570d28015834518020560603 rfl hk hf)) (λc=>q k (ap _) (by exact aR 24486011339794 rfl) hu λ_=>c) λc=>ih (k+1) (by exact aR 5978981889 rfl) (by exact aR 0x1d5834424600560d14600813 rfl hf) (hu.snoc λ_=>dV c) λm h1 h2 h3 h4=>q m (by exact aR 0x1d5820560918012 rfl h1) (by exact aR 0x1d5914600c20564434600813 rfl h2) h3 λh=>h4 (by exact aR 0x1d7574434600815d14600c20564434600813 rfl h2 h)
structure NQ(r:Nat->Nat)(n:Nat)(p:Array Nat)(k q:Nat):Prop where
 ok:vk n p
 kn:k<=n
 qk:q+1<=k
 dn:Dn r p k
 eqs:∀i,k-(q+1)<=i->i<k->vl r p i=vl r p (k-1)
theorem NQ.rev(D:NQ r n p k q)(i:Nat):vl r (CY p (k-(q+1)) k) i=vl r p i:=by
 erw[zq (by erw[D.ok.size];exact D.kn)];split
 ·rename_i h;erw[D.eqs _ (by exact aR 0x1d5920d281105246008149180205b5c10d60d24600813 rfl h) (by exact aR 0x1d5c14834a044149180205b5c10d60d24600813 rfl h),D.eqs i h.1 h.2]
 ·rfl
theorem NQ.next{p:Array Nat}{k q:Nat}(hk:k<n)(P:vk n p)(D:Dn r p k)(c:vl r p k<=vl r p (k-1)):NQ r n p (k+1) 0:=⟨P,hk,by exact aR 24489908863473 rfl,D.snoc λ_=>c,λi h1 h2=>congrArg (vl r p) (by exact aR 0x1d7584a04600425d18010960924607d18012 rfl h1 h2)⟩
theorem NR(H:tF cmp r n s){Q:Array Nat×Nat×Nat->aj->Prop}(f:Nat)(p:Array Nat)(k q:Nat)(hf:k+f<=n)(D:NQ r n p k q)(h:∀p' m q',k<=m->NQ r n p' m q'->Q (p',m,q') s):(kas_desc f p k q).kasWp cmp Q s:=by
 induction f generalizing p k q with
 |zero=>exact h p k q (ap _) D
 |succ f ih=>
  have hk:=D.qk;have hn:k<n:=by exact aR 0x1d5c30560d14600813 rfl hf
  haveI hf:k+1+f<=n:=by exact aR 0x1d5834424600560d14600813 rfl hf
  haveI h':∀p' m q',k+1<=m->NQ r n p' m q'->Q (p',m,q') s:=λp' m q' a b=>h p' m q' (jM a) b;have hm:k-1<n:=by exact aR 0x1d7570d28015814601160d14600814 rfl (by assumption) hk
  refine H.by (D.ok.lt hn) (D.ok.lt hm) (λc=>?_) λc=>H.by (D.ok.lt hm) (D.ok.lt hn) (λ_=>h p k q (ap _) D) λc2=>ih p (k+1) (q+1) hf ⟨D.ok,hn,by exact aR 0x1d5918024604600560918012 rfl hk,D.dn.snoc λ_=>dV c2,λi h1 h2=>?_⟩ h'
  ·show(if q > 0 then kas_desc f (CY p (k-(q+1)) k) (k+1) 0 else kas_desc f p (k+1) 0).kasWp cmp Q s;by_cases hq:q > 0
   ·erw[if_pos hq];haveI ev:=D.rev;exact ih _ (k+1) 0 hf (NQ.next (q:=q) hn (D.ok.rev _ _) (λi j mT hj=>by erw[ev,ev];exact D.dn i j mT hj) (by erw[ev,ev];exact bq c)) h'
   ·erw[if_neg hq];exact ih _ (k+1) 0 hf (NQ.next (q:=q) hn D.ok D.dn (bq c)) h'
  ·haveI eq1:vl r p k=vl r p (k-1):=qr (dV c2) (dV c);show vl r p i=vl r p k;by_cases hi:i=k
   ·erw[hi]
   ·erw[eq1];exact D.eqs i (by exact aR 0x1d5834918020560d24604600918013 rfl h1) (by exact aR 0x75d5c205a6020574600812 rfl h2 hi)
theorem FK(H:tF cmp r n s)(P:vk n p)(h1:1<=k)(hk:k<=n)(D:Dn r p k){Q:Nat×Array Nat->aj->Prop}(h:∀m p',k<=m->m<=n->vk n p'->Up r p' m->Q (m,p') s):
  (kas_tail3 k n p).kasWp cmp Q s:=by
 unfold kas_tail3;erw[k7];refine Kr H (P.rev _ _) (n-k) k h1 (by exact aR 0x1d5824520420560812 rfl hk) (λi j mT hj=>?_) λm a b c _=>h m _ a (by exact aR 0x1d75d5820d64520420435830560813 rfl hk a b) (P.rev _ _) c;erw[zq (by erw[P.size];exact hk),zq (by erw[P.size];exact hk),if_pos ⟨aG _,by exact aR 0x1d7570c15c30960813 rfl mT hj⟩,if_pos ⟨aG _,hj⟩];exact D _ _ (by exact aR 0x1d7564814a04437d20928110df5c30960813 rfl mT hj) (by exact aR 0x1d5c14824a04417d60602 rfl h1)
theorem uj(H:tF cmp r n s)(P:vk n p)(h1:1<=k)(hk:k<n)(D:Dn r p (k+1)){Q:Nat×Array Nat->aj->Prop}(h:∀m p',1<=m->m<=n->vk n p'->Up r p' m->Q (m,p') s):
  (kas_descPart k n p).kasWp cmp Q s:=by
 unfold kas_descPart;erw[k7];refine NR H _ p (k+1) 0 (by exact aR 0x1d5824524600424600570812 rfl hk) ⟨P,hk,by exact aR 24489908863473 rfl,D,λi a b=>?_⟩ λp' m q' a b=>?_
 ·have:i=k:=by exact aR 0x1d7580425d18010960924607d18012 rfl a b
  subst this;rfl
 ·dsimp only;split
  ·refine FK H (b.ok.rev _ _) (by exact aR 0x1d5828160918012 rfl a) b.kn (λi j mT hj=>?_) λm' XD x y z w=>h m' XD (by exact aR 0x1d7560e05830960918013 rfl a x) y z w;erw[b.rev,b.rev];exact b.dn i j mT hj
  ·exact FK H b.ok (by exact aR 0x1d5828160918012 rfl a) b.kn b.dn λm' XD x y z w=>h m' XD (by exact aR 0x1d7560e05830960918013 rfl a x) y z w
theorem Ks(H:tF cmp r n s)(hn:2<=n)(P:vk n p){Q:Nat×Array Nat->aj->Prop}(h:∀m p',1<=m->m<=n->vk n p'->Up r p' m->Q (m,p') s):(kas_count n p).kasWp cmp Q s:=by
 revert H hn P;exists cmp,r,n,s,p,Q;unfold kas_count;erw[k7];haveI u1:Up r p 1:=λi j mT hj=>by
  have:i=j:=by exact aR 0x1d7580815e00960812 rfl mT hj
  subst this;exact ap _
 refine Kr H P (n-1) 1 (ap _) (by exact aR 0x1d5814528018160611 rfl hn) u1 λm a b c d=>?_;split
 ·exact h m p a (by lia) P c
 ·rename_i dM;have fY:m<n:=by have:m≠n:=λq=>dM (by erw[q];exact beq_self_eq_true _);exact Nat.lt_of_le_of_ne (aa b (eR (Nat.add_sub_cancel' (bq hn)))) this
  have hd:=d (by exact aR 0x1d75d5d14a00600970425914a00600960612 rfl hn b fY);split
  ·rename_i hm;refine H _ _ _ (P.lt (by exact aR 32281374098961 rfl hn)) (P.lt (by exact aR 0x1d7570928015c20560602 rfl a fY)) ?_;by_cases c2:vl r p 0<vl r p (m-1)
   ·haveI e:decide (r (p.getD 0 0)<r (p.getD (m-1) 0))=true:=decide_eq_true c2;erw[e];exact h m p a (by exact aR 32264336902162 rfl fY) P c
   ·haveI e:decide (r (p.getD 0 0)<r (p.getD (m-1) 0))=false:=decide_eq_false c2;erw[e];have all:∀i,i<m->vl r p i=vl r p 0:=λi hi=>by haveI h1:=c 0 i (aG _) hi;haveI h2:=c i (m-1) (by exact aR 0x1d7564a00425c10960602 rfl a hi) (by exact aR 0x1d5c14a00560601 rfl a);exact aR 0x75d7580435820d60c16970813 rfl c2 h1 h2
    have ev:∀i,vl r (CY p 0 m) i=vl r p i:=λi=>by
     erw[zq (by erw[P.size];exact aR 32264336902162 rfl fY)];split
     ·rename_i q;erw[all _ (by exact aR 0x1d5c14824a04417d60602 rfl a),all i q.2]
     ·rfl
    refine uj H (P.rev _ _) a fY (Dn.snoc (λi j mT hj=>?_) λ_=>?_) h
    ·erw[ev,ev,all i (by exact aR 0x1d7570c15c30960813 rfl mT hj),all j hj];exact ap _
    ·erw[ev,ev];exact bq hd
  ·rename_i hm;have:m=1:=by exact aR 0x75d62005a5c18160601 rfl a hm
   subst this;refine uj H P (ap _) fY (Dn.snoc (λi j mT hj=>?_) λ_=>bq hd) h;have:i=j:=by exact aR 0x1d7580815e00960812 rfl mT hj
   subst this;exact ap _
theorem Kt(H:tF cmp r n s)(P:vk n p)(hk:k<n)(U:Up r p k){Q:Nat->aj->Prop}(h:∀l,l<=k->(∀i,i<l->vl r p i<=vl r p k)->(∀i,l<=i->i<k->vl r p k<=vl r p i)->Q l s)
  (f l u:Nat) (hf:u-l<=f) (Wm:l<=u) (Su:u<=k) (hl:∀i,i<l->vl r p i<=vl r p k) (hu:∀i,u<=i->i<k->vl r p k<=vl r p i):(Jf p k f l u).kasWp cmp Q s:=by
 induction f generalizing l u with
 |zero=>exact h l (aa Wm Su) hl λi a b=>hu i (by exact aR 0x1d75d5830560c25810967d20813 rfl hf Wm a) b
 |succ f ih=>
  show(if l>=u then .ret l else .ask (p.getD k 0) (p.getD ((l+u) / 2) 0) λc=>if c=true then Jf p k f l ((l+u) / 2) else Jf p k f ((l+u) / 2+1) u:KasT Nat).kasWp cmp Q s;by_cases dM:l>=u
  ·erw[if_pos dM];exact h l (aa Wm Su) hl λi a b=>hu i (aa dM a) b
  ·erw[if_neg dM];haveI e:=V6 l u;generalize (l+u) / 2=m at e ⊢;have e1:=e.1;haveI e2:=e.2;clear e;exact H.by (P.lt hk) (P.lt (by exact aR 0x75d75d5c21564431111456961035810d70815 rfl hk Su dM e1)) (λc=>ih l m (by exact aR 0x75d7560d208459104244411a5820564600d20814 rfl hf dM e1) (by exact aR 0x75d5830564604430d10816960423 rfl dM e2) (by exact aR 0x75d75608459104344411a5830560814 rfl Su dM e1) hl λi a b=>aa (bq c) (U m i a b))
    λc=>ih (m+1) u (by exact aR 0x1d7560d24601015918111044410964600d20814 rfl hf e2) (by exact aR 0x75d7560918035910814430da5810960813 rfl Wm dM e1) Su (λi a=>aa (U i m (e9 a) (by exact aR 0x75d75708459104344411a5830560814 rfl Su dM e1)) (dV c)) hu
theorem QP(H:tF cmp r n s){Q:Array Nat->aj->Prop}(h:∀p,vk n p->Up r p n->Q p s)(f:Nat)(p:Array Nat)(k:Nat)(hf:k+f=n)(P:vk n p)(U:Up r p k):(kas_bin f p k).kasWp cmp Q s:=by
 induction f generalizing p k with
 |zero=>exact h p P ((show k=n from hf)▸U)
 |succ f ih=>
  revert H h ih;exists cmp,r,n,s,Q,f,p,k;show((Jf p k k 0 k).bind λl=>kas_bin f (bubble p k (k-l)) (k+1)).kasWp cmp Q s;erw[k7];refine Kt H P (k:=k) (by exact aR 0x1d5c30580d14600813 rfl hf) U (λl hl h1 h2=>?_) k 0 k (t6 _ _) (aG _) (ap _) (λi a=>absurd a (dh _)) λi a b=>absurd a (xl b);exists l;refine ih _ (k+1) (by exact aR 0x1d6034424600580d14600813 rfl hf) (P.bub _ _) λi j mT hj=>?_;exists i,j;have hk:k<p.size:=by erw[P.size];exact aR 0x1d5c30580d14600813 rfl hf
  erw[yo hk (by exact aR 5910956050 rfl),yo hk (by exact aR 5910956050 rfl)];have ek:k-(k-l)=l:=by exact aR 0x1d6014920420960812 rfl hl
  erw[ek];by_cases ci:i=l
  ·erw[if_pos ci];by_cases cj:j=l
   ·erw[if_pos cj];exact ap _
   ·erw[if_neg cj,if_pos ⟨by exact aR 0x75d7570836980c26030560813 rfl mT ci cj,by exact aR 0x1d5820574600812 rfl hj⟩];exact h2 _ (by exact aR 0x75d7564a00836980c26030560813 rfl mT ci cj) (by exact aR 0x75d75d5c34a009a6040981015d18030960814 rfl mT hj ci cj)
  ·erw[if_neg ci];by_cases cj:j=l
   ·erw[if_pos cj,if_neg (by exact aR 0x1d75d69b58405704360309a6030560814 rfl mT ci cj)];exact h1 i (by exact aR 0x75d7570c160309a6030560813 rfl mT ci cj)
   ·erw[if_neg cj];by_cases di:l<i/\i<=k
    ·erw[if_pos di,if_pos ⟨by exact aR 0x75d7570836d61015c10da6030960814 rfl mT cj di,by exact aR 0x1d5820574600812 rfl hj⟩];exact U _ _ (by exact aR 0x75d7564a00928016d61015c10da6030560814 rfl mT ci di) (by exact aR 0x1d7570928016d60845c40d74600814 rfl hj di)
    ·erw[if_neg di];by_cases dj:l<j/\j<=k
     ·erw[if_pos dj];exact U _ _ (by exact aR 0x1d75d75d59280205b58309708469b5830570446981015d18030960814 rfl mT hj ci di dj) (by exact aR 0x75d75d5c34a009b5830970846981015d18030960814 rfl mT hj ci dj)
     ·erw[if_neg dj];exact U _ _ mT (by exact aR 0x1d75d75708369b5820d70c16980435d18020d60813 rfl hl hj cj dj)
theorem NS(H:tF cmp r n s)(hn:2<=n){Q:Array Nat->aj->Prop}(h:∀p:Array Nat,p.toList.Perm (aM n)->p.toList.Pairwise (λi j=>r i<=r j)->Q p s):(kas_sort n).kasWp cmp Q s:=by
 haveI fin:∀p,vk n p->Up r p n->Q p s:=λp P U=>by
  refine h p P ?_;erw[b8];intro i j hi hj mT;haveI uf:i<p.size:=by simpa using hi
  haveI Z8:j<p.size:=by simpa using hj
  have:=U i j (bq mT) (by rw[<-P.size];exact Z8);unfold vl at this;simpa[gL,uf,Z8]using this
 unfold kas_sort;erw[k7];refine Ks H hn (by unfold vk;simp) λm p' a b c d=>?_;dsimp only;split
 ·have:max m 1=m:=by exact aR 0x1d6014e00560601 rfl a
  erw[this];exact QP H fin _ _ _ (by exact aR 0x1d6024520420570812 rfl (by assumption)) c d
 ·have:m=n:=by exact aR 0x75d60205a5c20560812 rfl b (by assumption)
  subst this;exact fin p' c d
end
theorem DN{α:Type}(lt:α->α->Bool)(irr:∀a,lt a a=false)(tr:∀a b c,lt a b=true->lt b c=true->lt a c=true)(ntr:∀a b c,lt a c=true->lt a b=true\/lt b c=true)(l:List α){a b:α}(ha:a∈l):
  lt a b=decide (l.countP (λx=>lt x a)<l.countP (λx=>lt x b)):=by
 cases h:lt a b with
 |true=>
  symm;erw[decide_eq_true_iff]
  haveI e:l.countP (λx=>lt x a)<=l.countP (λx=>lt x b):=qs λx _ hx=>tr _ _ _ hx h;rcases dQ (l.countP (λx=>lt x a)) (l.countP (λx=>lt x b)) with q |q
  ·exact q
  ·exfalso;haveI key:∀l:List α,a∈l->l.countP (λx=>lt x a)<l.countP (λx=>lt x b):=by
    intro l;induction l with
    |nil=>intro h;cases h
    |cons y r ih=>
     intro hm;erw[List.countP_cons,List.countP_cons];haveI mono:r.countP (λx=>lt x a)<=r.countP (λx=>lt x b):=qs λx _ hx=>tr _ _ _ hx h;rcases aq.mp hm with rfl |hm
     ·erw[if_neg (by erw[irr];simp),if_pos h];exact aR 0x1d5d180245f0560812 rfl mono
     ·have:=ih hm;by_cases hy:lt y a=true
      ·erw[if_pos hy,if_pos (tr _ _ _ hy h)];exact Nat.succ_lt_succ this
      ·erw[if_neg hy];split
       ·exact bZ this
       ·exact this
   have:=key l ha;exact aR 0x1d75d6570815810960812 rfl e q this
 |false=>
  symm;erw[decide_eq_false_iff_not]
  have:l.countP (λx=>lt x b)<=l.countP (λx=>lt x a):=qs λx _ hx=>by
   rcases ntr x a b hx with q |q
   ·exact q
   ·rw[h]at q;cases q
  exact aR 0x75a5c10960812 rfl this
end
section
open PySem.AutoSeq1 (wpAny_loadPart')
open PySem.MeetsSeq PySem.MeetsSeq2 PySem.MeetsSeq3 PySem.SeqRoads2
noncomputable def zr(A:bW)(s:aj)(y x:al)(b:Bool):Prop:=∀(prog:cx)(w:eB)(E:al->aj->Prop)(Q:al->aj->Prop),Q (.bool b) s->am (bB prog w) A (richCompare .Lt y x) Q E s
noncomputable def xE(A:bW)(s:aj)(b fin:Bool):List (al×al)->Prop
 | []=>b=fin
 |(p,q)::r=>(EqAt A s p q true/\xE A s b fin r)\/(EqAt A s p q false/\zr A s p q b)
theorem DO(l b:ax)(items cJ:Array al)(n n2:Nat)(dd NT:Option ax)(sl NU:Array (Option al))(c:Bool):
  Meets (Builtin.«tuple.__lt__» ⟨[.ref l,.ref b],[]⟩)
   (λA R s=>s.heap.get? l=some {cls:=.type "tuple",dict:=dd,data:=.seq items n,slots:=sl}/\s.heap.get? b=some {cls:=.type "tuple",dict:=NT,data:=.seq cJ n2,slots:=NU}/\
    xE A.in1 s c (decide (items.size<cJ.size)) (items.toList.zip cJ.toList)/\R (.ok (.ret (.bool c))) s):=
 .of_wp λprog w A R s h=>by
  exists l,b,items,cJ,n,n2,dd,NT,sl,NU,c,prog,w,A,R,s;obtain⟨hp,g,d,tk,os⟩:=s;exists hp,g,d,tk,os;obtain⟨hl,hb,he,h⟩:=h;haveI f2:=AutoSeq1.sub_tuple_tuple
  wp_walk using wpAny_loadPart' hl,wpAny_loadPart' hb,qA _ (λrest b s'=>b.1=none/\s'=⟨hp,g,d,tk,os⟩/\xE A.in1 ⟨hp,g,d,tk,os⟩ c (decide (items.size<cJ.size)) rest) _
  case turn=>
   rintro⟨y,x⟩ rest b s' ⟨MQ,rfl,hz⟩;rcases hz with⟨e1,hz⟩ |⟨e1,e2⟩
   ·refine af (e1 prog w _ _ ?_)
    wp_walk
    exact⟨rfl,rfl,hz⟩
   ·refine af (e1 prog w _ _ ?_);simp only[yR,if_true];refine af (dZ (af (e2 prog w _ _ ?_)))
    wp_walk
    exact⟨_,rfl,h⟩
  case fin=>
   rintro⟨b1,b2⟩ s' ⟨MQ,rfl,hz⟩;simp only at MQ;subst MQ
   wp_walk
   refine⟨_,rfl,?_⟩;haveI Pu:c=decide (items.size<cJ.size):=hz;show R (.ok (.ret (.bool (decide (items.size<cJ.size))))) _;rw[<-Pu];exact h
  case h=>exact⟨rfl,rfl,he⟩
theorem Hd(l b:ax)(items cJ:Array al)(n n2:Nat)(dd NT:Option ax)(sl NU:Array (Option al))(c:Bool)(k:Nat):
  ∀i:Nat,min items.size cJ.size-i=k->i<=items.size->i<=cJ.size->Meets (Builtin.«list.__eq__.loop» ⟨[.ref l,.ref b,gV i,gV 0],[]⟩)
   (λA R s=>s.heap.get? l=some {cls:=.type "list",dict:=dd,data:=.seq items n,slots:=sl}/\s.heap.get? b=some {cls:=.type "list",dict:=NT,data:=.seq cJ n2,slots:=NU}/\
    xE A.in1 s c (decide (items.size<cJ.size)) ((items.toList.zip cJ.toList).drop i)/\R (.ok (.ret (.bool c))) s):=by
 exists l,b,items,cJ,n,n2,dd,NT,sl,NU,c,k,_;haveI hZ:(items.toList.zip cJ.toList).length=min items.size cJ.size:=by simp
 induction k with
 |zero=>
  intro i hk b1 b2 prog w A R s h;revert hk b1 b2;exists i,prog,w,A,R,s;obtain⟨hp,g,d,tk,os⟩:=s;exists hp,g,d,tk,os;obtain⟨hl,hb,he,h⟩:=h
  wp_walk using wpAny_loadPart' hl,wpAny_loadPart' hb
  rw[CZ (by rw[hZ];exact qB hk)]at he;have Nx:c=decide (items.size<cJ.size):=he;have:items[((i:Nat):Int).toNat]?=none\/cJ[((i:Nat):Int).toNat]?=none:=by
   rcases dQ i items.size with q |q
   ·right;simp;exact aR 0x1d7560c25c10d87d20d40813 rfl hk q
   ·left;simp;exact aR 0x1d7560425810960812 rfl b1 q
  rcases this with q |q
  ·erw[q]
   wp_walk using wpAny_loadPart' hl,wpAny_loadPart' hb
   show R (.ok (.ret (.bool (decide (items.size<cJ.size))))) _;rw[<-Nx];exact h
  ·erw[q];cases items[((i:Nat):Int).toNat]?<;>
   ·wp_walk using wpAny_loadPart' hl,wpAny_loadPart' hb
    show R (.ok (.ret (.bool (decide (items.size<cJ.size))))) _;rw[<-Nx];exact h
 |succ k ih=>
  exists k,_;intro ih;intro i hk b1 b2 prog w A R s h;revert hk b1 b2;exists i,prog,w,A,R,s;obtain⟨hp,g,d,tk,os⟩:=s;exists hp,g,d,tk,os;obtain⟨hl,hb,he,h⟩:=h
  wp_walk using wpAny_loadPart' hl,wpAny_loadPart' hb
  have fY:i<items.size:=by exact aR 0x1d7570435810d84601120d40814 rfl hk b1
  have Bl:i<cJ.size:=by exact aR 0x1d75d7570835c10d60835810d84601120d40814 rfl hk b1 b2 fY
  have TZ:items[((i:Nat):Int).toNat]?=some items[i]:=by simp[fY]
  have IZ:cJ[((i:Nat):Int).toNat]?=some cJ[i]:=by simp[Bl]
  haveI hd:(items.toList.zip cJ.toList).drop i=(items[i],cJ[i])::(items.toList.zip cJ.toList).drop (i+1):=by erw[iP (by rw[hZ];exact Nat.sub_pos_iff_lt.mp (hk▸bP k))];simp
  haveI hc:((i:Int)+1)=((i+1:Nat):Int):=by push_cast;rfl
  rw[hd]at he;erw[TZ,IZ];rcases he with⟨e1,hz⟩ |⟨e1,e2⟩
  ·refine af (e1 prog w _ _ ?_)
   wp_walk
   erw[hc];exact⟨gF plain_eq_loop _,dB entry_eq_loop (by
    erw[cu plain_eq_loop _];exact ih (i+1) ((Nat.sub_succ _ _).trans (congrArg Nat.pred hk)) (by exact aR 0x1d7560918015c20560812 rfl b1 fY) (by exact aR 0x1d7560918015c20560812 rfl b2 Bl) prog w A R _ ⟨hl,hb,hz,h⟩)⟩
  ·refine af (e1 prog w _ _ ?_)
   wp_walk using wpAny_loadPart' hl,wpAny_loadPart' hb
   erw[TZ,IZ];refine af (e2 prog w _ _ ?_)
   wp_walk
   exact h
theorem He(l b:ax)(items cJ:Array al)(n n2:Nat)(dd NT:Option ax)(sl NU:Array (Option al))(c:Bool):
  Meets (Builtin.«list.__lt__» ⟨[.ref l,.ref b],[]⟩)
   (λA R s=>s.heap.get? l=some {cls:=.type "list",dict:=dd,data:=.seq items n,slots:=sl}/\s.heap.get? b=some {cls:=.type "list",dict:=NT,data:=.seq cJ n2,slots:=NU}/\
    xE A.in1 s c (decide (items.size<cJ.size)) (items.toList.zip cJ.toList)/\R (.ok (.ret (.bool c))) s):=by
 exists l,b,items,cJ,n,n2,dd,NT,sl,NU,c;intro prog w A R s h;exists prog,w,A,R,s;obtain⟨hp,g,d,tk,os⟩:=s;exists hp,g,d,tk,os;obtain⟨hl,hb,he,h⟩:=h;have f3:=AutoSeq1.sub_list_list
 wp_walk using wpAny_loadPart' hl,wpAny_loadPart' hb
 exact⟨gF plain_eq_loop _,dB entry_eq_loop (by
  erw[cu plain_eq_loop _];exact Hd l b items cJ n n2 dd NT sl NU c _ 0 rfl (aG _) (aG _) prog w A R _ ⟨hl,hb,he,h⟩)⟩
section
variable {A:bW} {s:aj}
theorem zr.lists(hl:s.heap.get? l=some (listOf items n))(hb:s.heap.get? b=some (listOf cJ n2))(hu:A.units<fW)
  (he:xE A.in1 s c (decide (items.size<cJ.size)) (items.toList.zip cJ.toList)):zr A s (.ref l) (.ref b) c:=λprog w E Q h=>
 richCompare_meets_room (op:=.Lt) ⟨_,hl,rfl⟩ ⟨_,hb,rfl⟩ F.slot_list_lt F.entry_list_lt (F.args_list_lt_2 _ _) (He l b items cJ n n2 none none #[] #[] c)
  ⟨hl,hb,he,show al.bool c≠E3/\Q (.bool c) s from⟨(λx=>nomatch x),h⟩⟩ hu
theorem zr.tuples(hl:s.heap.get? l=some (kK items n))(hb:s.heap.get? b=some (kK cJ n2))(hu:A.units<fW)
  (he:xE A.in1 s c (decide (items.size<cJ.size)) (items.toList.zip cJ.toList)):zr A s (.ref l) (.ref b) c:=λprog w E Q h=>
 richCompare_meets_room (op:=.Lt) ⟨_,hl,rfl⟩ ⟨_,hb,rfl⟩ F.slot_tuple_lt F.entry_tuple_lt (F.args_tuple_lt_2 _ _) (DO l b items cJ n n2 none none #[] #[] c)
  ⟨hl,hb,he,show al.bool c≠E3/\Q (.bool c) s from⟨(λx=>nomatch x),h⟩⟩ hu
end
open Classical in
mutual
noncomputable def V.lt:V->V->Option Bool
 |.int a,.int b=>some (decide (a<b))
 |.str a,.str b=>some (decide (a.cps.toList<b.cps.toList))
 |.tup xs,.tup ys=>V.DP xs ys
 |.lst xs,.lst ys=>V.DP xs ys
 |_,_=>Option.none
noncomputable def V.DP:List V->List V->Option Bool
 | [],[]=>some false
 | [],_::_=>some true
 |_::_,[]=>some false
 |x::xs,y::ys=>if x=y then V.DP xs ys else V.lt x y
end
section
open Classical
theorem DQ(e:x=y):V.DP (x::xs) (y::ys)=V.DP xs ys:=if_pos e
theorem wb(e:¬x=y):V.DP (x::xs) (y::ys)=V.lt x y:=if_neg e
end
section
variable {s:aj} {M:aL}
open Classical in
theorem V.T3(hv:VI s.heap M v x)(hu:VI s.heap M u y)(kx:x.r5=true)(ky:y.r5=true)(room:A.units+x.dep<fW):EqAt A s v u (decide (x=y)):=by
 refine bz (hv.reads kx) λas rv=>?_;refine bz (hu.reads ky) λbs ru=>?_;haveI e:ox x.py y.py=decide (x=y):=by
  haveI q:=V.Da x y kx ky;by_cases h:x=y
  ·erw[decide_eq_true h];exact q.mpr h
  ·erw[decide_eq_false h];exact Bool.eq_false_iff.mpr λz=>h (q.mp z)
 rw[<-e];refine eqAt_reads x.py y.py A s v u as bs rv ru (V.rm x kx) (V.rm y ky) ?_;have:=V.za x;have:=cS x.py.depth y.py.depth;lia
noncomputable def XE(s:aj)(M:aL)(x:V):Prop:=∀A v u y b,VI s.heap M v x->VI s.heap M u y->x.r5=true->y.r5=true->A.units+x.dep<fW->V.lt x y=some b->zr A s v u b
open Classical in
theorem V.DR(H:∀x,x∈xs->XE s M x)(r:ch s.heap M vs xs)(r':ch s.heap M us ys)(k:V.fw xs=true)(k':V.fw ys=true)
  (room:A.units+V.jB xs<fW) (h:V.DP xs ys=some b):xE A s b (decide (vs.length<us.length)) (vs.zip us):=by
 induction xs generalizing vs us ys with
 |nil=>
  refine r.n2 ?_;cases ys with
  |nil=>exact r'.n2 (aA h).symm
  |cons y ys=>exact r'.c2 λ_ _=>(aA h).symm
 |cons x xs ih=>
  refine r.c2 λa r=>?_;cases ys with
  |nil=>exact r'.n2 (aA h).symm
  |cons y ys=>
   refine r'.c2 λ{u us}a' r'=>?_;haveI k:=bo.mp k;haveI k':=bo.mp k';haveI h1:A.units+x.dep<fW:=a6 (bD (lC _ _) _) room;haveI eq:=V.T3 (A:=A) a a' k.1 k'.1 h1;haveI h:(if x=y then V.DP xs ys else V.lt x y)=some b:=h;by_cases q:x=y
   ·rw[if_pos q]at h;rw[decide_eq_true q]at eq;refine .inl ⟨eq,?_⟩;erw[aU,aU,decide_eq_decide.mpr IQ];exact ih (λx m=>H x (.tail _ m)) r r' k.2 k'.2 (a6 (bD (kt _ _) _) room) h
   ·rw[if_neg q]at h;rw[decide_eq_false q]at eq;exact .inr ⟨eq,H x (.head _) A _ u y b a a' k.1 k'.1 h1 h⟩
open Classical in
theorem V.ltAt(x y:V)(hv:VI s.heap M v x)(hu:VI s.heap M u y)(k:x.r5=true)(k':y.r5=true)(room:A.units+x.dep<fW)(h:V.lt x y=some b):zr A s v u b:=by
 refine V.rec (motive_1:=XE s M) (motive_2:=λxs=>∀x,x∈xs->XE s M x)
  (λ_ _ _ _ _ _ _ _ _ _ h=>cy h) (λ_ _ _ _ _ _ _ _ _ _ _ h=>cy h) ?_ ?_ ?_ ?_ (λ_ _ _ _ _ _ _ _ _ _ _ _ _ h=>cy h) (λ_ _ _ _ _ _ _ _ _ _ _ _ _ h=>cy h) (λ_ _ _ _ _ _ _ _ _ _ _ h=>cy h) (λ_ _ _ _ _ _ _ _ _ _ _ h=>cy h)
  (λ_ h=>nomatch h) (λx xs a r y h=>(aq.mp h).elim (λe=>e▸a) (r y)) x A v u y b hv hu k k' room h<;>clear hv hu k k' room h x y A v u b
 ·intro a A v u y b hv hu _ _ _ h;cases y with
  |int c=>exact hv.fX λ_=>hu.fX λ_=>aA h▸λprog w E Q h=>lt_int h
  |_=>exact cy h
 ·intro a A v u y b hv hu _ _ _ h;cases y with
  |str c=>exact hv.oB λ_=>hu.oB λ_=>aA h▸λprog w E Q h=>lt_str h
  |_=>exact cy h
 ·intro xs ih A v u y b hv hu k k' room h;cases y with
  |tup ys=>exact hv.ny λa vs n e _ r=>hu.ny λa' us n' e' _ r'=>zr.tuples e e' (a6 (b7 _ _) room) (V.DR ih (A:=A.in1) r r' k k' (by show A.units+1+V.jB xs<fW;erw[Cp,gU 1];exact room) h)
  |_=>exact cy h
 ·intro xs ih A v u y b hv hu k k' room h;cases y with
  |lst ys=>exact hv.GL λa vs n e _ r=>hu.GL λa' us n' e' _ r'=>zr.lists e e' (a6 (b7 _ _) room) (V.DR ih (A:=A.in1) r r' k k' (by show A.units+1+V.jB xs<fW;erw[Cp,gU 1];exact room) h)
  |_=>exact cy h
theorem V.T4(xs ys:List V)(r:ch s.heap M vs xs)(r':ch s.heap M us ys)(k:V.fw xs=true)(k':V.fw ys=true)
  (room:A.units+V.jB xs<fW) (h:V.DP xs ys=some b):xE A s b (decide (vs.length<us.length)) (vs.zip us):=
 V.DR (λx _ _ _ _ y _ a b c d e f=>V.ltAt x y a b c d e f) r r' k k' room h
end
end
section
noncomputable def nF(a b:List Nat):Bool:=decide (a<b)
theorem DT(a:List Nat):nF a a=false:=decide_eq_false (jy a)
theorem Hf(a b c:List Nat)(h1:nF a b=true)(h2:nF b c=true):nF a c=true:=decide_eq_true (At (of_decide_eq_true h1) (of_decide_eq_true h2))
theorem DU(a b c:List Nat)(h:nF a c=true):nF a b=true\/nF b c=true:=by
 have h:=of_decide_eq_true h;by_cases pV:a<b
 ·exact .inl (decide_eq_true pV)
 ·exact .inr (decide_eq_true (List.lt_of_le_of_lt (Gv.mp pV) h))
section
variable {α:Type}
noncomputable def rk(key:α->List Nat)(l:List α)(i:Nat):Nat:=match l[i]? with
 |some a=>l.countP λx=>nF (key x) (key a)
 |none=>0
theorem Pz(key:α->List Nat)(l:List α)(hi:l[i]?=some a)(hj:l[j]?=some b):decide (rk key l i<rk key l j)=decide (key a<key b):=by unfold rk;erw[hi,hj];dsimp only;have:=DN (λx y:α=>nF (key x) (key y)) (λa=>DT _) (λa b c=>Hf _ _ _) (λa b c=>DU _ _ _) l (a:=a) (b:=b) (a7 hi);exact this.symm
theorem map_getD{β:Type}(l:List β)(d:β):(aM l.length).map (λi=>l.getD i d)=l:=by refine List.ext_getElem ((ag ..).trans aO) λi h1 h2=>?_;erw[vG,je,ar,aE h2];rfl
theorem yp{β:Type}{p:List Nat}{l:List β}(d:β)(hp:p.Perm (aM l.length)):(p.map λi=>l.getD i d).Perm l:=by have h:=hp.map λi=>l.getD i d;rwa[map_getD]at h
theorem uk[Inhabited α](key:α->List Nat){l:List α}{p:List Nat}(hp:p.Perm (aM l.length))(hs:p.Pairwise λi j=>rk key l i<=rk key l j):
  ∃l':List α,l'.Perm l/\l'.Pairwise (λa b=>¬key b<key a)/\l'=p.map λi=>l.getD i default:=by
 refine⟨_,yp default hp,?_,rfl⟩;erw[dK];haveI hm:∀i∈p,i<l.length:=λi hi=>by simpa using hp.mem_iff.mp hi
 refine hs.imp_of_mem λ{i j}hi hj h fY=>?_;haveI ei:l[i]?=some (l.getD i default):=by simp[ar,hm i hi]
 haveI ej:l[j]?=some (l.getD j default):=by simp[ar,hm j hj]
 have:=Pz key l ej ei;rw[decide_eq_true fY]at this;have:=of_decide_eq_true this;lia
theorem ch.perm{h:cg}{M:aL}[Inhabited α]{vs:List al}{l:List α}{g:α->V}(hv:ch h M vs (l.map g)){p:List Nat}(hp:∀i∈p,i<l.length):ch h M (p.map λi=>vs.getD i .none) ((p.map λi=>l.getD i default).map g):=by
 induction p with
 |nil=>exact .nil
 |cons i p ih=>
  haveI hi:=hp i (.head _);haveI e:(l.map g)[i]?=some (g (l.getD i default)):=by erw[aF,ar,aE hi];rfl
  refine aI (hv.get e) λv Px NV=>.cons ?_ (ih λj hj=>hp j (.tail _ hj));haveI e2:vs.getD i .none=v:=by erw[ar,Px];rfl
  show VI h M (vs.getD i .none) _;erw[e2];exact NV
end
noncomputable def Ku(ks:List V):Prop:=(∀x∈ks,∃i,x=.int i)\/(∀x∈ks,∃i r,x=.tup (.int i::r))\/(∀x∈ks,∃c r,x=.tup (.str c::r))
section
variable {prog:cx} {w:eB} {A:bW} {E:al->aj->Prop} {s:aj} {M:aL}
theorem Kv{Q:Bool->aj->Prop}(h:Q c s)(zs:List (al×al))(i:Nat)(e:xE A s c fin zs):KatLex prog w A b fin Q zs (i+1) s:=by
 induction zs generalizing i with
 |nil=>exact(show c=fin from e)▸kat_nil h
 |cons z r ih=>
  rcases(show _\/_ from e) with e |e
  ·exact kat_cons (e.1 prog w _ _ (kat_yes (ih (i+1) e.2)))
  ·refine kat_cons (e.1 prog w _ _ (kat_no ?_));erw[show(b&&(i+1==0))=false from yS b];exact kat_one _ _ (e.2 prog w _ _ h)
open Classical in
theorem Kw{Q:Bool->aj->Prop}(h:Q c s)(hp:VI s.heap M p x)(hq:VI s.heap M q y)(r:ch s.heap M vs xs)(r':ch s.heap M us ys)
  (kx:V.fw (x::xs)=true) (ky:V.fw (y::ys)=true) (room:A.units+V.jB (x::xs)<fW) (hl:V.DP (x::xs) (y::ys)=some c)
  (ho:V.lt x y=some c->am (bB prog w) A (oneLt' b p q) Q (λ_ _=>False) s):KatLex prog w A b (decide ((p::vs).length<(q::us).length)) Q ((p::vs).zip (q::us)) 0 s:=by
 haveI k:=bo.mp kx;haveI k':=bo.mp ky;haveI eq:=V.T3 (A:=A) hp hq k.1 k'.1 (a6 (bD (lC _ _) _) room);by_cases e:x=y
 ·rw[decide_eq_true e]at eq;refine kat_cons (eq prog w _ _ (kat_yes ?_));erw[aU,aU,decide_eq_decide.mpr IQ];exact Kv h _ 0 (V.T4 (A:=A) xs ys r r' k.2 k'.2 (a6 (bD (kt _ _) _) room) ((DQ e).symm.trans hl))
 ·rw[decide_eq_false e]at eq;refine kat_cons (eq prog w _ _ (kat_no ?_));erw[show(b&&(0==0))=b from Bool.and_true b];exact ho ((wb e).symm.trans hl)
theorem Hg(r:ch s.heap M ks xs)(h:xs.length=fs.length)(hp:∀p∈xs.zip fs,∃r,p.1=.tup (p.2::r)):∃vs,KatTups s.heap ks vs/\ch s.heap M vs fs:=by
 exists s,M,ks,xs,fs;refine r.ind (P:=λks xs=>∀fs,xs.length=fs.length->(∀p∈xs.zip fs,∃r,p.1=.tup (p.2::r))->∃vs,KatTups s.heap ks vs/\ch s.heap M vs fs) (λfs h _=>?_) (λ{v x ks xs}e _ ih fs h hp=>?_) fs h hp
 ·cases fs with
  |nil=>exact⟨[],KatTups.nil,.nil⟩
  |cons f fs=>exact nomatch h
 ·cases fs with
  |nil=>exact nomatch h
  |cons f fs=>
   refine bz (hp (x,f) (.head _)) λq hq=>aI (ih fs (cU h) λp IX=>hp p (.tail _ IX)) λvs h1 h2=>?_;obtain rfl:x=.tup (f::q):=hq;exact e.ny λa us n ho _ hv=>hv.ca (P:=λus ys=>ys=f::q->s.heap.get? a=some (kK us.toArray n)->∃ws,KatTups s.heap (.ref a::ks) ws/\ch s.heap M ws (f::fs)) (λe _=>nomatch e)
    (λe1 _ e ho=>⟨_,KatTups.cons ho rfl rfl rfl h1,.cons ((bk e).1▸e1) h2⟩) rfl ho
theorem FL(h:ch s.heap M ks xs)(hx:xs[i]?=some x):VI s.heap M (ks.getD i .none) x:=by
 refine aI (h.get hx) λv h1 h2=>?_;have:ks.getD i .none=v:=by simp[ar,h1]
 erw[this];exact h2
theorem Bm(h:V.fw xs=true)(hx:x∈xs):x.r5=true:=dX.mp h x hx
theorem Kx(hx:x∈xs):x.dep<=V.jB xs:=en.mp (ap _) x hx
theorem yq{α:Type}{l:List α}{f:α->V}{key:α->List Nat}{ks:List al}{κ:SortKind}(hv:ch s.heap M ks (l.map f))(fY:∀a∈l,∀b∈l,V.lt (f a) (f b)=some (decide (key a<key b)))
  (core:∀u1 u2 x y c(C:Bool->aj->Prop),VI s.heap M u1 x->VI s.heap M u2 y->x∈l.map f->y∈l.map f->V.lt x y=some c->C c s->am (bB prog w) A (keyLt' κ u1 u2) C (λ_ _=>False) s):tF (kas_ask prog w A κ ks) (rk key l) l.length s:=λi j C hi hj hC=>by
 have at_:∀{i:Nat}(hi:i<l.length),(l.map f)[i]?=some (f l[i]):=λhi=>by erw[aF,aE hi];rfl
 rw[Pz key l (aE hi) (aE hj)]at hC;exact core _ _ _ _ _ _ (FL hv (at_ hi)) (FL hv (at_ hj)) (a7 (at_ hi)) (a7 (at_ hj)) (fY _ (du hi) _ (du hj)) hC
theorem QQ{ι:Type}(g:ι->V){xs:List V}(K:∀x∈xs,∃i r,x=.tup (g i::r)):∃fs:List V,xs.length=fs.length/\(∀p∈xs.zip fs,∃r,p.1=V.tup (p.2::r))/\∀x∈fs,∃i,x=g i:=by
 induction xs with
 |nil=>exact⟨[],rfl,nofun,nofun⟩
 |cons x xs ih=>refine qv (K x (.head _)) λi r e=>cQ (ih λx hx=>K x (.tail _ hx)) λfs a b c=>?_;exact⟨g i::fs,congrArg Ac a,cO.mpr ⟨⟨r,e⟩,b⟩,cO.mpr ⟨⟨i,rfl⟩,c⟩⟩
theorem Bn{ι α:Type}(g:ι->V){T:al}{l:List α}{f:α->V}{key:α->List Nat}{ks:List al}{Q:SortKind->aj->Prop}(hL:∀v i,VI s.heap M v (g i)->Looks (bB prog w) s.heap (typeOf v) T)(hT:(T==T)=true)(tr:(T != e8 "tuple")=true)
  (one:∀u1 u2 i j c(C:Bool->aj->Prop),VI s.heap M u1 (g i)->VI s.heap M u2 (g j)->V.lt (g i) (g j)=some c->C c s->am (bB prog w) A (oneLt' true u1 u2) C (λ_ _=>False) s)
  (hu:A.units+160<=fW) (h2:0<l.length) (hv:ch s.heap M ks (l.map f)) (ok:V.fw (l.map f)=true) (dp:V.jB (l.map f)<=150)
  (fY:∀a∈l,∀b∈l,V.lt (f a) (f b)=some (decide (key a<key b))) (K:∀x∈l.map f,∃i r,x=.tup (g i::r))
  (q:∀κ,tF (kas_ask prog w A κ ks) (rk key l) l.length s->Q κ s):am (bB prog w) A (keyKind' ks.toArray) Q E s:=by
 refine cQ (QQ g K) λfs Z9 hf2 Z'=>?_;refine aI (Hg hv Z9 hf2) λvs t1 t2=>?_;refine kat_kind (T:=T) t1 (by rw[t2.length,<-Z9,ag];exact h2) (λv hv=>?_) hT (q _ (yq hv fY λu1 u2 x y c C va vb hx hy h hC=>?_))
 ·refine aI (t2.mem hv) λd hd hi=>?_;refine bz (Z' d hd) λi aT=>?_;obtain rfl:=aT;exact hL _ _ hi
 ·haveI ka:=Bm ok hx;haveI kb:=Bm ok hy;haveI da:=aa (Kx hx) dp;refine qv (K _ hx) λx xr aT=>?_;obtain rfl:=aT;refine qv (K _ hy) λy yr aT=>?_;obtain rfl:=aT;refine va.ny λa1 w1 n1 e1 _ r1=>?_;refine vb.ny λa2 w2 n2 e2 _ r2=>?_;cases r1 with |cons r1 s1=>
  cases r2 with |cons r2 s2=>
  refine kat_lt e1 rfl e2 rfl ?_;erw[tr];exact Kw hC r1 r2 s1 s2 ka kb (aY (aY (Nat.add_lt_add_left (Nat.lt_of_succ_le da) _) (bD (by decide:150<=160) _)) hu) h λSv=>one _ _ _ _ _ _ r1 r2 Sv hC
theorem Hh{α:Type}{l:List α}{f:α->V}{key:α->List Nat}{ks:List al}{Q:SortKind->aj->Prop}(hu:A.units+160<=fW)(h2:2<=l.length)(hv:ch s.heap M ks (l.map f))(ok:V.fw (l.map f)=true)(dp:V.jB (l.map f)<=150)
  (fY:∀a∈l,∀b∈l,V.lt (f a) (f b)=some (decide (key a<key b))) (K:Ku (l.map f))
  (q:∀κ,tF (kas_ask prog w A κ ks) (rk key l) l.length s->Q κ s):am (bB prog w) A (keyKind' ks.toArray) Q E s:=by
 have lkI:∀v i,VI s.heap M v (.int i)->Looks (bB prog w) s.heap (typeOf v) (.type "int"):=λv i h=>by refine h.fX λt=>?_;exact Looks.now
 rcases K with K |K |K
 ·refine kas_kind (T:=.type "int") (by erw[hv.length,ag];exact h2) (λv hx=>?_) (by decide) (by decide) (q _ (yq hv fY λu1 u2 x y c C va vb hx hy h hC=>?_))
  ·refine aI (hv.mem hx) λd hd hi=>?_;refine bz (K d hd) λi aT=>?_;obtain rfl:=aT;exact lkI _ _ hi
  ·refine bz (K _ hx) λx aT=>?_;obtain rfl:=aT;refine bz (K _ hy) λy aT=>?_;obtain rfl:=aT;refine va.fX λt=>?_;refine vb.fX λt'=>?_;cases h;exact kat_lt_int hC
 ·exact Bn V.int (T:=.type "int") lkI (by decide) (by decide) (λu1 u2 i j c C va vb h hC=>by
   refine va.fX λt=>?_;refine vb.fX λt'=>?_;cases h;exact oneLt_int hC) hu (aY (by decide) h2) hv ok dp fY K q
 ·exact Bn V.str (T:=.type "str") (λv i h=>by refine h.oB λt=>?_;exact Looks.now) (by decide) (by decide) (λu1 u2 i j c C va vb h hC=>by
   refine va.oB λt=>?_;refine vb.oB λt'=>?_;cases h;exact oneLt_str hC) hu (aY (by decide) h2) hv ok dp fY K q
end
end
section
structure jj{α:Type}(l:List α)(f:α->V)(key:α->List Nat):Prop where
 len:l.length<64
 ok:V.fw (l.map f)=true
 dp:V.jB (l.map f)<=150
 lt:∀a∈l,∀b∈l,V.lt (f a) (f b)=some (decide (key a<key b))
 kind:Ku (l.map f)
section
variable {prog:cx} {w:eB} {A:bW} {E:al->aj->Prop} {s:aj} {M:aL}
theorem yt{α:Type}[Inhabited α]{l:List α}{f fk:α->V}{key:α->List Nat}{vs ks:List al}{T:PUnit×SortSt->Sem Au}{P:Au->aj->Prop}(hu:A.units+160<=fW)(S:jj l fk key)(hv:ch s.heap M vs (l.map f))(o7:ch s.heap M ks (l.map fk))
  (fin:∀(yu:SortSt)(p:List Nat),p.Perm (aM l.length)->p.Pairwise (λi j=>rk key l i<=rk key l j)->(arrOf yu).map (·.2)=bp (p.map λi=>vs.getD i al.none)->E4 yu=none->am (bB prog w) A (T ((),yu)) P E s):
  am (bB prog w) A (if vs.toArray.size<2 then(do
   let kind <-pure general';let x <-(if vs.toArray.size<2 then pure () else sortRuns').run (Gw kind (ks.toArray.zip vs.toArray) #[] 7 none)
   T x)
  else(do
   let kind <-keyKind' ks.toArray;let x <-(if vs.toArray.size<2 then pure () else sortRuns').run (Gw kind (ks.toArray.zip vs.toArray) #[] 7 none)
   T x)) P E s:=by
 have hlen:vs.length=l.length:=hv.length.trans (ag ..);have Nu:ks.length=vs.length:=(o7.length.trans (ag ..)).trans hlen.symm;have yv:vs.length<64:=by erw[hlen];exact S.len
 by_cases h2:vs.toArray.size<2
 ·erw[if_pos h2,if_pos h2];refine af (ah ?_);erw[StateT.run_pure];refine af (ah ?_);have Bo:l.length<2:=by rw[<-hlen];simpa using h2
  refine fin (Gw general' (ks.toArray.zip vs.toArray) #[] 7 none) (aM l.length) (IR _) ?_ ?_ rfl
  ·erw[b8];intro i j hi hj mT;simp at hi hj;exact aR 0x1d75d75d75d5871970855c20d71435c41571035e10980817 rfl hlen Bo (by assumption) (by assumption) mT hi hj
  ·show((ks.toArray.zip vs.toArray).map (·.2))=_;rw[<-hlen,map_getD];refine Array.toList_inj.mp ?_;erw[Array.toList_map,Array.toList_zip];exact List.map_snd_zip (eR Nu.symm)
 ·erw[if_neg h2,if_neg h2];have Bo:2<=vs.length:=by simpa using h2
  refine af (Hh (M:=M) hu (by exact aR 0x1d7560a15818580812 rfl hlen Bo) o7 S.ok S.dp S.lt S.kind λκ H=>?_);have H':(kas_sort vs.length).kasWp (kas_ask prog w A κ ks) (λp s'=>s'=s/\p.toList.Perm (aM l.length)/\p.toList.Pairwise (λi j=>rk key l i<=rk key l j)) s:=by erw[hlen];exact NS H (by exact aR 0x1d7560a15818580812 rfl hlen Bo) λp a1 a2=>⟨rfl,a1,a2⟩
  refine af (aS (kat_run (E:=λ_ _=>False) (Q:=λyu s'=>∃p:Array Nat,p.toList.Perm (aM l.length)/\p.toList.Pairwise (λi j=>rk key l i<=rk key l j)/\arrOf yu=p.map (kas_item (ks.toArray.zip vs.toArray))/\E4 yu=none/\s'=s)
   Nu Bo yv (λp' yu s' a1 a2 a3 a4=>⟨p',a4.2.1,a4.2.2,a2,a3,a4.1⟩) H') ?_ λ_ _ e=>e.elim)
  rintro⟨⟨⟩,yu⟩ s' ⟨p,a1,a2,a3,a4,rfl⟩;exact fin yu p.toList a1 a2 (kat_snds Nu a3) a4
theorem wc{α:Type}[Inhabited α]{l:List α}{f:α->V}{key:α->List Nat}{a:ax}{vs:List al}{n:Nat}{P:Fin->aj->Prop}(hu:A.units+160<=fW)(S:jj l f key)
  (ho:s.heap.get? a=some (listOf vs.toArray n)) (ha:M a≠none) (hv:ch s.heap M vs (l.map f))
  (h:∀(l':List α)ul h' e,l'.Perm l->l'.Pairwise (λx y=>¬key y<key x)->(∀b o,b≠a->s.heap.get? b=some o->h'.get? b=some o)->h'.get? a=some (listOf (bp ul) e)->ch s.heap M ul (l'.map f)->P (.done (.ret .none)) {s with heap:=h'}):
  am (bB prog w) A (Builtin.«list.sort» ⟨[.ref a],[]⟩) P E s:=by
 revert α l f key;exists prog,w,A,E,s,M,a,vs,n,P;have hlen:vs.length=l.length:=by erw[hv.length];simp
 have yv:vs.length<64:=by erw[hlen];exact S.len
 haveI r6:a<s.heap.objs.size:=bO ho;erw[list_sort_plain];refine af (listItems_at ho rfl ?_);refine af (lM ho rfl ?_ (by erw[dI,bF];exact aR 0x1d59e7de7de7de7de7ef05779f8c11 rfl yv) (aG _));obtain⟨e1,Bp⟩:∃e1,(s.heap.update a (bV λ_=>(#[]:Array al))).get? a=some (dS "list" #[] e1):=⟨_,dW ho (λ_=>#[])⟩
 refine af (Av Bp rfl ?_);refine af (E5 ?_ (by show vs.length<=_;erw[bF];exact aR 0x1d59e7de7de7de7de7ef05779f8c11 rfl yv));refine af (vH ?_ (aG _));refine aZ ?_;show am (bB prog w) A _ P E {s with heap:=((s.heap.update a (bV λ_=>(#[]:Array al))).push (dS "tuple" vs.toArray 0)).push (dS "list" #[] 0)};dsimp only;generalize hh3:((s.heap.update a (bV λ_=>(#[]:Array al))).push (dS "tuple" vs.toArray 0)).push (dS "list" #[] 0)=h3;haveI we:∀b o,b≠a->s.heap.get? b=some o->h3.get? b=some o:=λb o dM e=>by rw[<-hh3];refine ai _ (ai _ ?_);erw[cE _ _ _ _ dM];exact e
 have XF:h3.get? a=some (dS "list" #[] e1):=by rw[<-hh3];exact ai _ (ai _ Bp)
 haveI uW:cl M s.heap M h3:=λb o e hn=>⟨we b o (by rintro rfl;exact ha hn) e,hn⟩
 haveI hv3:=hv.ext uW;haveI fin:∀(yu:SortSt)(p:List Nat),p.Perm (aM l.length)->p.Pairwise (λi j=>rk key l i<=rk key l j)->(arrOf yu).map (·.2)=bp (p.map λi=>vs.getD i al.none)->E4 yu=none->
   am (bB prog w) A (do
    let touched:=(<-seqEpoch a) != e1
    Builtin.List.listUpdate (.ref a) λ_=>(arrOf yu).map (·.2)
    if let some e:=E4 yu then rule "list.sort.comparison-raised";throw e
    if touched then rule "list.sort.modified";raiseError "ValueError" "list modified during sort"
    ret .none) P E {s with heap:=h3}:=by
  intro yu p hp hs Wn hf;refine cQ (uk key hp hs) λl' g1 g2 g3=>?_;refine af (Av XF rfl ?_);refine af (lM XF rfl ?_ (aG _) (by erw[Wn,dI,ag,hp.length_eq,aO,bF];have:=S.len;exact aR 0x1d75646079f79f79f79f79fbc25de7e30580812 rfl hlen yv));erw[hf];simp only[bne_self_eq_false,bc,if_false];erw[Wn];haveI Bq:∀i∈p,i<l.length:=λi hi=>by simpa using hp.mem_iff.mp hi
  refine ah (h l' (p.map λi=>vs.getD i al.none) _ _ g1 g2 (λb o dM e=>?_) (dW XF _) ?_)
  ·erw[cE _ _ _ _ dM];exact we b o dM e
  ·erw[g3];exact ch.perm hv Bq
 exact yt (s:={s with heap:=h3}) hu S hv3 hv3 fin
end
end
section
noncomputable def mz(xs:Array Nat):Prop:=∀i k,i<k->k<xs.size->xs.getD i 0<xs.getD k 0
theorem wg:j9 xs=true↔mz xs:=by
 exists xs;unfold j9 mz;erw[dm];constructor
 ·intro h i k Hi hk;induction k with
  |zero=>exact aR 32281789430803 rfl Hi
  |succ k ih=>
   haveI h1:=h k (by simp;exact aR 0x1d5d28020570918012 rfl hk);haveI h1:xs.getD k 0<xs.getD (k+1) 0:=by simpa using h1
   by_cases e:i=k
   ·subst e;exact h1
   ·exact bK (ih (by exact aR 0x75d5c205a6020574600812 rfl Hi e) (by exact aR 0x1d5c20570918012 rfl hk)) h1
 ·intro h i hi;have:i+1<xs.size:=by simp at hi;exact aR 0x1d5c24600574a00812 rfl hi
  simpa using h i (i+1) (by exact aR 6247416849 rfl) this
theorem DV(xs:Array Nat)(j f lo hi:Nat):gq xs j (f+1) lo hi=if lo<hi then(if xs.getD ((lo+hi) / 2) j<j then gq xs j f ((lo+hi) / 2+1) hi else gq xs j f lo ((lo+hi) / 2)) else lo:=rfl
theorem Ky(R:mz xs)(f lo hi:Nat)(hf:hi-lo<=f)(hl:lo<=hi)(hs:hi<=xs.size)(h1:∀k,k<lo->xs.getD k 0<j)(h2:∀k,hi<=k->k<xs.size->j<=xs.getD k 0):
  gq xs j f lo hi<=xs.size/\(∀k,k<gq xs j f lo hi->xs.getD k 0<j)/\∀k,gq xs j f lo hi<=k->k<xs.size->j<=xs.getD k 0:=by
 revert R;exists xs,j,f,lo,hi;induction f generalizing lo hi with
 |zero=>exact⟨aa hl hs,h1,λk a b=>h2 k (aa (qB (IS.mp hf)) a) b⟩
 |succ f ih=>
  erw[DV];by_cases fY:lo<hi
  ·erw[if_pos fY];haveI e:=V6 lo hi;generalize (lo+hi) / 2=m at e ⊢;haveI e1:=e.1;haveI e2:=e.2;clear e;have AP:m<xs.size:=by exact aR 0x1d75d7570c45910814441170815830960814 rfl hl hs fY e1
   haveI eg:xs.getD m j=xs.getD m 0:=by unfold gL;erw[dif_pos AP,dif_pos AP]
   erw[eg];by_cases hm:xs.getD m 0<j
   ·erw[if_pos hm];refine ih _ hi (by exact aR 0x1d7560d24601015918111044410964600d20814 rfl hf e2) (by exact aR 0x1d75d5824600d64420510c35c20560813 rfl hl fY e1) hs (λk hk=>?_) h2;exact(fR (e9 hk)).elim (λg=>bK (R k m g AP) hm) λe=>e▸hm
   ·erw[if_neg hm];refine ih lo m (by exact aR 0x1d75d5834821164410911045c10964600d20814 rfl hf fY e1) (by exact aR 0x1d7560c15918110c34420570813 rfl fY e2) (bq AP) h1 λk Ak kX=>?_;exact(fR Ak).elim (λg=>aa (dV hm) (bq (R m k g kX))) λe=>e▸dV hm
  ·erw[if_neg fY];exact⟨aa hl hs,h1,λk a b=>h2 k (aa (dV fY) a) b⟩
theorem lp(R:mz xs)(j:Nat):bw xs j<=xs.size/\(∀k,k<bw xs j->xs.getD k 0<j)/\∀k,bw xs j<=k->k<xs.size->j<=xs.getD k 0:=Ky R xs.size 0 xs.size (by exact aR 5910985745 rfl) (by exact aR 1443313 rfl) (ap _) (λk hk=>by exact aR 32281789430803 rfl hk) λk h1 h2=>by exact aR 0x1d7561035c10960814 rfl h1 h2
theorem Br(R:mz xs)(hi:i<xs.size):bw xs (xs.getD i 0+1)=i+1:=by
 revert R;exists xs,i;refine ez (lp R (xs.getD i 0+1)) λb1 b2 b3=>?_;rcases jN (bw xs (xs.getD i 0+1)) (i+1) with h |h |h
 ·have:=b3 i (by exact aR 0x1d5820574600812 rfl h) hi;exact aR 0x1d6118030960518013 rfl this
 ·exact h
 ·have:=b2 (i+1) h;have:=R i (i+1) (by exact aR 6247416849 rfl) (by exact aR 0x1d75d5c24600570d18015820d70813 rfl hi b1 h);exact aR 0x1d7584601035c10974600814 rfl (by assumption) this
theorem DW(R:mz xs):bw xs 0=0:=by
 refine ez (lp R 0) λb1 b2 b3=>?_;rcases Nat.eq_zero_or_pos (bw xs 0) with h |h
 ·exact h
 ·have:=b2 0 h;exact aR 32306485492754 rfl this
theorem gH{α:Type}(xs:Array α)(p:Nat)(x:α):(cW xs p x).toList=xs.toList.take p++x::xs.toList.drop p:=by unfold cW;simp[Array.toList_extract,List.extract_eq_take_drop];exact ef (by simp)
theorem qG{xs:Array Nat}{p x:Nat}(hp:p<=xs.size)(k:Nat):(cW xs p x).getD k 0=if k<p then xs.getD k 0 else if k=p then x else xs.getD (k-1) 0:=by
 revert hp;exists xs,p,x,k;haveI e:(cW xs p x)[k]?=(xs.toList.take p++x::xs.toList.drop p)[k]?:=by rw[<-gH,be]
 have l:(xs.toList.take p).length=p:=by simp;exact aR 0x1d6015020560812 rfl hp
 haveI g:∀(ys:Array Nat)(i:Nat),ys.getD i 0=(ys[i]?).getD 0:=λys i=>by erw[lG]
 erw[g,e];split
 ·rename_i h;erw[f7 (by exact aR 0x1d7570435c20d80813 rfl l h),Aw h,g,be]
 ·rename_i h;split
  ·rename_i h2;subst h2;erw[ml (by exact aR 32264336967698 rfl l),l,u7];rfl
  ·rename_i h2;erw[ml (by exact aR 0x1d75d58305a6020da5c20d80813 rfl l h h2),l];obtain⟨m,hm⟩:∃m,k-p=m+1:=⟨k-p-1,by exact aR 0x1d7584604a04820520816980816970812 rfl h h2⟩
   erw[hm,Cy,Jg,g,be];have:p+m=k-1:=by exact aR 0x1d75d6128014430984600d20816980816970813 rfl h h2 hm
   erw[this]
theorem mA{α:Type}(xs:Array α)(x:α)(hp:p<=xs.size):(cW xs p x).size=xs.size+1:=by have:=congrArg cB (gH xs p x);simp at this;exact aR 0x1d7584600836114604810940810d60813 rfl hp this
theorem Bs(R:mz xs)(hj:xs[bw xs j]?≠some j):mz (cW xs (bw xs j) j):=by
 revert R;exists xs,j;refine ez (lp R j) λb1 b2 b3=>?_;generalize bw xs j=p at *;exists p;intro i k Hi hk;exists i,k;rw[mA xs j b1]at hk;erw[qG b1,qG b1];haveI lt:∀k,p<=k->k<xs.size->j<xs.getD k 0:=λk h1 h2=>by
  haveI h3:=b3 k h1 h2;rcases fR h3 with h |h
  ·exact h
  ·exfalso;by_cases e:k=p
   ·subst e;apply hj;have:xs[k]?=some xs[k]:=by simp[h2]
    erw[this,h];simp[gL,h2]
   ·haveI q1:=R p k (by exact aR 0x75d5c205a6010960812 rfl h1 e) h2;haveI q2:=b3 p (ap _) (by exact aR 0x75d75d5c205a6010d70835830560813 rfl b1 h1 h2 e);exact aR 0x1d75d6560c15c20d80813 rfl h q1 q2
 by_cases hi:i<p
 ·erw[if_pos hi];by_cases kX:k<p
  ·erw[if_pos kX];exact R i k Hi (by exact aR 0x1d75d5c20d70435d18020d60813 rfl b1 hk kX)
  ·erw[if_neg kX];split
   ·exact b2 i hi
   ·have:=b2 i hi;have:=b3 (k-1) (by exact aR 0x1d75d59280309a6020da5c20d70813 rfl hi kX (by assumption)) (by exact aR 0x1d75d5c24a00d70445d18020d60814 rfl b1 hk hi);exact aR 0x1d7570c15830970813 rfl (by assumption) this
 ·haveI k1:¬k<p:=by exact aR 0x1d75a5c309a5c30570813 rfl Hi hi
  haveI k2:¬k=p:=by exact aR 0x1d75a60309a5c30570813 rfl Hi hi
  by_cases XG:i=p
  ·erw[if_neg hi,if_pos XG,if_neg k1,if_neg k2];exact lt (k-1) (by exact aR 0x1d7564a00426980816970812 rfl k1 k2) (by exact aR 0x1d75d7570928036980436970435d18020d60813 rfl b1 hk k1 k2)
  ·erw[if_neg hi,if_neg XG,if_neg k1,if_neg k2];exact R (i-1) (k-1) (by exact aR 0x1d75d75d5d28024a005a60305a60309a5c309a5c30570813 rfl Hi hi k1 k2 XG) (by exact aR 0x1d75d7570928036980436970435d18020d60813 rfl b1 hk k1 k2)
theorem nG(n:Nat):mz (Array.range n):=by
 intro i k Hi hk;haveI mG:k<n:=by simpa using hk
 haveI uf:i<n:=by exact aR 0x1d7570c15c30970813 rfl Hi mG
 simp[gL,mG,uf,Hi]
theorem DX{t:cw}{j:Nat}(h:t.slot j=.empty):t.place[bw t.place j]?≠some j:=by intro e;unfold qC at h;dsimp only at h;rw[e]at h;simp at h
end
section
structure kG(t:cw)(n:Nat)(b:Bool):Prop where
 fits:t.fits n=true
 rise:mz t.place
 Sw:t.dummies=#[]
 led:t.led=b
theorem pe{t:cw}(h:t.dummies=#[])(j:Nat):t.slot j≠.dummy:=by
 revert h;exists t,j;intro e;unfold qC at e;dsimp only at e;split at e
 ·cases e
 ·rw[h]at e;simp[yT]at e
theorem wh{t:cw}(hd:t.dummies=#[]){ha:Nat->Int}{h:Int}(f:Nat)(p:oN){j:Nat}{d:Option Nat}(hp:p.dummy=none)(e:dO t ha h f p=some (.empty j d)):t.slot j=.empty/\d=none:=by
 induction f generalizing p with
 |zero=>exact pS e.symm
 |succ f ih=>
  revert hd ih;exists t,ha,h,j,d,f,p;haveI e:(match t.slot p.j with |.empty=>some (.empty p.j p.dummy) |.dummy=>dO t ha h f (t.advance {p with dummy:=some p.j}) |.live i=>if ha i==h then some (.candidate p.j i (t.advance p)) else dO t ha h f (t.advance p):Option cw.Met)=some (.empty j d):=e;cases hs:t.slot p.j with
  |empty=>rw[hs]at e;haveI e:=cw.Met.empty.inj (aA e);exact⟨e.1▸hs,e.2▸hp⟩
  |dummy=>exact absurd hs (pe hd _)
  |live i=>
   rw[hs]at e;haveI e:(if(ha i==h)=true then some (.candidate p.j i (t.advance p)) else dO t ha h f (t.advance p):Option cw.Met)=some (.empty j d):=e;by_cases c:(ha i==h)=true
   ·rw[if_pos c]at e;exact nomatch (aA e)
   ·rw[if_neg c]at e;refine ih _ ?_ e;unfold Gx;split<;>exact hp
theorem wi{t:cw}(hd:t.dummies=#[]){h:Int}{j:Nat}{wd:Bool}(e:t.freeSlot h=some (j,wd)):t.slot j=.empty/\wd=false:=by
 revert hd;exists t,h,j,wd;unfold cw.freeSlot at e;split at e
 ·rename_i j' d hp;have e:=Prod.mk.inj (aA e);refine a9 (wh hd _ _ rfl hp) λh1 h2=>?_;subst h2;exact⟨e.1▸h1,e.2.symm⟩
 ·exact pS e.symm
theorem FM{t:cw}(hd:t.dummies=#[])(j:Nat):(t.put j).1.dummies=#[]:=by unfold cw.put;dsimp only;erw[hd];simp[yT]
theorem NW{t:cw}{n:Nat}(h:mz t.place):mz (t.orStandIn n).place:=by
 unfold qZ;split
 ·exact h
 ·exact nG _
theorem QR{t:cw}{n:Nat}(h:t.dummies=#[]):(t.orStandIn n).dummies=#[]:=by
 unfold qZ;split
 ·exact h
 ·rfl
theorem QS{t:cw}{n:Nat}:(t.orStandIn n).led=t.led:=by unfold qZ;split<;>rfl
theorem DY{t:cw}{es:Array (Int×al)}{b:Bool}(T:kG t es.size b)(h:Int)(x:al):kG (layNew t es h x).2.1 (es.size+1) b/\(layNew t es h x).2.2.1=false:=by
 revert T;exists t,es,b,h,x;have hf:=layNew_fits t es h x;have hs:(layNew t es h x).1.size=es.size+1:=by have:=(layNew_perm t es h x).length_eq;simpa using this
 rw[hs]at hf;refine⟨⟨hf,?_,?_,?_⟩,?_⟩
 all_goals
  unfold layNew;split
  ·rename_i slot wd e;refine a9 (wi T.Sw e) λh1 h2=>?_;dsimp only
   first
    |exact NW (Bs T.rise (DX h1))
    |exact QR (FM T.Sw _)
    |exact QS.trans T.led
    |exact h2
  ·first |exact nG _ |rfl |exact T.led
theorem Hj(f:Nat->Option (Nat×Nat))(hf:∀j p,f j=some p->p.1=j)(a n:Nat):(((Gy a n).filterMap f).map (·.1)).Pairwise (· <·)/\∀x∈((Gy a n).filterMap f).map (·.1),a<=x:=by
 induction n generalizing a with
 |zero=>exact⟨.nil,nofun⟩
 |succ n ih=>
  refine a9 (ih (a+1)) λh1 h2=>?_;have h3:∀x∈((Gy (a+1) n).filterMap f).map (·.1),a<=x:=λx hx=>jM (h2 x hx);erw[List.range'_succ];cases e:f a with
  |none=>erw[List.filterMap_cons_none e];exact⟨h1,h3⟩
  |some p=>erw[List.filterMap_cons_some e,aP,hf a p e];exact⟨dc.mpr ⟨h2,h1⟩,cO.mpr ⟨ap _,h3⟩⟩
theorem tG{l:List Nat}(h:l.Pairwise (· <·)):mz l.toArray:=by
 intro i k Hi hk;haveI mG:k<l.length:=by simpa using hk
 haveI uf:i<l.length:=by exact aR 0x1d7570c15c30970813 rfl Hi mG
 have:=b8.mp h i k uf mG Hi;simpa[gL,mG,uf]using this
theorem Kz{mask finger moves:Nat}{led plain:Bool}{hs:Array Int}{t:cw}{o:Array Nat}(e:xu mask finger moves led plain hs=some (t,o)):mz t.place/\t.dummies=#[]/\t.led=led:=by
 unfold xu at e;cases q:cw.layClean mask hs with
 |none=>rw[q]at e;simp at e
 |some owner=>
  rw[q]at e;simp only[Option.bind_eq_bind,nq,Option.pure_def,As,gQ]at e;refine a9 e λaT il=>?_;clear e;obtain rfl:=aT;clear il;refine⟨?_,rfl,rfl⟩;dsimp only;refine tG ?_;erw[List.range_eq_range'];refine(Hj _ (λj p hp=>?_) 0 (mask+1)).1;cases r:owner.getD j none with
  |none=>rw[r]at hp;simp at hp
  |some k=>rw[r]at hp;simp at hp;rw[<-hp]
theorem zt{t:cw}{es:Array (Int×al)}{b:Bool}(T:kG t es.size b)(wanted:Nat):kG (lU t es wanted).2.1 es.size b:=by
 revert T;exists t,es,b,wanted;haveI hf:=relayAll_fits t es wanted;haveI hs:(lU t es wanted).1.size=es.size:=by have:=(relayAll_perm t es wanted).length_eq;simpa using this
 rw[hs]at hf;haveI key:mz (lU t es wanted).2.1.place/\(lU t es wanted).2.1.dummies=#[]/\(lU t es wanted).2.1.led=b:=by
  unfold lU;split
  ·rename_i t' order e;dsimp only;have:=Kz (show xu _ _ _ _ _ _=some (t',order) from e);split
   ·exact⟨this.1,this.2.1,this.2.2.trans T.led⟩
   ·exact⟨nG _,rfl,T.led⟩
  ·exact⟨nG _,rfl,T.led⟩
 exact⟨hf,key.1,key.2.1,key.2.2⟩
theorem kG.KA(T:kG t n b):kG {t with plain:=false} n b:=⟨cw.fits_plain_off T.fits,T.rise,T.Sw,T.led⟩
noncomputable abbrev iS(es:List (Int×al))(ep:Nat)(t:cw):Obj:={cls:=.type "set",data:=.set es.toArray ep t}
theorem ry{h:cg}{a:ax}{es es':List (Int×al)}{ep:Nat}{t t':cw}(ho:h.get? a=some (iS es ep t)):(h.update a (t7 es'.toArray t')).get? a=some (iS es' (ep+1) t'):=by have:=fQ (t7 es'.toArray t') ho (by erw[putSet_of es'.toArray t' rfl];rfl);rw[putSet_of es'.toArray t' rfl]at this;exact this
section
variable {prog:cx} {w:eB} {A:bW} {E:al->aj->Prop} {s:aj} {K:Type} [DecidableEq K] {knd:KeyKind prog w K}
theorem Bt{g:Bool->Sem Unit}(hg:∀(b:Bool)(fJ:aj)(Q':Unit->aj->Prop),Q' () fJ->am (bB prog w) A (g b) Q' E fJ)
  {a:ax} {es es1:List (Int×al)} {ep:Nat} {t t2:cw} {b:Bool} (ho:s.heap.get? a=some (iS es ep t)) (zu:es1.length<Jh) (T:kG t2 es1.length b) {wj:Bool} {R:Option Bool->aj->Prop}
  (h:∀h' Hk iz t',bu a s.heap h'->h'.get? a=some (iS Hk iz t')->Hk.Perm es1->kG t' Hk.length b->R (some true) {s with heap:=h'}):
  am (bB prog w) A (do
    storeSet a es1.toArray t2
    if(!wj&&t2.tooFull)=true then do
      g (lU t2 es1.toArray (g9 es1.toArray.size)).2.2
      storeSet a (lU t2 es1.toArray (g9 es1.toArray.size)).1 (lU t2 es1.toArray (g9 es1.toArray.size)).2.1
      pure (some true)
     else pure (some true)) R E s:=by
 refine af (x6 ho rfl ?_ (fits_of_scanBound (by simpa using zu)));haveI Bp:=ry (es':=es1) (t':=t2) ho;have T5:=bX s.heap a (t7 es1.toArray t2);split
 ·haveI hp:=relayAll_perm t2 es1.toArray (g9 es1.toArray.size);haveI CH:=zt (es:=es1.toArray) (by simpa using T) (g9 es1.toArray.size);generalize XH:lU t2 es1.toArray (g9 es1.toArray.size)=Rl at hp CH ⊢;obtain⟨Hk,t3,aad⟩:=Rl;dsimp only at hp CH ⊢;obtain⟨Hk,rfl⟩:∃l:List (Int×al),Hk=l.toArray:=⟨Hk.toList,by simp⟩
  haveI hp:Hk.Perm es1:=by simpa using hp
  have hl:=hp.length_eq;refine af (hg _ _ _ ?_);refine af (x6 Bp rfl ?_ (fits_of_scanBound (by simp;lia)));exact ah (h _ Hk _ t3 (T5.trans (bX _ a _)) (ry Bp) hp (by erw[hl];simpa using CH))
 ·exact ah (h _ es1 _ t2 T5 Bp (IR _) T)
theorem KC{a:ax}{es:List (Int×al)}{ep:Nat}{t:cw}{b:Bool}{k:K}{x:al}{Q:Bool->aj->Prop}(kj:knd.is k x=true)(ze:x.scannable=true)(ho:s.heap.get? a=some (iS es ep t))
  (NX:ElemsOf knd es) (zu:es.length+1<Jh) (T:kG t es.length b) (h0:(∃e∈es,knd.is k e.2=true)->Q false s)
  (h1:(∀e∈es,knd.is k e.2=false)->∀h' es' iz t',bu a s.heap h'->h'.get? a=some (iS es' iz t')->es'.Perm (es++[(knd.hash k,x)])->kG t' es'.length b->Q true {s with heap:=h'}):
  am (bB prog w) A (rW a x (knd.hash k)) Q E s:=by
 revert K knd k;exists prog,w,A,E,s,a,es,ep,t,b,x,Q;have hb:es.length<Jh:=by lia
 have hf:t.fits es.toArray.size=true:=by simpa using T.fits
 unfold rW setAddHashedIn;refine aZ (af (dP ho rfl hf ?_));dsimp only;erw[byScan_of (knd:=knd) ze (by simpa using hb) (by simpa using NX)];simp only[↓reduceIte];unfold setAddByScan;refine af ?_;refine af (dZ ?_);refine af (wpAny_setScan_of kj ho rfl hf (by simpa using NX) ?_);cases hr:List.findIdx? (λe=>knd.is k e.2) es.toArray.toList with
 |some j=>dsimp only;refine aI (List.findIdx?_eq_some_iff_getElem.mp hr) λhj hpj _=>?_;exact ah (ah (h0 ⟨_,by simpa using du hj,hpj⟩))
 |none=>
  dsimp only;haveI uT:∀e∈es,knd.is k e.2=false:=λe he=>Ae.mp hr e (by simpa using he);haveI hgw:∀(b:Bool){fJ:aj}{Q':Unit->aj->Prop},Q' () fJ->am (bB prog w) A (match b with |true=>rule "set.scan.the-table-gave-way" |false=>pure ()) Q' E fJ:=λb fJ Q' hq=>by cases b<;>first |exact ah hq |exact dZ hq
  have wk:=layNew_perm t es.toArray (knd.hash k) x;haveI QT:=(DY (t:=t) (es:=es.toArray) (by simpa using T) (knd.hash k) x).1;generalize hL:layNew t es.toArray (knd.hash k) x=L at wk QT ⊢;obtain⟨es1,t1,wj,XI⟩:=L;revert K knd k;exists es1,t1,wj,XI;dsimp only at wk QT ⊢;obtain⟨es1,rfl⟩:∃l:List (Int×al),es1=l.toArray:=⟨es1.toList,by simp⟩
  revert K knd k;exists es1;have wk:es1.Perm (es++[(knd.hash k,x)]):=by simpa using wk
  haveI hl:=wk.length_eq;rw[an,List.length_singleton]at hl;haveI T1:kG t1 es1.length b:=by erw[hl];simpa using QT
  refine af (hgw _ ?_);split
  ·refine af ?_;erw[hashByValue_scannable 8 ze];refine ah ?_;refine Bt (b:=b) ?_ ho (es1:=es1) (by lia) ?_ ?_
   ·intro b fJ Q' hq;cases b<;>first |exact ah hq |exact dZ hq
   ·split
    ·exact T1
    ·exact T1.KA
   ·intro h' Hk iz t' uU vc hp T';dsimp only;exact ah (h1 uT h' Hk iz t' uU vc (hp.trans wk) T')
  ·refine af (ah ?_);simp only[↓reduceIte];refine Bt (b:=b) ?_ ho (es1:=es1) (by lia) T1 ?_
   ·intro b fJ Q' hq;cases b<;>first |exact ah hq |exact dZ hq
   ·intro h' Hk iz t' uU vc hp T';dsimp only;exact ah (h1 uT h' Hk iz t' uU vc (hp.trans wk) T')
end
end
section
noncomputable def pos(h:Int):Nat->Nat×Nat
 |0=>(mn h % 8,mn h)
 |k+1=>cw.leap 7 (pos h k).1 (pos h k).2
noncomputable def DZ(h:Int)(k:Nat):oN:={j:=(pos h k).1,more:=0,i:=(pos h k).1,perturb:=(pos h k).2,dummy:=none}
theorem FN(i:Nat):IT 7 i=i:=by unfold IT;erw[if_neg (by exact aR 452742717457 rfl)]
theorem Bu{t:cw}(hm:t.mask=7)(h:Int):t.probeStart h=DZ h 0:=by unfold cw.probeStart DZ pos;simp only[hm,FN,u7]
theorem KD{t:cw}(hm:t.mask=7)(h:Int)(k:Nat):t.advance (DZ h k)=DZ h (k+1):=by unfold Gx;erw[if_neg (by simp[DZ])];simp only[hm,DZ,pos,FN,u7]
theorem KE(h:Int)(k:Nat):(pos h k).2=mn h / 32 ^ k:=by
 induction k with
 |zero=>exact(Nat.div_one _).symm
 |succ k ih=>show(pos h k).2 / 32=_;erw[ih,Nat.div_div_eq_div_mul,pO]
theorem NY(h:Int):mn h<2 ^ 64:=by unfold mn;have h1:=x7 h (b:=(2 ^ 64:Int)) (by decide);have h2:=t8 h (b:=(2 ^ 64:Int)) (by decide);lia
theorem KF(h:Int)(hk:13<=k):(pos h k).2=0:=by
 erw[KE];refine Nat.div_eq_of_lt (aY (NY h) ?_)
 calc 2 ^ 64<=32 ^ 13:=by decide
  _<=32 ^ k:=rY (by decide) hk
theorem QU(h:Int)(k:Nat):(pos h k).1<8:=by
 cases k with
 |zero=>exact Ai _ (by decide)
 |succ k=>exact Ai _ (by decide)
theorem lq(h:Int)(hk:13<=k):(pos h (k+1)).1=((pos h k).1*5+1) % 8:=by simp only[pos,cw.leap];erw[KF h hk]
theorem tH{α:Type}[DecidableEq α]{l m:List α}(hn:l.Nodup)(hs:∀x∈l,x∈m):l.length<=m.length:=by
 induction l generalizing m with
 |nil=>exact aG _
 |cons x l ih=>refine a9 (bt.mp hn) λh1 h2=>?_;haveI hx:=hs x (.head _);haveI h:=ih (m:=m.erase x) h2 λy hy=>(List.mem_erase_of_ne λ(e:y=x)=>h1 (e▸hy)).mpr (hs y (.tail _ hy));rw[Ax hx]at h;exact aa (aw h) (eR (Nat.succ_pred_eq_of_pos (oQ hx)))
theorem KH(h:Int)(l:List Nat)(hl:l.length<8):∃k,k<=20/\(pos h k).1∉l:=by
 exists h,l;refine de λuT=>?_;haveI all:∀k,k<=20->(pos h k).1∈l:=λk hk=>de λq=>uT ⟨k,hk,q⟩;haveI p0:=QU h 13;haveI e1:=lq h (k:=13) (by exact aR 1487552 rfl);haveI e2:=lq h (k:=14) (by exact aR 1488576 rfl);haveI e3:=lq h (k:=15) (by exact aR 1489600 rfl);haveI e4:=lq h (k:=16) (by exact aR 1490624 rfl);haveI e5:=lq h (k:=17) (by exact aR 1491648 rfl);haveI e6:=lq h (k:=18) (by exact aR 1492672 rfl);haveI e7:=lq h (k:=19) (by exact aR 1493696 rfl);haveI gS:8<=l.length:=tH (l:=[(pos h 13).1,(pos h 14).1,(pos h 15).1,(pos h 16).1,(pos h 17).1,(pos h 18).1,(pos h 19).1,(pos h 20).1]) ?_ λx hx=>?_
 ·exact xl hl gS
 ·rw[e7,e6,e5,e4,e3,e2,e1];generalize (pos h 13).1=x at p0;have:∀x,x<8->[x,(x*5+1) % 8,((x*5+1) % 8*5+1) % 8,(((x*5+1) % 8*5+1) % 8*5+1) % 8,((((x*5+1) % 8*5+1) % 8*5+1) % 8*5+1) % 8,(((((x*5+1) % 8*5+1) % 8*5+1) % 8*5+1) % 8*5+1) % 8,((((((x*5+1) % 8*5+1) % 8*5+1) % 8*5+1) % 8*5+1) % 8*5+1) % 8,(((((((x*5+1) % 8*5+1) % 8*5+1) % 8*5+1) % 8*5+1) % 8*5+1) % 8*5+1) % 8].Nodup:=by decide
  exact this x p0
 ·exact aI (ak.mp (show x∈[13,14,15,16,17,18,19,20].map λk=>(pos h k).1 from hx)) λk m e=>e▸all k ((by decide:∀k∈[13,14,15,16,17,18,19,20],k<=20) k m)
theorem Hl(h:Int)(l:List Nat)(hl:l.length<8):∃e,e<=20/\(pos h e).1∉l/\∀k,k<e->(pos h k).1∈l:=by
 exists h,l;have key:∀n,(∃k,k<=n/\(pos h k).1∉l)->∃e,e<=n/\(pos h e).1∉l/\∀k,k<e->(pos h k).1∈l:=by
  intro n;induction n with
  |zero=>
   rintro⟨k,hk,hn⟩;have:k=0:=by exact aR 32306481232913 rfl hk
   subst this;exact⟨0,ap _,hn,λk hk=>absurd hk (dh _)⟩
  |succ n ih=>
   rintro⟨k,hk,hn⟩;by_cases q:∃k,k<=n/\(pos h k).1∉l
   ·refine cQ (ih q) λe a b c=>?_;exact⟨e,by exact aR 0x1d5918020560812 rfl a,b,c⟩
   ·have mG:k=n+1:=by
     by_cases z:k<=n
     ·exact absurd ⟨k,z,hn⟩ q
     ·exact aR 0x75d61180205a5820564600812 rfl hk z
    subst mG;exact⟨n+1,ap _,hn,λk hk=>de λz=>q ⟨k,by exact aR 0x1d5820574600812 rfl hk,z⟩⟩
 exact key 20 (KH h l hl)
theorem FO{t:cw}(R:mz t.place)(hd:t.dummies=#[])(j:Nat):(∃i,t.place[i]?=some j/\t.slot j=.live i)\/(j∉t.place.toList/\t.slot j=.empty):=by
 revert R hd;exists t,j;by_cases e:t.place[bw t.place j]?=some j
 ·refine .inl ⟨_,e,?_⟩;unfold qC;dsimp only;erw[e];simp
 ·refine .inr ⟨λhm=>e ?_,?_⟩
  ·obtain⟨i,hi,PA⟩:=sf hm;haveI uf:i<t.place.size:=by simpa using hi
   refine ez (lp R j) λb1 b2 b3=>?_;haveI gi:t.place.getD i 0=j:=by simp[gL,uf];simpa using PA
   have:bw t.place j=i:=by
    rcases jN (bw t.place j) i with q |q |q
    ·haveI h1:=b3 _ (ap _) (by exact aR 0x1d75d5c20d70435820d70813 rfl uf b1 q);have h2:=R _ i q uf;exact aR 0x1d75d6051170435830980815 rfl gi h1 h2
    ·exact q
    ·have:=b2 i q;exact aR 0x1d7581035c20580814 rfl gi this
   erw[this];simp[uf];simpa using PA
  ·have:=pe hd j;unfold qC at this ⊢;dsimp only at this ⊢;haveI q:(t.place[bw t.place j]?==some j)=false:=by simpa using e
   rw[q]at this ⊢;erw[hd];simp[yT]
theorem wl{xs:Array Nat}(R:mz xs){i k j:Nat}(hi:xs[i]?=some j)(hk:xs[k]?=some j):i=k:=by
 revert R;exists xs,i,k,j;refine bz (d8.mp hi) λTZ IZ=>?_;refine bz (d8.mp hk) λAk kX=>?_;have e1:xs.getD i 0=j:=by simp[gL,TZ,IZ]
 have e2:xs.getD k 0=j:=by simp[gL,Ak,kX]
 rcases jN i k with h |h |h
 ·have:=R i k h Ak;exact aR 0x1d75d6051170c16020d80815 rfl e1 e2 this
 ·exact h
 ·have:=R k i h TZ;exact aR 0x1d75d6051170436020d80815 rfl e1 e2 this
theorem NZ(t:cw)(ha:Nat->Int)(h:Int)(f k:Nat)(hs:t.slot (pos h k).1=.live i):
  dO t ha h (f+1) (DZ h k)=if ha i==h then some (.candidate (pos h k).1 i (t.advance (DZ h k))) else dO t ha h f (t.advance (DZ h k)):=by
 show(match t.slot (pos h k).1 with |.empty=>_ |.dummy=>_ |.live i=>_)=_;erw[hs];rfl
theorem QV(t:cw)(ha:Nat->Int)(h:Int)(f k:Nat)(hs:t.slot (pos h k).1=.empty):dO t ha h (f+1) (DZ h k)=some (.empty (pos h k).1 none):=by show(match t.slot (pos h k).1 with |.empty=>_ |.dummy=>_ |.live i=>_)=_;erw[hs];rfl
theorem Hm{t:cw}(hm:t.mask=7)(R:mz t.place)(hd:t.dummies=#[]){ha:Nat->Int}{h:Int}{e:Nat}(he:(pos h e).1∉t.place.toList)(ho:∀k,k<e->(pos h k).1∈t.place.toList)
  (f k:Nat) (hk:k<=e) (hf:e-k<f):(∃m i,k<=m/\m<e/\t.place[i]?=some (pos h m).1/\dO t ha h f (DZ h k)=some (.candidate (pos h m).1 i (DZ h (m+1)))/\(∀m',k<=m'->m'<m->∀i',t.place[i']?=some (pos h m').1->ha i'≠h))\/
   (dO t ha h f (DZ h k)=some (.empty (pos h e).1 none)/\(∀m',k<=m'->m'<e->∀i',t.place[i']?=some (pos h m').1->ha i'≠h)):=by
 revert hm R hd he ho;exists t,ha,h,e,f,k;induction f generalizing k with
 |zero=>exact absurd hf (dh _)
 |succ f ih=>
  revert ih;exists f,k;rcases FO R hd (pos h k).1 with⟨i,hi,hs⟩ |⟨hn,hs⟩
  ·exists i;erw[NZ t ha h f k hs,KD hm];have GT:k<e:=(fR hk).resolve_right λq=>he (q▸bz (d8.mp hi) λ_ h2=>h2▸Array.getElem_mem_toList _);by_cases hq:ha i=h
   ·erw[if_pos (beq_iff_eq.mpr hq)];exact .inl ⟨k,i,ap _,GT,hi,rfl,λm' a b=>absurd b (Nat.not_lt_of_le a)⟩
   ·erw[if_neg λc=>hq (beq_iff_eq.mp c)];have ext:∀{m'}{b:Nat},(∀m',k+1<=m'->m'<b->∀i',t.place[i']?=some (pos h m').1->ha i'≠h)->k<=m'->m'<b->∀i',t.place[i']?=some (pos h m').1->ha i'≠h:=λ{m'}{b}g a c i' uf=>
     (fR a).elim (λz=>g m' z c i' uf) λz=>wl R (z.symm▸uf) hi▸hq
    rcases ih (k+1) GT (by exact aR 0x1d75d5c34918010970815d18034810960813 rfl hk hf GT) with⟨m,i',a,b,c,d,g⟩ |⟨a,b⟩
    ·exact .inl ⟨m,i',jM a,b,c,d,λ_ a c=>ext g a c⟩
    ·exact .inr ⟨a,λ_ a c=>ext b a c⟩
  ·obtain rfl:k=e:=(fR hk).resolve_left λq=>hn (ho k q);exact .inr ⟨QV t ha h f k hs,λm' a b=>absurd b (Nat.not_lt_of_le a)⟩
end
section
section
variable {prog:cx} {w:eB} {A:bW} {E:al->aj->Prop} {s:aj}
noncomputable abbrev xF(prog:cx)(w:eB)(h:cg)(k:List PK)(a:ax):Prop:=IsTupleKey (pk prog w) h k a
theorem tI(n:Nat)(h:carriedByValue v=true):oR n v=pure false:=by cases v<;>first |exact iB h |(cases n<;>rfl)
set_option smartUnfolding false in
theorem XJ(a:ax):oR 8 (.ref a)=(do
  match <-typeOf (.ref a) with
  |.type t=>
   let D0 <-if t=="tuple" then pure true else isSubtype (.type t) (.type "tuple")
   if !D0 then return false
   let some items <-Ah (.ref a) |return true
   for y in items do
    if <-oR 7 y then return true
   return false
  |_=>return true):=rfl
theorem sC{Q:Bool->aj->Prop}(hk:xF prog w s.heap k a)(h:Q false s):am (bB prog w) A (oR 8 (.ref a)) Q E s:=by
 exists prog,w,A,E,s,k,a,Q;have hT:=hk.typeIs;refine rh hk λo items n ho _ hd hi=>?_;clear hk;rw[XJ];refine af (kw hT ?_);have e:(("tuple":String)=="tuple")=true:=by decide
 dsimp only;erw[if_pos e];refine af (ah ?_);simp only[kB,bc,if_false];refine af (iV ho hd ?_);dsimp only;refine af ?_;rw[<-lV];refine qA _ (λrest r s'=>r.1=none/\s'=s/\∀v∈rest,carriedByValue v=true) _ ?_ ?_ _ _ ⟨rfl,rfl,hi.byValue⟩
 ·rintro v rest r s' ⟨hr,rfl,pf⟩;erw[tI _ (pf v mj)];refine af (ah ?_);simp only[bc,if_false];exact ah ⟨rfl,rfl,λu XK=>pf u (q8 _ XK)⟩
 ·rintro⟨r1,r2⟩ s' ⟨hr,rfl,_⟩;simp only at hr;subst hr;exact ah h
theorem N6{x:ax}{kx:List PK}{Q:Bool->aj->Prop}(hx:xF prog w s.heap kx x){n8:List al}(hs:∀v∈n8,∃a k,v=.ref a/\xF prog w s.heap k a)(h:Q false s):
  am (bB prog w) A (searchCouldBeSeen (.ref x) n8) Q E s:=by
 revert hx;exists prog,w,A,E,s,x,kx,Q,n8;unfold searchCouldBeSeen;refine af ?_;refine qA _ (λrest r s'=>r.1=none/\s'=s/\∀v∈rest,∃a k,v=.ref a/\xF prog w s.heap k a) _ ?_ ?_ _ _ ⟨rfl,rfl,hs⟩
 ·rintro v rest r s' ⟨hr,rfl,pf⟩;refine eQ (pf v mj) λa k aT hk=>?_;obtain rfl:=aT;haveI T6:∀u∈rest,∃a k,u=.ref a/\xF prog w s'.heap k a:=λu hu=>pf u (q8 _ hu);dsimp only;split
  ·exact ah ⟨rfl,rfl,T6⟩
  ·refine af (wpAny_eqIsQuiet_tuple hx ?_);simp only[kB,bc,if_false];refine af (wpAny_eqIsQuiet_tuple hk ?_);simp only[kB,bc,if_false];refine af (sC hx ?_);simp only[bc,if_false];refine af (sC hk ?_);simp only[bc,if_false];exact ah ⟨rfl,rfl,T6⟩
 ·rintro⟨r1,r2⟩ s' ⟨hr,rfl,_⟩;simp only at hr;subst hr;exact ah h
noncomputable def zv(prog:cx)(w:eB)(h:cg)(es:List (Int×al))(ks:List (List PK)):Prop:=es.length=ks.length/\∀(i:Nat)(e:Int×al)(k:List PK),es[i]?=some e->ks[i]?=some k->∃a,e=((tk prog w).hash k,.ref a)/\xF prog w h k a
theorem zv.at(T:zv prog w h es ks)(hi:i<ks.length):∃a k,es[i]?=some ((tk prog w).hash k,.ref a)/\ks[i]?=some k/\xF prog w h k a:=by revert T;exists prog,w,h,es,ks,i;haveI e1:=aE (T.1▸hi:i<es.length);haveI e2:=aE hi;exact aI (T.2 i _ _ e1 e2) λa h1 h2=>⟨a,_,e1.trans (congrArg some h1),e2,h2⟩
noncomputable def MK(es:List (Int×al))(i:Nat):Int:=(es.toArray[i]?.map (·.1)).getD 0
theorem Bv{β:Type}{k:PUnit->Sem β}{Q:β->aj->Prop}(hm:∀{Q':Bool->aj->Prop},Q' false s->am M A m Q' E s)(hk:am M A (k ⟨⟩) Q E s):
  am M A (if c=true then m >>= λb=>if b=true then u >>= k else k ⟨⟩ else k ⟨⟩) Q E s:=by
 cases c with
 |true=>exact af (hm hk)
 |false=>exact hk
theorem Hn{a x:ax}{es:List (Int×al)}{ks:List (List PK)}{ep:Nat}{t:cw}{kx:List PK}{e:Nat}{Q:SetFound->aj->Prop}(hu:A.units<fW)(ho:s.heap.get? a=some (iS es ep t))(hm:t.mask=7){b:Bool}(T:kG t es.length b)
  (I:zv prog w s.heap es ks) (hx:xF prog w s.heap kx x) (KI:e<=20) (he:(pos ((tk prog w).hash kx) e).1∉t.place.toList) (Ho:∀k,k<e->(pos ((tk prog w).hash kx) k).1∈t.place.toList)
  (KJ:kx∈ks->Q (.there none) s) (fuel k:Nat) (yw:Option oN) (hk:k<=e) (hf:e-k<fuel) (gf:yw.getD (t.probeStart ((tk prog w).hash kx))=DZ ((tk prog w).hash kx) k)
  (PB:(∀m,k<=m->m<e->∀(i:Nat),t.place[i]?=some (pos ((tk prog w).hash kx) m).1->ks[i]?≠some kx)->Q (.free (pos ((tk prog w).hash kx) e).1 false) s):
  am (bB prog w) A (setSearchFrom a (.ref x) ((tk prog w).hash kx) true fuel yw) Q E s:=by
 revert hu ho hm T I hx KI he Ho KJ k yw;exists prog,w,A,E,s,a,x,es,ks,ep,t,kx,e,Q,b,fuel;exists k,yw;haveI rp:t.fits es.toArray.size=true:=T.fits;have fY:∀{i j:Nat},t.place[i]?=some j->i<ks.length:=λ{i j}h=>by haveI f:=T.fits;simp only[mq,iG,beq_iff_eq]at f;exact bz (d8.mp h) λq _=>by rw[<-I.1,<-f.1];exact q
 haveI Wo:∀{i:Nat}{ky:List PK}{y:ax},es[i]?=some ((tk prog w).hash ky,.ref y)->MK es i=(tk prog w).hash ky:=λ{i ky y}h=>by show((es.toArray[i]?.map (·.1)).getD 0)=_;erw[E6,h];rfl
 have no:∀{m i:Nat},(∀i',t.place[i']?=some (pos ((tk prog w).hash kx) m).1->MK es i'≠(tk prog w).hash kx)->t.place[i]?=some (pos ((tk prog w).hash kx) m).1->ks[i]?≠some kx:=λ{m i}g h e=>
  fc (I.at (fY h)) λy ky h1 h2 _=>g i h (aA (h2.symm.trans e)▸Wo h1)
 induction fuel generalizing k yw with
 |zero=>exact absurd hf (dh _)
 |succ fuel ih=>
  revert ih;exists fuel,k,yw;refine af (dP ho rfl rp (wpAny_ite_false (by unfold cw.gaveWay;erw[hm];rfl) ?_));unfold cw.probe;erw[gf];rcases Hm (t:=t) hm T.rise T.Sw he Ho (10*cw.turns t.mask) k hk (by erw[hm];exact a6 (t6 _ _) (a6 KI (by decide))) with⟨m,i,m1,m2,m3,m4,m5⟩ |⟨m1,m2⟩
  ·erw[m4];refine fc (I.at (fY m3)) λy ky XM MU hy3=>?_;revert m1 m2 m3 m4 m5;exists m,i,y,ky;haveI ey:es.toArray[i]?=some ((tk prog w).hash ky,eI y):=by erw[E6];exact XM
   refine Bv (λq=>N6 hx (λv hv=>?_) q) ?_
   ·refine iu hv λp hp=>?_;obtain⟨j,hj,rfl⟩:=sf (List.mem_toArray.mp (Array.mem_filter.mp (EX.mp hp)).1);refine fc (I.at (i:=j) (I.1▸hj)) λy' ky' z1 z2 z3=>?_;rw[aE hj]at z1;exact⟨y',ky',congrArg uI (aA z1),z3⟩
   ·erw[ey];refine af (aZ (wpAny_eqBool_tuple hu hy3 hx (af (dP ho rfl rp ?_))));by_cases hq:ky=kx
    ·erw[decide_eq_true hq];exact ah (KJ (hq▸a7 MU))
    ·erw[decide_eq_false hq];haveI Tq:t.slot (pos ((tk prog w).hash kx) m).1=.live i:=by
      rcases FO T.rise T.Sw (pos ((tk prog w).hash kx) m).1 with⟨i2,q1,q2⟩ |⟨q1,q2⟩
      ·erw[q2,wl T.rise q1 m3]
      ·exact absurd (Ho m m2) q1
     refine wpAny_ite_false rfl ?_;erw[show t.sameMemory t.moves t.mask=some true from if_pos (beq_self_eq_true _)];dsimp only;erw[if_pos rfl,Tq];dsimp only;erw[ey];dsimp only;erw[show isSame (.ref y) (.ref y)=pure true by unfold isSame;simp];refine af (ah (af (ah ?_)));refine ih (m+1) (some (DZ ((tk prog w).hash kx) (m+1))) m2 (by exact aR 0x1d75d7570d24601025c21161015d18034810960814 rfl hk hf m1 m2) rfl λuT=>PB λm' a1 a2 i'=>?_;rcases jN m' m with z |z |z
     ·exact no (m5 m' a1 z)
     ·exactλuf mG=>hq (aA (MU.symm.trans (wl T.rise (z▸uf) m3▸mG)))
     ·exact uT m' z a2 i'
  ·erw[m1];exact ah (PB λm' a1 a2 i'=>no (m2 m' a1 a2))
end
end
section
noncomputable def uY(k:List PK):V:=.tup (k.map PK.v)
theorem um(hv:VI h M v k.v):PK.is k v=true:=AL hv (by cases k<;>rfl)
section
variable {prog:cx} {w:eB} {A:bW} {E:al->aj->Prop} {s:aj} {M:aL}
theorem zw(r:ch h M vs (k.map PK.v)):ItemsAre (pk prog w) k vs:=by
 induction k generalizing vs with
 |nil=>exact r.n2 .nil
 |cons x k ih=>exact r.c2 λa r=>.cons (um a) (ih r)
theorem wm(hv:VI h M v (uY k)):∃a,v=.ref a/\xF prog w h k a:=(show VI h M v (.tup (k.map PK.v)) from hv).ny λa _ _ e _ r=>⟨a,rfl,_,_,_,e,rfl,rfl,zw r⟩
noncomputable def Reach(prog:cx)(w:eB)(t:cw)(ks:List (List PK)):Prop:=∀(i:Nat)(k:List PK),ks[i]?=some k->∃m,t.place[i]?=some (pos ((tk prog w).hash k) m).1/\∀m',m'<m->(pos ((tk prog w).hash k) m').1∈t.place.toList
noncomputable def QW(prog:cx)(w:eB)(h:cg)(M:aL)(S:ax)(ks:List (List PK))(b:Bool):Prop:=∃(es:List (Int×al))(ep:Nat)(t:cw),h.get? S=some (iS es ep t)/\t.mask=7/\kG t es.length b/\
 es.map (·.1)=ks.map (tk prog w).hash/\ch h M (es.map (·.2)) (ks.map uY)/\ks.Nodup/\Reach prog w t ks
theorem Hp(h1:es.map (·.1)=ks.map (tk prog w).hash)(h2:ch h M (es.map (·.2)) (ks.map uY)):zv prog w h es ks:=by refine⟨(ag ..).symm.trans ((congrArg cB h1).trans (ag ..)),λi e k he hk=>?_⟩;haveI e1:(es.map (·.1))[i]?=(ks.map _)[i]?:=congrArg (·[i]?) h1;rw[aF,aF,he,hk]at e1;refine aI (h2.get (k:=i) (d:=uY k) (by erw[aF,hk];rfl)) λv v1 v2=>?_;rw[aF,he]at v1;exact aI (wm (prog:=prog) (w:=w) v2) λa ha mG=>⟨a,Prod.ext (aA e1) ((aA v1).trans ha),mG⟩
theorem Bw(n:Nat)(h:PK.is k v=true):∃b,hashByValue n v=pure b:=by
 cases k with
 |i m=>refine bz (dF (k:=m) h) λt aT=>?_;obtain rfl:=aT;exact⟨true,by cases n<;>rfl⟩
 |s x=>refine bz (cT (x:=x) h) λt aT=>?_;obtain rfl:=aT;exact⟨false,by cases n<;>rfl⟩
theorem zx(h:ItemsAre (pk prog w) k vs):∀v∈vs,∃q,PK.is q v=true:=by
 induction h with
 |nil=>intro v hv;cases hv
 |cons h1 _ ih=>
  intro v hv;rcases aq.mp hv with rfl |hv
  ·exact⟨_,h1⟩
  ·exact ih v hv
theorem N7{Q:Bool->aj->Prop}(hk:xF prog w s.heap k a)(h:∀b,Q b s):am (bB prog w) A (hashByValue 8 (.ref a)) Q E s:=by
 exists prog,w,A,E,s,k,a,Q;have hT:=hk.typeIs;refine rh hk λo items n ho _ hd hi=>?_;clear hk;unfold hashByValue;refine af (Cr hT F.slot_tuple_hash.lookup ?_);dsimp only;refine af (iV ho hd ?_);refine af ?_;show am _ _ (forIn items _ _) _ _ s;rw[<-lV];refine qA _ (λrest r s'=>s'=s/\∀v∈rest,∃q,PK.is q v=true) _ ?_ ?_ _ _ ⟨rfl,zx hi⟩
 ·rintro v rest r s' ⟨rfl,pf⟩;refine bz (pf v mj) λq hq=>?_;refine bz (Bw 7 hq) λb hb=>?_;erw[hb];refine af (ah ?_);cases b with
  |true=>simp only[kB,bc,if_false];exact ah ⟨rfl,λu XK=>pf u (q8 _ XK)⟩
  |false=>simp only[yR,if_true];exact ah (ah (h false))
 ·rintro⟨r1,r2⟩ s' ⟨rfl,_⟩;cases r1 with
  |none=>exact ah (h true)
  |some b=>exact ah (h b)
theorem D1(x:Nat):x∈(cW xs p j).toList↔x=j\/x∈xs.toList:=by
 erw[gH];constructor
 ·intro h;rcases aH.mp h with h |h
  ·exact .inr (eU h)
  ·rcases aq.mp h with h |h
   ·exact .inl h
   ·exact .inr (q9 h)
 ·rintro(rfl |h)
  ·exact aK _ (.head _)
  ·rw[<-cC p xs.toList]at h;rcases aH.mp h with h |h
   ·exact aW _ h
   ·exact aK _ (.tail _ h)
theorem N8{α:Type}(l:List α)(hp:p<=l.length)(x:α)(i:Nat):(l.take p++x::l.drop p)[i]?=if i<p then l[i]? else if i=p then some x else l[i-1]?:=by
 have lt:(l.take p).length=p:=by simp;exact aR 0x1d6015020560812 rfl hp
 split
 ·rename_i h;erw[f7 (by exact aR 0x1d7570435c20d80813 rfl lt h),Aw h]
 ·rename_i h;erw[ml (by exact aR 0x75d58305a5c20d80813 rfl lt h),lt];split
  ·rename_i h2;subst h2;erw[u7];rfl
  ·rename_i h2;obtain⟨m,hm⟩:∃m,i-p=m+1:=⟨i-p-1,by exact aR 0x1d7584604a04820520816980816970812 rfl h h2⟩
   erw[hm,Cy,Jg]
   congr 1;exact aR 0x1d75d6128014430984600d20816980816970813 rfl h h2 hm
theorem N9{S x:ax}{ks:List (List PK)}{kx:List PK}{b:Bool}{Q:Bool->aj->Prop}(hu:A.units<fW)(T:QW prog w s.heap M S ks b)(hM:M S≠none)(hx:VI s.heap M (.ref x) (uY kx))(hl:kx∈ks\/ks.length<=3)
  (h0:kx∈ks->Q false s) (h1:kx∉ks->∀h' oC,bu S s.heap h'->oC.Perm (kx::ks)->QW prog w h' M S oC b->Q true {s with heap:=h'}):
  am (bB prog w) A (rW S (.ref x) ((tk prog w).hash kx)) Q E s:=by
 exists prog,w,A,E,s,M,S,x,ks,kx,b,Q;refine Jp T λes ep t ho hm Tb hh hv hn hr=>?_;exists es,ep,t;clear T;haveI I:=Hp hh hv;refine aI (wm (prog:=prog) (w:=w) hx) λx' XN Oa=>?_;exists x';cases XN;haveI hf:t.fits es.toArray.size=true:=by simpa using Tb.fits
 haveI rp:=Tb.fits;simp only[mq,iG,beq_iff_eq,decide_eq_true_eq]at rp;haveI Bq:t.place.toList.length<8:=by have:=rp.2;unfold cw.fill at this;rw[hm]at this;simp;exact aR 0x1d5e70569910812 rfl this
 refine cQ (Hl ((tk prog w).hash kx) t.place.toList Bq) λe KI he Ho=>?_;exists e;unfold rW setAddHashedIn;refine aZ (af (dP ho rfl hf ?_));dsimp only;haveI hbs:byScan (eI x) es.toArray=false:=rfl;erw[hbs];simp only[bc,if_false];unfold setSearch;refine af (Hn hu ho hm Tb I Oa KI he Ho (λjT=>?_) 100000 0 none (aG _) (by exact aR 0x1d5de7dea5e97749f056cc11 rfl KI) (Bu hm _) λuT=>?_)
 ·dsimp only;exact ah (h0 jT)
 ·dsimp only;have vW:kx∉ks:=λjT=>by
   obtain⟨i,hi,e1⟩:=sf jT;have Wa:ks[i]?=some kx:=by erw[aE hi,e1]
   refine aI (hr i kx Wa) λm m1 m2=>?_;rcases dQ m e with z |z
   ·exact uT m (aG _) z i m1 Wa
   ·rcases fR z with z |z
    ·exact he (m2 e z)
    ·subst z;refine bz (d8.mp m1) λq1 q2=>?_;exact he (by rw[<-q2];simp)
  haveI NG:ks.length<=3:=hl.resolve_left vW;have NX:es.length=ks.length:=I.1;generalize hj:(pos ((tk prog w).hash kx) e).1=j at he;exists j;refine af (dP ho rfl hf ?_);dsimp only;refine ez (lp Tb.rise j) λb1 b2 b3=>?_;haveI hjn:t.place[bw t.place j]?≠some j:=λq=>by refine bz (d8.mp q) λq1 q2=>?_;exact he (by rw[<-q2];simp)
  haveI Rp:=Bs Tb.rise hjn;haveI pp:(t.put j).1.place=cW t.place (bw t.place j) j:=rfl;haveI p2:(t.put j).2=bw t.place j:=rfl;haveI pm:(t.put j).1.mask=7:=hm;have pd:=FM Tb.Sw j;haveI pl:(t.put j).1.led=b:=Tb.led;haveI ps:(t.put j).1.place.size=es.length+1:=by erw[pp,mA _ _ b1,rp.1]
  haveI yf:bw t.place j<=ks.length:=by rw[<-NX,<-rp.1];exact b1
  generalize bw t.place j=p at *;exists p;haveI XO:(cW es.toArray p ((tk prog w).hash kx,eI x))=(es.take p++((tk prog w).hash kx,eI x)::es.drop p).toArray:=by apply Array.toList_inj.mp;erw[gH]
  have fin:∀t2:cw,t2.mask=7->t2.place=cW t.place p j->t2.dummies=#[]->t2.led=b->
    am (bB prog w) A (do
     storeSet S (cW es.toArray p ((tk prog w).hash kx,eI x)) t2
     if !false&&t2.tooFull then setRelay S (g9 (es.toArray.size+1))
     return true) Q E s:=by
   intro t2 q1 q2 q3 q4;exists t2;erw[XO];refine af (x6 ho rfl ?_ (by erw[bF];simp;lia));haveI ptl:t2.place.toList=t.place.toList.take p++j::t.place.toList.drop p:=by erw[q2,gH]
   haveI psz:t2.place.size=es.length+1:=by erw[q2,mA _ _ b1,rp.1]
   haveI PC:t2.fill=es.length+1:=by unfold cw.fill;erw[q3,psz];rfl
   haveI ntf:t2.tooFull=false:=by unfold cw.tooFull;erw[PC,q1];simp;lia
   erw[ntf];simp only[yS,bc,if_false];haveI sb:=bX s.heap S (t7 (es.take p++((tk prog w).hash kx,eI x)::es.drop p).toArray t2);haveI ex:cl M s.heap M (s.heap.update S (t7 (es.take p++((tk prog w).hash kx,eI x)::es.drop p).toArray t2)):=λc o e1 e2=>by refine⟨?_,e2⟩;erw[sb.2 c (by rintro rfl;exact hM e2)];exact e1
   refine ah (h1 vW _ (ks.take p++kx::ks.drop p) sb ?_ ?_)
   ·refine cI.trans (u8 _ ?_);erw[cC]
   ·refine⟨_,ep+1,t2,ry ho,q1,⟨?_,?_,q3,q4⟩,?_,?_,?_,?_⟩
    ·simp only[mq,iG,beq_iff_eq,decide_eq_true_eq];refine⟨?_,by erw[PC,q1];lia⟩;erw[psz];simp;exact aR 0x1d75d61146048609408646009604660509b5840d80816 rfl rp NX b1
    ·erw[q2];exact Rp
    ·simp only[az,aP,ga,Ay,hh]
    ·simp only[az,aP,ga,Ay];exact((hv.take p).append (.cons hx (hv.drop p))).ext ex
    ·have:(kx::ks).Nodup:=bt.mpr ⟨vW,hn⟩;refine(List.Perm.nodup_iff ?_).mpr this;refine cI.trans (u8 _ ?_);erw[cC]
    ·intro i k hk;exists i,k;have mem:∀y,y∈t.place.toList->y∈t2.place.toList:=λy hy=>by erw[q2];exact(D1 (p:=p) y).mpr (.inr hy)
     have gp:∀i:Nat,t2.place[i]?=(t.place.toList.take p++j::t.place.toList.drop p)[i]?:=λi=>by rw[<-ptl,be]
     rw[N8 ks yf]at hk;have T7:p<=t.place.toList.length:=by simpa using b1
     split at hk
     ·rename_i fY;refine aI (hr i k hk) λm m1 m2=>?_;refine⟨m,?_,λm' a=>mem _ (m2 m' a)⟩;erw[gp,N8 _ T7,if_pos fY,be,m1]
     ·rename_i QX;split at hk
      ·rename_i heq;cases hk;refine⟨e,?_,λm' a=>mem _ (Ho m' a)⟩;erw[gp,N8 _ T7,if_neg QX,if_pos heq,hj]
      ·rename_i dM;refine aI (hr (i-1) k hk) λm m1 m2=>?_;refine⟨m,?_,λm' a=>mem _ (m2 m' a)⟩;erw[gp,N8 _ T7,if_neg QX,if_neg dM,be,m1]
  erw[p2];split
  ·refine af (N7 Oa λb'=>?_);cases b' with
   |true=>exact fin _ pm pp pd pl
   |false=>exact fin _ pm pp pd pl
  ·refine af (ah ?_);exact fin _ pm pp pd pl
end
end
section
section
variable {prog:cx} {w:eB} {A:bW} {E:al->aj->Prop} {s:aj} {M:aL}
noncomputable def QY(prog:cx)(w:eB)(h:cg)(M:aL)(S:ax)(ns:List Int)(b:Bool):Prop:=∃(es:List (Int×al))(ep:Nat)(t:cw),h.get? S=some (iS es ep t)/\kG t es.length b/\
 ElemsOf (C0 prog w) es/\ch h M (es.map (·.2)) (ns.map V.int)/\ns.Nodup
theorem D3{α:Type}{h:cg}{f:α->V}{v:al}{vs:List al}{l:List α}(r:ch h M (v::vs) (l.map f)):∃n l',l=n::l'/\VI h M v (f n)/\ch h M vs (l'.map f):=by
 cases l with
 |nil=>exact nomatch r.length
 |cons n l=>exact r.cc λa b=>⟨n,l,rfl,a,b⟩
theorem Bx{α:Type}{h:cg}{f:α->V}{vs ul:List al}(p:ul.Perm vs){l:List α}(hv:ch h M vs (l.map f)):∃l2:List α,l2.Perm l/\ch h M ul (l2.map f):=by
 induction p generalizing l with
 |nil=>exact⟨l,.refl _,hv⟩
 |cons x p ih=>exact fc (D3 hv) λn l' e a r=>aI (ih r) λl2 q1 q2=>⟨n::l2,e▸q1.cons n,.cons a q2⟩
 |swap x y r=>exact fc (D3 hv) λn l1 e a r=>fc (D3 r) λm l2 e2 a2 r2=>⟨m::n::l2,e▸e2▸.swap _ _ _,.cons a2 (.cons a r2)⟩
 |trans p1 p2 T8 T9=>exact aI (T9 hv) λn1 q1 q2=>aI (T8 q2) λn2 q3 q4=>⟨n2,q3.trans q1,q4⟩
theorem Ob{h:cg}{vs:List al}{ns:List Int}{n:Int}(hv:ch h M vs (ns.map V.int)):(∃v∈vs,ix n v=true)↔n∈ns:=by
 induction ns generalizing vs with
 |nil=>exact hv.n2 ⟨λh=>aI h λ_ h _=>(nomatch h),λh=>(nomatch h)⟩
 |cons m ns ih=>
  refine hv.c2 (P:=λvs=>(∃v∈vs,ix n v=true)↔n∈m::ns) λ{v vs}a r=>?_;refine a.fX λt=>?_;rw[aq,<-ih r];exact⟨λH=>aI H λv hm hi=>(aq.mp hm).elim (λe=>.inl ((eq_of_beq (a:=m) (b:=n) (by rw[e]at hi;exact hi)).symm)) λhm=>.inr ⟨v,hm,hi⟩,
   λH=>H.elim (λe=>⟨_,.head _,e▸beq_self_eq_true n⟩) λH=>aI H λv hm hi=>⟨v,.tail _ hm,hi⟩⟩
theorem add_int{S:ax}{ns:List Int}{n:Int}{MV:Tok}{b:Bool}{Q:Bool->aj->Prop}(T:QY prog w s.heap M S ns b)(hM:M S≠none)(hb:ns.length<=1000)
  (h0:n∈ns->Q false s) (h1:n∉ns->∀(h':cg)(oE:List Int),bu S s.heap h'->oE.Perm (n::ns)->QY prog w h' M S oE b->Q true {s with heap:=h'}):
  am (bB prog w) A (rW S (.int n MV) (hashInt n)) Q E s:=by
 exists prog,w,A,E,s,M,S,ns,n,MV,b,Q;refine GD T λes ep t ho Tb he hv hn=>?_;clear T;haveI hl:es.length=ns.length:=by have:=hv.length;simpa using this
 haveI hm:=Ob (n:=n) hv;haveI hx:ix n (.int n MV)=true:=by simp[ix]
 refine KC (knd:=C0 prog w) (k:=n) (a:=S) (b:=b) hx rfl ho he (by unfold Jh;exact aR 0x1d75779f79fbd18026010967a77ad8812 rfl hb hl) Tb (λz=>aI z λe e1 e2=>?_) λuT h' es' iz t' sb vc hp T'=>?_
 ·exact h0 (hm.mp ⟨e.2,ak.mpr ⟨e,e1,rfl⟩,e2⟩)
 ·have vW:n∉ns:=λq=>by refine aI (hm.mpr q) λv v1 v2=>?_;refine aI (ak.mp v1) λe e1 aT=>?_;obtain rfl:=aT;have:=uT e e1;rw[show(C0 prog w).is n e.2=ix n e.2 from rfl,v2]at this;cases this
  haveI ex:cl M s.heap M h':=λc o e1 e2=>⟨by erw[sb.2 c (by rintro rfl;exact hM e2)];exact e1,e2⟩
  haveI NV:ch h' M ((es++[((C0 prog w).hash n,fE n MV)]).map (·.2)) ((ns++[n]).map V.int):=by erw[az,az];exact(hv.ext ex).append (.cons (.int n MV) .nil)
  refine aI (Bx (hp.map (·.2)) NV) λoE q1 q2=>?_;haveI q3:oE.Perm (n::ns):=q1.trans (List.perm_append_singleton n ns);refine h1 vW h' oE sb q3 ⟨es',iz,t',vc,T',?_,q2,q3.nodup_iff.mpr (bt.mpr ⟨vW,hn⟩)⟩;exact(ElemsOf.push (knd:=C0 prog w) (k:=n) (x:=fE n MV) he hx rfl).perm hp
theorem KM{S I l:ax}{items:Array al}(hh:A.handled=none)(Sx:l≠I)(Ua:S≠I)(Sy:S≠l)(J:Nat->cg->Prop)
  (keep:∀i h h',J i h->(∀b o,b≠I->h.get? b=some o->h'.get? b=some o)->J i h')
  (step:∀i v(s':aj)(Q:Bool->aj->Prop),items[i]?=some v->J i s'.heap->(∀r h' tk,bu S s'.heap h'->J (i+1) h'->Q r {s' with heap:=h',toks:=tk})->am (bB prog w) A.in1 (setAdd S v) Q (λ_ _=>False) s'):
  ∀(k i:Nat)(s:aj),items.size-i=k->i<=items.size->s.heap.IsListIter I l i->s.heap.IsList l items->J i s.heap->
   ja (bB prog w) A (.builtin "set.update.loop" ⟨[.ref S,.ref I],[]⟩) (λr s'=>r=.ok (.ret .none)/\∃h' tk,s'={s with heap:=h',toks:=tk}/\J items.size h'/\∀b o,b≠S->b≠I->s.heap.get? b=some o->h'.get? b=some o) s:=by
 revert hh Sx Ua Sy;exists prog,w,A,S,I,l,items,J,_;intro keep step hh Sx Ua Sy;haveI Wp:A.in1.handled=none:=hh;haveI W:=x8 (prog:=prog) (w:=w) Wp I l Sx items;intro k;exists k,_;induction k with
 |zero=>
  intro i s hk hi h1 h2 hJ;exists i,s;haveI D4:i=items.size:=by exact aR 0x1d7580425810987d20812 rfl hk hi
  subst D4;refine dB Gz ?_;erw[cu pP _];show am _ A.in1 (kz (.ref I) >>= _) _ _ s;refine af (W.done s _ _ ⟨h1,h2⟩ λh' tk mG=>?_);exists h',tk;refine ah ⟨rfl,h',tk,rfl,keep _ _ _ hJ λb o hb e=>mG b o (by simpa using hb) e,λb o _ hb e=>mG b o (by simpa using hb) e⟩
 |succ k ih=>
  exists k,_;intro ih;intro i s hk hi h1 h2 hJ;exists i,s;have fY:i<items.size:=by exact aR 0x1d7570425810984600d20813 rfl hk hi
  refine dB Gz ?_;erw[cu pP _];show am _ A.in1 (kz (.ref I) >>= _) _ _ s;refine af (W.item i s _ _ fY ⟨h1,h2⟩ λv h' tk hP gf mG=>?_);exists v,h',tk;haveI Wi:J i h':=keep _ _ _ hJ λb o hb e=>mG b o (by simpa using hb) e;show am _ A.in1 (CW [v] (setAdd S v) >>= _) _ _ _;refine af (aS (aZ (step i v {s with heap:=h',toks:=tk} (λ_ uX=>∃h2 Sz,uX={s with heap:=h2,toks:=Sz}/\bu S h' h2/\J (i+1) h2) hP Wi λr h2 Sz sb j=>⟨h2,Sz,rfl,sb,j⟩)) (λr uX q=>?_) λ_ _ f=>f.elim);exists r,uX;refine fc q λBo Sz aT sb j=>?_;exists Bo,Sz;clear q;obtain rfl:=aT;refine ah ⟨gF pP _,dJ (ih (i+1) {s with heap:=Bo,toks:=Sz} (by exact aR 0x1d75d6034918020570425810984600d20813 rfl hk hi fY) fY ?_ ?_ j) λr s3 q=>?_⟩
  ·exact gf.1.at λo e=>by erw[sb.2 I (Ne.symm Ua)];exact e
  ·exact gf.2.at λo e=>by erw[sb.2 l (Ne.symm Sy)];exact e
  ·exists r,s3;refine a9 q λaT il=>?_;clear q;obtain rfl:=aT;refine fc il λh3 I0 Bb j3 k3=>?_;exists h3,I0;clear il;obtain rfl:=Bb;refine⟨rfl,h3,I0,rfl,j3,λb o b1 b2 e=>k3 b o b1 b2 ?_⟩;show Bo.get? b=some o;erw[sb.2 b b1];exact mG b o (by simpa using b2) e
end
end
section
noncomputable def cP(w:eB):Bool:=w.params.followText "set-order"
section
variable {prog:cx} {w:eB} {A:bW} {E:al->aj->Prop} {s:aj} {M:aL}
theorem Oc(a:al){Q:al->aj->Prop}(h:Q (.ref s.heap.objs.size) {s with heap:=s.heap.push (iS [] 0 (.fresh 0 0 (!cP w)))}):
  ja (bB prog w) A (.call (.builtin "set.__new__") ⟨[.type "set",a],[]⟩) (wants Q E) s:=by
 exists prog,w,A,E,s,a,Q;refine Ct ?_;show am _ A.in1 (checkBuiltinCall "set.__new__" ⟨[.type "set",a],[]⟩ >>= λ_=>again (.builtin "set.__new__" ⟨[.type "set",a],[]⟩)) _ _ s;refine af (Aq (F.newCall_set_1 a) (ah ⟨gF F.plain_set_new _,dB F.entry_set_new ?_⟩));erw[cu F.plain_set_new _];have su:=sub_set_self;obtain⟨hp,g,d,tk,os⟩:=s;unfold Builtin.«set.__new__» Builtin.Frozenset.newClass;dsimp only
 wp_walk
 refine gX (ah ?_);dsimp only;simp only[newObj];exact af (wpAny_alloc (ah (ah h)))
set_option maxHeartbeats 3200000 in
theorem KN{Q:al->aj->Prop}(hh:A.handled=none)(hl:s.heap.get? l=some (listOf items n))(J:Nat->cg->Prop)
  (j0:J 0 (s.heap.push (iS [] 0 (.fresh 0 0 (!cP w)))))
  (keep:∀i h h',J i h->(∀b o,b≠s.heap.objs.size+1->h.get? b=some o->h'.get? b=some o)->J i h')
  (step:∀i v(A':bW)(s':aj)(Q:Bool->aj->Prop),A'.units<=A.units+8->items[i]?=some v->J i s'.heap->(∀r h' tk,bu s.heap.objs.size s'.heap h'->J (i+1) h'->Q r {s' with heap:=h',toks:=tk})->am (bB prog w) A' (setAdd s.heap.objs.size v) Q (λ_ _=>False) s')
  (h:∀h' tk,J items.size h'->(∀b o,s.heap.get? b=some o->h'.get? b=some o)->Q (.ref s.heap.objs.size) {s with heap:=h',toks:=tk}):
  am (bB prog w) A (oI (.type "set") [.ref l]) Q E s:=by
 revert hh hl;exists prog,w,A,E,s,l,items,n,Q,J;refine qv iW.mro λc tl ab9=>?_;haveI aag:=iW.made;haveI su:=iW.sub;refine wpAny_call (Ct ?_);show am _ _ (callAny (.type "set") _) _ _ _;refine ah ⟨Code.quiet_builtin _ (by decide+kernel),dB F.entry_type_call ?_⟩;erw[bW.under_plain (weight_type_call_type "set" [.ref l] []) rfl];haveI h1:=iW.notType;haveI h2:=iW.canCreate;haveI hct:=F.typeCall_set_1 (.ref l)
 repeat (any_goals (first |assumption |wp_step))
 refine dJ (Oc (.ref l) (E:=E) (Q:=λobj fJ=>obj=.ref s.heap.objs.size/\fJ={s with heap:=s.heap.push (iS [] 0 (.fresh 0 0 (!cP w)))}) ⟨rfl,rfl⟩) λr fJ hr=>?_;cases r with
 |error e=>exact hr
 |ok fl=>
  cases fl with
  |ret obj=>
   refine a9 hr λaT il=>?_;clear hr;obtain rfl:=aT;obtain rfl:=il;haveI hS:(s.heap.push (iS [] 0 (.fresh 0 0 (!cP w)))).get? s.heap.objs.size=some (iS [] 0 (.fresh 0 0 (!cP w))):=aB _ rfl;haveI hT:aj.TypeIs {s with heap:=s.heap.push (iS [] 0 (.fresh 0 0 (!cP w)))} (.ref s.heap.objs.size) "set":=⟨_,hS,rfl⟩
   haveI Od:=iW.init.lookup;haveI hbi:=iW.init.bind (.ref s.heap.objs.size)
   repeat (any_goals (first |assumption |wp_step))
   refine dJ (codeAny_call_builtin (R:=wants (λr Ub=>r=.none/\∃h' tk,Ub={s with heap:=h',toks:=tk}/\J items.size h'/\
     (∀b o,s.heap.get? b=some o->h'.get? b=some o)) E) iW.init.plain F.entry_set_init (check_set_init_1 hT ?_)) λXP Ub FP=>?_
   ·haveI hl':(s.heap.push (iS [] 0 (.fresh 0 0 (!cP w)))).get? l=some (listOf items n):=ai _ hl;haveI qH:(s.heap.push (iS [] 0 (.fresh 0 0 (!cP w)))).IsList l items:=⟨_,hl',rfl,n,rfl⟩
    haveI acb:=F.sub_list_set;haveI acd:=F.sub_list_frozenset;haveI dM:(e8 "list"==e8 "dict")=false:=by decide
    haveI MW:l<s.heap.objs.size:=bO hl;unfold Builtin.«set.__init__» noKeywords Builtin.Frozenset.updateFrom;generalize hPI:rU=PI
    wp_walk
    subst hPI;refine iI qH ?_;refine af (wpAny_runValue ?_);haveI hsz:(s.heap.push (iS [] 0 (.fresh 0 0 (!cP w)))).objs.size=s.heap.objs.size+1:=eT ..;erw[hsz];haveI hh2:A.in1.in1.handled=none:=hh;haveI g1:(s.heap.push (iS [] 0 (.fresh 0 0 (!cP w)))).get? (s.heap.objs.size+1)=none:=by rw[<-hsz];exact cN _
    haveI j1:J 0 ((s.heap.push (iS [] 0 (.fresh 0 0 (!cP w)))).push {cls:=.type "list_iterator",data:=.fields #[.ref l,.int 0 0]}):=keep 0 _ _ j0 λb o _ e=>ai _ e;haveI i1:((s.heap.push (iS [] 0 (.fresh 0 0 (!cP w)))).push {cls:=.type "list_iterator",data:=.fields #[.ref l,.int 0 0]}).IsListIter (s.heap.objs.size+1) l 0:=⟨_,by rw[<-hsz];exact aB _ rfl,rfl,rfl⟩
    refine dJ (KM (A:=A.in1.in1) (S:=s.heap.objs.size) (I:=s.heap.objs.size+1) (items:=items) (l:=l) hh2 (bd (bZ MW)) (bd (cK _)) (E7 MW) J keep
     (λi v s' Q' a b c=>step i v _ s' Q' (by show A.units+1+1+1<=A.units+8;exact aR 0x164670518118118011 rfl) a b c) (items.size-0) 0
     {s with heap:=(s.heap.push (iS [] 0 (.fresh 0 0 (!cP w)))).push {cls:=.type "list_iterator",data:=.fields #[.ref l,.int 0 0]}} rfl (aG _) i1 (qH.push _) j1) λr s' PD=>?_
    refine a9 PD λaT il=>?_;clear PD;obtain rfl:=aT;refine fc il λh' tk Bb jn kn=>?_;clear il;obtain rfl:=Bb;refine ah ?_;show am _ _ (ret al.none) _ _ _;refine ah ⟨rfl,h',tk,rfl,jn,λb o e=>?_⟩;haveI hb:=bO e;exact kn b o (bd hb) (bd (bZ hb)) (ai _ (ai _ e))
   ·cases XP with
    |error e=>exact FP
    |ok Uc=>
     cases Uc with
     |ret r=>
      refine a9 FP λaT il=>?_;clear FP;obtain rfl:=aT;refine fc il λh' tk Bb jn kn=>?_;clear il;obtain rfl:=Bb
      repeat (any_goals (first |assumption |wp_step))
      exact h _ _ jn kn
     |_=>exact FP.elim
  |_=>exact hr.elim
end
end
section
structure Kp(s s':aj):Prop where
 keep:∀b o,s.heap.get? b=some o->s'.heap.get? b=some o
 gens:s'.gens=s.gens
 os:s'.os=s.os
section
variable {Γ:Cx} {n:Nat} {N:aL} {k:KV} {args:List V} {f:al}
inductive QZ(F:aL)(N:aL)(k:KV)(s:aj)(v:al)(s':aj):Prop
 |mk (x:V) (kp:Kp s s') (hv:VI s'.heap F v x) (hk:k x N)
theorem ch.inv1(i:ch h M vs [x]):∃v,vs=[v]/\VI h M v x:=i.c2 λa r=>r.n2 ⟨_,rfl,a⟩
theorem ch.inv2(i:ch h M vs [x,y]):∃v u,vs=[v,u]/\VI h M v x/\VI h M u y:=i.c2 λ{v _}a r=>aI r.inv1 λu e b=>⟨v,u,congrArg (v::·) e,a,b⟩
theorem ch.Ud(i:ch h M vs [x,y,z]):∃v u w,vs=[v,u,w]/\VI h M v x/\VI h M u y/\VI h M w z:=i.c2 λ{v _}a r=>fc r.inv2 λu w e b c=>⟨v,u,w,congrArg (v::·) e,a,b,c⟩
theorem uo(ok:hU Γ.K f)(h:∀A,Lv n A->∀(L:ax->Bool)s,(∀a,L a=true->N a=none)->bS Γ (hide L N) s->∀vs,ch s.heap (hide L N) vs args->
  am Γ.M A (oI f vs []) (QZ (hide L N) N k s) ju s):aV Γ n f args N k:=by
 refine⟨ok,λA hA L s hL R vs pT=>aS (h A hA L s hL R vs pT) (λv s' q=>?_) λ_ _ e=>e⟩;obtain⟨x,kp,hv,hk⟩:=q;exact⟨x,N,hv,R.keeps kp.keep kp.gens kp.os,cl.keeps kp.keep,hk⟩
theorem eG(ok:hU Γ.K f)(h:∀A,Lv n A->∀(L:ax->Bool)s,(∀a,L a=true->N a=none)->bS Γ (hide L N) s->∀v,VI s.heap (hide L N) v x->am Γ.M A (oI f [v] []) (QZ (hide L N) N k s) ju s):aV Γ n f [x] N k:=uo ok λA hA L s hL R vs pT=>by refine aI pT.inv1 λv aT a=>?_;obtain rfl:=aT;exact h A hA L s hL R v a
theorem sD(ok:hU Γ.K f)(h:∀A,Lv n A->∀(L:ax->Bool)s,(∀a,L a=true->N a=none)->bS Γ (hide L N) s->∀v u w,VI s.heap (hide L N) v x->VI s.heap (hide L N) u y->VI s.heap (hide L N) w z->am Γ.M A (oI f [v,u,w] []) (QZ (hide L N) N k s) ju s):aV Γ n f [x,y,z] N k:=uo ok λA hA L s hL R vs pT=>by refine rh pT.Ud λv u w aT a b c=>?_;obtain rfl:=aT;exact h A hA L s hL R v u w a b c
noncomputable def Sh(N:aL)(a b:ax):aL:=(N.put a .jd).put b .jd
theorem pY:Sh N a b c=none↔N c=none/\c≠a/\c≠b:=by
 unfold Sh;by_cases e:c=b
 ·erw[e,aL.bH];exact⟨nofun,λh=>absurd rfl h.2.2⟩
 ·erw[aL.bE e];by_cases e2:c=a
  ·erw[e2,aL.bH];exact⟨nofun,λh=>absurd rfl h.2.1⟩
  ·erw[aL.bE e2];exact⟨λh=>⟨h,e2,e⟩,And.left⟩
theorem By{α:Type}{l:List α}{i:Nat}{x:α}(hx:l[i]?=some x)(y:α):y∈l.take (i+1)↔y=x\/y∈l.take i:=by erw[uN,hx,aH];exact or_comm.trans (or_congr ao Iff.rfl)
theorem hY{L:ax->Bool}(hL:∀a,L a=true->N a=none)(h:d9 N v=some xs):d9 (hide L N) v=some xs:=eW (λ_ _ e=>kM hL e) h
structure D5(Γ:Cx){α:Type}(f:α->V)(Oe:cg->aL->ax->List α->Prop):Prop where
 new:∀{h M S},h.get? S=some (iS [] 0 (.fresh 0 0 (!cP Γ.w)))->Oe h M S []
 move:∀{h h' M S ns},cl M h M h'->(∀o,h.get? S=some o->h'.get? S=some o)->Oe h M S ns->Oe h' M S ns
 out:∀{h M M' S ns},Oe h M S ns->M' S=none->(∀b,M b=none->M' b=none)->VI h M' (.ref S) (.set (!cP Γ.w) (ns.map f))
theorem uq{α:Type}{fv:α->V}{Oe:cg->aL->ax->List α->Prop}(SR:D5 Γ fv Oe){v:V}{xs:List α}(hs:d9 N v=some (xs.map fv))
  (step:∀A' s1 Q u x S M ns,A'.units<fW->VI s1.heap M u (fv x)->Oe s1.heap M S ns->M S≠none->ns.Nodup->(∀y∈ns,y∈xs)->x∈xs->(x∈ns->∀tk,Q false {s1 with toks:=tk})->
   (x∉ns->∀h' oE tk,bu S s1.heap h'->oE.Perm (x::ns)->Oe h' M S oE->Q true {s1 with heap:=h',toks:=tk})->am Γ.M A' (setAdd S u) Q (λ_ _=>False) s1)
  (h:∀oE:List α,oE.Nodup->(∀x,x∈oE↔x∈xs)->k (.set (!cP Γ.w) (oE.map fv)) N):aV Γ n (.type "set") [v] N k:=by
 refine eG trivial λA hA L s hL R w hv=>?_;refine fF R hv (hY hL hs) λa dy m ho np=>?_;generalize hM:Sh (hide L N) s.heap.objs.size (s.heap.objs.size+1)=M1;haveI exT:∀h',(∀b o,s.heap.get? b=some o->h'.get? b=some o)->cl (hide L N) s.heap M1 h':=λh' kp b o e hn=>
  ⟨kp b o e,hM▸pY.mpr ⟨hn,bd (bO e),bd (bZ (bO e))⟩⟩
 have hMS:M1 s.heap.objs.size≠none:=hM▸λq=>(pY.mp q).2.1 rfl;haveI Ue:M1 (s.heap.objs.size+1)≠none:=hM▸λq=>(pY.mp q).2.2 rfl;haveI hlen:dy.size=xs.length:=dD.symm.trans (np.length.trans (ag ..));refine KN hA.1 ho (λi h'=>ch h' M1 dy.toList (xs.map fv)/\∃oE,Oe h' M1 s.heap.objs.size oE/\oE.Nodup/\∀x,x∈oE↔x∈xs.take i) ?_ (λi h1 h2 H kp=>?_) (λi u A' s1 Q hu hi H hq=>?_) λh' tk H kp=>?_
 ·exact⟨np.ext (exT _ λb o e=>ai _ e),[],SR.new (aB _ rfl),cH,λ_=>Iff.rfl⟩
 ·refine a9 H λj1 H=>cQ H λoE j2 j3 j4=>?_;haveI ex:cl M1 h1 M1 h2:=λb o e hn=>⟨kp b o (λz=>Ue (z▸hn)) e,hn⟩
  exact⟨j1.ext ex,oE,SR.move ex (λo=>kp _ o (bd (cK _))) j2,j3,j4⟩
 ·refine a9 H λj1 H=>cQ H λoE j2 j3 j4=>?_;refine aI (j1.get' (k:=i) (v:=u) (be.trans hi)) λd d1 d2=>?_;rw[aF]at d1;refine aI (aJ.mp d1) λx hx e=>?_;subst e;refine step A' s1 Q u x _ M1 oE (by have:=hA.units;lia) d2 j2 hMS j3 (λy hy=>eU ((j4 y).mp hy)) (a7 hx) (λhm tk=>?_) λhm h2 Uf tk sb p j=>?_
  ·refine hq false s1.heap tk (bu.refl _ _) ⟨j1,oE,j2,j3,λy=>?_⟩;rw[By hx,<-j4];exact⟨.inr,λq=>q.elim (λe=>e▸hm) λq=>q⟩
  ·refine hq true h2 tk sb ⟨j1.ext λb o e hn=>⟨(sb.2 b λz=>hMS (z▸hn)).trans e,hn⟩,Uf,j,p.nodup_iff.mpr (bt.mpr ⟨hm,j3⟩),λy=>?_⟩;rw[By hx,<-j4,p.mem_iff,aq]
 ·refine cQ H.2 λoE j2 j3 j4=>?_;rw[hlen,cX]at j4;exact⟨.set (!cP Γ.w) (oE.map fv),⟨kp,rfl,rfl⟩,SR.out j2 (R.ce (cN _)) (λb hb=>(pY.mp (hM▸hb)).1),h oE j3 j4⟩
theorem yx:kG (.fresh 0 0 b) 0 b:=⟨rfl,λ_ _ _ h=>absurd h (dh _),rfl,rfl⟩
theorem Q0:D5 Γ V.int λh M S ns=>QY Γ.prog Γ.w h M S ns (!cP Γ.w) where
 new:=λe=>⟨[],0,_,e,yx,λ_ h=>absurd h bx,.nil,cH⟩
 move:=λx e H=>GD H λes ep t q1 q2 q3 q4 q5=>⟨es,ep,t,e _ q1,q2,q3,q4.ext x,q5⟩
 out:=λH e x=>GD H λes ep t q1 q2 q3 q4 q5=>.set q1 e ⟨q2.fits,wg.mpr q2.rise⟩ q2.led (q4.less x)
theorem zy{v:V}{ns:List Int}(hs:d9 N v=some (ns.map V.int))(hb:ns.length<=1000)(h:∀oE:List Int,oE.Nodup->(∀x,x∈oE↔x∈ns)->k (.set (!cP Γ.w) (oE.map V.int)) N):
  aV Γ n (.type "set") [v] N k:=
 uq Q0 hs (λA' s1 Q u x S M oE _ hv T hM hn su _ q1 q2=>by
  refine hv.fX λt=>aZ (af ((C0 Γ.prog Γ.w).pyHash (k:=x) (beq_self_eq_true x) ?_));exact add_int (s:={s1 with toks:=s1.toks+1}) T hM (aa (tH hn su) hb) (λhm=>q1 hm _) λhm h2 Uf sb p j=>q2 hm h2 Uf _ sb p j) h
end
end
section
section
variable {Γ:Cx} {n:Nat} {N:aL} {k:KV} {args:List V} {f:al}
theorem Q2:D5 Γ uY λh M S ns=>QW Γ.prog Γ.w h M S ns (!cP Γ.w) where
 new:=λe=>⟨[],0,_,e,rfl,yx,rfl,.nil,cH,nofun⟩
 move:=λx e H=>Jp H λes ep t q1 q2 q3 q4 q5 q6 q7=>⟨es,ep,t,e _ q1,q2,q3,q4,q5.ext x,q6,q7⟩
 out:=λH e x=>Jp H λes ep t q1 q2 q3 q4 q5 q6 q7=>.set q1 e ⟨q3.fits,wg.mpr q3.rise⟩ q3.led (q5.less x)
theorem zz{v:V}{ns:List (List PK)}(hs:d9 N v=some (ns.map uY))(hb:∀l:List (List PK),l.Nodup->(∀x∈l,x∈ns)->l.length<=4)(h:∀oE:List (List PK),oE.Nodup->(∀x,x∈oE↔x∈ns)->k (.set (!cP Γ.w) (oE.map uY)) N):
  aV Γ n (.type "set") [v] N k:=
 uq Q2 hs (λA' s1 Q u x S M oE hu hv T hM hn su D4 q1 q2=>by
  refine aI (wm (prog:=Γ.prog) (w:=Γ.w) hv) λxa e hxa=>?_;subst e;refine aZ (af (wpAny_pyHash_tuple hu hxa ?_));have Q3:x∈oE\/oE.length<=3:=(xT _).imp (λq=>q) λq=>dz (hb (x::oE) (bt.mpr ⟨q,hn⟩) (cO.mpr ⟨D4,su⟩));exact N9 (s:={s1 with toks:=s1.toks+(x.length+1)}) hu T hM hv Q3 (λhm=>q1 hm _) λhm h2 Uf sb p j=>q2 hm h2 Uf _ sb p j) h
end
end
section
theorem wn:entryFor table "set.__iter__"=some Builtin.«frozenset.__iter__»:=entryFor_alias (id':="frozenset.__iter__") (by kernel_rfl) (by decide+kernel) (by decide+kernel) (by kernel_rfl)
theorem xG:entryFor table "set_iterator.__next__"=some Builtin.«set_iterator.__next__»:=entryFor_of_tree (by kernel_rfl)
theorem nH:Slot "set_iterator" "__next__" "set_iterator.__next__":=
 .of (owner:="set_iterator") (n:="__next__") (by erw[typeLookup_type,builtinLookup_eq_fast];kernel_rfl) (by decide+kernel) (by decide+kernel) (by decide+kernel)
  (by first |exact .inl (by decide+kernel) |exact .inr (by decide+kernel)) (by erw[isSubtype_type];kernel_rfl)
theorem zA(a:al):argsOk "set_iterator.__next__" ⟨[a],[]⟩:=by unfold argsOk;kernel_rfl
theorem wo{α:Type}(l:List α)(i:Nat)(x:α)(h:l[i]?=some x):(x::l.eraseIdx i).Perm l:=by
 induction l generalizing i with
 |nil=>exact absurd (h.symm.trans uH) (qX _)
 |cons y l ih=>cases i with
  |zero=>exact aA h▸.refl _
  |succ i=>exact(IU y x _).trans ((ih i h).cons y)
theorem Of{α:Type}(next:Nat->Nat)(f k:Nat)(l:List α)(out:Array α)(h:l.length<=f):(nu.go next f k l out).toList.Perm (out.toList++l):=by
 induction f generalizing k l out with
 |zero=>erw[kJ (IS.mp h),bG];exact .refl _
 |succ f ih=>
  show(match l[next k % l.length]? with |some x=>nu.go next f (k+1) (l.eraseIdx (next k % l.length)) (out.push x) |none=>out).toList.Perm _;cases hx:l[next k % l.length]? with
  |some x=>have p:=wo l _ x hx;refine(ih (k+1) _ _ (dz (aa (eR p.length_eq) h))).trans ?_;erw[t5,bY];exact List.Perm.append_left _ p
  |none=>
   cases l with
   |nil=>erw[bG]
   |cons a l=>exact absurd (mK.mp hx) (xl (Ai _ (bP _)))
theorem Hq{α:Type}(next:Nat->Nat)(xs:Array α):(nu next xs).toList.Perm xs.toList:=by
 have:=Of next xs.size 0 xs.toList #[] (by simp)
 simpa[nu]using this
section
variable {prog:cx} {w:eB} {A:bW} {E:al->aj->Prop} {s:aj}
theorem wp_choose{Q:Nat->aj->Prop}(hn:n≠0)(h:∀i d,i<n->Q i {s with drawn:=d}):am (bB prog w) A (choose src n) Q E s:=λΓ p _=>by show Sem.wp _ _ (Sem.choose src n Sem.pure) _ _ _ _;erw[Sem.wp_choose];refine⟨hn,?_⟩;erw[Sem.wp_pure];exact h _ _ (Ai _ (Nat.pos_of_ne_zero hn))
theorem wq{α:Type}(n:Nat)(xs:List α)(s:aj){Q:List α->aj->Prop}(h:xs.length<=n)(q:∀ys d,ys.Perm xs->Q ys {s with drawn:=d}):am (bB prog w) A (drawOrder n xs) Q E s:=by
 induction n generalizing xs s Q with
 |zero=>obtain rfl:=kJ (IS.mp h);exact ah (q [] s.drawn (.refl _))
 |succ n ih=>cases xs with
  |nil=>exact ah (q [] s.drawn (.refl _))
  |cons x xs=>refine af (wp_choose (Nat.succ_ne_zero _) λi d hi=>?_);haveI hx:=aE hi;haveI p:=wo (x::xs) i _ hx;erw[hx];exact af (ih _ {s with drawn:=d} (dz (aa (eR p.length_eq) h)) λys d' hp=>ah (q _ d' ((hp.cons _).trans p)))
end
noncomputable abbrev oi(first:al)(i:Nat)(S:ax)(n ep:Nat):Obj:={cls:=.type "set_iterator",data:=.fields #[first,.int i 0,.ref S,.int n 0,.int ep 0]}
noncomputable def nJ(w:eB)(h:cg)(I S:ax)(ord:List al)(i:Nat):Prop:=∃(es:List (Int×al))(ep:Nat)(t:cw),h.get? S=some (iS es ep t)/\t.fits es.length=true/\ord.length=es.length/\
 ((cP w=true/\ord=(nu (w.params.setOrder S ep) es.toArray).toList.map (·.2)/\h.get? I=some (oi (.int 0 0) i S es.length ep))\/
  (cP w=false/\(!t.plain&&decide (es.length > 1))=false/\t.led=true/\mz t.place/\ord=es.map (·.2)/\∃slot:Nat,h.get? I=some (oi (.int slot 0) i S es.length ep)/\bw t.place slot=i)\/
  (∃(T:ax)(ps:List Nat),h.get? T=some (kK (ps.map λ(p:Nat)=>fE p 0).toArray 0)/\ord=ps.map (λp=>(es.getD p (0,.none)).2)/\(∀p∈ps,p<es.length)/\h.get? I=some (oi (.ref T) i S es.length ep)/\T≠I))
section
variable {prog:cx} {w:eB} {A:bW} {E:al->aj->Prop} {s:aj}
theorem zB{Q:al->aj->Prop}(ho:s.heap.get? S=some (iS es ep t))(hf:t.fits es.length=true)(hr:mz t.place)(hl:t.led=!cP w)(hz:es.length<=1000)
  (h:∀I ord h' d tk,ord.Perm (es.map (·.2))->(∀b o,s.heap.get? b=some o->h'.get? b=some o)->s.heap.get? I=none->nJ w h' I S ord 0->Q (.ref I) {s with heap:=h',drawn:=d,toks:=tk}):am (bB prog w) A (rU (.ref S)) Q E s:=by
 exists prog,w,A,E,s,S,es,ep,t,Q;haveI hT:s.TypeIs (.ref S) "set":=⟨_,ho,rfl⟩
 have Bz:t.fits es.toArray.size=true:=by simpa using hf
 refine wpAny_pyIter_slot hT F.slot_set_iter (eX F.slot_set_iter hT wn ?_ (F.args_set_iter_1 _));unfold Builtin.«frozenset.__iter__» Builtin.Frozenset.slot0 slotArgs;simp only[List.isEmpty_nil,kB,bc,↓reduceIte,bind_assoc,g7,bne_self_eq_false];unfold Builtin.Frozenset.addrOf Builtin.Frozenset.sizeOf;refine af (ah ?_)
 try dsimp only
 refine af (ah ?_);refine af (af (fL ho rfl Bz (ah ?_)));haveI Qn:es.toArray.size=es.length:=by simp
 erw[Qn];have fin:∀(first:al)(ord:List al)(s1:aj)(d:Drawn)(tk:Nat),s1={s with heap:=s1.heap,drawn:=d,toks:=tk}->ord.Perm (es.map (·.2))->(∀b o,s.heap.get? b=some o->s1.heap.get? b=some o)->s.heap.get? s1.heap.objs.size=none->
   (∀h',(∀b o,s1.heap.get? b=some o->h'.get? b=some o)->h'.get? s1.heap.objs.size=some (oi first 0 S es.length ep)->nJ w h' s1.heap.objs.size S ord 0)->
   am (bB prog w) A.in1 (do
     let fy <-setEpoch S;let fy <-newFields "set_iterator" [first,gV 0,eI S,gV ↑es.length,gV ↑fy]
     ret fy) (λfin s'=>∃v,fin=Fin.done (Flow.ret v)/\∃T' r,s'.TypeIs v T'/\xi (e8 T') (aN "__next__")=pure (some r)/\Q v s') E s1:=by
  intro first ord s1 d tk e1 hp kp dead hS
  exists first,ord,s1,d,tk;refine af (wpAny_setEpoch_of (kp _ _ ho) rfl Bz ?_)
  refine af (eD ?_);haveI hg:=aB s1.heap (o:=oi first 0 S es.length ep) rfl;refine ah ⟨_,rfl,"set_iterator",_,⟨_,hg,rfl⟩,nH.lookup,?_⟩;haveI k1:∀b o,s1.heap.get? b=some o->(s1.heap.push (oi first 0 S es.length ep)).get? b=some o:=λb o e=>ai _ e;have:=h s1.heap.objs.size ord (s1.heap.push (oi first 0 S es.length ep)) d tk hp (λb o e=>k1 b o (kp b o e)) dead (hS _ k1 hg);erw[e1];exact this
 haveI done:∀(dr:Bool),(dr=false->(cP w=true)\/(cP w=false/\(!t.plain&&decide (es.length > 1))=false))->am (bB prog w) A.in1 (if dr=true then do
     let fy <-drawOrder es.length (aM es.length);let first <-newTuple (jz (λ(i:Nat)=>gV ↑i) fy)
     let fy <-setEpoch S;let fy <-newFields "set_iterator" [first,gV 0,eI S,gV ↑es.length,gV ↑fy]
     ret fy
    else do
     let first <-pure (gV 0)
     let fy <-setEpoch S;let fy <-newFields "set_iterator" [first,gV 0,eI S,gV ↑es.length,gV ↑fy]
     ret fy) (λfin s'=>∃v,fin=Fin.done (Flow.ret v)/\∃T' r,s'.TypeIs v T'/\xi (e8 T') (aN "__next__")=pure (some r)/\Q v s') E s:=by
  intro dr Ug;cases dr with
  |true=>
   erw[if_pos rfl];refine af (wq _ _ s (by simp) λps d hp=>?_);exists ps,d;have Bq:ps.length=es.length:=by erw[hp.length_eq];simp
   refine af (E5 ?_ (by erw[ag,Bq,bF];exact aR 0x1d59e7de7de7de7de7ef0567a77ad8811 rfl hz));haveI hd:s.heap.get? s.heap.objs.size=none:=cN _;haveI hT0:=aB s.heap (o:=kK (ps.map λ(p:Nat)=>fE p 0).toArray 0) rfl;haveI hsz:(s.heap.push (kK (ps.map λ(p:Nat)=>fE p 0).toArray 0)).objs.size=s.heap.objs.size+1:=eT ..;refine fin (.ref s.heap.objs.size) (ps.map (λp=>(es.getD p (0,.none)).2)) {s with heap:=s.heap.push (kK (ps.map λ(p:Nat)=>fE p 0).toArray 0),drawn:=d} d s.toks rfl ?_ (λb o e=>ai _ e) ?_ λh' kp hI=>?_
   ·have:=(yp (l:=es) (0,.none) hp).map (·.2);rw[ay]at this;exact this
   ·show s.heap.get? (s.heap.push _).objs.size=none;erw[hsz];cases e:s.heap.get? (s.heap.objs.size+1) with
    |none=>rfl
    |some o=>exact absurd (bO e) (pL.mpr (cD _))
   ·refine⟨es,ep,t,kp _ _ (ai _ ho),hf,by simp[Bq],.inr (.inr ⟨s.heap.objs.size,ps,kp _ _ hT0,rfl,λp IX=>by simpa using hp.mem_iff.mp IX,hI,?_⟩)⟩;show s.heap.objs.size≠(s.heap.push _).objs.size;erw[hsz];exact bd (cK _)
  |false=>
   erw[if_neg (by simp)];refine af (ah ?_);rcases Ug rfl with hb |⟨hb,FG⟩
   ·haveI hpp:=Hq (w.params.setOrder S ep) es.toArray;refine fin (.int 0 0) ((nu (w.params.setOrder S ep) es.toArray).toList.map (·.2)) s s.drawn s.toks rfl (hpp.map (·.2)) (λb o e=>e) (cN _) λh' kp hI=>?_;exact⟨es,ep,t,kp _ _ ho,hf,by have:=hpp.length_eq;simpa using this,.inl ⟨hb,rfl,hI⟩⟩
   ·refine fin (.int 0 0) (es.map (·.2)) s s.drawn s.toks rfl (.refl _) (λb o e=>e) (cN _) λh' kp hI=>?_;exact⟨es,ep,t,kp _ _ ho,hf,by simp,.inr (.inl ⟨hb,FG,by erw[hl,hb];rfl,hr,rfl,0,hI,DW hr⟩)⟩
 unfold setDrawn E8;refine af (af (dP ho rfl Bz ?_));dsimp only;refine af (af (gX (ah (ah ?_))));refine done _ λUg=>?_;show(cP w=true)\/_;change (!cP w&&(!t.plain&&decide (es.toArray.size > 1)))=false at Ug;cases hb:cP w with
 |true=>exact .inl rfl
 |false=>rw[hb]at Ug;exact .inr ⟨rfl,by simpa using Ug⟩
end
end
section
section
variable {prog:cx} {w:eB} {A:bW} {E:al->aj->Prop} {s:aj}
theorem mU{Q:Option al->aj->Prop}(hI:s.heap.get? I=some (oi first i S n ep))
  (h:am (bB prog w) A.in1 (Builtin.«set_iterator.__next__» ⟨[.ref I],[]⟩) (λfin s'=>∃v,fin=.done (.ret v)/\Q (some v) s') (λe s'=>am (bB prog w) A (do if <-isInstance e (.type "StopIteration") then pure none else throw e) Q E s') s):
  am (bB prog w) A (kz (.ref I)) Q E s:=by
 unfold kz;have hT:s.TypeIs (.ref I) "set_iterator":=⟨_,hI,rfl⟩
 refine af (wpAny_attempt (fA (name:=aN "__next__") hT nH
  (eX nH hT xG ?_ (zA _))))
 refine aS h (λfin s' q=>?_) λ_ _ e=>e;obtain⟨v,rfl,q⟩:=q;exact⟨v,rfl,ah q⟩
theorem pg{S ep slot g:Nat}{es:List (Int×al)}{t:cw}{Q:Option (al×Nat)->aj->Prop}(ho:s.heap.get? S=some (iS es ep t))(hf:t.fits es.length=true)(hb:cP w=true)
  (h:Q (((nu (w.params.setOrder S ep) es.toArray)[g]?).map λe=>(e.2,slot)) s):am (bB prog w) A (uO S slot g ep) Q E s:=by
 exists prog,w,A,E,s,S,ep,slot,g,es,t,Q;have Bz:t.fits es.toArray.size=true:=by simpa using hf
 unfold uO;refine af (dP ho rfl Bz ?_);dsimp only;unfold E8;refine af (af (gX (ah ?_)));change am _ _ (if cP w=true then _ else _) _ _ _;erw[if_pos hb,if_neg (by simp)];unfold setWalk E8;refine af (af (dP ho rfl Bz ?_));dsimp only;refine af (af (gX (ah ?_)));change am _ _ (if cP w=true then _ else _) _ _ _;erw[if_pos hb];refine af (gX (ah ?_));exact ah h
theorem qI{S ep slot g:Nat}{es:List (Int×al)}{t:cw}{Q:Option (al×Nat)->aj->Prop}(ho:s.heap.get? S=some (iS es ep t))(hf:t.fits es.length=true)(hb:cP w=false)
  (hp:(!t.plain&&decide (es.length > 1))=false) (uZ:t.led=true)
  (h:Q (match es.toArray[bw t.place slot]?,t.place[bw t.place slot]? with
  |some (_,x),some j=>some (x,j+1)
  |_,_=>none) s):am (bB prog w) A (uO S slot g ep) Q E s:=by
 exists prog,w,A,E,s,S,ep,slot,g,es,t,Q;have Bz:t.fits es.toArray.size=true:=by simpa using hf
 have Qn:es.toArray.size=es.length:=by simp
 unfold uO;refine af (dP ho rfl Bz ?_);dsimp only;unfold E8;refine af (af (gX (ah ?_)));change am _ _ (if cP w=true then _ else _) _ _ _;erw[hb,if_neg (by simp)];change am _ _ (if(!t.plain&&decide (es.toArray.size > 1))=true then _ else _) _ _ _;erw[Qn,hp,if_neg (by simp)];change am _ _ ((if(!t.led&&!es.toArray.isEmpty)=true then _ else _) >>= _) _ _ _;erw[uZ,if_neg (by simp)];exact af (ah (ah h))
theorem xH{I S:ax}{ord:List al}{i:Nat}{x:al}{Q:Option al->aj->Prop}(hh:A.handled=none)(hS:nJ w s.heap I S ord i)(hx:ord[i]?=some x)
  (h:∀h',nJ w h' I S ord (i+1)->bu I s.heap h'->Q (some x) {s with heap:=h'}):am (bB prog w) A (kz (.ref I)) Q E s:=by
 exists prog,w,A,E,s,I,S,ord,i,x,Q;refine rh hS λes ep t ho hf hl hm=>?_;exists es,ep,t;clear hS;have Bz:t.fits es.toArray.size=true:=by simpa using hf
 haveI Qn:es.toArray.size=es.length:=by simp
 haveI Ua:S≠I:=by
  rintro rfl;have key:∀{f:al},s.heap.get? S=some (oi f i S es.length ep)->False:=λ{f}q=>by rw[ho]at q;have:=congrArg Obj.cls (aA q);exact absurd this (by simp)
  rcases hm with⟨_,_,hI⟩ |⟨_,_,_,_,_,_,hI,_⟩ |⟨_,_,_,_,_,hI,_⟩<;>exact key hI
 have keep:∀{h':cg},bu I s.heap h'->h'.get? S=some (iS es ep t):=λ{h'}sb=>(sb.2 S Ua).trans ho;have hit:i<ord.length:=by
  rcases dQ i ord.length with q |q
  ·exact q
  ·rw[bQ q]at hx;cases hx
 rcases hm with⟨hb,jU,hI⟩ |⟨hb,hp,uZ,hr,jU,slot,hI,rz⟩ |⟨T,ps,hT,jU,CK,hI,PE⟩
 ·refine mU hI ?_;show am _ _ (x9 (.ref I) >>= _) _ _ s;refine af (kC hI rfl ?_);show am _ _ (rZ S >>= _) _ _ s;refine af (fL ho rfl Bz ?_);erw[if_neg (by simp)];show am _ _ (uO S 0 i ep >>= _) _ _ s;refine af (pg ho hf hb ?_);haveI e1:((nu (w.params.setOrder S ep) es.toArray)[i]?).map (λe=>(e.2,0))=some (x,0):=by rw[jU]at hx;rw[aF,be]at hx;refine aI (aJ.mp hx) λp yf I1=>?_;rw[yf,<-I1];rfl
  erw[e1];dsimp only;refine af (d6 hI (by simp) λh1 g1 Hr=>?_);refine af (d6 g1 (by simp) λh2 g2 Uh=>?_);haveI sb:=Hr.trans Uh;refine ah ⟨x,rfl,h h2 ⟨es,ep,t,keep sb,hf,hl,.inl ⟨hb,jU,?_⟩⟩ sb⟩;erw[g2];simp[gV,oi]
 ·exists slot;have Hs:t.place.size=es.length:=by have:=hf;simp[mq]at this;exact aR 0x1d60205b5840d80814 rfl this
  have lW:i<es.length:=by exact aR 0x1d7570835c10d80813 rfl hl hit
  refine mU hI ?_;show am _ _ (x9 (.ref I) >>= _) _ _ s;refine af (kC hI rfl ?_);show am _ _ (rZ S >>= _) _ _ s;refine af (fL ho rfl Bz ?_);erw[if_neg (by simp)];show am _ _ (uO S slot i ep >>= _) _ _ s;refine af (qI ho hf hb hp uZ ?_);erw[rz];haveI e1:es.toArray[i]?=some es[i]:=by simp[lW]
  haveI e2:t.place[i]?=some (t.place.getD i 0):=by
   have:i<t.place.size:=by exact aR 0x1d75d5c40d80845c10d80814 rfl hl hit Hs
   simp[gL,this]
  haveI e3:es[i].2=x:=by rw[jU,aF,aE lW]at hx;exact aA hx
  erw[e1,e2];dsimp only;refine af (d6 hI (by simp) λh1 g1 Hr=>?_);refine af (d6 g1 (by simp) λh2 g2 Uh=>?_);haveI sb:=Hr.trans Uh;erw[e3];refine ah ⟨x,rfl,h h2 ⟨es,ep,t,keep sb,hf,hl,.inr (.inl ⟨hb,hp,uZ,hr,jU,t.place.getD i 0+1,?_,Br hr (by exact aR 0x1d75d5c40d80845c10d80814 rfl hl hit Hs)⟩)⟩ sb⟩;erw[g2];simp[gV,oi]
 ·exists T,ps;refine mU hI ?_;show am _ _ (x9 (.ref I) >>= _) _ _ s;refine af (kC hI rfl ?_);show am _ _ (rZ S >>= _) _ _ s;refine af (fL ho rfl Bz ?_);erw[if_neg (by simp)];show am _ _ (Ah (.ref T) >>= _) _ _ s;refine af (iV hT rfl ?_);rw[jU,aF]at hx;refine aI (aJ.mp hx) λp yf I1=>?_;exists p;have Bq:=CK p (a7 yf);haveI e1:((ps.map λ(p:Nat)=>fE p 0).toArray)[((i:Nat):Int).toNat]?=some (fE p 0):=by simp[yf]
  dsimp only;erw[e1];dsimp only;unfold setNextDrawn;refine af (af (dP ho rfl Bz ?_));dsimp only;erw[if_neg (by simp)];haveI e2:es.toArray[((p:Nat):Int).toNat]?=some es[p]:=by simp[Bq]
  haveI e3:es[p].2=x:=by rw[<-I1];simp[ar,Bq]
  erw[e2];refine ah ?_;refine af (d6 hI (by simp) λh1 g1 Hr=>?_);change am _ _ (ret es[p].2) _ _ _;erw[e3];refine ah ⟨x,rfl,h h1 ⟨es,ep,t,keep Hr,hf,hl,.inr (.inr ⟨T,ps,(Hr.2 T PE).trans hT,jU,CK,?_,PE⟩)⟩ Hr⟩;erw[g1];simp[gV,oi]
theorem zC{Q:Option al->aj->Prop}{Qf:Fin->aj->Prop}(hh:A.handled=none)(h:∀h',(∀b o,s.heap.get? b=some o->h'.get? b=some o)->Q none {s with heap:=h'}):
  am (bB prog w) A.in1 (do raiseNew (<-newExc (.type "StopIteration") []):Sem Fin) Qf (λe s'=>am (bB prog w) A (do if <-isInstance e (.type "StopIteration") then pure none else throw e) Q E s') s:=by
 show am _ _ (newExc (.type "StopIteration") [] >>= _) _ _ _;exact af (AW λh' e _ x c=>wpAny_raiseNew_none hh (af (wpAny_isInstance (T:="StopIteration") (b:=true) c isSubtype_stop (ah (h h' x)))))
theorem zD{I S:ax}{ord:List al}{i:Nat}{Q:Option al->aj->Prop}(hh:A.handled=none)(hS:nJ w s.heap I S ord i)(hx:ord[i]?=none)
  (h:∀h',iC I s.heap h'->Q none {s with heap:=h'}):am (bB prog w) A (kz (.ref I)) Q E s:=by
 exists prog,w,A,E,s,I,S,ord,i,Q;refine rh hS λes ep t ho hf hl hm=>?_;exists es,ep,t;clear hS;have Bz:t.fits es.toArray.size=true:=by simpa using hf
 haveI Qn:es.toArray.size=es.length:=by simp
 have lW:ord.length<=i:=mK.mp hx;rcases hm with⟨hb,jU,hI⟩ |⟨hb,hp,uZ,hr,jU,slot,hI,rz⟩ |⟨T,ps,hT,jU,CK,hI,PE⟩
 ·refine mU hI ?_;show am _ _ (x9 (.ref I) >>= _) _ _ s;refine af (kC hI rfl ?_);show am _ _ (rZ S >>= _) _ _ s;refine af (fL ho rfl Bz ?_);erw[if_neg (by simp)];show am _ _ (uO S 0 i ep >>= _) _ _ s;refine af (pg ho hf hb ?_);haveI e1:((nu (w.params.setOrder S ep) es.toArray)[i]?).map (λe=>(e.2,0))=none:=by
   have:=congrArg cB jU;haveI hz:(nu (w.params.setOrder S ep) es.toArray).size<=i:=by simp at this;exact aR 0x1d7560836030560813 rfl lW this
   erw[Cs hz];rfl
  erw[e1];dsimp only;refine af (d6 hI (by simp) λh1 g1 Hr=>?_);exact zC (s:={s with heap:=h1}) hh λh' kp=>h h' λb o hb e=>kp b o ((Hr.2 b hb).trans e)
 ·exists slot;haveI Hs:t.place.size=es.length:=by have:=hf;simp[mq]at this;exact aR 0x1d60205b5840d80814 rfl this
  refine mU hI ?_;show am _ _ (x9 (.ref I) >>= _) _ _ s;refine af (kC hI rfl ?_);show am _ _ (rZ S >>= _) _ _ s;refine af (fL ho rfl Bz ?_);erw[if_neg (by simp)];show am _ _ (uO S slot i ep >>= _) _ _ s;refine af (qI ho hf hb hp uZ ?_);erw[rz];haveI e1:es.toArray[i]?=none:=by simp;exact aR 0x1d7560c25830580813 rfl hl lW
  erw[e1];dsimp only;refine af (d6 hI (by simp) λh1 g1 Hr=>?_);exact zC (s:={s with heap:=h1}) hh λh' kp=>h h' λb o hb e=>kp b o ((Hr.2 b hb).trans e)
 ·exists T,ps;refine mU hI ?_;show am _ _ (x9 (.ref I) >>= _) _ _ s;refine af (kC hI rfl ?_);show am _ _ (rZ S >>= _) _ _ s;refine af (fL ho rfl Bz ?_);erw[if_neg (by simp)];show am _ _ (Ah (.ref T) >>= _) _ _ s;refine af (iV hT rfl ?_);haveI e1:((ps.map λ(p:Nat)=>fE p 0).toArray)[((i:Nat):Int).toNat]?=none:=by have:=congrArg cB jU;simp at this;simp;exact aR 0x1d7560836030560813 rfl lW this
  dsimp only;erw[e1];dsimp only;refine af (d6 hI (by simp) λh1 g1 Hr=>?_);refine af (d6 g1 (by simp) λh2 g2 Uh=>?_);haveI sb:=Hr.trans Uh;exact zC (s:={s with heap:=h2}) hh λh' kp=>h h' λb o hb e=>kp b o ((sb.2 b hb).trans e)
end
end
section
section
variable {prog:cx} {w:eB} {A:bW} {E:al->aj->Prop} {s:aj}
theorem BA(hh:A.handled=none){S I D:ax}{ord:List al}(BB:D≠I)(XQ:D≠S)(hz:ord.length<=1000)(res:al):
  ∀(k i:Nat)(s:aj)(c:Nat),ord.length-i=k->i<=ord.length->nJ w s.heap I S ord i->s.heap.get? D=some (listOf (ord.take i).toArray c)->
   ja (bB prog w) A (.builtin "list.extend.loop" ⟨[.ref D,.ref I,res],[]⟩) (λr s'=>r=.ok (.ret res)/\∃h' tk c',s'={s with heap:=h',toks:=tk}/\h'.get? D=some (listOf ord.toArray c')/\
    ∀b o,b≠D->b≠I->s.heap.get? b=some o->h'.get? b=some o) s:=by
 revert hh BB XQ hz;exists prog,w,A,S,I,D,ord,res,_;intro hh BB XQ hz;intro k;induction k with
 |zero=>
  intro i s c hk hi hS hD;have D4:i=ord.length:=by exact aR 0x1d7580425810987d20812 rfl hk hi
  subst D4;refine dB F.entry_extend_loop ?_;erw[cu mr _];show am _ A.in1 (kz (.ref I) >>= _) _ _ s;refine af (zD (A:=A.in1) hh hS (bQ (ap _)) λh' eb=>?_);rw[cX]at hD;exact ah ⟨rfl,h',s.toks,c,rfl,eb D _ BB hD,λb o _ hb e=>eb b o hb e⟩
 |succ k ih=>
  intro i s c hk hi hS hD;have fY:i<ord.length:=by exact aR 0x1d7570425810984600d20813 rfl hk hi
  refine dB F.entry_extend_loop ?_;erw[cu mr _];show am _ A.in1 (kz (.ref I) >>= _) _ _ s;refine af (xH (A:=A.in1) hh hS (aE fY) λh1 hS1 sb=>?_);have XR:h1.get? D=some (listOf (ord.take i).toArray c):=(sb.2 D BB).trans hD;show am _ A.in1 (updateSeq D (·.push ord[i]) >>= _) _ _ _;refine af ?_;haveI hsz:(ord.take i).toArray.size=i:=by simp;exact aR 0x1d6015020560812 rfl hi
  refine Cz XR rfl (ah ⟨gF mr _,?_⟩) (by erw[hsz,bF];exact aR 0x1d75679f79f79f79f79fbc25c10967a77ad8812 rfl hz fY) (by show((ord.take i).toArray.push ord[i]).size<=iy+1;erw[Array.size_push,hsz,bF];exact aR 0x1d75646079f79f79f79f79fbd18025c10967a77ad8812 rfl hz fY);obtain⟨c2,Ui⟩:∃c2,(h1.update D (bV (·.push ord[i]))).get? D=some (listOf (ord.take (i+1)).toArray c2):=by
   haveI e:=dW XR (·.push ord[i]);haveI e2:(ord.take i).toArray.push ord[i]=(ord.take (i+1)).toArray:=by erw[bJ fY];simp
   rw[e2]at e;exact⟨_,e⟩
  have Ht:∀b o,b≠D->h1.get? b=some o->(h1.update D (bV (·.push ord[i]))).get? b=some o:=λb o hb e=>(jA _ _ (Ne.symm hb)).trans e;refine dJ (ih (i+1) {s with heap:=h1.update D (bV (·.push ord[i]))} c2 (by exact aR 0x1d75d6034918020570425810984600d20813 rfl hk hi fY) fY ?_ Ui) λr s3 q=>?_
  ·refine rh hS1 λes ep t ho hf hl hm=>?_;clear hS1;refine⟨es,ep,t,Ht _ _ (Ne.symm XQ) ho,hf,hl,?_⟩;rcases hm with⟨hb,jU,hI⟩ |⟨hb,hp,uZ,hr,jU,slot,hI,rz⟩ |⟨T,ps,hT,jU,CK,hI,PE⟩
   ·exact .inl ⟨hb,jU,Ht _ _ (Ne.symm BB) hI⟩
   ·exact .inr (.inl ⟨hb,hp,uZ,hr,jU,slot,Ht _ _ (Ne.symm BB) hI,rz⟩)
   ·refine .inr (.inr ⟨T,ps,Ht _ _ ?_ hT,jU,CK,Ht _ _ (Ne.symm BB) hI,PE⟩);rintro rfl;rw[XR]at hT;have:=congrArg Obj.cls (aA hT);exact absurd this (by simp)
  ·refine a9 q λaT il=>?_;clear q;obtain rfl:=aT;refine yW il λh3 I0 c3 Bb e3 k3=>?_;clear il;obtain rfl:=Bb;exact⟨rfl,h3,I0,c3,rfl,e3,λb o b1 b2 e=>k3 b o b1 b2 (Ht b o b1 ((sb.2 b b2).trans e))⟩
theorem KO{Q:Bool->aj->Prop}(ho:s.heap.get? S=some (iS es ep t))(hf:t.fits es.length=true)(h:Q false s):
  am (bB prog w) A (th (.ref S)) Q E s:=by
 exists prog,w,A,E,s,S,es,ep,t,Q;have hT:s.TypeIs (.ref S) "set":=⟨_,ho,rfl⟩
 unfold th;refine af (Cr hT F.slot_set_len.lookup ?_);generalize jQ:("set.__len__":String)=id0;(fail_if_success (clear jQ id0));wp_delta;erw[show splitId id0=some ("set","__len__") from by subst jQ;decide+kernel];subst jQ;refine af (wpAny_isInstance (b:=true) hT (by erw[isSubtype_type];kernel_rfl) ?_);show am _ _ (typeOf (.ref S) >>= _) _ _ s;refine af (kw hT ?_);exact ah h
theorem BC{S:ax}{es:List (Int×al)}{ep:Nat}{t:cw}{Q:List al->aj->Prop}(hh:A.handled=none)(ho:s.heap.get? S=some (iS es ep t))(hf:t.fits es.length=true)(hr:mz t.place)(hl:t.led=!cP w)(hz:es.length<=1000)
  (h:∀ord h' d tk,ord.Perm (es.map (·.2))->(∀b o,s.heap.get? b=some o->h'.get? b=some o)->Q ord {s with heap:=h',drawn:=d,toks:=tk}):am (bB prog w) A (collect (.ref S)) Q E s:=by
 exists prog,w,A,E,s,S,es,ep,t,Q;haveI hSz:S<s.heap.objs.size:=bO ho;unfold collect;refine af (wpAny_runValue (dB F.entry_proto_collect ?_));erw[cu F.plain_proto_collect _];show am _ A.in1 (newList [] >>= λl=>again (.builtin "list.__iadd__" ⟨[l,.ref S],[]⟩)) _ _ s;refine af (eD ?_);refine ah ⟨gF F.plain_list_iadd _,dB F.entry_list_iadd ?_⟩;erw[cu F.plain_list_iadd _];haveI XS:S≠s.heap.objs.size:=bd hSz;haveI h1:uP (.ref s.heap.objs.size) (.ref S)=false:=by simp[uP,Ne.symm XS]
 haveI Bp:(s.heap.push (listOf #[] 0)).get? S=some (iS es ep t):=ai _ ho;haveI hT:aj.TypeIs {s with heap:=s.heap.push (listOf #[] 0)} (.ref S) "set":=⟨_,Bp,rfl⟩
 show am _ A.in1 (ti (.ref s.heap.objs.size) (.ref S) (.ref s.heap.objs.size)) _ _ {s with heap:=s.heap.push (listOf #[] 0)};unfold ti;refine af (kw hT ?_);erw[if_neg (by erw[h1];decide)];refine af (zB Bp hf hr hl hz λI ord h2 d tk hp kp hI hS=>?_);exists I,ord,h2,d,tk;have BB:s.heap.objs.size≠I:=by rintro rfl;rw[show(s.heap.push (listOf #[] 0)).get? s.heap.objs.size=some (listOf #[] 0) from aB _ rfl]at hI;cases hI
 haveI kp0:∀b o,s.heap.get? b=some o->h2.get? b=some o:=λb o e=>kp b o (ai _ e);haveI Ui:h2.get? s.heap.objs.size=some (listOf #[] 0):=kp _ _ (aB _ rfl);refine af (aZ (KO (s:={s with heap:=h2,drawn:=d,toks:=tk}) (kp _ _ Bp) hf ?_));haveI hlen:ord.length=es.length:=by have:=hp.length_eq;simpa using this
 show am _ A.in1 (rule "list.extend.makes-room" >>= λ_=>Builtin.List.listTouch (.ref s.heap.objs.size) >>= λ_=>
  again (.builtin "list.extend.loop" ⟨[.ref s.heap.objs.size,.ref I,.ref s.heap.objs.size],[]⟩)) _ _ _
 refine af (dZ ?_);refine af ?_;show am _ A.in1 (updateSeq s.heap.objs.size (·.push .none) >>= λ_=>updateSeq s.heap.objs.size (·.pop)) _ _ _;refine af (Cz Ui rfl ?_ (aG _) (by erw[bF];simp));haveI hD3:=dW Ui (·.push al.none);refine Cz hD3 rfl ?_ (by erw[bF];simp) (by erw[bF];simp);haveI hD4:=dW hD3 (·.pop);generalize hh4:((h2.update s.heap.objs.size (bV (·.push al.none))).update s.heap.objs.size (bV (·.pop)))=h4 at hD4;exists h4;have Ht:∀b o,b≠s.heap.objs.size->h2.get? b=some o->h4.get? b=some o:=λb o hb e=>by rw[<-hh4];exact(jA _ _ (Ne.symm hb)).trans ((jA _ _ (Ne.symm hb)).trans e)
 show am _ _ _ _ _ {s with heap:=h4,drawn:=d,toks:=tk};have hS4:nJ w h4 I S ord 0:=by
  refine rh hS λes ep t ho hf hl hm=>?_;clear hS;exists es,ep,t,_;intro ho hf hl hm;refine⟨es,ep,t,Ht _ _ XS ho,hf,hl,?_⟩;rcases hm with⟨hb,jU,hI⟩ |⟨hb,hp,uZ,hr,jU,slot,hI,rz⟩ |⟨T,ps,hT,jU,CK,hI,PE⟩
  ·exact .inl ⟨hb,jU,Ht _ _ (Ne.symm BB) hI⟩
  ·exact .inr (.inl ⟨hb,hp,uZ,hr,jU,slot,Ht _ _ (Ne.symm BB) hI,rz⟩)
  ·exists T,ps,_;intro hT jU CK hI PE;refine .inr (.inr ⟨T,ps,Ht _ _ ?_ hT,jU,CK,Ht _ _ (Ne.symm BB) hI,PE⟩);rintro rfl;rw[Ui]at hT;have:=congrArg Obj.cls (aA hT);exact absurd this (by simp)
 refine ah ⟨gF mr _,dJ (BA (A:=A) (s:={s with heap:=h4,drawn:=d,toks:=tk}) (ord:=ord) hh BB (Ne.symm XS) (by exact aR 0x1d7567a77ad8826010967a77ad8812 rfl hz hlen) _ ord.length 0 _ rfl (aG _) hS4 hD4) λr s' q=>?_⟩;refine a9 q λaT il=>?_;clear q;obtain rfl:=aT;refine yW il λh5 tk5 c5 Bb hD5 k5=>?_;clear il;obtain rfl:=Bb;exists h5,tk5,c5;show am _ A (load s.heap.objs.size >>= _) _ _ _;refine af (wpAny_load hD5 ?_);refine ah ?_;refine h ord h5 d tk5 hp λb o e=>?_;exists b,o;haveI b1:=bd (bO e);refine k5 b o b1 ?_ (Ht b o b1 (kp0 b o e));rintro rfl;rw[ai _ e]at hI;cases hI
end
end
section
theorem jj.perm{α:Type}{l l2:List α}{f:α->V}{key:α->List Nat}(S:jj l f key)(p:l2.Perm l):jj l2 f key:=by
 have pm:=p.map f;refine⟨by erw[p.length_eq];exact S.len,dX.mpr λx hx=>dX.mp S.ok x (pm.mem_iff.mp hx),en.mpr λx hx=>en.mp S.dp x (pm.mem_iff.mp hx),λa ha b hb=>S.lt a (p.mem_iff.mp ha) b (p.mem_iff.mp hb),?_⟩;rcases S.kind with K |K |K
 ·exact .inl λx hx=>K x (pm.mem_iff.mp hx)
 ·exact .inr (.inl λx hx=>K x (pm.mem_iff.mp hx))
 ·exact .inr (.inr λx hx=>K x (pm.mem_iff.mp hx))
section
variable {prog:cx} {w:eB} {A:bW} {E:al->aj->Prop} {s:aj} {M:aL}
theorem zE{α:Type}[Inhabited α]{f:α->V}{key:α->List Nat}{Q:al->aj->Prop}(hu:A.units+162<=fW)
  (hc:am (bB prog w) A.in1 (collect v) (λvs s'=>∃l:List α,jj l f key/\(∀a,s'.heap.get? a=none->M a=none)/\ch s'.heap M vs (l.map f)/\
   ∀(l':List α)ul h2 d e,l'.Perm l->l'.Pairwise (λx y=>¬key y<key x)->(∀b o,s'.heap.get? b=some o->h2.get? b=some o)->M d=none->h2.get? d=some (listOf (bp ul) e)->ch h2 M ul (l'.map f)->Q (.ref d) {s' with heap:=h2}) E s):
  am (bB prog w) A (oI (.builtin "sorted") [v]) Q E s:=by
 revert α f key;exists prog,w,A,E,s,M,v,Q;refine Calls.call_function_entry kind_sorted plain_sorted entry_sorted (args_sorted1 _) ?_;unfold Builtin.«sorted»;refine af (m:=checkCount "sorted" 1 1 _) (ah ?_);refine af (aS hc (λvs s' q=>?_) λ_ _ e=>e);revert α f key;exists vs,s';refine rg q λl S lj hv h=>?_;clear q;haveI hlen:vs.length=l.length:=by erw[hv.length];simp
 refine af (vH ?_ (by erw[bF];have:=S.len;exact aR 0x1d75679f79f79f79f79fbc15de7e30980812 rfl hlen this));haveI MX:(s'.heap.push (dS "list" vs.toArray 0)).get? s'.heap.objs.size=some (dS "list" vs.toArray 0):=aB _ rfl;haveI hd:s'.heap.get? s'.heap.objs.size=none:=cN _;haveI hM:=lj _ hd;show am _ _ _ _ _ {s' with heap:=s'.heap.push (dS "list" vs.toArray 0)};haveI ex:cl M s'.heap (M.put s'.heap.objs.size .jd) (s'.heap.push (dS "list" vs.toArray 0)):=λb o e hn=>by
  haveI dM:b≠s'.heap.objs.size:=by rintro rfl;rw[hd]at e;cases e
  exact⟨ai _ e,by erw[aL.bE dM];exact hn⟩
 refine af (aZ (eX slot_list_sort ⟨_,MX,rfl⟩ entry_list_sort
  (wc (s:={s' with heap:=s'.heap.push (dS "list" vs.toArray 0)}) (M:=M.put s'.heap.objs.size .jd) (by show A.units+1+1+160<=fW;lia) S MX (by erw[aL.bH];exactλq=>by cases q) (hv.ext ex) λl' ul h' e g1 g2 g3 g4 g5=>⟨_,rfl,?_⟩) (args_list_sort _)))
 haveI keep:∀b o,s'.heap.get? b=some o->h'.get? b=some o:=λb o eb=>by
  haveI dM:b≠s'.heap.objs.size:=by rintro rfl;rw[hd]at eb;cases eb
  exact g3 b o dM (ai _ eb)
 refine ah ⟨_,rfl,h l' ul h' _ e g1 g2 keep hM g4 ?_⟩;refine g5.ext λb o eb hn=>?_;haveI dM:b≠s'.heap.objs.size:=by rintro rfl;rw[aL.bH]at hn;cases hn
 rw[aL.bE dM]at hn;exact⟨g3 b o dM eb,hn⟩
end
section
variable {Γ:Cx} {n:Nat} {N:aL} {k:KV}
theorem ib{α:Type}[Inhabited α]{l:List α}{f:α->V}{key:α->List Nat}{v:V}(hs:d9 N v=some (l.map f)\/v=.set (!cP Γ.w) (l.map f))(S:jj l f key)
  (h:∀l':List α,l'.Perm l->l'.Pairwise (λx y=>¬key y<key x)->k (.lst (l'.map f)) N):aV Γ n (.builtin "sorted") [v] N k:=by
 revert α l f key;exists Γ,n,N,k,v;refine eG trivial λA hA L s hL R w hv=>?_;revert α l f key hA hL R;exists A,L,s,w;haveI hu:A.units+162<=fW:=by have:=hA.2.2;unfold fW;exact aR 0x1d59eadea5e96145e8690567ab7a97a58517a7ad1542ac12 rfl this
 have lj:∀h',(∀b o,s.heap.get? b=some o->h'.get? b=some o)->∀a,cg.get? h' a=none->hide L N a=none:=λh' kp a e=>by
  cases q:hide L N a with
  |none=>rfl
  |some mo=>refine bz (R.live q) λo ho=>?_;rw[kp a o ho]at e;cases e
 refine zE (α:=α) (f:=f) (key:=key) (M:=hide L N) hu ?_;rcases hs with hs |rfl
 ·refine fF R hv (hY hL hs) λa dy m ho np=>?_;revert α l f key;exists a,dy,m;haveI hz:dy.size<=iy:=by have:=np.length;have:=S.len;erw[bF];simp at *;exact aR 0x1d75679f79f79f79f79fbc260109779f8c12 rfl (by assumption) this
  refine collect_list (l:=a) (vs:=dy.toList) ⟨_,by simpa using ho,rfl,m,rfl⟩ ?_ (by simpa using hz);haveI kp:∀b o,s.heap.get? b=some o->((s.heap.push (dS "list" #[] 0)).update s.heap.objs.size (bV (· ++dy.toList.toArray))).get? b=some o:=λb o e=>
   (jA _ _ (Ne.symm (bd (bO e)))).trans (ai _ e)
  refine⟨l,S,lj _ kp,np.ext (cl.keeps kp),λl' ul h2 d e g1 g2 g3 g4 g5 g6=>⟨.lst (l'.map f),⟨λb o eb=>g3 b o (kp b o eb),rfl,rfl⟩,.lst g5 g4 g6,h l' g1 g2⟩⟩
 ·cases hv with
  |set ho hN CH uZ np=>
   rename_i a es ep t;haveI hz:es.length<=1000:=by have:=np.length;have:=S.len;simp at *;exact aR 0x1d7567a77ad88260109779f8c12 rfl (by assumption) this
   refine BC (A:=A.in1) hA.1 ho CH.1 (wg.mp CH.2) uZ hz λord h' d tk hp kp=>?_;refine aI (Bx hp (np.ext (cl.keeps (N:=hide L N) kp))) λl2 p2 NV=>?_;refine⟨l2,S.perm p2,lj _ kp,NV,λl' ul h2 d e g1 g2 g3 g4 g5 g6=>⟨.lst (l'.map f),⟨λb o eb=>g3 b o (kp b o eb),rfl,rfl⟩,.lst g5 g4 g6,h l' (g1.trans p2) g2⟩⟩
end
end
section
section
variable {Γ:Cx} {n:Nat} {N:aL} {k:KV}
theorem yy(h:oV N v=some xs):v=.tup xs\/d9 N v=some xs:=by
 exists N,v,xs;unfold oV at h;cases e:Pl v with
 |none=>rw[e]at h;exact .inr h
 |some ys=>
  exists ys;rw[e]at h;obtain rfl:=aA h;cases v with
  |tup zs=>exact .inl (congrArg V.tup (aA e))
  |_=>exact cy e
theorem eZ(hs:oV N v=some xs)(hb:xs.length<=gS)(h:k (.int (xs.length:Int)) N):aV Γ n (.builtin "len") [v] N k:=by
 refine eG trivial λA hA L s hL R w hv=>?_;haveI MQ:(xs.length:Int)<2 ^ 63:=by unfold gS at hb;lia
 rcases yy hs with rfl |hl
 ·refine hv.ny λa vs m ho hN np=>?_;haveI hz:vs.toArray.size=xs.length:=np.length;refine P.len_tuple ho (by erw[hz];lia) ⟨.int (xs.length:Int),⟨λ_ _ e=>e,rfl,rfl⟩,?_,h⟩;erw[hz];exact .int _ _
 ·refine fF R hv (hY hL hl) λa dy m ho np=>?_;haveI hz:dy.size=xs.length:=np.length;refine call_len_list ⟨_,ho,rfl,m,rfl⟩ (by erw[hz];exact MQ) ⟨.int (xs.length:Int),⟨λ_ _ e=>e,rfl,rfl⟩,?_,h⟩;erw[hz];exact .int _ _
theorem ints_of(hv:ch h M vs (ns.map V.int)):IntsAre vs ns:=by
 induction ns generalizing vs with
 |nil=>exact hv.n2 .nil
 |cons m ns ih=>exact hv.c2 λa r=>a.fX λ_=>.cons _ _ (ih r)
theorem yz{s:aj}{h':cg}{tk:Nat}(k:∀b o,s.heap.get? b=some o->h'.get? b=some o):Kp s {s with heap:=h',toks:=tk}:=⟨k,rfl,rfl⟩
noncomputable def aco(ns:List Int):Nat->Int:=λi=>ns.getD i 0
theorem preSum_getD(ns:List Int)(j:Nat)(h:j<=ns.length):preSum (λi=>ns.getD i 0) j=(ns.take j).sum:=by
 induction j with
 |zero=>rfl
 |succ j ih=>
  haveI e:ns.take (j+1)=ns.take j++[ns.getD j 0]:=by erw[bJ h,ar,aE h];rfl
  rw[e,List.sum_append,<-ih (jM h)];exact congrArg _ (f' _).symm
theorem II{ns:List Int}(h:∀x∈ns,0<=x/\x<=1000000):0<=ns.sum/\ns.sum<=1000000*(ns.length:Int):=by
 induction ns with
 |nil=>exact⟨r4 _,r4 _⟩
 |cons x ns ih=>haveI h1:=h x (.head _);haveI h2:=ih λy hy=>h y (.tail _ hy);rw[kD,aU,Int.natCast_succ,jt,Int.mul_one,pQ x];exact⟨rS h2.1 h1.1,Int.add_le_add h2.2 h1.2⟩
theorem KP{x:Int}(h0:0<=x)(h:x<=1000000*10000):InLong x:=⟨eS (by decide) h0,Int.lt_of_le_of_lt h (by decide)⟩
theorem wt{v:V}{ns:List Int}(hs:d9 N v=some (ns.map V.int))(hb:ns.length<=10000)(hr:∀x∈ns,0<=x/\x<=1000000)(h:k (.int ns.sum) N):aV Γ n (.builtin "sum") [v] N k:=by
 exists Γ,n,N,k,v,ns;refine eG trivial λA hA L s hL R w hv=>?_;revert hA hL R;exists A,L,s,w;refine fF R hv (hY hL hs) λa dy m ho np=>?_;exists a,dy,m;haveI hi:=ints_of np;have hz:dy.size=ns.length:=by have:=np.length;simpa using this
 haveI r6:=bO ho;have lW:s.heap.IsList a dy:=⟨_,ho,rfl,m,rfl⟩
 refine call_sum_walk ?_;refine iI lW ?_;refine⟨s.heap.objs.size,[s.heap.objs.size,a],[s.heap.objs.size],dy.size,_,_,λi=>ns.getD i 0,rfl,x8 (prog:=Γ.prog) (w:=Γ.w) (A:=A.in1) hA.1 s.heap.objs.size a (bd r6) dy,⟨⟨_,aB _ rfl,rfl,rfl⟩,lW.push _⟩,?_,?_,?_,?_⟩
 ·intro b hb;exists b,_;intro hb;haveI hsz:({s with heap:=s.heap.push {cls:=.type "list_iterator",data:=.fields #[.ref a,.int 0 0]}}:aj).heap.objs.size=s.heap.objs.size+1:=eT ..;show b<(s.heap.push _).objs.size;erw[eT];simp at hb;rcases hb with rfl |rfl
  ·exact cK _
  ·exact bZ r6
 ·intro i u hu;exists i,u;refine aI (np.get' (k:=i) (v:=u) (by simpa using hu)) λd FQ hd2=>?_;exists d;rw[aF]at FQ;refine aI (aJ.mp FQ) λx hx aT=>?_;obtain rfl:=aT;cases hd2 with
  |int _ t=>exact⟨t,by show _=fE (ns.getD i 0) t;erw[ar,hx];rfl⟩
 ·intro j hj;exists j;rw[hz]at hj;haveI h1:0<=ns.getD j 0/\ns.getD j 0<=1000000:=by erw[ar,aE hj];exact hr _ (du hj)
  haveI h2:=II (ns:=ns.take (j+1)) λx hx=>hr x (eU hx);erw[preSum_getD ns (j+1) hj];haveI h3:(ns.take (j+1)).length<=10000:=by erw[cG];exact aR 0x1d75679f7a07a68540518025c109679f7a07a68412 rfl hb hj
  exact⟨KP h1.1 (eS h1.2 (by decide)),KP h2.1 (eS h2.2 (Int.mul_le_mul_of_nonneg_left (fD.mpr h3) (by decide)))⟩
 ·intro h' tk t' kp;exists h',tk,t';refine⟨.int ns.sum,yz λb o e=>kp b o ?_ (ai _ e),?_,h⟩
  ·have:=bd (bO e);simpa using this
  ·erw[hz,preSum_getD ns _ (ap _),cX];exact .int _ _
theorem KQ(h:k (.int (if i<0 then -i else i)) N):aV Γ n (.builtin "abs") [.int i] N k:=by refine eG trivial λA hA L s hL R w hv=>?_;refine hv.fX λt=>?_;exact call_abs_int λu tk=>⟨_,⟨λ_ _ e=>e,rfl,rfl⟩,.int _ _,h⟩
theorem KR(h:k (.int i) N):aV Γ n (.type "int") [.int i] N k:=by refine eG trivial λA hA L s hL R w hv=>?_;refine hv.fX λt=>?_;exact call_int_int ⟨_,⟨λ_ _ e=>e,rfl,rfl⟩,.int _ _,h⟩
theorem KT(hi:0<=i)(IZ:i<1000)(h:k (.str (toString i)) N):aV Γ n (.type "str") [.int i] N k:=by
 refine eG trivial λA hA L s hL R w hv=>?_;refine hv.fX λt=>?_;refine P.str_of_int ?_ ⟨_,⟨λ_ _ e=>e,rfl,rfl⟩,.str _ _,h⟩;have:i.natAbs<2 ^ 10:=by lia
 rcases Nat.eq_zero_or_pos i.natAbs with q |q
 ·erw[q];decide
 ·exact bK (Nat.log2_lt (by lia) |>.mpr this) (by decide)
theorem zF(h:k (.bool (Txt.isspace x)) N):aV Γ n (.builtin "str.isspace") [.str x] N k:=by refine eG trivial λA hA L s hL R w hv=>?_;refine hv.oB λt=>?_;exact SC.isspace ⟨_,⟨λ_ _ e=>e,rfl,rfl⟩,.bool _,h⟩
theorem lu(hs:oV N v=some xs)(hb:xs.length<=gS)(h:k (.tup xs) N):aV Γ n (.type "tuple") [v] N k:=by
 refine eG trivial λA hA L s hL R w hv=>?_;rcases yy hs with rfl |hl
 ·refine hv.ny λa vs m ho hN np=>?_;exact call_tuple_same ⟨_,ho,rfl,_,rfl⟩ ⟨.tup xs,⟨λ_ _ e=>e,rfl,rfl⟩,.tup ho hN np,h⟩
 ·refine fF R hv (hY hL hl) λa dy m ho np=>?_;have hz:dy.size=xs.length:=np.length;exact call_tuple_list ⟨_,ho,rfl,m,rfl⟩ (λh' kp=>⟨.tup xs,⟨λb o e=>ai _ (kp b o e),rfl,rfl⟩,VI.vS (s:={s with heap:=h'}) (R.keeps kp) (np.ext (cl.keeps (N:=hide L N) kp)),h⟩) (by erw[hz];exact io hb)
end
end
section
section
variable {Γ:Cx} {n:Nat} {N:aL} {k:KV} {f:al} {args:List V}
inductive Uj(Γ:Cx)(M:aL)(N:aL)(a:ax)(k:KV)(s:aj)(v:al):aj->Prop
 |mk (x:V) (mo:cA) (h':cg) (tk:Nat) (eb:iC a s.heap h') (mi:MI Γ.prog Γ.w h' (M.put a mo) a mo) (hv:VI h' (M.put a mo) v x) (hk:k x (N.put a mo)):Uj Γ M N a k s v {s with heap:=h',toks:=tk}
theorem rA(e:N a=some C8)(ok:hU Γ.K f)(h:∀A,Lv n A->∀(L:ax->Bool)s,L a=false->(∀a,L a=true->N a=none)->bS Γ (hide L N) s->∀vs,ch s.heap (hide L N) vs args->
  am Γ.M A (oI f vs []) (Uj Γ (hide L N) N a k s) ju s):aV Γ n f args N k:=by
 refine⟨ok,λA hA L s hL R vs pT=>?_⟩;have la:L a=false:=by
  cases q:L a with
  |false=>rfl
  |true=>rw[hL a q]at e;cases e
 refine aS (h A hA L s la hL R vs pT) (λv s' q=>?_) λ_ _ e=>e;obtain⟨x,mo,h',tk,eb,mi,hv,hk⟩:=q;haveI eM:hide L N a=some C8:=kM hL e;refine⟨x,N.put a mo,by erw[mS la];exact hv,by erw[mS la];exact R.put eM eb mi,?_,hk⟩;exact cl.S9 e eb
theorem BD(e:N a=some C8)(ok:hU Γ.K f)(h:∀A,Lv n A->∀(L:ax->Bool)s,hide L N a=some C8->bS Γ (hide L N) s->am Γ.M A (oI f [.ref a] []) (Uj Γ (hide L N) N a k s) ju s):aV Γ n f [.ref a] N k:=rA e ok λA hA L s la hL R vs pT=>by refine aI pT.inv1 λv aT x=>?_;obtain rfl:=aT;refine x.sh ?_;exact h A hA L s (kM hL e) R
theorem ph(e:N a=some C8)(ok:hU Γ.K f)(h:∀A,Lv n A->∀(L:ax->Bool)s,(∀a,L a=true->N a=none)->hide L N a=some C8->bS Γ (hide L N) s->∀u,VI s.heap (hide L N) u y->am Γ.M A (oI f [.ref a,u] []) (Uj Γ (hide L N) N a k s) ju s):aV Γ n f [.ref a,y] N k:=rA e ok λA hA L s la hL R vs pT=>by refine fc pT.inv2 λv u aT x b=>?_;obtain rfl:=aT;refine x.sh ?_;exact h A hA L s hL (kM hL e) R u b
theorem BE(e:N a=some C8)(ok:hU Γ.K f)(h:∀A,Lv n A->∀(L:ax->Bool)s,hide L N a=some C8->bS Γ (hide L N) s->∀u w,VI s.heap (hide L N) u y->VI s.heap (hide L N) w z->am Γ.M A (oI f [.ref a,u,w] []) (Uj Γ (hide L N) N a k s) ju s):aV Γ n f [.ref a,y,z] N k:=rA e ok λA hA L s la hL R vs pT=>by refine rh pT.Ud λv u w aT x b c=>?_;obtain rfl:=aT;refine x.sh ?_;exact h A hA L s (kM hL e) R u w b c
theorem jV(e:N a=some (.list xs))(hb:xs.length<=gS)(h:k .none (N.put a (.list (xs++[v])))):aV Γ n (.builtin "list.append") [.ref a,v] N k:=by refine ph e trivial λA hA L s hL eM R u h2=>?_;refine eQ (R.obj _ _ eM) λdy m ho ra=>?_;haveI hz:dy.size=xs.length:=ra.length;refine append_at (hsz:=by erw[hz];exact io hb) ho λh' sb vc=>?_;haveI ex:=cl.put (s:=s) (mo:=.list (xs++[v])) eM sb;refine⟨.none,.list (xs++[v]),h',s.toks,sb.extBut,⟨_,_,vc,?_⟩,.none,h⟩;erw[t5];exact(ra.ext ex).append (.one (h2.ext ex))
theorem ML{dy:Array al}{xs:List V}{v:V}{h:cg}{M:aL}(r:ch h M dy.toList (xs++[v])):∃u,dy[dy.size-1]?=some u/\VI h M u v/\ch h M dy.pop.toList xs/\dy.size=xs.length+1:=by
 exists dy,xs,v,h,M;have hz:dy.size=xs.length+1:=by rw[<-dD,r.length,an];rfl
 refine aI (r.get (k:=xs.length) (d:=v) lO) λu hu hi=>?_;have e:dy.pop.toList=dy.toList.take xs.length:=by erw[Array.toList_pop,List.dropLast_eq_take,dD,hz];rfl
 have t:=r.take xs.length;rw[List.take_left,<-e]at t;erw[hz];exact⟨u,be.symm.trans hu,hi,t,rfl⟩
theorem KU{a:ax}{xs:List V}{v:V}(e:N a=some (.list (xs++[v])))(hb:xs.length<=gS)(h:k v (N.put a (.list xs))):aV Γ n (.builtin "list.pop") [.ref a] N k:=by refine BD e trivial λA hA L s eM R=>?_;refine eQ (R.obj _ _ eM) λdy m ho ra=>?_;refine rg (ML ra) λu hu hi ht hz=>?_;refine Copied.pop_at (hsz:=by erw[bF,hz];exact aa (aw hb) (by decide)) ho (y:=u) hu λh' sb vc=>?_;haveI ex:=cl.put (s:=s) (mo:=.list xs) eM sb;exact⟨v,.list xs,h',s.toks,sb.extBut,⟨_,_,vc,ht.ext ex⟩,hi.ext ex,h⟩
theorem l5(e:N a=some (.list xs))(hs:d9 N v=some ys)(hb:xs.length+ys.length<=gS)(h:k .none (N.put a (.list (xs++ys)))):aV Γ n (.builtin "list.extend") [.ref a,v] N k:=by
 refine ph e trivial λA hA L s hL eM R u h2=>?_;refine eQ (R.obj _ _ eM) λdy m ho ra=>?_;refine fF R h2 (hY hL hs) λb oX m2 XT ra2=>?_;haveI hz:dy.size=xs.length:=ra.length;haveI hz2:oX.size=ys.length:=ra2.length;haveI hq:dy.size+oX.size<=gS:=by erw[hz,hz2];exact hb
 haveI hzz:=vR hq;haveI vm:uQ (dy.size+oX.size)=false:=by unfold uQ;erw[decide_eq_false_iff_not];exact pL.mpr (aa hq (by decide))
 haveI ex0:bu a s.heap (s.heap.update a (bV λx=>x++oX)):=bX ..;refine call_meets xX ⟨_,ho,rfl⟩ PySem.F.entry_list_extend (PySem.F.args_list_extend_2 _ _) (PySem.AutoSeq1.list_extend_list_list_0 a dy m b oX m2 (by erw[vm,yS];exact bU) (by lia) (by lia)) ⟨ho,XT,?_⟩;haveI ex:=cl.put (s:=s) (mo:=.list (xs++ys)) eM ex0;refine⟨.none,.list (xs++ys),_,s.toks,ex0.extBut,⟨_,_,dW ho _,?_⟩,.none,h⟩;erw[Array.toList_append];exact(ra.ext ex).append (ra2.ext ex)
theorem wu{α β γ:Type}[DecidableEq α]{ks:List (α×β)}{kvs:List (α×γ)}(e:ks.map (·.1)=kvs.map (·.1)){q:α}(h:dT kvs q=none):dT ks q=none:=by haveI h1:=kO ks q;rw[tx e,<-kO kvs q,h]at h1;exact Option.not_isSome_iff_eq_none.mp (by erw[h1];exact bU)
theorem tJ{d:ax}{kvs:List (PK×V)}{ep:Nat}{key IV:V}{q:PK}(e:N d=some (.dp kvs ep))(hq:ri key=some q)(h:k ((dT kvs q).getD IV) N):aV Γ n (.builtin "dict.get") [.ref d,key,IV] N k:=by
 refine sD trivial λA hA L s hL R v u w h1 h2 h3=>?_;refine h1.sh ?_;have eM:hide L N d=some (.dp kvs ep):=kM hL e;refine cQ (R.obj _ _ eM) λks hd hk hr=>?_;refine call_meetsIn oK hd.dictOf.typeIs PySem.F.entry_dict_get (PySem.F.args_dict_get_3 _ _ _) (meets_dict_get_default (pk Γ.prog Γ.w) d (AL h2 hq) (R.nw eM) _) ⟨_,hd.dictOf.mapOf,(dT kvs q).getD IV,⟨λ_ _ e=>e,rfl,rfl⟩,?_,h⟩;erw[show valueAt ks q=dT ks q from rfl];cases e1:dT kvs q with
 |some x=>refine aI (oY hk hr e1) λv hv hi=>?_;erw[hv];exact hi
 |none=>erw[wu hk e1];exact h3
theorem BF{α β γ:Type}[DecidableEq α]{ks:List (α×β)}{kvs:List (α×γ)}(e:ks.map (·.1)=kvs.map (·.1))(q:α):(ks.filter λp=>!decide (p.1=q)).map (·.1)=(kvs.filter λp=>!decide (p.1=q)).map (·.1):=by
 induction ks generalizing kvs with
 |nil=>cases kvs with
  |nil=>rfl
  |cons _ _=>cases e
 |cons p ks ih=>
  cases kvs with
  |nil=>cases e
  |cons p' kvs=>
   simp only[aP,nv]at e;have:=ih e.2;by_cases hq:p.1=q
   ·haveI PF:p'.1=q:=by rw[<-e.1];exact hq
    simp only[cV,hq,PF,decide_true,kB,bc,if_false];exact this
   ·haveI PF:p'.1≠q:=by rw[<-e.1];exact hq
    simp only[cV,hq,PF,decide_false,yR,if_true,aP,e.1];erw[this]
theorem Hu{h:cg}{M:aL}{α:Type}[DecidableEq α]{q:α}{ks:List (α×al)}{kvs:List (α×V)}(e:ks.map (·.1)=kvs.map (·.1))(r:ch h M (ks.map (·.2)) (kvs.map (·.2))):
  ch h M ((ks.filter λp=>!decide (p.1=q)).map (·.2)) ((kvs.filter λp=>!decide (p.1=q)).map (·.2)):=by
 refine Db (P:=λ(ks:List (α×al))(kvs:List (α×V))=>ch h M ((ks.filter λp=>!decide (p.1=q)).map (·.2)) ((kvs.filter λp=>!decide (p.1=q)).map (·.2))) .nil ?_ e r;intro k v x as bs i ih;erw[cV,cV];show ch h M (jz _ (if(!decide (k=q))=true then _ else _)) (jz _ (if(!decide (k=q))=true then _ else _));by_cases hq:k=q
 ·erw[decide_eq_true hq];exact ih
 ·erw[decide_eq_false hq];exact .cons i ih
theorem Hv{d:ax}{kvs:List (PK×V)}{ep:Nat}{i:Int}{x:V}(e:N d=some (.dp kvs ep))(hx:dT kvs (.i i)=some x)(hb:kvs.length<=gS)
  (h:∀iz,k x (N.put d (.dp (kvs.filter λp=>!decide (p.1=.i i)) iz))):aV Γ n (.builtin "dict.pop") [.ref d,.int i] N k:=by
 exists Γ,n,N,k,d,kvs,ep,i,x;refine ph e trivial λA hA L s hL eM R u h2=>?_;refine cQ (R.obj _ _ eM) λks hd hk hr=>?_;refine aI (oY hk hr hx) λv hv hi=>?_;haveI hlen:=congrArg cB hk;rw[ag,ag]at hlen;haveI kj:=AL h2 (q:=.i i) rfl;refine bz h2.int_inv λt aT=>?_;obtain rfl:=aT;refine call_meetsIn Ao hd.dictOf.typeIs PySem.F.entry_dict_pop (PySem.F.args_dict_pop_2 _ _) (meets_dict_pop_there (pk Γ.prog Γ.w) (k:=.i i) (key:=.int i t) d kj [] (.inl rfl) rfl) ⟨ks,v,hd.dictOf,by erw[hlen];exact io hb,hv,λh' CC sb=>?_⟩;haveI ew:without ks (PK.i i)=ks.filter λp=>!decide (p.1=.i i):=by
  unfold without
  congr 1;funext p;simp
 rw[ew]at CC;refine bz CC.dictAt λiz hd2=>?_;haveI ex:=cl.put (s:=s) (mo:=.dp (kvs.filter λp=>!decide (p.1=.i i)) iz) eM sb;refine⟨x,.dp (kvs.filter λp=>!decide (p.1=.i i)) iz,h',s.toks+1,sb.extBut,⟨_,hd2,?_,?_⟩,hi.ext ex,h iz⟩
 ·exact BF hk _
 ·exact Hu hk (hr.ext ex)
end
end
section
theorem Hw:xi (.type "list") ("keys":Str)=pure none:=by erw[typeLookup_type,builtinLookup_eq_fast];kernel_rfl
theorem jk:entryFor table "dict.update.loop"=some Builtin.«dict.update.loop»:=entryFor_of_tree (by kernel_rfl)
theorem fh:plainId "dict.update.loop"=true:=by decide+kernel
section
variable {prog:cx} {w:eB} {A:bW} {E:al->aj->Prop} {s:aj}
theorem Hx{Q:Option al->aj->Prop}(hA:A.handled=none)(hx:s.heap.get? a=some (listOf xs k))
  (h:∀h' tk,(∀b o,s.heap.get? b=some o->h'.get? b=some o)->Q none {s with heap:=h',toks:=tk}):am (bB prog w) A (getAttr? (.ref a) ("keys":Str)) Q E s:=by
 exists prog,w,A,E,s,a,xs,k,Q;obtain⟨hp,g,d,tk,os⟩:=s;exists hp,g,d,tk,os;haveI hT:∀MV,(⟨hp,g,d,MV,os⟩:aj).TypeIs (.ref a) "list":=λ_=>⟨_,hx,rfl⟩
 haveI f1:=sub_AttributeError;haveI f3:=oL.lookup;haveI f4:=oL.bind (.ref a);haveI f5:=am_list_getattr_none;haveI Uk:(["__module__","__name__","__qualname__","__doc__","__annotations__"]:List Str).contains ("keys":Str)=false:=by decide+kernel
 haveI Ul:=Hw;unfold getAttr? getAttrBy? getAttrBy
 repeat (any_goals (first |assumption |exact hT _ |((with_reducible show am _ _ (oI (al.builtin "list.__getattribute__") _ _) _ _ _);refine call_meets oL (hT _) am_entry_list_getattribute (F.args_list_getattribute_2 _ _) (meets_getattribute_miss_list a xs k #[] ("keys":Str) _ Ul Uk (by decide+kernel)) ⟨hx,hA,λh' MV e Pn=>?_⟩) |wp_step))
 exists h',MV,e;refine qv Pn.there λt' u' he=>?_;exists t',u';try (show am _ _ (getattributeRaised _ _ _ _ _ _ _) _ _ _)
 try unfold getattributeRaised
 repeat (any_goals (first |assumption |wp_step))
 exact h _ _ Pn.keeps
end
noncomputable def BG(p:PK×V):V:=.tup [p.1.v,p.2]
section
variable {prog:cx} {w:eB} {A:bW} {E:al->aj->Prop} {s:aj} {M:aL}
inductive DL(prog:cx)(w:eB)(M:aL)(D I:ax)(kvs:List (PK×V))(s:aj):EY->aj->Prop
 |mk (h':cg) (tk:Nat) (oC:List (PK×al)) (iz:Nat) (g1:h'.DictAt (pk prog w) D oC iz) (g2:oC.map (·.1)=kvs.map (·.1)) (g3:ch h' M (oC.map (·.2)) (kvs.map (·.2))) (g4:∀b o,b≠D->b≠I->s.heap.get? b=some o->h'.get? b=some o):DL prog w M D I kvs s (.ok (.ret .none)) {s with heap:=h',toks:=tk}
theorem Hy(x:VI h M v (BG p)):∃t kv vv m,v=.ref t/\h.get? t=some (kK #[kv,vv] m)/\PK.is p.1 kv=true/\VI h M vv p.2:=by exists M,h,v,p;refine(show VI h M v (.tup [p.1.v,p.2]) from x).ny λt vs m ht _ hv=>?_;refine fc hv.inv2 λkv vv e a b=>?_;subst e;exact⟨t,kv,vv,m,rfl,ht,um a,b⟩
theorem ET{ks:List (PK×al)}{q:PK}{v:al}(h:q∉ks.map (·.1)):n8 ks q v=ks++[(q,v)]:=by unfold n8;erw[if_neg λe=>by refine aI (cF.mp e) λx hx he=>?_;exact h (ak.mpr ⟨x,hx,of_decide_eq_true he⟩)]
theorem KW{kvs:List (PK×V)}(uh:(kvs.map (·.1)).Nodup){i:Nat}{p:PK×V}(h:kvs[i]?=some p):p.1∉(kvs.take i).map (·.1):=λhm=>by
 rw[ga]at hm;obtain⟨j,hj,e⟩:=dC.mp hm;refine bz (cq.mp h) λhi e2=>?_;haveI PA:=aY hj (cS _ _);haveI uf:i<(kvs.map (·.1)).length:=by erw[ag];exact hi
 refine b8.mp uh j i (bK PA uf) uf PA (e.trans ?_);erw[vG,e2]
theorem Hz(hh:A.handled=none){D I l:ax}{items:Array al}{kvs:List (PK×V)}(Sx:l≠I)(BB:D≠I)(PG:D≠l)(hMD:M D≠none)(Ue:M I≠none)(uh:(kvs.map (·.1)).Nodup)(hz:kvs.length<=1000)(hsz:items.size=kvs.length):
  ∀(k i:Nat)(s:aj)(ks:List (PK×al))(ep:Nat),items.size-i=k->i<=items.size->s.heap.IsListIter I l i->s.heap.IsList l items->ch s.heap M items.toList (kvs.map BG)->s.heap.DictAt (pk prog w) D ks ep->
   ks.map (·.1)=(kvs.take i).map (·.1)->ch s.heap M (ks.map (·.2)) ((kvs.take i).map (·.2))->
   ja (bB prog w) A (.builtin "dict.update.loop" ⟨[.ref D,.ref I,gV i,.none],[]⟩) (DL prog w M D I kvs s) s:=by
 revert hh;exists prog,w,A,M,D,I,l,items,kvs,_;intro Sx BB PG hMD Ue uh hz hsz hh;haveI Wp:A.in1.handled=none:=hh;have W:=x8 (prog:=prog) (w:=w) Wp I l Sx items;haveI nI:∀b,b∉[I]->b≠I:=λb h e=>h (ao.mpr e);haveI SA:∀b,b≠I->b∉[I]:=λb h e=>h (ao.mp e);intro k;exists k,_;induction k with
 |zero=>intro i s ks ep hk hi h1 h2 hv hd o7 pT;exists i,s,ks,ep;haveI D4:i=items.size:=qr hi (qB hk);subst D4;refine dB jk ?_;erw[cu fh _];show am _ A.in1 (kz (.ref I) >>= _) _ _ s;refine af (W.done s _ _ ⟨h1,h2⟩ λh' tk mG=>?_);rw[hsz,cX]at o7 pT;show am _ _ (Builtin.Dict.addKeywords D [] >>= _) _ _ _;exact af (ah (ah (.mk h' tk ks ep (hd.at' λo e=>mG D o (SA _ BB) e) o7 (pT.ext λb o e hn=>⟨mG b o (SA _ (by rintro rfl;exact Ue hn)) e,hn⟩) λb o _ hb e=>mG b o (SA _ hb) e)))
 |succ k ih=>
  exists k,_;intro ih;intro i s ks ep hk hi h1 h2 hv hd o7 pT;exists i,s,ks,ep;have fY:i<items.size:=Nat.lt_of_sub_ne_zero (by erw[hk];exact Nat.succ_ne_zero k);obtain⟨p,hp⟩:∃p,kvs[i]?=some p:=⟨_,aE (hsz▸fY)⟩
  exists p;haveI Wq:kvs.take (i+1)=kvs.take i++[p]:=by erw[uN,hp];rfl
  refine dB jk ?_;erw[cu fh _];show am _ A.in1 (kz (.ref I) >>= _) _ _ s;refine af (W.item i s _ _ fY ⟨h1,h2⟩ λv h' tk hP gf mG=>?_);exists v,h',tk;have eE:cl M s.heap M h':=λb o e hn=>⟨mG b o (SA _ (by rintro rfl;exact Ue hn)) e,hn⟩
  refine aI ((hv.ext eE).get' (k:=i) (v:=v) (be.trans hP)) λd0 FQ hd2=>?_;exists d0;rw[aF,hp]at FQ;cases FQ;refine yX (Hy hd2) λt kv vv m aT ht e1 e2=>?_;exists t,kv,vv,m;obtain rfl:=aT;show am _ A.in1 (CW [.ref t] _ >>= _) _ _ {s with heap:=h',toks:=tk};refine af (aZ ?_);show am _ _ ((tryCatch (vI (.ref t)) _) >>= _) _ _ _;refine af (wpAny_tryCatch ?_);unfold vI;refine af (kw (T:="tuple") ⟨_,ht,rfl⟩ ?_);erw[if_pos (by decide)];refine af (iV ht rfl (ah ?_));show am _ _ (CW [kv,vv] (dictSet D kv vv)) _ _ _;refine aZ ?_;haveI hlen:ks.length<=1000:=by have:=congrArg cB o7;rw[ag,ag,cG]at this;exact this▸aa (xh _ _) hz
  refine ye (knd:=pk prog w) (s:={s with heap:=h',toks:=tk}) e1 (hd.at' λo e=>mG D o (SA _ BB) e) (λBo iz he hd2 sb=>?_) (by erw[bF];exact aa hlen (by decide));exists Bo,iz,_;intro he hd2 sb;rw[ET (by erw[o7];exact KW uh hp)]at hd2;haveI li:cl M h' M Bo:=λb o e hn=>⟨by erw[sb.2 b (by rintro rfl;exact hMD hn)];exact e,hn⟩
  refine ah ⟨gF fh _,?_⟩;refine dJ (ih (i+1) {s with heap:=Bo,toks:=tk+1} (ks++[(p.1,vv)]) iz (by erw[Nat.sub_succ,hk];rfl) fY ?_ ?_ ((hv.ext eE).ext li) hd2 ?_ ?_) λr s3 q=>?_
  ·exact gf.1.at λo e=>by erw[sb.2 I (Ne.symm BB)];exact e
  ·exact gf.2.at λo e=>by erw[sb.2 l (Ne.symm PG)];exact e
  ·erw[Wq,az,az,o7];rfl
  ·erw[Wq,az,az];exact((pT.ext eE).ext li).append (.one (e2.ext li))
  ·obtain⟨h3,I0,oC,ep3,g1,g2,g3,g4⟩:=q;exact .mk h3 I0 oC ep3 g1 g2 g3 λb o b1 b2 e=>g4 b o b1 b2 (by erw[sb.2 b b1];exact mG b o (SA _ b2) e)
theorem HA(hh:A.handled=none){l:ax}{items:Array al}{m:Nat}{kvs:List (PK×V)}{Q:al->aj->Prop}(hl:s.heap.get? l=some (listOf items m))(lj:∀a,s.heap.get? a=none->M a=none)
  (hv:ch s.heap M items.toList (kvs.map BG)) (uh:(kvs.map (·.1)).Nodup) (hz:kvs.length<=1000)
  (h:∀h' tk ks ep,(∀b o,s.heap.get? b=some o->h'.get? b=some o)->h'.DictAt (pk prog w) s.heap.objs.size ks ep->ks.map (·.1)=kvs.map (·.1)->ch h' (M.put s.heap.objs.size .jd) (ks.map (·.2)) (kvs.map (·.2))->Q (.ref s.heap.objs.size) {s with heap:=h',toks:=tk}):
  am (bB prog w) A (oI (.type "dict") [.ref l]) Q E s:=by
 revert hh;exists prog,w,A,E,s,M,l,items,m,kvs,Q;haveI MW:l<s.heap.objs.size:=bO hl;haveI Wr:s.heap.get? s.heap.objs.size=none:=cN _;refine callType_codes (Q₁:=λobj fJ=>obj=.ref s.heap.objs.size/\fJ={s with heap:=s.heap.push {cls:=.type "dict",data:=.dict #[]}}) PySem.F.kt_called_dict (PySem.F.kt_typeCall_dict_1 _) PySem.F.entry_dict_init (kt_code_dict_new _ ⟨rfl,rfl⟩) ?_;rintro obj fJ ⟨rfl,rfl⟩;haveI mV:(s.heap.push {cls:=.type "dict",data:=.dict #[]}).DictAt (pk prog w) s.heap.objs.size [] 0:=⟨_,#[],aB _ rfl,⟨rfl,rfl,rfl⟩,rfl,λ_ he=>by simp at he,Pairs.nil,cH⟩
 haveI qH:(s.heap.push {cls:=.type "dict",data:=.dict #[]}).get? l=some (listOf items m):=ai _ hl;haveI Wd:∀b o,s.heap.get? b=some o->(s.heap.push {cls:=.type "dict",data:=.dict #[]}).get? b=some o:=λb o e=>ai _ e;refine⟨mV.dictOf.typeIs,PySem.F.args_dict_init_2 _ _,?_⟩;unfold Builtin.«dict.__init__»;refine af ?_;unfold Builtin.Dict.selfAndRest;refine af (tg mV.dictOf.typeIs ?_);show am _ _ (pure (s.heap.objs.size,[eI l])) _ _ _;refine ah ?_;show am _ _ (u9 "dict.__init__" s.heap.objs.size (.ref l) [] .none) _ _ _;unfold u9;refine af (kw (T:="list") ⟨_,qH,rfl⟩ ?_);erw[if_pos (by decide)];refine af (Hx (s:={s with heap:=s.heap.push {cls:=.type "dict",data:=.dict #[]}}) hh qH λh2 tk Qx=>?_);exists h2,tk;erw[if_pos (show(none:Option al).isNone=true from rfl)];refine af (dZ ?_);haveI rB:h2.get? l=some (listOf items m):=Qx _ _ qH;haveI hd2:h2.DictAt (pk prog w) s.heap.objs.size [] 0:=mV.keep Qx;haveI Bl:s.heap.objs.size<h2.objs.size:=hd2.lt_size;refine af (iI (s:={s with heap:=h2,toks:=tk}) ⟨_,rB,rfl,m,rfl⟩ ?_);dsimp only;haveI kp3:∀b o,s.heap.get? b=some o->(h2.push {cls:=.type "list_iterator",data:=.fields #[.ref l,.int 0 0]}).get? b=some o:=λb o e=>ai _ (Qx _ _ (Wd _ _ e));haveI uW:cl M s.heap ((M.put s.heap.objs.size .jd).put h2.objs.size .jd) (h2.push {cls:=.type "list_iterator",data:=.fields #[.ref l,.int 0 0]}):=λb o e hn=>by haveI h1:=bO e;refine⟨kp3 b o e,?_⟩;erw[aL.bE (bd (bK h1 Bl)),aL.bE (bd h1)];exact hn
 refine ah ⟨gF fh _,dJ (Hz (A:=A.in1) (M:=(M.put s.heap.objs.size .jd).put h2.objs.size .jd) (l:=l) (I:=h2.objs.size) (D:=s.heap.objs.size) (items:=items) hh (bd (bK MW Bl)) (bd Bl) (E7 MW) ?_ ?_ uh hz ?_
  items.size 0 {s with heap:=h2.push {cls:=.type "list_iterator",data:=.fields #[.ref l,.int 0 0]},toks:=tk} [] 0 rfl (aG _) ⟨_,aB _ rfl,rfl,rfl⟩ ⟨_,ai _ rB,rfl,m,rfl⟩ (hv.ext uW) (hd2.keep λb o e=>ai _ e) rfl .nil) λr s3 q=>?_⟩
 ·erw[aL.bE (bd Bl),aL.bH];exactλq=>by cases q
 ·erw[aL.bH];exactλq=>by cases q
 ·have:=hv.length;rw[ag]at this;exact this
 ·obtain⟨h3,I0,ks,ep,g1,g2,g3,g4⟩:=q;refine⟨rfl,h h3 I0 ks ep (λb o e=>?_) g1 g2 (g3.less λb hb=>?_)⟩
  ·haveI h1:=bO e;exact g4 b o (bd h1) (bd (bK h1 Bl)) (kp3 b o e)
  ·unfold aL.put at hb ⊢;split at hb
   ·cases hb
   ·exact hb
end
section
variable {Γ:Cx} {n:Nat} {N:aL} {k:KV}
theorem yA{v:V}{kvs:List (PK×V)}(hs:d9 N v=some (kvs.map BG))(uh:(kvs.map (·.1)).Nodup)(hz:kvs.length<=1000)(h:∀d ep,N d=none->k (.ref d) (N.put d (.dp kvs ep))):aV Γ n (.type "dict") [v] N k:=by
 refine⟨trivial,λA hA L s hL R vs pT=>?_⟩;refine aI pT.inv1 λu aT hv=>?_;obtain rfl:=aT;refine fF R hv (hY hL hs) λa dy m ho np=>?_;have lj:∀a,s.heap.get? a=none->hide L N a=none:=λa e=>R.ce e;have Wr:s.heap.get? s.heap.objs.size=none:=cN _;refine a9 (co.mp (lj _ Wr)) λl0 n0=>?_;refine HA (M:=hide L N) hA.1 ho lj np uh hz λh' tk ks ep kp g1 g2 g3=>?_;refine⟨.ref s.heap.objs.size,N.put s.heap.objs.size (.dp kvs ep),.ref _,?_,?_,h _ ep n0⟩
 ·erw[mS l0];exact bS.new (t:=tk) R Wr kp ⟨ks,g1,g2,g3.less λb hb=>by
   unfold aL.put at hb ⊢;split at hb
   ·cases hb
   ·rename_i q;erw[if_neg q];exact hb⟩
 ·exact cl.new Wr kp
end
end
section
section
variable {prog:cx} {w:eB} {K:Type} [DecidableEq K] {knd:HeapKind prog w K} {A:bW} {E:al->aj->Prop} {s:aj}
theorem sE{Q:al->aj->Prop}(hu:knd.room A)(kj:knd.is s.heap k a)(hm:s.heap.DictOfH knd d xs)
  (h1:∀p,vD xs k=some p->Q p.2 {s with toks:=s.toks+knd.draws k})
  (h2:vD xs k=none->∀h',h'.DictOfH knd d (xs++[(k,a,v)])->bu d s.heap h'->Q v {s with heap:=h',toks:=s.toks+knd.draws k}) (hsz:xs.length<=iy):
  am (bB prog w) A (E9 d (.ref a) v) Q E s:=by
 refine S5 hm λo es ep ho hc hd he his hn=>?_;clear hm;unfold E9
 try with_reducible refine aZ ?_
 refine af (knd.pyHash hu kj ?_);refine af (wpAny_dictFind_heap (s:={s with toks:=s.toks+knd.draws k}) hu kj ho hd he his hn ?_ ?_)
 ·intro uT;have vW:k∉xs.map (·.1):=not_mem_keys_of_get uT;refine af (dZ (af (wpAny_updateDictKeys (hz:=by have e:=size_of_entries he;lia) (s:={s with toks:=s.toks+knd.draws k}) ho hd (ah (h2 (atKey_none_of_get uT) _ ⟨_,_,ep+1,fQ _ ho (tf (kU hd _)),
   hc.mapDictKeys _,kU hd _,?_,?_,?_⟩ (bX ..))))))
  ·simp[he,entryOfKey]
  ·intro x hx;rcases aH.mp hx with hx |hx
   ·exact knd.keeps (his x hx) ho hd (bX ..)
   ·simp only[ao]at hx;subst hx;exact knd.keeps kj ho hd (bX ..)
  ·erw[az,bI];refine⟨hn,by simp,?_⟩;intro x hx y hy;simp only[aP,uJ,ao]at hy;subst hy
   exactλe=>vW (e▸hx)
 ·intro j p hj;refine af (wpAny_dictEntries (s:={s with toks:=s.toks+knd.draws k}) ho hd ?_);erw[entry_at he j,hj];exact af (dZ (ah (h1 p (atKey_of_get hn hj))))
end
section
variable {Γ:Cx} {n:Nat} {N:aL} {k:KV}
theorem oj{Q:al->aj->Prop}(hA:Lv n A)(hd:s.heap.DictOfH (tk Γ.prog Γ.w) d xs)(hi:(tk Γ.prog Γ.w).is s.heap q a)(lo:(d==xf)=false)(hsz:xs.length<=iy)
  (w1:∀p,vD xs q=some p->Q p.2 {s with toks:=s.toks+(tk Γ.prog Γ.w).draws q})
  (w2:vD xs q=none->∀h',h'.DictOfH (tk Γ.prog Γ.w) d (xs++[(q,a,dv)])->bu d s.heap h'->Q dv {s with heap:=h',toks:=s.toks+(tk Γ.prog Γ.w).draws q}):am Γ.M A (oI (.builtin "dict.setdefault") [.ref d,.ref a,dv] []) Q ju s:=by
 refine eX u6 hd.typeIs PySem.F.entry_dict_setdefault ?_ (PySem.F.args_dict_setdefault_3 _ _ _);unfold Builtin.«dict.setdefault»;refine af ?_;unfold Builtin.Dict.keyAndDefault;refine af (tg hd.typeIs ?_);show am _ _ (pure (d,eI a,some dv)) _ _ s;refine ah ?_;show am _ _ (if(d==xf)=true then _ else(E9 d (.ref a) dv >>= _)) _ _ s;erw[if_neg (by erw[lo];exact bU)];exact af (sE hA.room hi hd (λp hp=>ah ⟨_,rfl,w1 p hp⟩) (λuT h' CC sb=>ah ⟨_,rfl,w2 uT h' CC sb⟩) hsz)
theorem yB(hk:xs.map (·.1)=kvs.map (·.1))(hr:ch h M (xs.map (·.2.2)) (kvs.map (·.2)))(q:List PK):(∀x,dT kvs q=some x->∃p,vD xs q=some p/\VI h M p.2 x)/\(dT kvs q=none->vD xs q=none):=by
 haveI CD:(xs.map λx=>(x.1,x.2.2)).map (·.1)=kvs.map (·.1):=by erw[AM];exact hk
 haveI hrr:ch h M ((xs.map λx=>(x.1,x.2.2)).map (·.2)) (kvs.map (·.2)):=by erw[Fv];exact hr
 haveI e0:(vD xs q).map (·.2)=dT (xs.map λx=>(x.1,x.2.2)) q:=ty xs q;refine⟨λx hx=>?_,λuT=>?_⟩
 ·refine aI (oY CD hrr hx) λv hv hi=>?_;rw[hv]at e0;refine aI (aJ.mp e0) λp hp aT=>?_;obtain rfl:=aT;exact⟨p,hp,hi⟩
 ·rw[wu CD uT]at e0;exact Az.mp e0
theorem mW{d:ax}{kvs:List (List PK×V)}{key IV:V}{q:List PK}(e:N d=some (.dt kvs))(hq:AF key=some q)(hb:kvs.length<=gS)
  (h1:∀x,dT kvs q=some x->k x N) (h2:dT kvs q=none->k IV (N.put d (.dt (kvs++[(q,IV)])))):aV Γ n (.builtin "dict.setdefault") [.ref d,key,IV] N k:=by
 exists Γ,n,N,k,d,kvs,key,IV,q;have sz:∀{xs:List (List PK×ax×al)},xs.map (·.1)=kvs.map (·.1)->xs.length<=iy:=λ{xs}e=>by have:=congrArg cB e;rw[ag,ag]at this;exact io (this▸hb)
 cases hg:dT kvs q with
 |some x=>refine sD trivial λA hA L s hL R v u dv i1 i2 i3=>?_;refine i1.sh ?_;refine rg (R.obj _ _ (kM hL e)) λxs hd hn hk hr=>?_;refine cQ (JH (prog:=Γ.prog) (w:=Γ.w) i2 hq) λa aT hi ha=>?_;obtain rfl:=aT;refine aI ((yB hk hr q).1 x hg) λp hp hv=>?_;exact oj hA hd hi (R.nw (kM hL e)) (sz hk) (λp' IX=>⟨x,⟨λ_ _ e=>e,rfl,rfl⟩,by cases hp.symm.trans IX;exact hv,h1 x hg⟩) λhn=>cy (hn.symm.trans hp)
 |none=>
  refine BE e trivial λA hA L s eM R u dv i2 i3=>?_;refine rg (R.obj _ _ eM) λxs hd hn hk hr=>?_;refine cQ (JH (prog:=Γ.prog) (w:=Γ.w) i2 hq) λa aT hi ha=>?_;obtain rfl:=aT;have uT:=(yB hk hr q).2 hg;refine oj hA hd hi (R.nw eM) (sz hk) (λp hp=>cy (uT.symm.trans hp)) λ_ h' CC sb=>?_;haveI ex:=cl.put (s:=s) (mo:=.dt (kvs++[(q,IV)])) eM sb;refine⟨IV,.dt (kvs++[(q,IV)]),h',_,sb.extBut,⟨_,CC,λy hy=>?_,?_,?_⟩,i3.ext ex,h2 hg⟩
  ·have MU:hide L N y.2.1=none:=(aH.mp hy).elim (hn y) λhy=>ao.mp hy▸ha;erw[aL.bE λe2=>by rw[e2,eM]at MU;cases MU];exact MU
  ·erw[az,az,hk];rfl
  ·erw[az,az];exact(hr.ext ex).append (.one (i3.ext ex))
theorem BH(ns:List Int):∀(k:Nat),k<ns.length->argBest (λi j=>decide (ns.getD i 0 > ns.getD j 0)) k<ns.length/\∀j,j<=k->ns.getD j 0<=ns.getD (argBest (λi j=>decide (ns.getD i 0 > ns.getD j 0)) k) 0:=by
 intro k;induction k with
 |zero=>
  intro h;exact⟨h,λj hj=>by
   have:j=0:=by exact aR 32306481232913 rfl hj
   subst this;exact r4 _⟩
 |succ k ih=>
  intro h;refine a9 (ih (by exact aR 0x1d5c20570918012 rfl h)) λh1 h2=>?_;unfold argBest;split
  ·rename_i c;have c:=of_decide_eq_true c;refine⟨h,λj hj=>?_⟩;by_cases e:j=k+1
   ·subst e;exact r4 _
   ·have:=h2 j (by exact aR 0x75d58205a6118020564600812 rfl hj e);lia
  ·rename_i c;have c:=of_decide_eq_false (Bool.eq_false_iff.mpr c);refine⟨h1,λj hj=>?_⟩;by_cases e:j=k+1
   ·subst e;lia
   ·exact h2 j (by exact aR 0x75d58205a6118020564600812 rfl hj e)
theorem KX{v:V}{ns:List Int}(hs:d9 N v=some (ns.map V.int))(dM:0<ns.length)(h:∀M,M∈ns->(∀x∈ns,x<=M)->k (.int M) N):aV Γ n (.builtin "max") [v] N k:=by
 exists Γ,n,N,k,v,ns;refine eG trivial λA hA L s hL R w hv=>?_;revert hA hL R;exists A,L,s,w;refine fF R hv (hY hL hs) λa dy m ho np=>?_;exists a,dy,m;have hz:dy.size=ns.length:=by have:=np.length;simpa using this
 haveI r6:=bO ho;haveI lW:s.heap.IsList a dy:=⟨_,ho,rfl,m,rfl⟩
 have Wo:∀i u,dy[i]?=some u->∃t,u=fE (ns.getD i 0) t:=λi u hu=>by
  exists i,u;refine aI (np.get' (k:=i) (v:=u) (by simpa using hu)) λd FQ hd2=>?_;exists d;rw[aF]at FQ;refine aI (aJ.mp FQ) λx hx aT=>?_;obtain rfl:=aT;cases hd2 with
  |int _ t=>exact⟨t,by erw[ar,hx];rfl⟩
 refine call_max_walk ?_;refine iI lW ?_;refine⟨s.heap.objs.size,[s.heap.objs.size,a],[s.heap.objs.size],dy.size,_,_,λi j=>decide (ns.getD i 0 > ns.getD j 0),rfl,x8 (prog:=Γ.prog) (w:=Γ.w) (A:=A.in1) hA.1 s.heap.objs.size a (bd r6) dy,⟨⟨_,aB _ rfl,rfl,rfl⟩,lW.push _⟩,?_,by exact aR 0x1d75709f60109705f2 rfl dM hz,CmpOf.ints_gt (λi=>ns.getD i 0) Wo,?_⟩
 ·intro b hb;exists b;show b<(s.heap.push _).objs.size;erw[eT];simp at hb;rcases hb with rfl |rfl
  ·exact cK _
  ·exact bZ r6
 ·intro u h' tk hu kp;exists u,h',tk;refine bz (Wo _ _ hu) λt aT=>?_;exists t;obtain rfl:=aT;refine a9 (BH ns (dy.size-1) (by exact aR 0x1d75705280260109705f2 rfl dM hz)) λb1 b2=>?_;refine⟨_,yz λb o e=>kp b o ?_ (ai _ e),.int _ t,h _ ?_ λx hx=>?_⟩
  ·have:=bd (bO e);simpa using this
  ·erw[ar,aE b1];exact du b1
  ·exists x;obtain⟨j,hj,rfl⟩:=rc.mp hx;have:=b2 j (by exact aR 0x1d75d5928020d704360109705f3 rfl dM hz hj);simpa[ar,hj]using this
end
end
section
theorem aL.nL{N:aL}{a:ax}{x y:cA}:(N.put a x).put a y=N.put a y:=by
 funext b;unfold aL.put;split<;>rfl
theorem aL.wv{N:aL}{a:ax}{x:cA}(h:N a=none):(N.put a x).drop a=N:=by
 funext b
 by_cases e:b=a
 ·subst e;simp[aL.drop,h]
 ·simp[aL.drop,aL.put,e]
noncomputable def Sub(N:aL)(l:List (ax×cA)):Prop:=(l.map (·.1)).Nodup/\∀p∈l,N p.1=some p.2
theorem Sub.perm(h:Sub N l)(p:l'.Perm l):Sub N l':=⟨(p.map _).nodup_iff.mpr h.1,λq hq=>h.2 q (p.mem_iff.mp hq)⟩
theorem Sub.nil:Sub N []:=⟨cH,λ_ h=>by cases h⟩
theorem Sub.tail(h:Sub N (p::l)):Sub N l:=⟨(bt.mp h.1).2,λq hq=>h.2 q (.tail _ hq)⟩
theorem Sub.XU(h:Sub N ((a,mo)::l)):Sub (N.put a mo') ((a,mo')::l):=by
 refine⟨h.1,λq hq=>?_⟩;rcases aq.mp hq with rfl |hq
 ·exact aL.bH _ _ _
 ·have:q.1≠a:=λe=>(bt.mp h.1).1 (ak.mpr ⟨q,hq,e⟩);erw[aL.bE this];exact h.2 q (.tail _ hq)
theorem Sub.Um(h:Sub N l)(p:l.Perm ((a,mo)::r))(p':l'.Perm ((a,mo')::r)):Sub (N.put a mo') l':=((h.perm p.symm).XU).perm p'
theorem Sub.mid(h:Sub N (x++(a,mo)::y)):Sub (N.put a mo') (x++(a,mo')::y):=h.Um cI cI
theorem Sub.new(h:Sub N l)(hn:N a=none):Sub (N.put a mo) ((a,mo)::l):=by
 have dM:∀q∈l,q.1≠a:=λq hq e=>by have:=h.2 q hq;rw[e,hn]at this;cases this
 refine⟨bt.mpr ⟨λhm=>?_,h.1⟩,λq hq=>?_⟩
 ·refine aI (ak.mp hm) λq hq e=>?_;exact dM q hq e
 ·rcases aq.mp hq with rfl |hq
  ·exact aL.bH _ _ _
  ·erw[aL.bE (dM q hq)];exact h.2 q hq
theorem Sub.Og(h:Sub N l)(hn:N a=none):Sub (N.put a mo) l:=(h.new hn).tail
theorem Sub.set:∀{l:List (ax×cA)}{i:Nat},Sub N l->l[i]?=some (a,mo)->Sub (N.put a mo') (l.set i (a,mo')):=by
 intro l i h hi;have hl:i<l.length:=by
  rcases dQ i l.length with q |q
  ·exact q
  ·rw[bQ q]at hi;cases hi
 haveI IZ:l[i]=(a,mo):=by rw[aE hl]at hi;exact aA hi
 haveI e:l=l.take i++(a,mo)::l.drop (i+1):=(cC i l).symm.trans (by erw[iP hl,IZ]);haveI e2:l.set i (a,mo')=l.take i++(a,mo')::l.drop (i+1):=by erw[t9,if_pos hl]
 erw[e2];rw[e]at h;exact h.mid
theorem D6{st:aL->Prop}{f:V->cf->aL->KS->Prop}{items:List V}{K:KS}(Inv:Nat->cf->aL->Prop)(gf:∀i ρ N,Inv i ρ N->st N)
  (step:∀i x ρ N(KK:KS),items[i]?=some x->Inv i ρ N->(∀ρ' N',Inv (i+1) ρ' N'->KK .next ρ' N'/\KK .cont ρ' N')->(∀v ρ' N',K (.ret v) ρ' N'->KK (.ret v) ρ' N')->f x ρ N KK)
  (fin:∀ρ N,Inv items.length ρ N->K .next ρ N):∀{ρ:cf}{N:aL},Inv 0 ρ N->hV st f items ρ N K:=by
 have key:∀(xs:List V)(i:Nat),i<=items.length->items.drop i=xs->∀ρ N,Inv i ρ N->hV st f xs ρ N K:=by
  intro xs;induction xs with
  |nil=>
   intro i hle hd ρ N hi;have hl:items.length<=i:=kI.mp hd;have:i=items.length:=by exact aR 0x1d7580815810960812 rfl hle hl
   subst this;exact⟨gf _ _ _ hi,fin ρ N hi⟩
  |cons x xs ih=>
   intro i hle hd ρ N hi;have hx:items[i]?=some x:=by have:=congrArg (·[0]?) hd;simpa using this
   have CC:items.drop (i+1)=xs:=by rw[<-mh,hd];rfl
   have fY:i<items.length:=by
    rcases dQ i items.length with q |q
    ·exact q
    ·rw[bQ q]at hx;cases hx
   refine⟨gf _ _ _ hi,step i x ρ N _ hx hi (λρ' N' h=>?_) λv ρ' N' h=>h⟩;have:=ih (i+1) fY CC ρ' N' h;exact⟨this,this⟩
 intro ρ N h;exact key items 0 (aG _) rfl ρ N h
theorem BI{st:aL->Prop}{f:V->aL->ve->Prop}(Inv:Nat->List V->aL->Prop)(gf:∀i acc N,Inv i acc N->acc.length<=gS/\st N)
  (step:∀i x acc N(kk:ve),items[i]?=some x->Inv i acc N->(∀vs N',Inv (i+1) (acc++vs) N'->kk vs N')->f x N kk)
  (fin:∀acc N,Inv items.length acc N->k acc N):∀{acc:List V}{N:aL},Inv 0 acc N->c9 st f items acc N k:=by
 have key:∀(xs:List V)(i:Nat),i<=items.length->items.drop i=xs->∀acc N,Inv i acc N->c9 st f xs acc N k:=by
  intro xs;induction xs with
  |nil=>
   intro i hle hd acc N hi;have hl:items.length<=i:=kI.mp hd;have:i=items.length:=by exact aR 0x1d7580815810960812 rfl hle hl
   subst this;exact⟨(gf _ _ _ hi).1,(gf _ _ _ hi).2,fin acc N hi⟩
  |cons x xs ih=>
   intro i hle hd acc N hi;have hx:items[i]?=some x:=by have:=congrArg (·[0]?) hd;simpa using this
   have CC:items.drop (i+1)=xs:=by rw[<-mh,hd];rfl
   have fY:i<items.length:=by
    rcases dQ i items.length with q |q
    ·exact q
    ·rw[bQ q]at hx;cases hx
   exact⟨(gf _ _ _ hi).1,(gf _ _ _ hi).2,step i x acc N _ hx hi λvs N' h=>ih (i+1) fY CC (acc++vs) N' h⟩
 intro acc N h;exact key items 0 (aG _) rfl acc N h
theorem zG{st:aL->Prop}{f:V->aL->ve->Prop}(g:V->List V)(hs:st N):∀{items acc:List V},(∀x∈items,∀kk:ve,kk (g x) N->f x N kk)->(acc++items.flatMap g).length<=gS->k (acc++items.flatMap g) N->c9 st f items acc N k:=by
 intro items;induction items with
 |nil=>intro acc step hb hk;simp only[oA,bG]at hb hk;exact⟨hb,hs,hk⟩
 |cons x xs ih=>intro acc step hb hk;simp only[aX,<-bY]at hb hk;refine⟨by rw[an,an]at hb;exact aR 0x1d5840561110d10814 rfl hb,hs,step x (.head _) _ ?_⟩;exact ih (λy hy=>step y (.tail _ hy)) hb hk
theorem pi{α β:Type}(l:List α)(g:α->β):l.flatMap (λx=>[g x])=l.map g:=by induction l<;>simp_all
theorem D7{α:Type}{st:aL->Prop}{f:V->aL->ve->Prop}{k:ve}{N:aL}{l:List α}{v:α->V}(g:α->List V)(hs:st N):∀{acc:List V},(∀x∈l,∀kk:ve,kk (g x) N->f (v x) N kk)->(acc++l.flatMap g).length<=gS->k (acc++l.flatMap g) N->
  c9 st f (l.map v) acc N k:=by
 induction l with
 |nil=>intro acc step hb hk;simp only[oA,bG]at hb hk;exact⟨hb,hs,hk⟩
 |cons x xs ih=>intro acc step hb hk;simp only[aX,<-bY]at hb hk;refine⟨by rw[an,an]at hb;exact aR 0x1d5840561110d10814 rfl hb,hs,step x (.head _) _ ?_⟩;exact ih (λy hy=>step y (.tail _ hy)) hb hk
end
section
noncomputable def Un(params:List Str)(names:Sc):Bool:=decide (names.map (·.1)).Nodup&&decide params.Nodup&&names.all (λp=>(p.2==.local||p.2==.cell||p.2==.globalImplicit)&&!(p.1==("__debug__":Str))&&!(p.1==("__classdict__":Str)))&&params.all (Wk names)
theorem Ws{K:tc}{f:ax}{o:Obj}{fd:FuncData}{ps:List Str}{body:List c7}{names:Sc}{c:ax}{oc:Obj}{vs:Array al}{t:Tok}
  (h1:K.lookup f=some o) (h2:o.data=.func fd) (h3:fd.body=.stmts body) (h4:fd.scope.names=names) (h5:fd.scope.isCoroutine=false) (h6:fd.scope.isGenerator=false) (h7:fd.scope.kind=.function)
  (h8:fd.closure=[]) (h9:fd.globals=dN) (SB:fd.builtins=rT) (h11:fd.code=.ref c) (h12:K.lookup c=some oc) (h13:oc.data=.fields vs) (h14:vs[1]?=some (.str fd.qualname t))
  (h15:∀vals,vals.length=ps.length->bindArgs fd ⟨vals,[]⟩=pure (ps.zip vals)) (h16:xg K (.ref f)=true) (XV:Un ps names=true):FnAt K f ps body names:=by
 refine a9 (ji XV) λh h20=>?_;refine a9 (ji h) λh h19=>?_;refine a9 (ji h) λXV h18=>?_;refine⟨⟨o,fd,h1,h2,h5,h6,h7,h3,h8,h9,SB,h4,⟨c,oc,vs,t,h11,h12,h13,h14⟩,h15⟩,h16,of_decide_eq_true XV,of_decide_eq_true h18,λp hp=>?_,λx hx=>DE (dm.mp h20 x hx)⟩;refine a9 (ji (dm.mp h19 p hp)) λh h3=>?_;refine a9 (ji h) λh h2=>?_;refine⟨?_,ne_of_beq_false (sx h2),ne_of_beq_false (sx h3)⟩;rcases ft.mp h with h |h
 ·exact(ft.mp h).imp beq_iff_eq.mp λh=>.inl (beq_iff_eq.mp h)
 ·exact .inr (.inr (beq_iff_eq.mp h))
theorem nM(a b:String):(aN a=aN b)=(a=b):=by
 apply propext;constructor
 ·intro h;rw[Fa,Fa]at h;haveI h1:(a.toList.map yU).toArray=(b.toList.map yU).toArray:=by injection h
  haveI h2:a.toList.map yU=b.toList.map yU:=by simpa using h1
  haveI h3:a.toList=b.toList:=by refine(jf λx y h=>?_).mp h2;exact Char.ext (UInt32.toNat_inj.mp h)
  exact String.ext h3
 ·rintro rfl;rfl
theorem Wt(a b:String):(aN a==aN b)=(a==b):=by
 erw[sm,sm]
 congr 1
 exact nM a b
noncomputable def md:List c7:=PySem.Challenge.pw_pq0058_01.main.body
noncomputable def ic:List c7->Nat->c7
 | [],_=>.Pass ⟨0,0,0,0⟩
 |s::_,0=>s
 |_::r,n+1=>ic r n
noncomputable def sB:c7->List c7
 |.FunctionDef _ _ b ..=>b
 |.ClassDef _ _ _ b ..=>b
 |_=>[]
noncomputable def sN:c7->Sc
 |.FunctionDef _ _ _ _ _ _ sc ..=>sc.names
 |_=>[]
noncomputable def d67:c7:=(ic md 5)
noncomputable def d72:c7:=(ic md 6)
noncomputable def d77:c7:=(ic md 7)
noncomputable def d91:c7:=(ic (sB (ic md 8)) 0)
noncomputable def d98:c7:=(ic (sB (ic md 8)) 1)
noncomputable def Uo:c7:=(ic (sB (ic md 8)) 2)
noncomputable def Uq:c7:=(ic (sB (ic md 8)) 3)
noncomputable def Ur:c7:=(ic (sB (ic md 8)) 7)
noncomputable def Us:c7:=(ic (sB (ic md 8)) 8)
noncomputable def Ut:c7:=(ic md 10)
noncomputable def Uu:c7:=(ic (sB (ic md 11)) 0)
noncomputable def Uv:c7:=(ic (sB (ic md 11)) 1)
noncomputable def Uw:c7:=(ic (sB (ic md 11)) 2)
noncomputable def Ux:c7:=(ic (sB (ic md 11)) 3)
noncomputable def Uy:c7:=(ic (sB (ic md 13)) 0)
noncomputable def Uz:c7:=(ic (sB (ic md 13)) 1)
noncomputable def UA:c7:=(ic (sB (ic md 13)) 2)
noncomputable def UB:c7:=(ic (sB (ic md 13)) 3)
noncomputable def UC:c7:=(ic (sB (ic md 13)) 4)
noncomputable def UD:c7:=(ic (sB (ic md 13)) 5)
noncomputable def UE:c7:=(ic (sB (ic md 13)) 6)
noncomputable def UF:c7:=(ic (sB (ic md 15)) 0)
noncomputable def UG:c7:=(ic (sB (ic md 15)) 1)
noncomputable def UH:c7:=(ic (sB (ic md 15)) 2)
noncomputable def UI:c7:=(ic (sB (ic md 15)) 3)
noncomputable def UJ:c7:=(ic (sB (ic md 15)) 5)
noncomputable def UK:c7:=(ic (sB (ic md 15)) 6)
noncomputable def UL:c7:=(ic (sB (ic md 15)) 8)
noncomputable def UM:c7:=(ic (sB (ic md 15)) 9)
noncomputable def UN:c7:=(ic (sB (ic md 15)) 10)
noncomputable def UO:c7:=(ic (sB (ic md 15)) 12)
noncomputable def UP:c7:=(ic (sB (ic md 15)) 13)
noncomputable def UQ:c7:=(ic (sB (ic md 15)) 14)
noncomputable def UR:c7:=(ic md 17)
noncomputable def US:c7:=(ic md 18)
noncomputable def UT:c7:=(ic md 19)
noncomputable def UU:c7:=(ic md 20)
noncomputable def UV:c7:=(ic md 21)
noncomputable def UW:c7:=(ic md 22)
noncomputable def UX:c7:=(ic md 23)
noncomputable def UY:c7:=(ic md 24)
structure cL(K:tc):Prop where
 dH:ee K "len"=some (.builtin "len")
 KY:ee K "sum"=some (.builtin "sum")
 UZ:ee K "max"=some (.builtin "max")
 U0:ee K "abs"=some (.builtin "abs")
 iK:ee K "sorted"=some (.builtin "sorted")
 sF:ee K "tuple"=some (.type "tuple")
 KZ:ee K "dict"=some (.type "dict")
 FS:ee K "set"=some (.type "set")
 U1:ee K "int"=some (.type "int")
 U2:ee K "str"=some (.type "str")
 iQ:ee K "range"=some (.type "range")
 pj:ee K "enumerate"=some (.type "enumerate")
 Oh:ee K "is_op"=some (.ref 67)
 FT:ee K "parts"=some (.ref 72)
 La:ee K "key_of"=some (.ref 77)
 yC:ee K "rank_of"=some (.ref 192)
 Q4:ee K "Bank"=some (.ref 181)
 HB:ee K "Several"=some (.ref 224)
 Lc:ee K "Unions"=some (.ref 306)
 Q5:ee K "Heap"=some (.ref 438)
 fC:ee K "_law_draw"=some (.ref 449)
 D8:ee K "_law_heap"=some (.ref 456)
 BJ:ee K "_law_lists"=some (.ref 461)
 pn:ee K "_law_nodes"=some (.ref 466)
 ww:ee K "_law_rank"=some (.ref 471)
 ur:ee K "_law_class"=some (.ref 476)
 wx:ee K "_law_is_round"=some (.ref 481)
 tK:lc K 181
 Oi:makesIn K 181=true
 Ld:cR K (.ref 181) "__init__"=some (some (.ref 91))
 Le:typeIn K (.ref 91)=some (.type "function")
 Oj:xg K (.ref 181)=true
 BK:cR K (.ref 181) "size"=some (some (.ref 98))/\kT K (.ref 98)=true
 BL:cR K (.ref 181) "take"=some (some (.ref 103))/\kT K (.ref 103)=true
 wy:cR K (.ref 181) "require"=some (some (.ref 110))/\kT K (.ref 110)=true
 HE:cR K (.ref 181) "op"=some (some (.ref 138))/\kT K (.ref 138)=true
 BM:cR K (.ref 181) "kids"=some (some (.ref 145))/\kT K (.ref 145)=true
 sG:cM K 181 "nodes"
 pq:cM K 181 "numbers"
 pt:cM K 181 "weights"
 qJ:cM K 181 "depths"
 mX:lc K 224
 D9:makesIn K 224=true
 BN:cR K (.ref 224) "__init__"=some (some (.ref 206))
 BO:typeIn K (.ref 206)=some (.type "function")
 Ea:xg K (.ref 224)=true
 sH:cR K (.ref 224) "through"=some (some (.ref 211))/\kT K (.ref 211)=true
 pv:cR K (.ref 224) "first_rows"=some (some (.ref 216))/\kT K (.ref 216)=true
 rC:cR K (.ref 224) "cheapest"=some (some (.ref 221))/\kT K (.ref 221)=true
 pw:cM K 224 "heap"
 on:cM K 224 "costs"
 px:lc K 306
 HF:makesIn K 306=true
 Eb:cR K (.ref 306) "__init__"=some (some (.ref 242))
 Ec:typeIn K (.ref 242)=some (.type "function")
 HG:xg K (.ref 306)=true
 xI:cR K (.ref 306) "make"=some (some (.ref 249))/\kT K (.ref 249)=true
 xJ:cR K (.ref 306) "size"=some (some (.ref 256))/\kT K (.ref 256)=true
 xK:cR K (.ref 306) "find"=some (some (.ref 263))/\kT K (.ref 263)=true
 wz:cR K (.ref 306) "merge"=some (some (.ref 270))/\kT K (.ref 270)=true
 tL:cR K (.ref 306) "members"=some (some (.ref 277))/\kT K (.ref 277)=true
 tM:cR K (.ref 306) "classes"=some (some (.ref 282))/\kT K (.ref 282)=true
 pz:cM K 306 "above"
 qK:cM K 306 "lots"
 oo:cM K 306 "merged"
 nN:lc K 438
 Ok:makesIn K 438=true
 Lf:cR K (.ref 438) "__init__"=some (some (.ref 324))
 Lg:typeIn K (.ref 324)=some (.type "function")
 Ol:xg K (.ref 438)=true
 BP:cR K (.ref 438) "size"=some (some (.ref 331))/\kT K (.ref 331)=true
 BQ:cR K (.ref 438) "node"=some (some (.ref 336))/\kT K (.ref 336)=true
 Ed:cR K (.ref 438) "add"=some (some (.ref 341))/\kT K (.ref 341)=true
 wA:cR K (.ref 438) "look_at"=some (some (.ref 355))/\kT K (.ref 355)=true
 BR:cR K (.ref 438) "find"=some (some (.ref 362))/\kT K (.ref 362)=true
 zH:cR K (.ref 438) "merge"=some (some (.ref 376))/\kT K (.ref 376)=true
 BS:cR K (.ref 438) "join"=some (some (.ref 383))/\kT K (.ref 383)=true
 xL:cR K (.ref 438) "settle"=some (some (.ref 390))/\kT K (.ref 390)=true
 wB:cR K (.ref 438) "classes"=some (some (.ref 404))/\kT K (.ref 404)=true
 wC:cR K (.ref 438) "members"=some (some (.ref 411))/\kT K (.ref 411)=true
 u0:cR K (.ref 438) "nodes_of"=some (some (.ref 416))/\kT K (.ref 416)=true
 ut:cM K 438 "bank"
 qL:cM K 438 "unions"
 sI:cM K 438 "edges"
 qM:cM K 438 "forest"
 sJ:cM K 438 "known"
 sK:cM K 438 "above"
 pA:cM K 438 "waiting"
 f67:FnAt K 67 ["text"] (sB d67) (sN d67)
 f72:FnAt K 72 ["t"] (sB d72) (sN d72)
 f77:FnAt K 77 ["t"] (sB d77) (sN d77)
 f91:FnAt K 91 ["self"] (sB d91) (sN d91)
 f98:FnAt K 98 ["self"] (sB d98) (sN d98)
 XW:FnAt K 103 ["self","op","kids"] (sB Uo) (sN Uo)
 XX:FnAt K 110 ["self","op"] (sB Uq) (sN Uq)
 XY:FnAt K 138 ["self","n"] (sB Ur) (sN Ur)
 XZ:FnAt K 145 ["self","n"] (sB Us) (sN Us)
 X0:FnAt K 192 ["cost","term"] (sB Ut) (sN Ut)
 X1:FnAt K 206 ["self","heap","costs"] (sB Uu) (sN Uu)
 X2:FnAt K 211 ["self","node","rows","many"] (sB Uv) (sN Uv)
 X3:FnAt K 216 ["self","many"] (sB Uw) (sN Uw)
 X4:FnAt K 221 ["self","c","many"] (sB Ux) (sN Ux)
 X5:FnAt K 242 ["self"] (sB Uy) (sN Uy)
 X6:FnAt K 249 ["self"] (sB Uz) (sN Uz)
 X7:FnAt K 256 ["self"] (sB UA) (sN UA)
 X8:FnAt K 263 ["self","a"] (sB UB) (sN UB)
 X9:FnAt K 270 ["self","a","b"] (sB UC) (sN UC)
 X':FnAt K 277 ["self","a"] (sB UD) (sN UD)
 Ya:FnAt K 282 ["self"] (sB UE) (sN UE)
 Yb:FnAt K 324 ["self"] (sB UF) (sN UF)
 Yc:FnAt K 331 ["self"] (sB UG) (sN UG)
 Yd:FnAt K 336 ["self","n"] (sB UH) (sN UH)
 Ye:FnAt K 341 ["self","op","numbers"] (sB UI) (sN UI)
 U3:FnAt K 355 ["self","n"] (sB UJ) (sN UJ)
 Yf:FnAt K 362 ["self","n"] (sB UK) (sN UK)
 Yg:FnAt K 376 ["self","a","b","reason"] (sB UL) (sN UL)
 Yh:FnAt K 383 ["self","a","b","reason"] (sB UM) (sN UM)
 Yi:FnAt K 390 ["self"] (sB UN) (sN UN)
 Yj:FnAt K 404 ["self"] (sB UO) (sN UO)
 Yk:FnAt K 411 ["self","c"] (sB UP) (sN UP)
 Yl:FnAt K 416 ["self","c"] (sB UQ) (sN UQ)
 Ym:FnAt K 449 ["feed","wide"] (sB UR) (sN UR)
 Yn:FnAt K 456 ["feed"] (sB US) (sN US)
 Yo:FnAt K 461 ["heap","rows","costs"] (sB UT) (sN UT)
 Yp:FnAt K 466 ["term"] (sB UU) (sN UU)
 Yq:FnAt K 471 ["cost","term"] (sB UV) (sN UV)
 Yr:FnAt K 476 ["heap","term"] (sB UW) (sN UW)
 Ys:FnAt K 481 ["heap","rows","goal"] (sB UX) (sN UX)
 U4:FnAt K 486 ["script"] (sB UY) (sN UY)
end
section
noncomputable abbrev xM(E ρ:fN):Prop:=E.map (λp=>(p.1,some p.2))=E.map λp=>(p.1,ρ.lookup p.1)
theorem zI(e:xM E ρ):jE E.fn ρ.fn:=λx v h=>by
 induction E with
 |nil=>exact cy h
 |cons p E ih=>
  haveI e1:=bk e;haveI h:(match x==p.1 with |true=>some p.2 |false=>E.lookup x)=some v:=h;by_cases q:x=p.1
  ·rw[beq_iff_eq.mpr q]at h;exact q▸(congrArg uI e1.1).symm.trans h
  ·rw[beq_false_of_ne q]at h;exact ih e1.2 h
noncomputable def Lh{δ:Type}(env:Nat->δ->fN)(P:Nat->δ->aL->Prop)(R:V->aL->Prop)(i:Nat):CS:=λG fl cn N'=>match fl with
 |.next=>∀d,P (i+1) d N'->xM (env (i+1) d) cn->G
 |.cont=>∀d,P (i+1) d N'->xM (env (i+1) d) cn->G
 |.ret v=>R v N'->G
 |.brk=>True
section
variable {Γ:Cx} {n:Nat} {sc:Sc} {N:aL}
theorem jE.put(l:jE ρ σ)(x:Str)(v:V):jE (ρ.set x v) (σ.set x v):=λy u h=>by
 by_cases q:y=x
 ·subst q;rw[cf.set_same]at h ⊢;exact h
 ·rw[cf.hG q]at h ⊢;exact l y u h
theorem jE.J3(l:jE ρ σ):jE (eN xs vs ρ) (eN xs vs σ):=by
 induction xs generalizing vs ρ σ with
 |nil=>exact l
 |cons x xs ih=>cases vs with
  |nil=>exact l
  |cons v vs=>exact ih (l.put x v)
theorem Ee{k:cf->Prop}(l:jE ρ σ)(w:∀cn Yt,jE cn Yt->k cn->k Yt)(h:fM sc t x ρ N k):fM sc t x σ N k:=by
 exists sc,N,t,x,ρ,σ,k;rcases h with⟨y,p,e,h1,h2⟩ |⟨ts,m,p,xs,vs,e,h1,h2,h3,h4,h5⟩
 ·exact .inl ⟨y,p,e,h1,w _ _ (l.put _ _) h2⟩
 ·exact .inr ⟨ts,m,p,xs,vs,e,h1,h2,h3,h4,w _ _ l.J3 h5⟩
theorem U5{δ:Type}(env:Nat->δ->fN)(P:Nat->δ->aL->Prop){R:V->aL->Prop}{C:Nat->CS}(HC:∀{i G fl cn N'},Lh env P R i G fl cn N'->C i G fl cn N'){st:aL->Prop}(d:δ)(hs:xM (env 0 d) ρ)(hp:P 0 d N)(gf:∀i d N,P i d N->st N)
  (step:∀i x d N,items[i]?=some x->P i d N->∀G,o9 sc t x (env i d) N (λcn=>DB Γ n (rX Γ n 14) 40 sc body cn N (C i) G)->G):
  hV st (λx qx N2 KK=>fM sc t x qx N2 λo8=>my Γ n sc body o8 N2 KK) items ρ.fn N (G7 (env items.length) (P items.length) R):=by
 refine D6 (λi σ N=>∃d,P i d N/\jE (env i d).fn σ) (λi σ N z=>aI z λd h _=>gf i d N h) ?_ (λσ N h=>h) ⟨d,hp,zI hs⟩;intro i x σ N KK hx hI hn hr;refine aI hI λd hp hl=>Ee hl (λcn Yt l h=>my.weak l h) (step i x d N hx hp _ (mQ (k:=λcn=>my Γ n sc body cn N KK) (λcn g=>DH (yk Γ n 14) ?_ g) λt=>t));intro G fl cn N' g;refine HC ?_;cases fl with
 |next=>exactλd hp hs=>g (hn _ _ ⟨d,hp,zI hs⟩).1
 |cont=>exactλd hp hs=>g (hn _ _ ⟨d,hp,zI hs⟩).2
 |ret v=>exactλh=>g (hr _ _ _ h)
 |brk=>trivial
theorem FU{δ:Type}(env:Nat->δ->fN)(P:Nat->δ->aL->Prop){R:V->aL->Prop}{st:aL->Prop}(d:δ)(hs:xM (env 0 d) ρ)(hp:P 0 d N)(gf:∀i d N,P i d N->st N)
  (step:∀i x d N,items[i]?=some x->P i d N->∀G,o9 sc t x (env i d) N (λcn=>DB Γ n (rX Γ n 14) 40 sc body cn N (Lh env P R i) G)->G):
  hV st (λx qx N2 KK=>fM sc t x qx N2 λo8=>my Γ n sc body o8 N2 KK) items ρ.fn N (G7 (env items.length) (P items.length) R):=U5 env P (λh=>h) d hs hp gf step
theorem u3{δ:Type}(env:Nat->δ->fN)(P:Nat->δ->aL->Prop){st:aL->Prop}(d:δ)(hs:xM (env 0 d) ρ)(hp:P 0 d N)(gf:∀i d N,P i d N->st N)
  (step:∀i x d N,items[i]?=some x->P i d N->∀G,o9 sc t x (env i d) N (λcn=>DB Γ n (rX Γ n 14) 40 sc body cn N (Lh env P (λ_ _=>False) i) G)->G):
  hV st (λx qx N2 KK=>fM sc t x qx N2 λo8=>my Γ n sc body o8 N2 KK) items ρ.fn N (G7 (env items.length) (P items.length) (λ_ _=>False)):=FU env P d hs hp gf step
theorem Om{α:Type}{l:List α}{v:α->V}{items:List V}{st:aL->Prop}{t:Expr}{body:List c7}{ρ:fN}{K1:KS}(e:items=l.map v)(h:hV st (λx qx N2 KK=>fM sc t x qx N2 λo8=>my Γ n sc body o8 N2 KK) (l.map v) ρ.fn N K1):hV st (λx qx N2 KK=>fM sc t x qx N2 λo8=>my Γ n sc body o8 N2 KK) items ρ.fn N K1:=e▸h
theorem Si{δ α:Type}(env:Nat->δ->fN)(P:Nat->δ->aL->Prop){l:List α}{v:α->V}{items:List V}{st:aL->Prop}{t:Expr}{body:List c7}{ρ:fN}(e:items=l.map v)(d:δ)(hs:xM (env 0 d) ρ)(hp:P 0 d N)(gf:∀i d N,P i d N->st N)
  (step:∀i a d N,l[i]?=some a->P i d N->∀G,o9 sc t (v a) (env i d) N (λcn=>DB Γ n (rX Γ n 14) 40 sc body cn N (Lh env P (λ_ _=>False) i) G)->G):
  hV st (λx qx N2 KK=>fM sc t x qx N2 λo8=>my Γ n sc body o8 N2 KK) items ρ.fn N (G7 (env l.length) (P l.length) (λ_ _=>False)):=Om e (ag (as:=l) v▸u3 env P d hs hp gf λi x d N hx hp=>by
 rw[aF]at hx;exact aI (aJ.mp hx) λa ha e=>e▸step i a d N ha hp)
theorem BU(h:(aM m)[i]?=some a):i<m/\a=i:=by obtain⟨q,e⟩:=cq.mp h;exact⟨aO (n:=m)▸q,e.symm.trans (je q)⟩
theorem IJ{δ:Type}(env:Nat->δ->fN)(P:Nat->δ->aL->Prop){m:Nat}{v:Nat->V}{items:List V}{st:aL->Prop}{t:Expr}{body:List c7}{ρ:fN}(e:items=(aM m).map v)(d:δ)(hs:xM (env 0 d) ρ)(hp:P 0 d N)(gf:∀i d N,P i d N->st N)
  (step:∀i d N,i<m->P i d N->∀G,o9 sc t (v i) (env i d) N (λcn=>DB Γ n (rX Γ n 14) 40 sc body cn N (Lh env P (λ_ _=>False) i) G)->G):
  hV st (λx qx N2 KK=>fM sc t x qx N2 λo8=>my Γ n sc body o8 N2 KK) items ρ.fn N (G7 (env m) (P m) (λ_ _=>False)):=by
 haveI h:=Si env P e d hs hp gf λi a d N ha hp=>by erw[(BU ha).2];exact step i d N (BU ha).1 hp
 rw[aO]at h;exact h
noncomputable def whE{δ:Type}(env:δ->fN)(J:Nat->δ->aL->Prop)(z:Nat):CS:=λG fl cn N'=>match fl with
 |.next=>∀d z',z'<z->J z' d N'->xM (env d) cn->G
 |.cont=>∀d z',z'<z->J z' d N'->xM (env d) cn->G
 |_=>True
theorem v8{δ:Type}{env:δ->fN}{J:Nat->δ->aL->Prop}{P:δ->aL->Prop}(step:∀z d N1,J z d N1->∀G,(rX Γ n 14).b sc t (env d) N1 (λG c N2=>bif c then DB Γ n (rX Γ n 14) 40 sc body (env d) N2 (whE env J z) G else(P d N2->G)) G->G):
  ∀z d N1,J z d N1->TB Γ n sc t (env d).fn N1 λc N2=>(c=true->my Γ n sc body (env d).fn N2 (zi env J z))/\(c=false->P d N2):=by
 intro z d N1 hj;apply step z d N1 hj;refine(yk Γ n 14).b (k:=λc N2=>(c=true->my Γ n sc body (env d).fn N2 (zi env J z))/\(c=false->P d N2)) (λ{G c N2}g=>?_) λt=>t;cases c with
 |false=>exactλhp=>g ⟨nofun,λ_=>hp⟩
 |true=>
  refine DH (yk Γ n 14) (K:=zi env J z) (λ{G fl cn N'}g=>?_) λt=>g ⟨λ_=>t,nofun⟩;cases fl with
  |next=>exactλd z' hz hj hs=>g ⟨.inl rfl,z',d,hz,hj,zI hs⟩
  |cont=>exactλd z' hz hj hs=>g ⟨.inr rfl,z',d,hz,hj,zI hs⟩
  |_=>trivial
section
variable {α:Type} {l:List α} {v:α->V} {st:aL->Prop} {g:bh} {gs:List bh} {elt:Expr} {ρ:fN}
theorem FV(f:α->List V)(hs:st N)(hb:(l.flatMap f).length<=gS)(step:∀x∈l,∀G,Bd Γ n (rX Γ n 14) sc g gs elt ρ (v x) N (λG vs N'=>Is (f x) N vs N'->G) G->G):c9 st (λx N2 kk=>gG Γ n sc g gs elt ρ.fn x N2 kk) (l.map v) [] N (Is (l.flatMap f) N):=D7 (acc:=[]) f hs (λx hx kk hk=>gG.mono (λvs N1 e=>by refine a9 e λaT il=>?_;clear e;obtain rfl:=aT;obtain rfl:=il;exact hk) (gen 14 (step x hx))) hb dU
theorem BV(f:α->List V)(he:l.flatMap f=r)(hs:st N)(hb:r.length<=gS)(step:∀x∈l,∀G,Bd Γ n (rX Γ n 14) sc g gs elt ρ (v x) N (λG vs N'=>Is (f x) N vs N'->G) G->G):c9 st (λx N2 kk=>gG Γ n sc g gs elt ρ.fn x N2 kk) (l.map v) [] N (Is r N):=by subst he;exact FV f hs hb step
theorem PH(f:V->List V)(hs:st N)(hb:(items.flatMap f).length<=gS)(step:∀x∈items,∀G,Bd Γ n (rX Γ n 14) sc g gs elt ρ x N (λG vs N'=>Is (f x) N vs N'->G) G->G):c9 st (λx N2 kk=>gG Γ n sc g gs elt ρ.fn x N2 kk) items [] N (Is (items.flatMap f) N):=zG (acc:=[]) f hs (λx hx kk hk=>gG.mono (λvs N1 e=>by refine a9 e λaT il=>?_;clear e;obtain rfl:=aT;obtain rfl:=il;exact hk) (gen 14 (step x hx))) hb dU
theorem fZ(f:α->V)(hs:st N)(hb:l.length<=gS)(step:∀x∈l,∀G,Bd Γ n (rX Γ n 14) sc g gs elt ρ (v x) N (λG vs N'=>Is [f x] N vs N'->G) G->G):c9 st (λx N2 kk=>gG Γ n sc g gs elt ρ.fn x N2 kk) (l.map v) [] N (Is (l.map f) N):=pi l f▸FV (λx=>[f x]) hs (by erw[pi,ag];exact hb) step
end
theorem nr{Q:V->aL->Prop}:∀v N',False->Q v N':=λ_ _ h=>h.elim
theorem pB(h:n<=10000):n<=gS:=aa h (by decide)
end
end
open scoped Classical
section
set_option genInjectivity true in
inductive T where
 |a
 |b
 |f (x:T)
 |g (x y:T)
noncomputable instance:Nonempty T:=⟨.a⟩
noncomputable def T.op:T->String
 |.a=>"a"
 |.b=>"b"
 |.f _=>"f"
 |.g _ _=>"g"
noncomputable def T.v:T->V
 |.a=>.tup [.str "a"]
 |.b=>.tup [.str "b"]
 |.f x=>.tup [.str "f",x.v]
 |.g x y=>.tup [.str "g",x.v,y.v]
noncomputable def T.kids:T->List T
 |.a=>[]
 |.b=>[]
 |.f x=>[x]
 |.g x y=>[x,y]
noncomputable def T.subs:T->List T
 |.a=>[.a]
 |.b=>[.b]
 |.f x=>.f x::x.subs
 |.g x y=>.g x y::(x.subs++y.subs)
noncomputable def T.depth:T->Nat
 |.a=>0
 |.b=>0
 |.f x=>x.depth+1
 |.g x y=>max x.depth y.depth+1
noncomputable def T.size(t:T):Nat:=t.subs.length
theorem T.v_eq(t:T):t.v=.tup (.str t.op::t.kids.map T.v):=by cases t<;>rfl
theorem vn(x:T):(T.f x).depth=x.depth+1:=rfl
theorem vp(x y:T):(T.g x y).depth=max x.depth y.depth+1:=rfl
theorem Yu(x:T):(T.f x).subs=.f x::x.subs:=rfl
theorem Yv(x y:T):(T.g x y).subs=.g x y::(x.subs++y.subs):=rfl
theorem T.sL(t:T):t.subs=t::t.kids.flatMap T.subs:=by
 cases t with
 |a=>rfl
 |b=>rfl
 |f x=>exact congrArg (_::·) (bG _).symm
 |g x y=>exact congrArg (λl=>_::(x.subs++l)) (bG _).symm
theorem T.gP{t x:T}(h:x∈t.kids):x.depth<t.depth:=by
 exists t,x;cases t with
 |a=>cases h
 |b=>cases h
 |f y=>rw[ao.mp h];exact cK _
 |g y z=>
  rcases aq.mp h with rfl |h
  ·exact im (lC _ _)
  ·rw[ao.mp h];exact im (kt _ _)
theorem T.wD{t x:T}(h:x∈t.kids):x.size<t.size:=by
 exists t,x;cases t with
 |a=>cases h
 |b=>cases h
 |f y=>rw[ao.mp h];exact cK _
 |g y z=>
  have e:(T.g y z).size=y.size+z.size+1:=congrArg Ac an;rw[e];rcases aq.mp h with rfl |h
  ·exact im (b7 _ _)
  ·rw[ao.mp h];exact im (f9 _ _)
theorem T.pC(t:T):t.kids.length<=2:=by cases t<;>first |exact aG _ |exact cD 1 |exact ap 2
noncomputable def T.jv:Nat->T->List (List Int×T)
 |0,t=>[([],t)]
 |n+1,t=>([],t)::(t.kids.zipIdx.flatMap λp=>(T.jv n p.1).map λq=>((p.2:Int)::q.1,q.2))
theorem T.HH:∀(n:Nat)(t:T),∀q∈t.jv n,q.1.length<=n:=by
 intro n;induction n with
 |zero=>intro t q h;simp[T.jv]at h;subst h;simp
 |succ n ih=>
  intro t q h;rw[T.jv]at h;rcases aq.mp h with rfl |h
  ·simp
  ·refine aI (bn.mp h) λp hp hq=>?_;refine iu hq λr hr=>?_;have:=ih p.1 r hr;simp;exact aR 32264336836626 rfl this
noncomputable def sO(p:List Int×T):V:=.tup [.tup (p.1.map V.int),p.2.v]
theorem lx{α β:Type}(l:List α)(g:α->List β):∀k,(l.zipIdx k).flatMap (λp=>g p.1)=l.flatMap g:=by
 induction l with
 |nil=>intro k;rfl
 |cons x l ih=>intro k;simp only[List.zipIdx_cons,aX,ih]
theorem T.yD:∀(n:Nat)(t:T),t.depth<=n->(t.jv n).map (·.2)=t.subs:=by
 intro n;induction n with
 |zero=>
  intro t h;have:t.kids=[]:=by
   cases hk:t.kids with
   |nil=>rfl
   |cons x l=>have:=T.gP (t:=t) (x:=x) (by erw[hk];exact .head _);lia
  erw[T.sL,this];rfl
 |succ n ihn=>
  intro t h;erw[T.sL,T.jv,aP,dw]
  congr 1
  rw[<-lx t.kids T.subs 0];have:∀l:List (T×Nat),(∀p∈l,p.1∈t.kids)->(l.flatMap λp=>((T.jv n p.1).map λq=>((p.2:Int)::q.1,q.2)).map (·.2))=l.flatMap λp=>T.subs p.1:=by
   intro l hl;induction l with
   |nil=>rfl
   |cons p l ih=>
    erw[aX,aX,ih λq hq=>hl q (.tail _ hq)]
    congr 1
    rw[<-ihn p.1 (by have:=T.gP (hl p (.head _));exact aR 0x1d7560835c10d64600813 rfl h this),ay];rfl
  exact this _ λp hp=>by have:=fH hp;erw[this.2];exact du _
noncomputable def gZ(op:String)(ks:List T):V:=.tup (.str op::ks.map T.v)
noncomputable def fT(d:Nat)(op:String)(ks:List T):List V:=.tup [.tup [],gZ op ks]::(ks.zipIdx.flatMap λp=>(T.jv d p.1).map λq=>sO ((p.2:Int)::q.1,q.2))
theorem T.pD(t:T):t.v=gZ t.op t.kids:=t.v_eq
theorem wE(d:Nat)(t:T):(t.jv (d+1)).map sO=fT d t.op t.kids:=by
 erw[T.jv,fT,aP,dw]
 congr 1
 ·rw[<-T.pD];rfl
 ·congr 1;funext p;erw[ay];rfl
theorem qN(h:∀x∈ks,x.depth<=d):(fT d op ks).length=1+(ks.flatMap T.subs).length:=by
 haveI e:∀(l:List (T×Nat)),(∀p∈l,p.1∈ks)->(l.flatMap λp=>(T.jv d p.1).map λq=>sO ((p.2:Int)::q.1,q.2)).length=(l.flatMap λp=>T.subs p.1).length:=by
  intro l hl;induction l with
  |nil=>rfl
  |cons p l ih=>
   erw[aX,aX,an,an,ih λq hq=>hl q (.tail _ hq),ag]
   congr 1
   rw[<-T.yD d p.1 (h _ (hl p (.head _))),ag]
 erw[fT,aU,e _ λp hp=>?_,lx]
 ·exact aR 26680740642833 rfl
 ·have:=fH hp;erw[this.2];exact du _
section
variable {Γ:Cx} (hK:cL Γ.K)
include hK
theorem rD{n d:Nat}{op:String}{ks:List T}{N:aL}{k:KV}(I2:d<=1000)(kX:ks.length<=2)(hsz:(fT d op ks).length<=10000)(ih:∀oq∈ks,∀(N:aL)(k:KV),k (.lst ((T.jv d oq).map sO)) N->aV Γ n (.ref 72) [oq.v] N k)
  (h:k (.lst (fT d op ks)) N):aV Γ (n+1) (.ref 72) [gZ op ks] N k:=by
 revert hK;exists Γ,n,d,op,ks,N,k;refine ck hK.f72 rfl λG c=>c false λa ha G c=>?_;revert ha;exists a,G,_;intro c ha;haveI Yw:∀i,(V.tup [.tup [],gZ op ks]::((ks.zipIdx.take i).flatMap λp=>(T.jv d p.1).map λq=>sO ((p.2:Int)::q.1,q.2))).length<=10000:=λi=>by
  refine aa ?_ hsz;haveI e:ks.zipIdx=ks.zipIdx.take i++ks.zipIdx.drop i:=(cC i _).symm;unfold fT
  conv=>rhs;rw[e,gt,<-kg,an]
  exact b7 _ _
 refine c hK.pj (.y4 (a:=1) (ap 1) (bP _) (aa (aw (by erw[ag];exact kX)) (by decide))) .tup
  (.all (u3 (λ_(_:Unit)=>[("t",gZ op ks),("found",.ref a)]) (λi _ N'=>N'=N.put a (.list (.tup [.tup [],gZ op ks]::((ks.zipIdx.take i).flatMap λp=>(T.jv d p.1).map λq=>sO ((p.2:Int)::q.1,q.2))))) () rfl rfl (λ_ _ _ _=>trivial) ?_))
  (λ_ N' e G c=>?_) nr
 ·rintro i x _ N' hx rfl G c;revert hx;exists i,x,G,_;intro c hx;haveI e0:(kf 1 (V.str (aN op)::jz T.v ks))=ks.map T.v:=rfl;rw[gz,e0,List.zipIdx_map,ay,aF]at hx;exists G,_;intro c;refine aI (aJ.mp hx) λaT hkj il=>?_;exists aT;obtain⟨oq,j⟩:=aT;exists oq,j;obtain rfl:=il;rw[kH]at hkj;refine aI (aJ.mp hkj) λy hy MU=>?_;exists y;refine a9 (Prod.mk.inj MU) λaT il=>?_;obtain rfl:=aT;obtain rfl:=il;haveI Q6:ks.zipIdx.take (i+1)=ks.zipIdx.take i++[(y,i)]:=by erw[uN,kH,hy,gW];rfl
  haveI hq:=Yw (i+1);rw[Q6,gt,<-kg,C5,an,ag]at hq;refine c rfl (mb (.extend (aL.bH _ _ _))) hK.FT (.one (ih y (a7 hy) _ _ dU)) .lst (.one (fZ (λq=>sO ((i:Int)::q.1,q.2)) trivial ?_ λq hq G c=>c rfl (.C9 ?_) ?_))
   (.one (l5 (xs:=_) (ys:=_) (aL.bH _ _ _) rfl ?_ dU)) () ?_ rfl
  ·exact aa (aa (f9 _ _) hq) (by decide)
  ·erw[ag];exact aa (bD (T.HH d y q hq) 1) (aa (bD I2 1) (by decide))
  ·erw[gW];exact dU
  ·erw[ag];exact aa hq (by decide)
  ·show _=_;rw[aL.nL,Q6,gt,<-kg,C5]
 ·subst e;refine c ⟨_,_,.lst (aL.bH _ _ _),?_⟩;erw[aL.wv ha,gz,ag,eK,ef (by erw[eK,List.length_drop,aU,ag];exact ap _)];exact h
theorem Lj:∀(n:Nat)(t:T)(N:aL)(k:KV),n<=1000->t.depth<=n->t.size<=9000->k (.lst ((t.jv n).map sO)) N->aV Γ (n+1) (.ref 72) [t.v] N k:=by
 intro n;induction n with
 |zero=>
  intro t N k I2 hdp hs h;have zJ:t.kids=[]:=by
   cases hk:t.kids with
   |nil=>rfl
   |cons x l=>have:=T.gP (t:=t) (x:=x) (by erw[hk];exact .head _);lia
  erw[T.pD,zJ];refine rD hK (d:=0) (by exact aR 24715249682928 rfl) (by simp) (by simp[fT]) (λoq xo=>by cases xo) ?_;rw[<-zJ,<-wE,T.jv,zJ];exact h
 |succ n ih=>
  intro t N k I2 hdp hs h;erw[T.pD];have hkd:∀x∈t.kids,x.depth<=n:=λx hx=>by have:=T.gP hx;exact aR 0x1d7560835c10d64600813 rfl hdp this
  refine rD hK (d:=n) (by exact aR 0x1d59e9deb620567a77ad8918011 rfl I2) t.pC ?_ (λoq xo N k h=>?_) ?_
  ·erw[qN hkd];have:=congrArg cB t.sL;rw[aU]at this;have hs:t.subs.length<=9000:=hs;exact aR 0x1d75679f7a07a68510a059e9de85e8a10584600812 rfl this hs
  ·exact ih oq N k (by exact aR 0x1d59e9deb620567a77ad8918011 rfl I2) (hkd oq xo) (by have:=T.wD xo;exact aR 0x1d7567a77a17a28425c10967a77a17a28412 rfl hs this) h
  ·rw[<-wE];exact h
theorem Ef(I2:n<=1000)(kX:ks.length<=2)(hd:∀x∈ks,x.depth<=n)(hs:(ks.flatMap T.subs).length<=9000)(h:k (.lst (fT n op ks)) N):aV Γ (n+2) (.ref 72) [gZ op ks] N k:=by
 refine rD hK (d:=n) I2 kX (by erw[qN hd];exact aR 0x1d59e7de81e9a14418167a77a17a28411 rfl hs) (λoq xo N k h=>?_) h;refine Lj hK n oq N k I2 (hd oq xo) ?_ h;refine aa ?_ hs;have:∀(l:List T),oq∈l->oq.size<=(l.flatMap T.subs).length:=by
  intro l;induction l with
  |nil=>intro h;cases h
  |cons y l ih=>
   intro hm;erw[aX,an];rcases aq.mp hm with rfl |hm
   ·exact b7 _ _
   ·have:=ih hm;lia
 exact this ks xo
end
end
section
noncomputable def gR(op:String)(ks:List T):List (String×List T):=(op,ks)::(ks.flatMap T.subs).map λt=>(t.op,t.kids)
noncomputable def Q7:V->List V
 |.tup [_,y]=>[y]
 |_=>[]
theorem xN(h:x∈fT d op ks):∃p y,x=.tup [p,y]:=by
 rcases aq.mp h with rfl |h
 ·exact⟨_,_,rfl⟩
 ·refine aI (bn.mp h) λp hp hq=>?_;refine iu hq λr hr=>?_;exact⟨_,_,rfl⟩
theorem qO{d:Nat}{op:String}{ks:List T}(h:∀x∈ks,x.depth<=d):(fT d op ks).flatMap Q7=(gR op ks).map λp=>gZ p.1 p.2:=by
 exists d,op,ks;erw[fT,gR,aX,aP,ay];show [gZ op ks]++_=_;erw[qt]
 congr 1
 haveI e2:((λp:String×List T=>gZ p.1 p.2)∘λt:T=>(t.op,t.kids))=T.v:=by funext t;exact t.pD.symm
 erw[e2];haveI e:∀(l:List (T×Nat)),(∀p∈l,p.1∈ks)->(l.flatMap λp=>(T.jv d p.1).map λq=>sO ((p.2:Int)::q.1,q.2)).flatMap Q7=(l.flatMap λp=>T.subs p.1).map T.v:=by
  intro l hl;induction l with
  |nil=>rfl
  |cons p l ih=>
   erw[aX,aX,gt,az,ih λq hq=>hl q (.tail _ hq)]
   congr 1
   rw[<-T.yD d p.1 (h _ (hl p (.head _))),ay];generalize T.jv d p.1=ps;induction ps with
   |nil=>rfl
   |cons q ps ihp=>erw[aP,aX,aP,ihp];rfl
 erw[e ks.zipIdx (λp hp=>by
  have:=fH hp;erw[this.2];exact du _),lx ks T.subs 0]
noncomputable def HI(op:String)(ks:List T):V:=.tup [.int ((gR op ks).length:Int),.tup ((gR op ks).map λp=>V.str p.1),.tup ((gR op ks).map λp=>V.int (p.2.length:Int))]
noncomputable def wF(c:Int)(op:String)(ks:List T):V:=.tup [.int c,HI op ks,gZ op ks]
section
variable {Γ:Cx} (hK:cL Γ.K)
include hK
omit hK in
theorem BW(h:ks.length<=2)(hp:p∈gR op ks):p.2.length<=2:=by
 rcases aq.mp hp with rfl |hp
 ·exact h
 ·refine iu hp λt _=>?_;exact t.pC
theorem Q8(I2:n<=1000)(kX:ks.length<=2)(hd:∀x∈ks,x.depth<=n)(hs:(ks.flatMap T.subs).length<=9000)(h:k (HI op ks) N):aV Γ (n+3) (.ref 77) [gZ op ks] N k:=by
 have hlen:(gR op ks).length<=10000:=by erw[gR,aU,ag];exact aR 0x1d59e7de81e9a14600567a77a17a28411 rfl hs
 haveI rB:∀{β:Type}(f:String×List T->β),((gR op ks).map f).length<=gS:=λf=>by erw[ag];exact pB hlen
 refine ck hK.f77 rfl λG c=>c hK.FT (.one (Ef hK I2 kX hd hs dU)) .lst (.one (x:=(gR op ks).map λp=>gZ p.1 p.2) (qO hd▸PH Q7 trivial (by erw[qO hd];exact rB _) λx hx G c=>?_))
  hK.dH (.one (eZ rfl (rB _) dU)) hK.sF .lst (.one (fZ (λp=>V.str p.1) trivial (pB hlen) λp hp G c=>c (.tup (j:=0) rfl) dU)) (.one (lu rfl (rB _) dU))
  hK.sF .lst (.one (fZ (λp=>V.int (p.2.length:Int)) trivial (pB hlen) λp hp G c=>c hK.dH (.one (eZ rfl (by erw[aU,ag];exact pB (aa (aw (BW kX hp)) (by decide))) dU)) .vO ⟨?_,rfl⟩)) (.one (lu rfl (rB _) dU)) (eO.ret ?_)
 ·erw[aU,ag];haveI e:(((p.2.length+1:Nat):Int)-1)=(p.2.length:Int):=by lia
  erw[e]
 ·erw[ag];exact h
 ·refine qv (xN hx) λp y aT=>?_;obtain rfl:=aT;exact c rfl dU
theorem FW(I2:n<=1000)(kX:ks.length<=2)(hd:∀x∈ks,x.depth<=n)(hs:(ks.flatMap T.subs).length<=9000)(h:k (wF c op ks) N):aV Γ (n+4) (.ref 192) [.int c,gZ op ks] N k:=ck hK.X0 rfl λG c=>c hK.La (.one (Q8 hK I2 kX hd hs dU)) (eO.ret h)
end
end
section
noncomputable def fi(c:Int)(t:T):V:=.tup [.int c,.int (t.size:Int),.lst (t.subs.map λs=>V.str s.op),.lst (t.subs.map λs=>V.int ((s.kids.length:Int)+1))]
section
variable {Γ:Cx} (hK:cL Γ.K)
include hK
theorem yE:∀(n:Nat)(t:T)(N:aL)(k:KV),t.depth<=n->t.size<=9000->k (.lst (t.subs.map T.v)) N->aV Γ (n+1) (.ref 466) [t.v] N k:=by
 exists Γ,_;intro hK;have core:∀(n:Nat)(t:T)(N:aL)(k:KV),t.size<=9000->(∀oq∈t.kids,∀(N:aL)(k:KV),k (.lst (oq.subs.map T.v)) N->aV Γ n (.ref 466) [oq.v] N k)->k (.lst (t.subs.map T.v)) N->aV Γ (n+1) (.ref 466) [t.v] N k:=by
  intro n t N k hs ih h;exists n,t,N,k;haveI kX:=t.pC;haveI su:=congrArg cB t.sL;rw[aU]at su;haveI Nv:t.subs.length<=9000:=hs;haveI e1:(t.kids.flatMap λoq=>oq.subs.map T.v)=(t.kids.flatMap T.subs).map T.v:=by erw[dw]
  haveI e2:[t.v]++(t.kids.flatMap λoq=>oq.subs.map T.v)=t.subs.map T.v:=by
   erw[e1];conv=>rhs;erw[t.sL]
   rfl
  rw[T.v_eq]at e2 ⊢;haveI hb:(t.kids.flatMap λoq=>oq.subs.map T.v).length<=10000:=by erw[e1,ag];exact aR 0x1d75679f7a07a684259e9de85e8a10584600812 rfl su Nv
  refine ck hK.Yp rfl λG c=>c true (.y4 (a:=1) (ap 1) (bP _) (aa (aw (by erw[ag];exact kX)) (by decide))) .tup
   (.one (FV (l:=t.kids) (v:=T.v) (λoq:T=>oq.subs.map T.v) trivial (pB hb) λoq xo G c=>c hK.pn (.one (ih oq xo _ _ dU)) .lst (.one (fZ (λs:T=>s.v) trivial ?_ λs hs G c=>c dU)) dU))
   (.bC rfl rfl ?_) (eO.ret ?_)
  ·haveI o7:=T.wD xo;haveI U6:oq.subs.length=oq.size:=rfl;exact pB (by exact aR 0x1d75d59e7de81e9a10d80835c10967a77a17a28413 rfl hs o7 U6)
  ·exact aa (bD hb 1) (by decide)
  ·erw[e2];exact h
 intro n;induction n with
 |zero=>intro t N k hd hs h;refine core 0 t N k hs (λoq xo=>?_) h;have:=T.gP xo;lia
 |succ n ih=>intro t N k hd hs h;refine core (n+1) t N k hs (λoq xo N k h=>ih oq N k (by have:=T.gP xo;exact aR 0x1d7560835c10d64600813 rfl hd this) (by have:=T.wD xo;exact aR 0x1d7567a77a17a28425c10967a77a17a28412 rfl hs this) h) h
theorem BX(hd:t.depth<=n)(hs:t.size<=9000)(h:k (fi c t) N):aV Γ (n+2) (.ref 471) [.int c,t.v] N k:=by
 haveI Nv:t.subs.length<=9000:=hs;haveI hb:∀{β:Type}(f:T->β),(t.subs.map f).length<=gS:=λf=>by erw[ag];exact pB (aa Nv (by decide))
 haveI hb0:t.subs.length<=gS:=pB (aa Nv (by decide));refine ck hK.Yq rfl λG c=>c hK.pn (.one (yE hK n t _ _ hd hs dU)) hK.dH (.one (eZ rfl (hb _) dU)) .lst (.one (fZ (λs:T=>V.str s.op) trivial hb0 λs hs G=>?_))
  .lst (.one (fZ (λs:T=>V.int ((s.kids.length:Int)+1)) trivial hb0 λs hs G=>?_)) (eO.ret ?_)
 ·erw[T.v_eq s];exactλc=>c (.tup (j:=0) rfl) dU
 ·erw[T.v_eq s]
  refineλc=>c hK.dH (.one (eZ rfl ?_ dU)) ⟨?_,rfl⟩
  ·erw[aU,ag];exact aa (aw s.pC) (by decide)
  ·erw[aU,ag];rfl
 ·erw[ag];exact h
theorem On{n:Nat}{c:Nat}{x:Str}{N:aL}{k:KV}(hx:x=⟨#[c]⟩)(hc:c=97\/c=98\/c=102\/c=103)(h:k (.bool true) N):aV Γ (n+1) (.ref 67) [.str x] N k:=by
 revert hK;exists Γ,n,c,x,N,k;have hsp:Txt.isspace ⟨#[c]⟩=false:=by rcases hc with rfl |rfl |rfl |rfl<;>decide+kernel
 have D4:(aN "()[]{},:").cps.toList.contains c=false:=by rcases hc with rfl |rfl |rfl |rfl<;>decide+kernel
 subst hx;have dM:(⟨#[c]⟩:Str)≠aN "":=λe=>by
  have e2:(aN "").cps.size=0:=by decide+kernel
  rw[<-e]at e2;exact nomatch e2
 refine ck hK.f67 rfl λG c'=>c' (.ZP ⟨λ_=>dM,λ_=>rfl⟩) (.str (by rcases hc with rfl |rfl |rfl |rfl<;>decide+kernel)) (.one (x:=[]) (N:=N) ?_) true (.W4 rfl rfl ⟨rfl,rfl,aG _⟩ ⟨λ_=>rfl,λ_=>rfl⟩) (eO.ret h);refine PH (items:=[V.str ⟨#[c]⟩]) (λ_=>[]) trivial (aG _) λy hy G=>?_;obtain rfl:=ao.mp hy;have sP:dA N .In (.str ⟨#[c]⟩) (.str "()[]{},:") false:=D4▸.ZQ rfl
 exactλc'=>c' (mb .isspace) (.one (x:=.bool false) (zF ⟨congrArg V.bool hsp,rfl⟩)) sP dU
end
end
section
set_option genInjectivity true in
structure Row where
 op:String
 kids:List Nat
 deriving DecidableEq
noncomputable def Row.pk(r:Row):List PK:=.s r.op::r.kids.map λ(k:Nat)=>PK.i (k:Int)
noncomputable def Row.v(r:Row):V:=.tup (.str r.op::r.kids.map λ(k:Nat)=>V.int (k:Int))
noncomputable def iv(n:Nat):V:=.int (n:Int)
noncomputable def gC(s:String):Prop:=s="a"\/s="b"\/s="f"\/s="g"
structure r7 where
 (dx ab l6 au mH le lf dk da lw ln dn lt ld la ll lm:ax)
structure g8 where
 rows:List Row
 nums:List (List PK×V)
 BY:List Int
 CA:List Int
 par:List Nat
 cz:List (ax×List Nat)
 merged:List V
 i5:List V
 nO:List V
 known:List (List PK×Nat)
 gk:List (Nat×Option ax×List Nat)
 ep:Nat
 wait:List Nat
noncomputable def gu:Str->Option V:=λ_=>none
noncomputable def zK(A:r7):Str->Option V:=cf.set (cf.set (cf.set (cf.set (cf.set (cf.set (cf.set gu "bank" (.obj A.ab 181 A.l6)) "unions" (.obj A.au 306 A.mH)) "edges" (.ref A.le)) "forest" (.ref A.lf)) "known" (.ref A.dk)) "above" (.ref A.da)) "waiting" (.ref A.lw)
noncomputable def zL(A:r7):Str->Option V:=cf.set (cf.set (cf.set (cf.set gu "nodes" (.ref A.ln)) "numbers" (.ref A.dn)) "weights" (.ref A.lt)) "depths" (.ref A.ld)
noncomputable def Oo(A:r7):Str->Option V:=cf.set (cf.set (cf.set gu "above" (.ref A.la)) "lots" (.ref A.ll)) "merged" (.ref A.lm)
noncomputable def HJ(rows:List Row):List (List PK×V):=rows.zipIdx.map λp=>(p.1.pk,iv p.2)
noncomputable def lQ(l:List (ax×List Nat)):List (ax×cA):=l.map λp=>(p.1,.list (p.2.map iv))
noncomputable def iE(l:List (Nat×Option ax×List Nat)):List (ax×cA):=l.flatMap λp=>p.2.1.elim [] λa=>[(a,.list (p.2.2.map iv))]
noncomputable def Eg:Option ax×List Nat->V
 |(some a,_)=>.ref a
 |(none,l)=>.lst (l.map iv)
noncomputable def iT(l:List (Nat×Option ax×List Nat)):List (PK×V):=l.map λp=>(.i (p.1:Int),Eg p.2)
noncomputable def oG(A:r7)(S:g8):List (ax×cA):=[(A.dx,.at (zK A) 7),(A.l6,.at (zL A) 4),(A.mH,.at (Oo A) 3),(A.ln,.list (S.rows.map Row.v)),(A.dn,.dt S.nums),(A.lt,.list (S.BY.map V.int)),(A.ld,.list (S.CA.map V.int)),
 (A.la,.list (S.par.map iv)),(A.ll,.list (S.cz.map λp=>.ref p.1)),(A.lm,.list S.merged),(A.le,.list S.i5),(A.lf,.list S.nO),(A.dk,.dt (S.known.map λp=>(p.1,iv p.2))),(A.da,.dp (iT S.gk) S.ep),(A.lw,.list (S.wait.map iv))]
noncomputable def hC(A:r7)(S:g8):List (ax×cA):=oG A S++(lQ S.cz++iE S.gk)
noncomputable def HR(N:aL)(A:r7)(S:g8)(R:List (ax×cA)):Prop:=Sub N (hC A S++R)
section
variable {N:aL} {A:r7} {S:g8} {R:List (ax×cA)}
theorem HR.fix(h:HR N A S R)(hp:p∈oG A S):N p.1=some p.2:=h.2 p (aW _ (aW _ hp))
theorem HR.dx(h:HR N A S R):N A.dx=some (.at (zK A) 7):=h.fix (p:=(_,_)) (.head _)
theorem HR.l6(h:HR N A S R):N A.l6=some (.at (zL A) 4):=h.fix (p:=(_,_)) (.tail _ (.head _))
theorem HR.mH(h:HR N A S R):N A.mH=some (.at (Oo A) 3):=h.fix (p:=(_,_)) (.tail _ (.tail _ (.head _)))
theorem HR.ln(h:HR N A S R):N A.ln=some (.list (S.rows.map Row.v)):=h.fix (p:=(_,_)) (.tail _ (.tail _ (.tail _ (.head _))))
theorem HR.dn(h:HR N A S R):N A.dn=some (.dt S.nums):=h.fix (p:=(_,_)) (.tail _ (.tail _ (.tail _ (.tail _ (.head _)))))
theorem HR.lt(h:HR N A S R):N A.lt=some (.list (S.BY.map V.int)):=h.fix (p:=(_,_)) (.tail _ (.tail _ (.tail _ (.tail _ (.tail _ (.head _))))))
theorem HR.ld(h:HR N A S R):N A.ld=some (.list (S.CA.map V.int)):=h.fix (p:=(_,_)) (.tail _ (.tail _ (.tail _ (.tail _ (.tail _ (.tail _ (.head _)))))))
theorem HR.la(h:HR N A S R):N A.la=some (.list (S.par.map iv)):=h.fix (p:=(_,_)) (.tail _ (.tail _ (.tail _ (.tail _ (.tail _ (.tail _ (.tail _ (.head _))))))))
theorem HR.ll(h:HR N A S R):N A.ll=some (.list (S.cz.map λp=>.ref p.1)):=h.fix (p:=(_,_)) (.tail _ (.tail _ (.tail _ (.tail _ (.tail _ (.tail _ (.tail _ (.tail _ (.head _)))))))))
theorem HR.lm(h:HR N A S R):N A.lm=some (.list S.merged):=h.fix (p:=(_,_)) (.tail _ (.tail _ (.tail _ (.tail _ (.tail _ (.tail _ (.tail _ (.tail _ (.tail _ (.head _))))))))))
theorem HR.le(h:HR N A S R):N A.le=some (.list S.i5):=h.fix (p:=(_,_)) (.tail _ (.tail _ (.tail _ (.tail _ (.tail _ (.tail _ (.tail _ (.tail _ (.tail _ (.tail _ (.head _)))))))))))
theorem HR.lf(h:HR N A S R):N A.lf=some (.list S.nO):=h.fix (p:=(_,_)) (.tail _ (.tail _ (.tail _ (.tail _ (.tail _ (.tail _ (.tail _ (.tail _ (.tail _ (.tail _ (.tail _ (.head _))))))))))))
theorem HR.dk(h:HR N A S R):N A.dk=some (.dt (S.known.map λp=>(p.1,iv p.2))):=h.fix (p:=(_,_)) (.tail _ (.tail _ (.tail _ (.tail _ (.tail _ (.tail _ (.tail _ (.tail _ (.tail _ (.tail _ (.tail _ (.tail _ (.head _)))))))))))))
theorem HR.da(h:HR N A S R):N A.da=some (.dp (iT S.gk) S.ep):=h.fix (p:=(_,_)) (.tail _ (.tail _ (.tail _ (.tail _ (.tail _ (.tail _ (.tail _ (.tail _ (.tail _ (.tail _ (.tail _ (.tail _ (.tail _ (.head _))))))))))))))
theorem HR.lw(h:HR N A S R):N A.lw=some (.list (S.wait.map iv)):=h.fix (p:=(_,_)) (.tail _ (.tail _ (.tail _ (.tail _ (.tail _ (.tail _ (.tail _ (.tail _ (.tail _ (.tail _ (.tail _ (.tail _ (.tail _ (.tail _ (.head _)))))))))))))))
theorem HR.SD(h:HR N A S R)(hp:p∈S.cz):N p.1=some (.list (p.2.map iv)):=h.2 (p.1,.list (p.2.map iv)) (aW _ (aK _ (aW _ (ak.mpr ⟨p,hp,rfl⟩))))
theorem HR.gk(h:HR N A S R)(hp:p∈S.gk):d9 N (Eg p.2)=some (p.2.2.map iv):=by
 obtain⟨c,o,l⟩:=p;cases o with
 |none=>rfl
 |some a=>have:N a=some (.list (l.map iv)):=h.2 (a,.list (l.map iv)) (aW _ (aK _ (aK _ (bn.mpr ⟨_,hp,ao.mpr rfl⟩))));simp only[Eg,d9,this]
theorem HR.off(h:HR N A S R)(hn:N a=none):HR (N.put a mo) A S R:=Sub.Og h hn
end
theorem getD_some{α:Type}{l:List α}{i:Nat}{d:α}(h:i<l.length):l[i]?=some (l.getD i d):=by erw[aE h,ar,aE h];rfl
noncomputable def root(par:List Nat):Nat->Nat:=Nat.lt_wfRel.wf.fix λa ih=>if h:par.getD a a<a then ih (par.getD a a) h else a
theorem nQ(par:List Nat)(a:Nat):root par a=if h:par.getD a a<a then root par (par.getD a a) else a:=WellFounded.fix_eq _ _ a
noncomputable def PO(par:List Nat):Prop:=∀a,par.getD a a<=a
theorem sQ(par:List Nat):∀a,root par a<=a:=by
 intro a;induction a using lH with
 |_ a ih=>
  rw[nQ];split
  ·rename_i h;exact aa (ih _ h) (bq h)
  ·exact ap _
theorem sR(hp:PO par):∀a,par.getD (root par a) (root par a)=root par a:=by
 intro a;induction a using lH with
 |_ a ih=>
  rw[nQ];split
  ·rename_i h;exact ih _ h
  ·rename_i h;have:=hp a;exact aR 0x75d6020560816970812 rfl h this
theorem jG(h:par.getD a a=a):root par a=a:=by rw[nQ];erw[dif_neg (by exact aR 0x75a5c20580812 rfl h)]
theorem kY(hp:PO par)(a:Nat):root par (root par a)=root par a:=jG (sR hp a)
theorem Lk(hp:PO par)(a:Nat):root par (par.getD a a)=root par a:=by
 by_cases h:par.getD a a<a
 ·conv=>rhs;rw[nQ]
  erw[dif_pos h]
 ·have:=hp a;haveI e:par.getD a a=a:=by exact aR 0x75d6020560816970812 rfl h this
  erw[e]
section
variable {N:aL}
theorem eqT(h:a=b):dA N .Eq (iv a) (iv b) true:=.W0 ⟨λ_=>congrArg _ h,λ_=>rfl⟩
theorem CM(h:¬a=b):dA N .Eq (iv a) (iv b) false:=.W0 ⟨nofun,λe=>(h (iF e)).elim⟩
theorem neT(h:¬a=b):dA N .NotEq (iv a) (iv b) true:=.W1 ⟨λ_ e=>h (iF e),λ_=>rfl⟩
theorem SE(h:a=b):dA N .NotEq (iv a) (iv b) false:=.W1 ⟨nofun,λe=>(e (congrArg _ h)).elim⟩
theorem Ll{par:List Nat}{a:Nat}(h:a<par.length):(par.map iv)[a]?=some (iv (par.getD a a)):=by erw[aF,getD_some h];rfl
theorem zM(h:a<b)(hb:b<=1000):a<1000000:=aY h (aa hb (by decide))
theorem sS{α:Type}{l:List α}(f:α->V)(hb:l.length<=1000):(l.map f).length<=gS:=by erw[ag];exact aa hb (by decide)
end
section
variable {Γ:Cx} (hK:cL Γ.K) {n:Nat} {N:aL} {A:r7} {S:g8} {R:List (ax×cA)} {k:KV} {ha:ax}
include hK
theorem uA(H:HR N A S R)(a:cM Γ.K 306 x)(h:Oo A x=some v)(q:v.GK=true):iJ Γ.K N (.obj A.au 306 A.mH) x v:=ae ⟨hK.px,a,q,_,_,H.mH,h⟩
theorem bA(H:HR N A S R)(a:cM Γ.K 181 x)(h:zL A x=some v)(q:v.GK=true):iJ Γ.K N (.obj A.ab 181 A.l6) x v:=ae ⟨hK.tK,a,q,_,_,H.l6,h⟩
theorem hA(H:HR N A S R)(a:cM Γ.K 438 x)(h:zK A x=some v)(q:v.GK=true):iJ Γ.K N (.obj ha 438 A.dx) x v:=ae ⟨hK.nN,a,q,_,_,H.dx,h⟩
theorem uM(H:HR N A S R)(a:cR Γ.K (.ref 306) x=some (some (.ref f))/\kT Γ.K (.ref f)=true)(h:Oo A x=none):fO Γ.K N (.obj A.au 306 A.mH) x (.ref f):=me ⟨hK.px,a.1,a.2,_,_,H.mH,h⟩
theorem bM(H:HR N A S R)(a:cR Γ.K (.ref 181) x=some (some (.ref f))/\kT Γ.K (.ref f)=true)(h:zL A x=none):fO Γ.K N (.obj A.ab 181 A.l6) x (.ref f):=me ⟨hK.tK,a.1,a.2,_,_,H.l6,h⟩
theorem hM(H:HR N A S R)(a:cR Γ.K (.ref 438) x=some (some (.ref f))/\kT Γ.K (.ref f)=true)(h:zK A x=none):fO Γ.K N (.obj ha 438 A.dx) x (.ref f):=me ⟨hK.nN,a.1,a.2,_,_,H.dx,h⟩
theorem jl(H:HR N A S R):iJ Γ.K N (.obj A.au 306 A.mH) "above" (.ref A.la):=uA hK H hK.pz rfl rfl
theorem wG(H:HR N A S R):iJ Γ.K N (.obj A.au 306 A.mH) "lots" (.ref A.ll):=uA hK H hK.qK rfl rfl
theorem Lm(H:HR N A S R):iJ Γ.K N (.obj A.au 306 A.mH) "merged" (.ref A.lm):=uA hK H hK.oo rfl rfl
theorem nR(H:HR N A S R):iJ Γ.K N (.obj A.ab 181 A.l6) "nodes" (.ref A.ln):=bA hK H hK.sG rfl rfl
theorem yF(H:HR N A S R):iJ Γ.K N (.obj A.ab 181 A.l6) "numbers" (.ref A.dn):=bA hK H hK.pq rfl rfl
theorem yG(H:HR N A S R):iJ Γ.K N (.obj A.ab 181 A.l6) "weights" (.ref A.lt):=bA hK H hK.pt rfl rfl
theorem BZ(H:HR N A S R):iJ Γ.K N (.obj A.ab 181 A.l6) "depths" (.ref A.ld):=bA hK H hK.qJ rfl rfl
theorem nS(H:HR N A S R):iJ Γ.K N (.obj ha 438 A.dx) "bank" (.obj A.ab 181 A.l6):=hA hK H hK.ut rfl rfl
theorem mY(H:HR N A S R):iJ Γ.K N (.obj ha 438 A.dx) "unions" (.obj A.au 306 A.mH):=hA hK H hK.qL rfl rfl
theorem FX(H:HR N A S R):iJ Γ.K N (.obj ha 438 A.dx) "edges" (.ref A.le):=hA hK H hK.sI rfl rfl
theorem Ln(H:HR N A S R):iJ Γ.K N (.obj ha 438 A.dx) "forest" (.ref A.lf):=hA hK H hK.qM rfl rfl
theorem FY(H:HR N A S R):iJ Γ.K N (.obj ha 438 A.dx) "known" (.ref A.dk):=hA hK H hK.sJ rfl rfl
theorem pZ(H:HR N A S R):iJ Γ.K N (.obj ha 438 A.dx) "above" (.ref A.da):=hA hK H hK.sK rfl rfl
theorem qb(H:HR N A S R):iJ Γ.K N (.obj ha 438 A.dx) "waiting" (.ref A.lw):=hA hK H hK.pA rfl rfl
theorem Op(H:HR N A S R):fO Γ.K N (.obj A.au 306 A.mH) "make" (.ref 249):=uM hK H hK.xI rfl
theorem Oq(H:HR N A S R):fO Γ.K N (.obj A.au 306 A.mH) "size" (.ref 256):=uM hK H hK.xJ rfl
theorem vq(H:HR N A S R):fO Γ.K N (.obj A.au 306 A.mH) "find" (.ref 263):=uM hK H hK.xK rfl
theorem Lo(H:HR N A S R):fO Γ.K N (.obj A.au 306 A.mH) "merge" (.ref 270):=uM hK H hK.wz rfl
theorem Eh(H:HR N A S R):fO Γ.K N (.obj A.au 306 A.mH) "members" (.ref 277):=uM hK H hK.tL rfl
theorem Ei(H:HR N A S R):fO Γ.K N (.obj A.au 306 A.mH) "classes" (.ref 282):=uM hK H hK.tM rfl
theorem Os(H:HR N A S R):fO Γ.K N (.obj A.ab 181 A.l6) "size" (.ref 98):=bM hK H hK.BK rfl
theorem Ot(H:HR N A S R):fO Γ.K N (.obj A.ab 181 A.l6) "take" (.ref 103):=bM hK H hK.BL rfl
theorem Ej(H:HR N A S R):fO Γ.K N (.obj A.ab 181 A.l6) "require" (.ref 110):=bM hK H hK.wy rfl
theorem FZ(H:HR N A S R):fO Γ.K N (.obj A.ab 181 A.l6) "op" (.ref 138):=bM hK H hK.HE rfl
theorem zN(H:HR N A S R):fO Γ.K N (.obj A.ab 181 A.l6) "kids" (.ref 145):=bM hK H hK.BM rfl
theorem Ou(H:HR N A S R):fO Γ.K N (.obj ha 438 A.dx) "size" (.ref 331):=hM hK H hK.BP rfl
theorem zO(H:HR N A S R):fO Γ.K N (.obj ha 438 A.dx) "node" (.ref 336):=hM hK H hK.BQ rfl
theorem Q9(H:HR N A S R):fO Γ.K N (.obj ha 438 A.dx) "add" (.ref 341):=hM hK H hK.Ed rfl
theorem wH(H:HR N A S R):fO Γ.K N (.obj ha 438 A.dx) "look_at" (.ref 355):=hM hK H hK.wA rfl
theorem eH(H:HR N A S R):fO Γ.K N (.obj ha 438 A.dx) "find" (.ref 362):=hM hK H hK.BR rfl
theorem Lp(H:HR N A S R):fO Γ.K N (.obj ha 438 A.dx) "merge" (.ref 376):=hM hK H hK.zH rfl
theorem F6(H:HR N A S R):fO Γ.K N (.obj ha 438 A.dx) "join" (.ref 383):=hM hK H hK.BS rfl
theorem HK(H:HR N A S R):fO Γ.K N (.obj ha 438 A.dx) "settle" (.ref 390):=hM hK H hK.xL rfl
theorem rE(H:HR N A S R):fO Γ.K N (.obj ha 438 A.dx) "classes" (.ref 404):=hM hK H hK.wB rfl
theorem Ek(H:HR N A S R):fO Γ.K N (.obj ha 438 A.dx) "members" (.ref 411):=hM hK H hK.wC rfl
theorem B0(H:HR N A S R):fO Γ.K N (.obj ha 438 A.dx) "nodes_of" (.ref 416):=hM hK H hK.u0 rfl
theorem Lq(H:HR N A S R)(hb:S.par.length<=1000)(h:k (iv S.par.length) N):aV Γ (n+1) (.ref 256) [.obj A.au 306 A.mH] N k:=by refine ck hK.X7 rfl λG c=>c hK.dH (jl hK H) (.one (eZ (fg H.la) (sS _ hb) dU)) (eO.ret ?_);erw[ag];exact h
theorem sT(H:HR N A S R)(hp:PO S.par){a:Nat}(ha:a<S.par.length)(hb:S.par.length<=1000)(h:k (iv (root S.par a)) N):aV Γ (n+1) (.ref 263) [.obj A.au 306 A.mH,iv a] N k:=by
 revert hK A S H;exists Γ,n,N,R,k,a;refine ck hK.X8 rfl λG c=>c (env:=λz:Nat=>[("self",.obj A.au 306 A.mH),("a",iv z)]) (J:=λz d N1=>d=z/\N1=N/\z<S.par.length/\root S.par z=root S.par a) (P:=λd N1=>N1=N/\d=root S.par a)
  a a (zI rfl) ⟨rfl,rfl,ha,rfl⟩ (v8 λz d N1 hj G c=>?_) λd N' e G c=>c (eO.ret ?_)
 ·refine qw hj λaT il hz tj=>?_;clear hj;obtain rfl:=aT;obtain rfl:=il;haveI at_:gy N1 (.ref A.la) (iv d) (iv (S.par.getD d d)):=.lst (fg H.la) (Ll hz) (zM hz hb);by_cases q:S.par.getD d d=d
  ·exact c (jl hK H) at_ (SE q) ⟨rfl,(jG q).symm.trans tj⟩
  ·haveI hle:=hp d;exact c (jl hK H) at_ (neT q) (jl hK H) at_ _ (S.par.getD d d) (Nat.lt_of_le_of_ne hle q) ⟨rfl,rfl,a6 hle hz,(Lk hp d).trans tj⟩ rfl
 ·refine a9 e λaT il=>?_;clear e;obtain rfl:=aT;obtain rfl:=il;exact h
theorem B1(H:HR N A S R)(hb:S.par.length<=1000)(h:k (.lst (((aM S.par.length).filter λa=>decide (S.par.getD a a=a)).map iv)) N):aV Γ (n+1) (.ref 282) [.obj A.au 306 A.mH] N k:=by
 haveI e:((aM S.par.length).filter λa=>decide (S.par.getD a a=a)).map iv=(aM S.par.length).flatMap λa=>if S.par.getD a a=a then [iv a] else []:=by
  generalize aM S.par.length=l;induction l with
  |nil=>rfl
  |cons x l ih=>
   rw[aX,<-ih,cV];by_cases c:S.par.getD x x=x
   ·erw[if_pos (decide_eq_true c),if_pos c];rfl
   ·erw[if_neg (by erw[decide_eq_false c];exact bU),if_neg c];rfl
 rw[e]at h;refine ck hK.Ya rfl λG c=>c hK.iQ hK.dH (jl hK H) (.one (eZ (fg H.la) (sS _ hb) dU)) (b:=S.par.length) (congrArg iv (ag _)) (aa hb (by decide))
  (.one (FV (l:=aM S.par.length) (v:=iv) (λa:Nat=>if S.par.getD a a=a then [iv a] else []) trivial (e▸?_) λa ha G=>?_)) (eO.ret h)
 ·erw[ag];refine aa (cZ _ _) ?_;erw[aO];exact aa hb (by decide)
 ·haveI ha:=br.mp ha;haveI at_:gy N (.ref A.la) (iv a) (iv (S.par.getD a a)):=.lst (fg H.la) (Ll ha) (zM ha hb);by_cases q:S.par.getD a a=a
  ·erw[if_pos q];exactλc=>c (jl hK H) at_ (eqT q) dU
  ·erw[if_neg q];exactλc=>c (jl hK H) at_ (CM q) dU
omit hK in
theorem zP{a b:Nat}:([a]<[b])=(a<b):=by apply propext;erw[bR];exact⟨λh=>h.elim id λh=>(jy _ h.2).elim,.inl⟩
omit hK in
theorem Rc{p q:Prop}[Decidable p][Decidable q](h:p↔q):decide p=decide q:=decide_eq_decide.mpr h
omit hK in
theorem rF{l:List Nat}(h:l.length<64):jj l iv (λn=>[n]):=by
 refine⟨h,dX.mpr λx hx=>?_,en.mpr λx hx=>?_,λa _ b _=>?_,.inl λx hx=>?_⟩
 ·refine iu hx λn _=>?_;rfl
 ·refine iu hx λn _=>?_;exact aG _
 ·show some (decide ((a:Int)<b))=_;erw[Rc (jO.trans (iff_of_eq zP.symm))]
 ·refine iu hx λn _=>?_;exact⟨_,rfl⟩
omit hK in
theorem rG{l:List Nat}(h:l.Pairwise (λx y=>¬([y]:List Nat)<[x])):l.Pairwise (· <=·):=h.imp λ{a b}q=>by rw[zP]at q;exact dV q
theorem B2(H:HR N A S R)(hp:PO S.par){a:Nat}(ha:a<S.par.length)(hb:S.par.length<=1000){p:ax×List Nat}(hl:S.cz[root S.par a]?=some p)(yv:p.2.length<64)(h:∀l:List Nat,l.Perm p.2->l.Pairwise (· <=·)->k (.lst (l.map iv)) N):
  aV Γ (n+2) (.ref 277) [.obj A.au 306 A.mH,iv a] N k:=by
 refine ck hK.X' rfl λG c=>c hK.iK (wG hK H) (vq hK H) (.one (sT hK H hp ha hb dU)) (.lst (x:=.ref p.1) (fg H.ll) (by erw[aF,hl];rfl) (zM (a6 (sQ _ _) ha) hb))
  (.all (ib (k:=λv N'=>N'=N/\∃l:List Nat,v=.lst (l.map iv)/\l.Perm p.2/\l.Pairwise (· <=·)) (l:=p.2) (f:=iv) (.inl (fg (H.SD (a7 hl)))) (rF yv) λl h1 h2=>⟨rfl,l,rfl,h1,rG h2⟩)) λv N' e G c=>?_
 refine a9 e λaT il=>?_;clear e;obtain rfl:=aT;refine cQ il λl Bb h1 h2=>?_;clear il;obtain rfl:=Bb;exact c (eO.ret (h l h1 h2))
end
end
section
noncomputable instance:Nonempty g8:=⟨⟨[],[],[],[],[],[],[],[],[],[],[],0,[]⟩⟩
noncomputable instance:Nonempty Row:=⟨⟨"",[]⟩⟩
noncomputable instance:Nonempty r7:=⟨⟨0,0,0,0,0,0,0,0,0,0,0,0,0,0,0,0,0⟩⟩
end
section
noncomputable def Row.dflt:Row:=⟨"a",[]⟩
noncomputable def g8.row(S:g8)(n:Nat):Row:=S.rows.getD n Row.dflt
noncomputable def bl(S:g8)(n:Nat):Row:=⟨(S.row n).op,(S.row n).kids.map (root S.par)⟩
structure PJ(S:g8):Prop where
 po:PO S.par
 len:S.par.length=S.rows.length
 small:S.rows.length<=10
 kids:∀n<S.rows.length,∀c∈(S.row n).kids,c<n
 tN:∀n<S.rows.length,(S.row n).kids.length<=2
 ops:∀n<S.rows.length,gC (S.row n).op
noncomputable def vr(s:String):Nat:=if s="a" then 97 else if s="b" then 98 else if s="f" then 102 else 103
theorem uu(h:gC s):ow (aN s)=true:=by rcases h with rfl |rfl |rfl |rfl<;>decide+kernel
theorem pE(h:gC s):(aN s)=⟨#[vr s]⟩:=by rcases h with rfl |rfl |rfl |rfl<;>decide+kernel
theorem Ov(hs:gC s)(ht:gC t)(h:vr s=vr t):s=t:=by exists s,t;rcases hs with rfl |rfl |rfl |rfl<;>rcases ht with rfl |rfl |rfl |rfl<;>first |rfl |(revert h;decide)
theorem B3(xs:List V):V.DP xs xs=some false:=by
 induction xs with
 |nil=>rfl
 |cons x xs ih=>exact(DQ rfl).trans ih
theorem qc{p q:Prop}[Decidable p][Decidable q](h:p↔q):decide p=decide q:=decide_eq_decide.mpr h
noncomputable def Wu(x y:V)(k l:Nat):Prop:=(x=y↔k=l)/\V.lt x y=some (decide (k<l))
theorem mZ(c:Wu x y k l)(r:k=l->V.DP xs ys=some (decide (ks<ls))):V.DP (x::xs) (y::ys)=some (decide (k::ks<l::ls)):=by
 by_cases q:k=l
 ·exact(DQ (c.1.mpr q)).trans ((r q).trans (congrArg some (qc ⟨λh=>bR.mpr (.inr ⟨q,h⟩),λh=>(bR.mp h).elim (λg=>absurd q (bd g)) And.right⟩)))
 ·exact(wb (mt c.1.mp q)).trans (c.2.trans (congrArg some (qc ⟨λh=>bR.mpr (.inl h),λh=>(bR.mp h).elim (λg=>g) λg=>absurd g.1 q⟩)))
theorem zQ{α:Type}{f:α->V}{k:α->Nat}{xs ys:List α}(c:∀x∈xs,∀y∈ys,Wu (f x) (f y) (k x) (k y)):V.DP (xs.map f) (ys.map f)=some (decide (xs.map k<ys.map k)):=by
 induction xs generalizing ys with
 |nil=>cases ys with
  |nil=>exact congrArg some (decide_eq_false (List.not_lt_nil _)).symm
  |cons y ys=>exact congrArg some (decide_eq_true (List.nil_lt_cons _ _)).symm
 |cons x xs ih=>cases ys with
  |nil=>exact congrArg some (decide_eq_false (List.not_lt_nil _)).symm
  |cons y ys=>exact mZ (c x (.head _) y (.head _)) λ_=>ih λx hx y hy=>c x (.tail _ hx) y (.tail _ hy)
theorem U7(hs:gC s)(ht:gC t):V.lt (.str s) (.str t)=some (decide (vr s<vr t)):=by erw[pE hs,pE ht];exact congrArg some (qc (iff_of_eq zP))
theorem qo(e:V.str (aN s)=V.str (aN t)):s=t:=(nM _ _).mp (V.str.inj e)
theorem El(hs:gC s)(ht:gC t):Wu (.str s) (.str t) (vr s) (vr t):=⟨⟨λe=>congrArg vr (qo e),λe=>congrArg (λs=>V.str (aN s)) (Ov hs ht e)⟩,U7 hs ht⟩
theorem Em(h:iv a=iv b):a=b:=iF (V.int.inj h)
theorem Ow{xs ys:List Nat}(h:xs.map iv=ys.map iv):xs=ys:=(jf λ_ _ e=>Em e).mp h
theorem wI(a b:Nat):Wu (iv a) (iv b) a b:=⟨⟨Em,congrArg iv⟩,congrArg some (qc jO)⟩
theorem Ox(xs ys:List Nat):V.DP (xs.map iv) (ys.map iv)=some (decide (xs<ys)):=by haveI h:=zQ (f:=iv) (k:=λx=>x) (xs:=xs) (ys:=ys) λx _ y _=>wI x y;rw[List.map_id',List.map_id']at h;exact h
noncomputable def Row.key(r:Row):List Nat:=vr r.op::r.kids
theorem Rd{r s:Row}(hr:gC r.op)(hs:gC s.op):V.lt r.v s.v=some (decide (r.key<s.key)):=mZ (xs:=r.kids.map iv) (ys:=s.kids.map iv) (El hr hs) λ_=>Ox _ _
theorem PL(r:Row):r.v=uY r.pk:=by unfold Row.v uY Row.pk;erw[aP,ay];rfl
theorem tO{r s:Row}(h:r.pk=s.pk):r=s:=
 have e:=bk h
 congr (congrArg Row.mk ((nM _ _).mp (PK.s.inj e.1))) ((jf λ_ _ e=>iF (PK.i.inj e)).mp e.2)
theorem uw{l:List Row}(h:l.length<64)(ho:∀r∈l,gC r.op):jj l Row.v Row.key:=by
 refine⟨h,dX.mpr λx hx=>?_,en.mpr λx hx=>?_,λa ha b hb=>Rd (ho a ha) (ho b hb),.inr (.inr λx hx=>?_)⟩
 ·refine aI (ak.mp hx) λr hr aT=>?_;obtain rfl:=aT;refine bo.mpr ⟨uu (ho r hr),dX.mpr λy hy=>?_⟩;refine aI (ak.mp hy) λn _ aT=>?_;obtain rfl:=aT;rfl
 ·refine aI (ak.mp hx) λr hr aT=>?_;obtain rfl:=aT;have:V.jB (.str r.op::r.kids.map iv)<=0:=en.mpr λy hy=>by
   rcases aq.mp hy with rfl |hy
   ·exact ap _
   ·refine aI (ak.mp hy) λn _ aT=>?_;obtain rfl:=aT;exact ap _
  show V.jB (.str r.op::r.kids.map iv)+1<=150;exact aR 0x1d59e9684600567c11 rfl this
 ·refine aI (ak.mp hx) λr hr aT=>?_;obtain rfl:=aT;exact⟨_,_,rfl⟩
theorem wJ{α β:Type}{f:α->β}{P:α->Prop}{l:List β}(h:∀x∈l,∃a,f a=x/\P a):∃as:List α,l=as.map f/\∀a∈as,P a:=by
 induction l with
 |nil=>exact⟨[],rfl,λ_ h=>nomatch h⟩
 |cons x l ih=>refine aI (h x (.head _)) λa e ha=>?_;refine aI (ih λy hy=>h y (.tail _ hy)) λas e2 has=>?_;exact⟨a::as,congr (congrArg List.cons e.symm) e2,λb hb=>(aq.mp hb).elim (λe=>e▸ha) (has b)⟩
section
variable {Γ:Cx} (hK:cL Γ.K) {n:Nat} {N:aL} {A:r7} {S:g8} {R:List (ax×cA)} {k:KV} {ha:ax}
include hK
omit hK in
theorem Lr(hi:i<S.rows.length):(S.rows.map Row.v)[i]?=some (S.row i).v:=by erw[aF,getD_some (d:=Row.dflt) hi];rfl
theorem Ls(H:HR N A S R)(hb:S.rows.length<=1000)(h:k (iv S.rows.length) N):aV Γ (n+1) (.ref 98) [.obj A.ab 181 A.l6] N k:=ck hK.f98 rfl λG c=>c hK.dH (nR hK H) (.one (eZ (fg H.ln) (sS _ hb) dU)) (eO.ret (by erw[ag];exact h))
theorem Lu(H:HR N A S R)(hb:S.rows.length<=1000)(h:k (iv S.rows.length) N):aV Γ (n+2) (.ref 331) [.obj ha 438 A.dx] N k:=ck hK.Yc rfl λG c=>c (nS hK H) (Os hK H) (.one (Ls hK H hb dU)) (eO.ret h)
theorem zR(H:HR N A S R)(hi:i<S.rows.length)(hb:S.rows.length<=1000)(h:k (.str (S.row i).op) N):aV Γ (n+1) (.ref 138) [.obj A.ab 181 A.l6,iv i] N k:=ck hK.XY rfl λG c=>c (nR hK H) (.lst (fg H.ln) (Lr hi) (zM hi hb)) (.tup (j:=0) rfl) (eO.ret h)
theorem wK(H:HR N A S R)(hi:i<S.rows.length)(hb:S.rows.length<=1000)(hf:(S.row i).kids.length<=2)(h:k (.tup ((S.row i).kids.map iv)) N):aV Γ (n+1) (.ref 145) [.obj A.ab 181 A.l6,iv i] N k:=ck hK.XZ rfl λG c=>c (nR hK H) (.lst (fg H.ln) (Lr hi) (zM hi hb)) (.y4 (a:=1) (ap 1) (bP _) (aa (aw (by erw[ag];exact hf)) (by decide))) (eO.ret h)
theorem eu(H:HR N A S R)(hp:PO S.par){a:Nat}(r6:a<S.par.length)(hb:S.par.length<=1000)(h:k (iv (root S.par a)) N):aV Γ (n+2) (.ref 362) [.obj ha 438 A.dx,iv a] N k:=ck hK.Yf rfl λG c=>c (mY hK H) (vq hK H) (.one (sT hK H hp r6 hb dU)) (eO.ret h)
theorem pF(H:HR N A S R)(hb:S.par.length<=1000)(h:k (.lst (((aM S.par.length).filter λa=>decide (S.par.getD a a=a)).map iv)) N):aV Γ (n+2) (.ref 404) [.obj ha 438 A.dx] N k:=ck hK.Yj rfl λG c=>c (mY hK H) (Ei hK H) (.one (B1 hK H hb dU)) (eO.ret h)
theorem B4(H:HR N A S R)(hp:PO S.par)(r6:a<S.par.length)(hb:S.par.length<=1000)(hl:S.cz[root S.par a]?=some p)(yv:p.2.length<64)(h:∀l:List Nat,l.Perm p.2->l.Pairwise (· <=·)->k (.lst (l.map iv)) N):
  aV Γ (n+3) (.ref 411) [.obj ha 438 A.dx,iv a] N k:=
 ck hK.Yk rfl λG c=>c (mY hK H) (Eh hK H) (.all (k:=k) (B2 hK H hp r6 hb hl yv h)) λv N' e G c=>c (eO.ret e)
theorem wL(H:HR N A S R)(F:PJ S)(hi:i<S.rows.length)(h:k (bl S i).v N):aV Γ (n+3) (.ref 336) [.obj ha 438 A.dx,iv i] N k:=by
 haveI hb:S.rows.length<=1000:=aa F.small (by decide);haveI hf:=F.tN i hi;haveI hs:1+((S.row i).kids.map λc=>iv (root S.par c)).length<=gS:=aa (bD (by erw[ag];exact hf) 1) (by decide);refine ck hK.Yd rfl λG c=>c (nS hK H) (FZ hK H) (.one (zR hK H hi hb dU)) hK.sF (nS hK H) (zN hK H) (.one (wK hK H hi hb hf dU)) .tup
  (.one (fZ (λc=>iv (root S.par c)) trivial (aa hf (by decide)) λc hc G c'=>c' (eH hK H) (.one (eu hK H F.po (F.len▸bK (F.kids i hi c hc) hi) (F.len▸hb) dU)) dU))
  (.one (lu rfl (aa (f9 _ _) hs) dU)) (.C9 hs) (eO.ret ?_)
 haveI e:[V.str (aN (S.row i).op)]++(S.row i).kids.map (λc=>iv (root S.par c))=.str (bl S i).op::(bl S i).kids.map iv:=by erw[bl,qt,ay];rfl
 erw[e];exact h
theorem B5(H:HR N A S R)(F:PJ S){a:Nat}(r6:a<S.rows.length){p:ax×List Nat}(hl:S.cz[root S.par a]?=some p)(hm:∀m∈p.2,m<S.rows.length)(yv:p.2.length<64)
  (rH:∀l:List Row,l.Nodup->(∀x∈l,∃m∈p.2,bl S m=x)->l.length<=4) (h:∀rs:List Row,rs.Nodup->(∀r,r∈rs↔∃m∈p.2,bl S m=r)->k (.lst (rs.map Row.v)) N):
  aV Γ (n+4) (.ref 416) [.obj ha 438 A.dx,iv a] N k:=by
 revert hK H F r6;exists Γ,n,N,A,S,R,k,ha,a,p;haveI hb:S.rows.length<=1000:=aa F.small (by decide);refine ck hK.Yl rfl λG c=>c hK.iK hK.FS (Ek hK H) (.all (B4 hK H F.po (F.len▸r6) (F.len▸hb) hl yv λms U8 _=>?_)) λ_ _ h=>h;intro G c;haveI Yx:∀m∈ms,m<S.rows.length:=λm h=>hm m (U8.mem_iff.mp h);haveI hmb:ms.length<=gS:=by erw[U8.length_eq];exact aa (bq yv) (by decide)
 haveI e0:ms.map (λm=>(bl S m).v)=(ms.map λm=>(bl S m).pk).map uY:=by erw[ay];congr 1;funext m;exact PL _
 refine c .lst (.one (fZ (λm=>(bl S m).v) trivial hmb λm jT G c'=>c' (zO hK H) (.one (wL hK H F (Yx m jT) dU)) dU))
  (.all (zz (ns:=ms.map λm=>(bl S m).pk) (congrArg some e0) (λl qH rB=>?_) λns Yy U9=>?_)) λ_ _ h=>h
 ·obtain⟨as,rfl,has⟩:=wJ (f:=Row.pk) (P:=λr=>∃m∈p.2,bl S m=r) λx hx=>by refine aI (ak.mp (rB x hx)) λm jT aT=>?_;obtain rfl:=aT;exact⟨bl S m,rfl,m,U8.mem_iff.mp jT,rfl⟩
  erw[ag];exact rH as (ni Row.pk (λa b h e=>h (by erw[e])) qH) has
 ·intro G c;obtain⟨as,rfl,has⟩:=wJ (l:=ns) (f:=Row.pk) (P:=λr=>∃m∈p.2,bl S m=r) λx hx=>by refine aI (ak.mp ((U9 x).mp hx)) λm jT aT=>?_;obtain rfl:=aT;exact⟨bl S m,rfl,m,U8.mem_iff.mp jT,rfl⟩
  have uh:as.Nodup:=ni Row.pk (λa b h e=>h (by erw[e])) Yy;have U':∀r∈as,gC r.op:=λr hr=>by refine aI (has r hr) λm jT aT=>?_;obtain rfl:=aT;exact F.ops m (hm m jT)
  haveI h4:=rH as uh has;haveI e1:(as.map Row.pk).map uY=as.map Row.v:=by erw[ay];congr 1;funext r;exact(PL r).symm
  haveI inh:Inhabited Row:=⟨Row.dflt⟩
  refine c (.all (k:=k) (ib (l:=as) (f:=Row.v) (.inr (by erw[e1])) (uw (a6 h4 (by decide)) U') λl qH rB=>h l (qH.nodup_iff.mpr uh) λr=>?_)) λv N1 e G c=>c (eO.ret e);erw[qH.mem_iff];constructor
  ·exact has r
  ·rintro⟨m,jT,rfl⟩;have:=(U9 (bl S m).pk).mpr (ak.mpr ⟨m,U8.mem_iff.mpr jT,rfl⟩);refine aI (ak.mp this) λr hr Wv=>?_;rw[<-tO Wv];exact hr
end
end
section
noncomputable def T.codes:T->List Nat
 |.a=>[97]
 |.b=>[98]
 |.f x=>102::x.codes
 |.g x y=>103::(x.codes++y.codes)
theorem T.m6(t:T):t.codes=t.subs.map λs=>vr s.op:=by
 induction t with
 |a=>rfl
 |b=>rfl
 |f x ih=>exact congrArg _ ih
 |g x y ih Lw=>exact congrArg _ ((congr (congrArg _ ih) Lw).trans az.symm)
noncomputable def T.hd:T->Nat
 |.a=>97
 |.b=>98
 |.f _=>102
 |.g _ _=>103
theorem T.jW(t:T)(l:List Nat):(t.codes++l).headD 0=t.hd:=by cases t<;>rfl
theorem qe(x y:T)(h:x.codes++l=y.codes++l'):x=y/\l=l':=by
 haveI e:=(T.jW x l).symm.trans ((congrArg (λl=>l.headD 0) h).trans (T.jW y l'));induction x generalizing y l l' with
 |a=>cases y with
  |a=>exact⟨rfl,(bk h).2⟩
  |_=>exact absurd e (of_decide_eq_false rfl)
 |b=>cases y with
  |b=>exact⟨rfl,(bk h).2⟩
  |_=>exact absurd e (of_decide_eq_false rfl)
 |f x ih=>cases y with
  |f y=>haveI h:=(bk h).2;exact a9 (ih y h ((T.jW x l).symm.trans ((congrArg (λl=>l.headD 0) h).trans (T.jW y l')))) λa b=>⟨congrArg _ a,b⟩
  |_=>exact absurd e (of_decide_eq_false rfl)
 |g x z ih Lw=>cases y with
  |g y w=>haveI h:x.codes++(z.codes++l)=y.codes++(w.codes++l'):=(bY ..).symm.trans ((bk h).2.trans (bY ..));refine a9 (ih y h ((T.jW x _).symm.trans ((congrArg (λl=>l.headD 0) h).trans (T.jW y _)))) λa h=>?_;exact a9 (Lw w h ((T.jW z l).symm.trans ((congrArg (λl=>l.headD 0) h).trans (T.jW w l')))) λb c=>⟨congr (congrArg _ a) b,c⟩
  |_=>exact absurd e (of_decide_eq_false rfl)
noncomputable def zS(ks:List T):List Nat:=ks.flatMap T.codes
theorem En(h:ks.length=oC.length)(e:zS ks=zS oC):ks=oC:=by
 induction ks generalizing oC with
 |nil=>cases oC with
  |nil=>rfl
  |cons y oC=>exact nomatch h
 |cons x ks ih=>cases oC with
  |nil=>exact nomatch h
  |cons y oC=>exact a9 (qe x y e) λa b=>congr (congrArg _ a) (ih (cU h) b)
noncomputable def fU(op:String)(ks:List T):List Nat:=vr op::zS ks
theorem jm(op:String)(ks:List T):fU op ks=(gR op ks).map λp=>vr p.1:=by erw[fU,gR,aP,ay,zS];have:T.codes=λt=>t.subs.map λs=>vr s.op:=funext T.m6;erw[this,dw];rfl
theorem T.uz(t:T):gC t.op:=by
 cases t with
 |a=>exact .inl rfl
 |b=>exact .inr (.inl rfl)
 |f=>exact .inr (.inr (.inl rfl))
 |g=>exact .inr (.inr (.inr rfl))
theorem rI(ho:gC op)(hp:p∈gR op ks):gC p.1:=(cO (p:=λq:String×List T=>gC q.1)).mpr ⟨ho,b9.mpr λ(t:T)_=>t.uz⟩ p hp
noncomputable def Lx(c:Nat)(op:String)(ks:List T):List Nat:=c::(gR op ks).length::fU op ks
theorem B6{α β:Type}{l:List α}{l':List β}{f:α->String}{g:β->String}(h:(l.map λp=>V.str (aN (f p)))=l'.map λp=>V.str (aN (g p))):l.map f=l'.map g:=(jf (f:=λs=>V.str (aN s)) λ_ _ e=>qo e).mp (by erw[ay,ay];exact h)
theorem Oy{c c':Nat}{op xn:String}{ks oC:List T}(ho:gC op)(vc:gC xn)(inj:fU op ks=fU xn oC->op=xn/\ks=oC):
  V.lt (wF c op ks) (wF c' xn oC)=some (decide (Lx c op ks<Lx c' xn oC)):=by
 exists c,c',op,xn,ks,oC;have PM:V.tup ((gR op ks).map λp=>V.str p.1)=V.tup ((gR xn oC).map λp=>V.str p.1)->op=xn/\ks=oC:=λh=>by have h:=congrArg (jz vr) (B6 (V.tup.inj h));rw[ay,ay]at h;exact inj ((jm op ks).trans (h.trans (jm xn oC).symm))
 refine mZ (x:=.int c) (y:=.int c') (xs:=[HI op ks,gZ op ks]) (ys:=[HI xn oC,gZ xn oC]) (wI c c') λ_=>?_;by_cases he:op=xn/\ks=oC
 ·obtain⟨rfl,rfl⟩:=he;exact(B3 _).trans (congrArg some (decide_eq_false (jy _)).symm)
 ·refine(wb λe=>he (PM (bk (bk (V.tup.inj e)).2).1)).trans (mZ (wI _ _) λ_=>(wb λe=>he (PM e)).trans ?_);erw[jm,jm];exact zQ (f:=λp:String×List T=>V.str (aN p.1)) λx hx y hy=>El (rI ho hx) (rI vc hy)
theorem T.Va(t:T):t.v.r5=true:=by
 induction t with
 |a=>exact ge (uu (.inl rfl)) rfl
 |b=>exact ge (uu (.inr (.inl rfl))) rfl
 |f x ih=>exact ge (uu (.inr (.inr (.inl rfl)))) (ge ih rfl)
 |g x y ih Lw=>exact ge (uu (.inr (.inr (.inr rfl)))) (ge ih (ge Lw rfl))
theorem T.PP(t:T):t.v.dep<=t.depth+1:=by
 induction t with
 |a=>exact ap 1
 |b=>exact ap 1
 |f x ih=>exact aw (dE (aG _) (dE ih (aG _)))
 |g x y ih Lw=>exact aw (dE (aG _) (dE (aa ih (aw (lC _ _))) (dE (aa Lw (aw (kt _ _))) (aG _))))
theorem Ly(ho:gC op)(ks:List T):(gZ op ks).r5=true:=ge (uu ho) (dX.mpr (b9.mpr λt _=>t.Va))
theorem HM(h:∀t∈ks,t.depth<=d):(gZ op ks).dep<=d+2:=aw (dE (aG _) (en.mpr (b9.mpr λt ht=>aa t.PP (aw (h t ht)))))
theorem B7(ho:gC op)(ks:List T):(wF c op ks).r5=true:=have h1:V.fw ((gR op ks).map λp=>V.str p.1)=true:=dX.mpr (b9.mpr λ_ hp=>uu (rI ho hp));have h2:V.fw ((gR op ks).map λp=>V.int (p.2.length:Int))=true:=dX.mpr (b9.mpr λ_ _=>rfl);have h3:(HI op ks).r5=true:=show(true&&(V.fw _&&(V.fw _&&true)))=true from ge rfl (ge h1 (ge h2 rfl));show(true&&(V.r5 (HI op ks)&&(V.r5 (gZ op ks)&&true)))=true from ge rfl (ge h3 (ge (Ly ho ks) rfl))
theorem yH(h:∀t∈ks,t.depth<=d):(wF c op ks).dep<=d+3:=
 aw (dE (aG _) (dE (aw (dE (aG _) (dE (aw (en.mpr (b9.mpr λ_ _=>aG _)))
  (dE (aw (en.mpr (b9.mpr λ_ _=>aG _))) (aG _))))) (dE (HM h) (aG _))))
structure Rk where
 c:Nat
 op:String
 ks:List T
noncomputable instance:Nonempty Rk:=⟨⟨0,"",[]⟩⟩
noncomputable def Rk.v(r:Rk):V:=wF (r.c:Int) r.op r.ks
noncomputable def Rk.key(r:Rk):List Nat:=Lx r.c r.op r.ks
theorem yI(h:l.length<64)(ho:∀r∈l,gC r.op)(hd:∀r∈l,∀t∈r.ks,t.depth<=d)(hd2:d<=140)(inj:∀r∈l,∀s∈l,fU r.op r.ks=fU s.op s.ks->r.op=s.op/\r.ks=s.ks):jj l Rk.v Rk.key:=by
 refine⟨h,dX.mpr λx hx=>?_,en.mpr λx hx=>?_,λa ha b hb=>Oy (ho a ha) (ho b hb) (inj a ha b hb),.inr (.inl λx hx=>?_)⟩
 ·refine aI (ak.mp hx) λr hr aT=>?_;obtain rfl:=aT;exact B7 (ho r hr) _
 ·refine aI (ak.mp hx) λr hr aT=>?_;obtain rfl:=aT;have:=yH (c:=(r.c:Int)) (op:=r.op) (hd r hr);show(wF _ _ _).dep<=150;exact aR 0x1d7567a5a025918810967ab9c12 rfl hd2 this
 ·refine aI (ak.mp hx) λr hr aT=>?_;obtain rfl:=aT;exact⟨_,_,rfl⟩
theorem Lz(hl:ks.length=oC.length)(h:fU op ks=fU op oC):op=op/\ks=oC:=⟨rfl,En hl (bk h).2⟩
theorem T.nT(t:T):fU t.op t.kids=t.codes:=by
 cases t with
 |a=>rfl
 |b=>rfl
 |f x=>exact congrArg _ (bG _)
 |g x y=>exact congrArg _ (congrArg _ (bG _))
theorem LB{t s:T}(h:fU t.op t.kids=fU s.op s.kids):t.op=s.op/\t.kids=s.kids:=a9 (qe t s (congrArg (· ++[]) (t.nT.symm.trans (h.trans s.nT)))) λe _=>e▸⟨rfl,rfl⟩
end
section
noncomputable abbrev sU:=Nat->List (Nat×T)
noncomputable def rJ(p:Nat×T):Rk:=⟨p.1,p.2.op,p.2.kids⟩
noncomputable def iL(cs:List Nat)(RS:sU):List (PK×V):=cs.map λ(c:Nat)=>(.i (c:Int),.lst ((RS c).map λp=>(rJ p).v))
noncomputable def qP(ha:ax)(A:r7)(cd:ax):Str->Option V:=cf.set (cf.set gu "heap" (.obj ha 438 A.dx)) "costs" (.ref cd)
noncomputable def TopC(many:Nat)(l r:List Rk):Prop:=∃l':List Rk,l'.Perm l/\l'.Pairwise (λx y=>¬y.key<x.key)/\r=l'.take many
noncomputable def ext(RS:sU)(c:Nat)(l:List Rk):List Rk:=l.flatMap λone=>(RS c).map λp=>⟨one.c+p.1,one.op,one.ks++[p.2]⟩
noncomputable def qW(RS:sU)(many:Nat):List Nat->List Rk->List Rk->Prop
 | [],l,r=>r=l
 |c::cs,l,r=>∃l1,TopC many (ext RS c l) l1/\qW RS many cs l1 r
theorem F7(RS:sU)(c:Nat):∀l:List Rk,(ext RS c l).length=l.length*(RS c).length:=by
 intro l;induction l with
 |nil=>simp[ext]
 |cons x l this=>unfold ext at this ⊢;erw[aX,an,this,ag,aU,jP];exact aR 26680614782994 rfl
noncomputable def SF(kc:List (PK×V))(cst:String->Nat):Prop:=∀op,gC op->(dT kc (.s op)).getD (.int 1)=iv (cst op)
structure LC(cs:List Nat)(RS:sU)(many d:Nat):Prop where
 len:∀c∈cs,(RS c).length<=many
 Vb:many<=2
 dep:∀c∈cs,∀p∈RS c,p.2.depth<=d
 size:∀c∈cs,∀p∈RS c,p.2.size<=4000
 d2:d<=130
theorem nU{cs:List Nat}{RS:sU}{c:Nat}(hc:c∈cs):dT (iL cs RS) (.i (c:Int))=some (.lst ((RS c).map λp=>(rJ p).v)):=by
 exists cs,RS,c;unfold dT iL;induction cs with
 |nil=>cases hc
 |cons x cs ih=>
  by_cases e:x=c
  ·subst e;simp
  ·have Nm:c∈cs:=by
    rcases aq.mp hc with h |h
    ·exact absurd h.symm e
    ·exact h
   have h:=ih Nm;erw[aP,dq (by simp;lia)];exact h
theorem LD(h:TopC many l r):r.length<=many:=by refine cQ h λl' h1 h2 aT=>?_;clear h;obtain rfl:=aT;erw[cG];exact cS _ _
theorem Re:jg N .Add (iv a) (iv b) (iv (a+b)):=.vN
theorem LG:∀{l:List T},(∀t∈l,t.size<=m)->(l.flatMap T.subs).length<=m*l.length:=by
 intro l;induction l with
 |nil=>intro _;exact aG _
 |cons y l ih=>intro hl;erw[aX,an,aU,Nat.mul_succ,gU];exact df (ih λt ht=>hl t (.tail _ ht)) (hl y (.head _))
theorem l7{α:Type}{l:List α}{i:Nat}{x:α}(h:l[i]?=some x):∃q:i<l.length,l[i]=x:=cq.mp h
section
variable {Γ:Cx} (hK:cL Γ.K) {n:Nat} {N:aL} {A:r7} {k:KV} {ha:ax}
include hK
theorem zT(h:N tP=some (.at (qP ha A cd) 2)):iJ Γ.K N (.obj sa 224 tP) "heap" (.obj ha 438 A.dx):=ae ⟨hK.mX,hK.pw,rfl,_,_,h,rfl⟩
theorem Oz(h:N tP=some (.at (qP ha A cd) 2)):iJ Γ.K N (.obj sa 224 tP) "costs" (.ref cd):=ae ⟨hK.mX,hK.on,rfl,_,_,h,rfl⟩
theorem sM(h:N tP=some (.at (qP ha A cd) 2))(a:cR Γ.K (.ref 224) x=some (some (.ref f))/\kT Γ.K (.ref f)=true)(h2:qP ha A cd x=none):fO Γ.K N (.obj sa 224 tP) x (.ref f):=me ⟨hK.mX,a.1,a.2,_,_,h,h2⟩
theorem Eo{sa tP cd rd:ax}{kc:List (PK×V)}{MY ep:Nat}{cst:String->Nat}{cs:List Nat}{RS:sU}{many d:Nat}{row:Row}(h1:N tP=some (.at (qP ha A cd) 2))(h2:N cd=some (.dp kc MY))(h3:SF kc cst)(h4:N rd=some (.dp (iL cs RS) ep))
  (ho:gC row.op) (kX:row.kids.length<=2) (PQ:∀c∈row.kids,c∈cs) (hm:1<=many) (B:LC cs RS many d) (SG:d<=n) (Rg:n<=1000)
  (h:∀r,qW RS many row.kids [⟨cst row.op,row.op,[]⟩] r->k (.lst (r.map Rk.v)) N):aV Γ (n+5) (.ref 211) [.obj sa 224 tP,row.v,.ref rd,iv many] N k:=by
 revert hK many d row;exists Γ,n,N,A,k,ha,sa,tP,cd,rd,kc,MY,ep,cst,cs,RS;exists many,d,row;haveI qQ:=B.Vb;haveI Vc:=B.d2;haveI PR:(V.str (aN row.op)::row.kids.map iv).length<=gS:=aa (aw (by erw[ag];exact kX)) (by decide);refine ck hK.X2 rfl λG c=>c hK.yC (Oz hK h1) (mb (.get h2)) (.tup (j:=0) rfl) (.one (x:=iv (cst row.op)) (tJ h2 rfl ⟨h3 row.op ho,rfl⟩))
  (.Th (a:=1) (ap 1) (bP _) PR) (.one (FW hK (n:=n) (op:=row.op) (ks:=[]) Rg (aG _) (λ_ h=>nomatch h) (aG _) dU)) true
  (.y4 (a:=1) (ap 1) (bP _) PR) .tup
  (.all (u3 (λ_(l:List Rk)=>[("rows",.ref rd),("many",iv many),("found",.lst (l.map Rk.v))]) (λi l N'=>N'=N/\(∀r,qW RS many (row.kids.drop i) l r->qW RS many row.kids [⟨cst row.op,row.op,[]⟩] r)/\
   l.length<=2/\∀x∈l,x.op=row.op/\x.ks.length=i/\∀t∈x.ks,t.depth<=d/\t.size<=4000) [⟨cst row.op,row.op,[]⟩] rfl ⟨rfl,λr hr=>hr,cD 1,λx hx=>?_⟩ (λ_ _ _ _=>trivial) λi x l N' hx hP G c=>?_))
  (λl N' e G c=>c (eO.ret ?_)) nr
 ·obtain rfl:=ao.mp hx;exact⟨rfl,rfl,λt ht=>nomatch ht⟩
 ·revert hx hP;exists i,x,l,N',G,_;intro c hx hP;refine qw hP λaT g4 g5 g6=>?_;clear hP;obtain rfl:=aT;haveI hx:(row.kids.map iv)[i]?=some x:=hx;rw[aF]at hx;refine aI (aJ.mp hx) λcc vt aT=>?_;exists cc;obtain rfl:=aT;have Nt:=PQ cc (a7 vt);refine bz (l7 vt) λlW vt=>?_;have XH:=aa (B.len cc Nt) qQ;haveI e1:(l.flatMap λone:Rk=>(RS cc).map λp=>(⟨one.c+p.1,one.op,one.ks++[p.2]⟩:Rk).v)=(ext RS cc l).map Rk.v:=by erw[ext,dw];congr 1;funext x;erw[ay];rfl
  have NX:(ext RS cc l).length<=4:=by erw[F7];exact Aj g5 XH
  have hex:∀x∈ext RS cc l,x.op=row.op/\x.ks.length=i+1/\∀t∈x.ks,t.depth<=d/\t.size<=4000:=λx hx=>by
   refine aI (bn.mp hx) λone u4 hx=>?_;refine iu hx λp hp=>?_;refine ez (g6 one u4) λq1 q2 q3=>?_;refine⟨q1,by erw[an,q2];rfl,λt ht=>?_⟩;rcases aH.mp ht with ht |ht
   ·exact q3 t ht
   ·obtain rfl:=ao.mp ht;exact⟨B.dep cc Nt p hp,B.size cc Nt p hp⟩
  haveI inh:Inhabited Rk:=⟨⟨0,"a",[]⟩⟩
  refine c .lst (.one (BV (l:=l) (v:=Rk.v) _ e1 trivial (by erw[ag];exact aa NX (by decide)) λone u4 G c=>?_))
   hK.iK (.all (ib (l:=ext RS cc l) (f:=Rk.v) (.inl rfl)
    (yI (d:=d) (a6 NX (by decide)) (λx hx=>by erw[(hex x hx).1];exact ho) (λx hx t ht=>((hex x hx).2.2 t ht).1) (aa Vc (by decide)) λr hr s hs he=>?_) λl' qH rB=>?_)) λ_ _ h=>h
  ·revert u4;exists one,G,_;intro c u4;refine ez (g6 one u4) λq1 q2 q3=>?_;refine c (.dp h4 rfl (nU Nt)) .lst (.one (fZ (l:=RS cc) (v:=λp=>(rJ p).v) (λp=>(⟨one.c+p.1,one.op,one.ks++[p.2]⟩:Rk).v) trivial (aa XH (by decide)) λp hp G c=>?_)) dU;revert hp;exists p,G,_;intro c hp;haveI e1:jg N' .Add (gZ one.op one.ks) (.tup [p.2.v]) (gZ one.op (one.ks++[p.2])):=by
    rw[gZ,gZ,az,<-kg];refine .C9 (aa (aw (m:=i+1) ?_) ?_)
    ·erw[aU,ag,q2];exact ap _
    ·exact aa (aw (Nat.succ_le_of_lt (aY lW kX))) (by decide)
   refine c hK.yC (.tup (j:=0) (x:=iv one.c) rfl) (.tup (j:=0) (x:=iv p.1) rfl) Re (.tup (j:=2) (x:=gZ one.op one.ks) rfl) (.tup (j:=2) (x:=p.2.v) (by erw[T.pD];rfl)) e1
    (.one (FW hK (n:=n) (c:=((one.c+p.1:Nat):Int)) Rg (by erw[an,q2];exact aa lW kX) (λt ht=>?_) ?_ dU)) dU
   ·rcases aH.mp ht with ht |ht
    ·exact aa (q3 t ht).1 SG
    ·obtain rfl:=ao.mp ht;exact aa (B.dep cc Nt p hp) SG
   ·refine aa (LG (m:=4000) λt ht=>?_) (aa (eh 4000 (m:=2) ?_) (by decide))
    ·rcases aH.mp ht with ht |ht
     ·exact(q3 t ht).2
     ·obtain rfl:=ao.mp ht;exact B.size cc Nt p hp
    ·erw[an,q2];exact aa lW kX
  ·refine ez (hex r hr) λa1 a2 _=>?_;refine ez (hex s hs) λb1 b2 _=>?_;rw[a1,b1]at he;exact⟨a1.trans b1.symm,(Lz (by erw[a2,b2]) he).2⟩
  ·intro G c;haveI hs:lb N' (.lst (l'.map Rk.v)) none (some (iv many)) (.lst ((l'.take many).map Rk.v)):=by erw[ga];exact .GJ rfl (by erw[ag,qH.length_eq];exact aa NX (by decide))
   refine c hs (l'.take many) ⟨rfl,λr hr=>g4 r ?_,?_,λx hx=>hex x (qH.mem_iff.mp (eU hx))⟩ rfl
   ·erw[iP lW,vt];exact⟨l'.take many,⟨l',qH,rB,rfl⟩,hr⟩
   ·erw[cG];exact aa (cS _ _) qQ
 ·refine qw e λaT g4 g5 g6=>?_;clear e;obtain rfl:=aT;refine h l (g4 l ?_);show qW RS many (row.kids.drop (row.kids.map iv).length) l l;erw[ag,List.drop_length];rfl
end
end
section
noncomputable def bN(p:Nat×T):List Nat:=p.1::p.2.size::p.2.codes
theorem T.tQ(t:T):t.codes.length=t.size:=by erw[T.m6,ag];rfl
theorem F8(p:Nat×T):(rJ p).key=bN p:=by haveI l:=congrArg cB (jm p.2.op p.2.kids);rw[ag,T.nT,T.tQ]at l;show Lx p.1 p.2.op p.2.kids=bN p;unfold Lx bN;rw[<-l,T.nT]
theorem l8:bN p<bN q↔p.1<q.1\/(p.1=q.1/\(p.2.size<q.2.size\/(p.2.size=q.2.size/\p.2.codes<q.2.codes))):=by unfold bN;erw[bR,bR]
theorem LH(h:bN p=bN q):p=q:=
 have h:=bk h
 Prod.ext h.1 (qe p.2 q.2 (congrArg (· ++[]) (bk h.2).2)).1
theorem Yz(h1:bN p<bN q)(h2:bN q<bN r):bN p<bN r:=At h1 h2
theorem ltI(p:Nat×T):¬bN p<bN p:=jy _
theorem YA(p q:Nat×T):bN p<bN q\/p=q\/bN q<bN p:=by
 by_cases h1:bN p<bN q
 ·exact .inl h1
 ·by_cases h2:bN q<bN p
  ·exact .inr (.inr h2)
  ·exact .inr (.inl (LH (List.le_antisymm (Gv.mp h2) (Gv.mp h1))))
theorem Rh{l l' m m':List Nat}(h:l<l')(hl:l.length=l'.length):l++m<l'++m':=by
 induction l generalizing l' with
 |nil=>cases l' with
  |nil=>exact absurd h (jy _)
  |cons y l'=>exact nomatch hl
 |cons x l ih=>cases l' with
  |nil=>exact nomatch hl
  |cons y l'=>exact bR.mpr ((bR.mp h).imp (λh=>h) λh=>⟨h.1,ih h.2 (cU hl)⟩)
theorem OA{l m m':List Nat}(h:m<m'):l++m<l++m':=by
 induction l with
 |nil=>exact h
 |cons x l ih=>exact bR.mpr (.inr ⟨rfl,ih⟩)
theorem kl(x:T):(T.f x).size=x.size+1:=rfl
theorem jo(x y:T):(T.g x y).size=x.size+y.size+1:=congrArg Ac an
theorem Ri(h:bN p<bN q):bN (c+p.1,T.f p.2)<bN (c+q.1,T.f q.2):=by
 exists c,p,q;rw[l8]at h ⊢;erw[kl,kl];rcases h with h |⟨h1,h |⟨h2,h3⟩⟩
 ·exact .inl (by simp only;exact aR 0x1d5d10834410d70813 rfl h)
 ·exact .inr ⟨by simp only;exact aR 0x1d6110834410d80813 rfl h1,.inl (by exact aR 0x1d5d18024600570812 rfl h)⟩
 ·refine .inr ⟨by simp only;exact aR 0x1d6110834410d80813 rfl h1,.inr ⟨by exact aR 0x1d6118024600580812 rfl h2,?_⟩⟩;exact bR.mpr (.inr ⟨rfl,h3⟩)
theorem F9{c:Nat}{p q r:Nat×T}(h:bN p<bN q):bN (c+p.1+r.1,T.g p.2 r.2)<bN (c+q.1+r.1,T.g q.2 r.2):=by
 exists c,p,q,r;rw[l8]at h ⊢;erw[jo,jo];rcases h with h |⟨h1,h |⟨h2,h3⟩⟩
 ·exact .inl (by simp only;exact aR 0x1d5d11110834444410d70814 rfl h)
 ·exact .inr ⟨by simp only;exact aR 0x1d6111110834444410d80814 rfl h1,.inl (by exact aR 0x1d5d18110c24604430570813 rfl h)⟩
 ·refine .inr ⟨by simp only;exact aR 0x1d6111110834444410d80814 rfl h1,.inr ⟨by exact aR 0x1d6118110c24604430580813 rfl h2,?_⟩⟩;exact bR.mpr (.inr ⟨rfl,Rh h3 ((T.tQ _).trans (h2.trans (T.tQ _).symm))⟩)
theorem zU{c:Nat}{p q r:Nat×T}(h:bN p<bN q):bN (c+r.1+p.1,T.g r.2 p.2)<bN (c+r.1+q.1,T.g r.2 q.2):=by
 exists c,p,q,r;rw[l8]at h ⊢;erw[jo,jo];rcases h with h |⟨h1,h |⟨h2,h3⟩⟩
 ·exact .inl (by simp only;exact aR 0x1d5d10911034414440d70814 rfl h)
 ·exact .inr ⟨by simp only;exact aR 0x1d6110911034414440d80814 rfl h1,.inl (by exact aR 0x1d5d18110834604410d70813 rfl h)⟩
 ·refine .inr ⟨by simp only;exact aR 0x1d6110911034414440d80814 rfl h1,.inr ⟨by exact aR 0x1d6118110834604410d80813 rfl h2,?_⟩⟩;exact bR.mpr (.inr ⟨rfl,OA h3⟩)
structure jX(many:Nat)(P:Nat×T->Prop)(r:List (Nat×T)):Prop where
 asc:r.Pairwise λx y=>bN x<bN y
 len:r.length<=many
 sub:∀p∈r,P p
 all:∀p,P p->p∈r\/(r.length=many/\∀q∈r,bN q<bN p)
theorem fV{r:List (Nat×T)}(h:r.Pairwise λx y=>bN x<bN y):r.Nodup:=h.imp λ{a b}(h:bN a<bN b)(e:a=b)=>ltI b (e▸h)
theorem fG{α:Type}[DecidableEq α]{l r:List α}(hn:l.Nodup)(hs:∀x∈l,x∈r):l.length<=r.length:=tH hn hs
theorem jX.many{many:Nat}{P:Nat×T->Prop}{r L:List (Nat×T)}{K:List Nat}(h:jX many P r)(hn:L.Nodup)(hl:many<=L.length)(hL:∀y∈L,P y/\bN y<K):r.length=many/\∀q∈r,bN q<K:=by
 have h1:r.length=many:=by
  by_cases c:r.length=many
  ·exact c
  ·have:∀y∈L,y∈r:=λy hy=>by
    rcases h.all y (hL y hy).1 with q |⟨q,_⟩
    ·exact q
    ·exact absurd q c
   have:=fG hn this;have:=h.len;exact aR 0x75d75d6010d604358309a6010d60813 rfl hl c (by assumption) this
 refine⟨h1,λq hq=>?_⟩;by_cases c:bN q<K
 ·exact c
 ·exfalso;haveI hs:∀y∈q::L,y∈r:=λy hy=>by
   rcases aq.mp hy with rfl |hy
   ·exact hq
   ·rcases h.all y (hL y hy).1 with q2 |⟨_,q2⟩
    ·exact q2
    ·exact absurd (At (q2 q hq) (hL y hy).2) c
  haveI hnq:(q::L).Nodup:=bt.mpr ⟨λhm=>c (hL q hm).2,hn⟩;have:=fG hnq hs;simp at this;have:=h.len;exact aR 0x1d75d6560d18026010d60813 rfl hl h1 (by assumption)
theorem Ga:∀{s:List (Nat×T)},(r.Pairwise λx y=>bN x<bN y)->(s.Pairwise λx y=>bN x<bN y)->(∀x,x∈r↔x∈s)->r=s:=by
 induction r with
 |nil=>
  intro s _ _ h;cases s with
  |nil=>rfl
  |cons y s=>exact absurd ((h y).mpr (.head _)) bx
 |cons x r ih=>
  intro s hr hs h;cases s with
  |nil=>exact absurd ((h x).mp (.head _)) bx
  |cons y s=>
   refine a9 (dc.mp hr) λAl OB=>?_;refine a9 (dc.mp hs) λVd Fz=>?_;have Sv:x=y:=by
    rcases aq.mp ((h x).mp (.head _)) with e |hx
    ·exact e
    ·rcases aq.mp ((h y).mpr (.head _)) with e |hy
     ·exact e.symm
     ·exact absurd (Yz (Al y hy) (Vd x hx)) (ltI _)
   subst Sv
   congr 1
   refine ih OB Fz λz=>?_;constructor
   ·intro hz;rcases aq.mp ((h z).mp (.tail _ hz)) with e |Pu
    ·subst e;exact absurd (Al z hz) (ltI _)
    ·exact Pu
   ·intro hz;rcases aq.mp ((h z).mpr (.tail _ hz)) with e |Pu
    ·subst e;exact absurd (Vd z hz) (ltI _)
    ·exact Pu
theorem jX.LI{many:Nat}{P:Nat×T->Prop}{r s:List (Nat×T)}(hr:jX many P r)(hs:jX many P s){q:Nat×T}(hq:q∈r):q∈s:=by
 rcases hs.all q (hr.sub q hq) with h |⟨h1,h2⟩
 ·exact h
 ·exfalso;have:∀y∈q::s,y∈r:=λy hy=>by
   rcases aq.mp hy with rfl |hy
   ·exact hq
   ·rcases hr.all y (hs.sub y hy) with h |⟨_,h⟩
    ·exact h
    ·exact absurd (Yz (h q hq) (h2 y hy)) (ltI _)
  haveI hn:(q::s).Nodup:=bt.mpr ⟨λhm=>ltI _ (h2 q hm),fV hs.asc⟩;have:=fG hn this;simp at this;have:=hr.len;exact aR 0x1d75d6560835834600580813 rfl h1 (by assumption) this
theorem jX.unique{many:Nat}{P:Nat×T->Prop}{r s:List (Nat×T)}(hr:jX many P r)(hs:jX many P s):r=s:=Ga hr.asc hs.asc λ_=>⟨hr.LI hs,hs.LI hr⟩
end
section
structure Gr where
 cs:List Nat
 nd:Nat->List Row
 cst:String->Nat
noncomputable instance:Nonempty Gr:=⟨⟨[],λ_=>[],λ_=>0⟩⟩
noncomputable def gI(r:Row):Prop:=(r.op="a"/\r.kids=[])\/(r.op="b"/\r.kids=[])\/(r.op="f"/\∃d,r.kids=[d])\/(r.op="g"/\∃d e,r.kids=[d,e])
noncomputable def js(nd:Nat->List Row):T->Nat->Prop
 |.a,c=>⟨"a",[]⟩∈nd c
 |.b,c=>⟨"b",[]⟩∈nd c
 |.f x,c=>∃d,⟨"f",[d]⟩∈nd c/\js nd x d
 |.g x y,c=>∃d e,⟨"g",[d,e]⟩∈nd c/\js nd x d/\js nd y e
noncomputable def T.cost(cst:String->Nat):T->Nat
 |.a=>cst "a"
 |.b=>cst "b"
 |.f x=>cst "f"+x.cost cst
 |.g x y=>cst "g"+x.cost cst+y.cost cst
theorem nV(x:T):(T.f x).cost cst=cst "f"+x.cost cst:=rfl
theorem nW(x y:T):(T.g x y).cost cst=cst "g"+x.cost cst+y.cost cst:=rfl
noncomputable def qR(c:Nat):Nat:=6*2 ^ (c-1)
structure rK(G:Gr):Prop where
 nodup:G.cs.Nodup
 len:G.cs.length<=5
 small:∀c∈G.cs,c<=4
 rows:∀c∈G.cs,∀r∈G.nd c,gI r/\∀d∈r.kids,d∈G.cs
 base:∀c∈G.cs,∃r∈G.nd c,(∀d∈r.kids,d<c)/\(c<=1->r.kids=[])
 c1:∀o,gC o->1<=G.cst o
 c3:∀o,gC o->G.cst o<=3
noncomputable def wM(G:Gr)(RS:sU)(c:Nat)(p:Nat×T):Prop:=match p.2 with
 |.a=>⟨"a",[]⟩∈G.nd c/\p.1=G.cst "a"
 |.b=>⟨"b",[]⟩∈G.nd c/\p.1=G.cst "b"
 |.f x=>∃d kx,⟨"f",[d]⟩∈G.nd c/\(kx,x)∈RS d/\p.1=G.cst "f"+kx
 |.g x y=>∃d e kx ky,⟨"g",[d,e]⟩∈G.nd c/\(kx,x)∈RS d/\(ky,y)∈RS e/\p.1=G.cst "g"+kx+ky
noncomputable def ly(RS:sU)(c:Nat)(r:List (Nat×T)):sU:=λx=>if x=c then r else RS x
theorem gh(RS:sU)(c:Nat)(r:List (Nat×T)):ly RS c r c=r:=by simp[ly]
theorem kR(RS:sU)(r:List (Nat×T))(h:x≠c):ly RS c r x=RS x:=by simp[ly,h]
structure jY(G:Gr)(many:Nat)(RS:sU)(done:List Nat)(u:Nat):Prop where
 asc:∀c∈G.cs,(RS c).Pairwise λx y=>bN x<bN y
 len:∀c∈G.cs,(RS c).length<=many
 val:∀c∈G.cs,∀p∈RS c,js G.nd p.2 c/\p.1=p.2.cost G.cst
 dep:∀c∈G.cs,∀p∈RS c,p.2.depth<=u
 cost:∀c∈G.cs,∀p∈RS c,p.1<=48*(u+1)
 head:∀c∈G.cs,∀p rest,RS c=p::rest->p.1+3<=qR c
 full:∀c∈done,RS c≠[]
noncomputable def Cl(G:Gr)(many:Nat)(RS:sU)(c x:Nat):Prop:=∀t,js G.nd t c->t.cost G.cst<=x->(t.cost G.cst,t)∈RS c\/((RS c).length=many/\∀q∈RS c,bN q<bN (t.cost G.cst,t))
theorem HN:gC "a":=.inl rfl
theorem HO:gC "b":=.inr (.inl rfl)
theorem Ep:gC "f":=.inr (.inr (.inl rfl))
theorem Er:gC "g":=.inr (.inr (.inr rfl))
theorem uB(h:c<=4):qR c<=48:=by
 unfold qR;have:c=0\/c=1\/c=2\/c=3\/c=4:=by exact aR 0x1d71c71c62305888162105880161f0568c11 rfl h
 rcases this with rfl |rfl |rfl |rfl |rfl<;>decide
theorem tR(h:d<c)(hc:2<=c):2*qR d<=qR c:=by
 unfold qR;have:2 ^ (c-1)=2*2 ^ (c-2):=by
  have:c-1=(c-2)+1:=by exact aR 0x1d6118128414a00560611 rfl hc
  erw[this,pO];exact aR 26749464577041 rfl
 haveI h2:2 ^ (d-1)<=2 ^ (c-2):=rY (by exact aR 1541616 rfl) (by exact aR 0x1d7564a10928015828570812 rfl h hc);exact aR 0x1d7565419555439615820d85428413 rfl this h2
theorem B8(c:Nat):6<=qR c:=by unfold qR;have:=Nat.pow_pos (n:=c-1) (show 0<2 by exact aR 1541616 rfl);exact aR 0x1d59506595705f1 rfl this
theorem T.lz(K:rK G):∀t:T,1<=t.cost G.cst:=by
 intro t;induction t with
 |a=>exact K.c1 _ HN
 |b=>exact K.c1 _ HO
 |f x=>have:=K.c1 _ Ep;simp only[nV,nW];exact aR 0x1d5910818160602 rfl this
 |g x y=>have:=K.c1 _ Er;simp only[nV,nW];exact aR 0x1d5910d10818160603 rfl this
theorem T.m7(K:rK G):∀t:T,t.size<=t.cost G.cst:=by
 intro t;induction t with
 |a=>exact K.c1 _ HN
 |b=>exact K.c1 _ HO
 |f x ih=>have:=K.c1 _ Ep;have:=ih;erw[kl];simp only[nV,nW];exact aR 0x1d7564430518025830960603 rfl (by assumption) this
 |g x y T8 T9=>have:=K.c1 _ Er;have:=T8;have:=T9;erw[jo];simp only[nV,nW];exact aR 0x1d75d5911510c14604440961445830960605 rfl (by assumption) (by assumption) this
section
variable {G:Gr} (K:rK G) {many:Nat} {RS:sU} {done:List Nat} {u:Nat}
include K
theorem tS(hc:c∈G.cs)(h:⟨"f",[d]⟩∈G.nd c):d∈G.cs:=(K.rows c hc _ h).2 d (.head _)
theorem nX(hc:c∈G.cs)(h:⟨"g",[d,e]⟩∈G.nd c):d∈G.cs/\e∈G.cs:=⟨(K.rows c hc _ h).2 d (.head _),(K.rows c hc _ h).2 e (.tail _ (.head _))⟩
omit K in
theorem Gb(ha:l.Pairwise λx y=>bN x<bN y)(hq:q∈l):∃h rest,l=h::rest/\(q=h\/bN h<bN q):=by
 cases l with
 |nil=>cases hq
 |cons h rest=>
  refine⟨h,rest,rfl,?_⟩;rcases aq.mp hq with rfl |hq
  ·exact .inl rfl
  ·exact .inr ((dc.mp ha).1 q hq)
theorem sV(I:jY G many RS done u)(hc:c∈G.cs)(h:wM G RS c p):js G.nd p.2 c/\p.1=p.2.cost G.cst/\p.2.depth<=u+1:=by
 obtain⟨k,t⟩:=p;cases t with
 |a=>exact⟨h.1,h.2,aG _⟩
 |b=>exact⟨h.1,h.2,aG _⟩
 |f x=>
  refine fc h λd kx h1 h2 h3=>?_;clear h;haveI hd:=tS K hc h1;haveI v:=I.val d hd _ h2;haveI w:=I.dep d hd _ h2;refine⟨⟨d,h1,v.1⟩,?_,?_⟩
  ·have:=v.2;simp only at this h3 ⊢;simp only[nV,nW];lia
  ·simp only[vn,vp];simp only at w;exact aR 0x1d5918024600560812 rfl w
 |g x y=>
  refine yX h λd e kx ky h1 h2 h3 h4=>?_;clear h;refine a9 (nX K hc h1) λhd he=>?_;haveI v:=I.val d hd _ h2;haveI w:=I.dep d hd _ h2;haveI v':=I.val e he _ h3;haveI w':=I.dep e he _ h3;refine⟨⟨d,e,h1,v.1,v'.1⟩,?_,?_⟩
  ·have:=v.2;have:=v'.2;simp only at *;simp only[nV,nW];lia
  ·simp only[vn,vp];simp only at w w';exact aR 0x1d7564600918130c15820d60813 rfl w w'
theorem OC(I:jY G many RS done u)(hm:many<=2)(nY:1<=many)(hc:c∈G.cs)(hd:∀d∈G.cs,d<c->d∈done)(h:jX many (wM G RS c) r):jY G many (ly RS c r) (c::done) (u+1):=by
 revert K I hm nY hc hd;exists G,many,RS,done,u,c,r;haveI base:∃p,wM G RS c p/\p.1+3<=qR c:=by
  refine cQ (K.base c hc) λrow rL hk Ak=>?_;exists row;haveI fst:∀d∈row.kids,∃q rest,RS d=q::rest/\q.1+3<=qR d:=λd MZ=>by
   haveI HP:=(K.rows c hc row rL).2 d MZ;have:=I.full d (hd d HP (hk d MZ));cases e:RS d with
   |nil=>exact absurd e this
   |cons q rest=>exact⟨q,rest,rfl,I.head d HP q rest e⟩
  obtain⟨o,ks⟩:=row;exists o,ks;rcases(K.rows c hc _ rL).1 with⟨ho,o7⟩ |⟨ho,o7⟩ |⟨ho,d,o7⟩ |⟨ho,d,e,o7⟩
  ·simp only at ho o7;subst ho o7;exact⟨(G.cst "a",.a),⟨rL,rfl⟩,by have:=K.c3 _ HN;have:=B8 c;simp only;exact aR 0x1d7560918815829568812 rfl (by assumption) this⟩
  ·simp only at ho o7;subst ho o7;exact⟨(G.cst "b",.b),⟨rL,rfl⟩,by have:=K.c3 _ HO;have:=B8 c;simp only;exact aR 0x1d7560918815829568812 rfl (by assumption) this⟩
  ·simp only at ho o7;subst ho o7;refine eQ (fst d (.head _)) λq rest e1 e2=>?_;haveI HP:=hk d (.head _);haveI MS:2<=c:=by
    by_cases q:c<=1
    ·have:=Ak q;cases this
    ·lia
   have:=tR HP MS;refine⟨(G.cst "f"+q.1,.f q.2),⟨d,q.1,rL,by erw[e1];exact .head _,rfl⟩,?_⟩;have:=K.c3 _ Ep;simp only;exact aR 0x1d75d5834624411168845835428560918814 rfl e2 (by assumption) this
  ·exists d,e;simp only at ho o7;subst ho o7;refine eQ (fst d (.head _)) λq rest e1 e2=>?_;exists q,rest;refine eQ (fst e (.tail _ (.head _))) λq' aaD PT OD=>?_;haveI HP:=hk d (.head _);haveI Ve:=hk e (.tail _ (.head _));haveI MS:2<=c:=by
    by_cases q:c<=1
    ·have:=Ak q;cases this
    ·lia
   have:=tR HP MS;have:=tR Ve MS;refine⟨(G.cst "g"+q.1+q'.1,.g q.2 q'.2),⟨d,e,q.1,q'.1,rL,by erw[e1];exact .head _,by erw[PT];exact .head _,rfl⟩,?_⟩;have:=K.c3 _ Er;simp only;exact aR 0x1d75d75d5854624434411968865855448561550a15844620d60918816 rfl e2 OD (by assumption) (by assumption) this
 refine aI base λpb yJ YB=>?_;exists pb;clear base;have dM:r≠[]:=λe=>by
  rcases h.all pb yJ with q |⟨q,_⟩
  ·rw[e]at q;cases q
  ·rw[e]at q;simp at q;exact aR 0x1d7596017d60601 rfl nY q
 haveI hsm:=K.small;have Rj:∀d e x y kx ky,⟨"g",[d,e]⟩∈G.nd c->(kx,x)∈RS d->(ky,y)∈RS e->(G.cst "g"+kx+ky,T.g x y)∈r->(∃hd rest,RS d=hd::rest/\(kx,x)=hd)\/(∃he rest,RS e=he::rest/\(ky,y)=he):=by
  intro d e x y kx ky h1 h2 h3 h4;exists d,e,x,y,kx,ky;refine a9 (nX K hc h1) λRm Vf=>?_;refine eQ (Gb (I.asc d Rm) h2) λp1 PU e1 c1=>?_;exists p1,PU;refine eQ (Gb (I.asc e Vf) h3) λp2 PV e2 c2=>?_;exists p2,PV;rcases c1 with c1 |c1
  ·exact .inl ⟨p1,PU,e1,c1⟩
  rcases c2 with c2 |c2
  ·exact .inr ⟨p2,PV,e2,c2⟩
  exfalso;have m1:p1∈RS d:=by erw[e1];exact .head _
  haveI m2:p2∈RS e:=by erw[e2];exact .head _
  haveI l1:bN (G.cst "g"+p1.1+ky,T.g p1.2 y)<bN (G.cst "g"+kx+ky,T.g x y):=F9 (r:=(ky,y)) c1;haveI l2:bN (G.cst "g"+kx+p2.1,T.g x p2.2)<bN (G.cst "g"+kx+ky,T.g x y):=zU (r:=(kx,x)) c2;haveI ne:(G.cst "g"+p1.1+ky,T.g p1.2 y)≠(G.cst "g"+kx+p2.1,T.g x p2.2):=λq=>by simp only[gQ,T.g.injEq]at q;refine ez q λq1 q2 q3=>?_;clear q;haveI v1:=(I.val d Rm _ m1).2;haveI v2:=(I.val d Rm _ h2).2;rw[q2]at v1;have:p1=(kx,x):=Prod.ext (by erw[v1];exact v2.symm) q2;rw[this]at c1;exact ltI _ c1
  have:=h.many (L:=[(G.cst "g"+p1.1+ky,T.g p1.2 y),(G.cst "g"+kx+p2.1,T.g x p2.2)]) (K:=bN (G.cst "g"+kx+ky,T.g x y)) (by simp[ne]) (by simpa using hm) (λz hz=>by
   simp only[aq,bx,or_false]at hz;rcases hz with rfl |rfl
   ·exact⟨⟨d,e,p1.1,ky,h1,m1,h3,rfl⟩,l1⟩
   ·exact⟨⟨d,e,kx,p2.1,h1,h2,m2,rfl⟩,l2⟩)
  exact ltI _ (this.2 _ h4)
 refine⟨λx hx=>?_,λx hx=>?_,λx hx p hp=>?_,λx hx p hp=>?_,λx hx p hp=>?_,λx hx p rest e=>?_,λx hx=>?_⟩
 ·by_cases q:x=c
  ·subst q;erw[gh];exact h.asc
  ·erw[kR _ _ q];exact I.asc x hx
 ·by_cases q:x=c
  ·subst q;erw[gh];exact h.len
  ·erw[kR _ _ q];exact I.len x hx
 ·by_cases q:x=c
  ·subst q;rw[gh]at hp;have:=sV K I hx (h.sub p hp);exact⟨this.1,this.2.1⟩
  ·rw[kR _ _ q]at hp;exact I.val x hx p hp
 ·by_cases q:x=c
  ·subst q;rw[gh]at hp;exact(sV K I hx (h.sub p hp)).2.2
  ·rw[kR _ _ q]at hp;exact fb (I.dep x hx p hp)
 ·revert hx;exists x,p;by_cases q:x=c
  ·subst q;rw[gh]at hp;haveI Es:=h.sub p hp;obtain⟨k,t⟩:=p;exists k,t;cases t with
   |a=>haveI h2:k=G.cst "a":=Es.2;have:=K.c3 _ HN;simp only;exact aR 0x1d75655181180379f8815a20980813 rfl h2 this
   |b=>haveI h2:k=G.cst "b":=Es.2;have:=K.c3 _ HO;simp only;exact aR 0x1d75655181180379f8815a20980813 rfl h2 this
   |f y=>refine fc Es λd kx h1 h2 h3=>?_;clear Es;have:=I.cost d (tS K hx h1) _ h2;have:=K.c3 _ Ep;simp only at *;exact aR 0x1d75d59546046011e7e205688259546011e7e20d84430814 rfl h3 (by assumption) this
   |g y z=>
    exists y,z;refine yX Es λd e kx ky h1 h2 h3 h4=>?_;exists d,e,kx,ky;clear Es;refine a9 (nX K hx h1) λRm Vf=>?_;haveI b1:=I.cost d Rm _ h2;haveI b2:=I.cost e Vf _ h3;have:=K.c3 _ Er;haveI h4:k=G.cst "g"+kx+ky:=h4;subst h4;rcases Rj d e y z kx ky h1 h2 h3 hp with⟨p1,rest,e1,e2⟩ |⟨p1,rest,e1,e2⟩
    ·have:=I.head d Rm _ _ e1;have:=uB (hsm d Rm);rw[<-e2]at *;simp only at *;exact aR 0x1d75d75655181180279f89105110359e7e21561518845a20d655180279f8815 rfl b2 (by assumption) (by assumption) this
    ·have:=I.head e Vf _ _ e1;have:=uB (hsm e Vf);rw[<-e2]at *;simp only at *;exact aR 0x1d75d75655181180279f89111104359e7e21561518845a20d655180279f8815 rfl b1 (by assumption) (by assumption) this
  ·rw[kR _ _ q]at hp;have:=I.cost x hx p hp;exact aR 0x1d59546046009e7e205655180279f8812 rfl this
 ·revert hx;exists x,p,rest;by_cases q:x=c
  ·subst q;rw[gh]at e;haveI hle:p.1<=pb.1:=by
    rcases h.all pb yJ with q |⟨q,q2⟩
    ·rw[e]at q;rcases aq.mp q with rfl |q
     ·exact ap _
     ·have:=h.asc;rw[e]at this;have:=(dc.mp this).1 pb q;rw[l8]at this;lia
    ·have:=q2 p (by erw[e];exact .head _);rw[l8]at this;lia
   exact aR 0x1d7560918835810d60918813 rfl YB hle
  ·rw[kR _ _ q]at e;exact I.head x hx p rest e
 ·rcases aq.mp hx with rfl |hx
  ·erw[gh];exact dM
  ·by_cases q:x=c
   ·subst q;erw[gh];exact dM
   ·erw[kR _ _ q];exact I.full x hx
end
end
section
section
variable {G:Gr} (K:rK G) {many:Nat} {RS:sU} {done:List Nat} {u:Nat}
include K
omit K in
theorem Cl.mono(h:Cl G many RS c x)(hy:y<=x):Cl G many RS c y:=λt ht hc=>h t ht (aa hc hy)
theorem Cl.zero(c:Nat):Cl G many RS c 0:=λt ht hc=>by have:=T.lz K t;lia
theorem tT(I:jY G many RS done u)(nY:1<=many)(hc:c∈G.cs)(h:jX many (wM G RS c) r)(hx:∀d∈G.cs,Cl G many RS d x):Cl G many (ly RS c r) c (x+1):=by
 revert K I nY hc h;exists G,many,RS,done,u,c,r,x;intro t ht l9;exists t;erw[gh];have Rn:∀d∈G.cs,(RS d).Nodup:=λd hd=>fV (I.asc d hd);cases t with
 |a=>exact h.all _ ⟨ht,rfl⟩
 |b=>exact h.all _ ⟨ht,rfl⟩
 |f y=>
  exists y;refine aI ht λd h1 h2=>?_;exists d;clear ht;have hd:=tS K hc h1;haveI YC:y.cost G.cst<=x:=by have:=K.c1 _ Ep;simp only[nV,nW]at l9;exact aR 0x1d7560c25818164600d10813 rfl l9 this
  rcases hx d hd y h2 YC with q |⟨q1,q2⟩
  ·exact h.all _ ⟨d,_,h1,q,rfl⟩
  ·refine .inr (h.many (L:=(RS d).map λp=>(G.cst "f"+p.1,T.f p.2)) ?_ (by erw[ag,q1];exact ap _) λz hz=>?_)
   ·refine gw _ (λa b pV e=>pV ?_) (Rn d hd);simp only[gQ,T.f.injEq]at e;exact Prod.ext (by lia) e.2
   ·refine iu hz λp hp=>?_;exact⟨⟨d,p.1,h1,hp,rfl⟩,Ri (q2 p hp)⟩
 |g y z=>
  exists y,z;refine fc ht λd e h1 h2 h3=>?_;exists d,e;clear ht;refine a9 (nX K hc h1) λhd he=>?_;have hg:=K.c1 _ Er;haveI YC:y.cost G.cst<=x:=by simp only[nV,nW]at l9;exact aR 0x1d7561025818164601110d10814 rfl l9 hg
  haveI hcz:z.cost G.cst<=x:=by simp only[nV,nW]at l9;exact aR 0x1d7561035818164601110d10814 rfl l9 hg
  rcases hx d hd y h2 YC with q |⟨q1,q2⟩
  ·rcases hx e he z h3 hcz with p |⟨p1,p2⟩
   ·exact h.all _ ⟨d,e,_,_,h1,q,p,rfl⟩
   ·refine .inr (h.many (L:=(RS e).map λp=>(G.cst "g"+y.cost G.cst+p.1,T.g y p.2)) ?_ (by erw[ag,p1];exact ap _) λw hw=>?_)
    ·refine gw _ (λa b pV e=>pV ?_) (Rn e he);simp only[gQ,T.g.injEq]at e;exact Prod.ext (by lia) e.2.2
    ·refine iu hw λp hp=>?_;exact⟨⟨d,e,_,p.1,h1,q,hp,rfl⟩,zU (r:=(y.cost G.cst,y)) (p2 p hp)⟩
  ·
   obtain⟨k2,kX,YD⟩:∃k2∈RS e,k2=(z.cost G.cst,z)\/bN k2<bN (z.cost G.cst,z):=by
    rcases hx e he z h3 hcz with p |⟨p1,p2⟩
    ·exact⟨_,p,.inl rfl⟩
    ·cases Wv:RS e with
     |nil=>rw[Wv]at p1;simp at p1;lia
     |cons k rest=>exact⟨k,.head _,.inr (p2 k (by erw[Wv];exact .head _))⟩
   exists k2;refine .inr (h.many (L:=(RS d).map λp=>(G.cst "g"+p.1+k2.1,T.g p.2 k2.2)) ?_ (by erw[ag,q1];exact ap _) λw hw=>?_)
   ·refine gw _ (λa b pV e=>pV ?_) (Rn d hd);simp only[gQ,T.g.injEq]at e;exact Prod.ext (by lia) e.2.1
   ·refine iu hw λp hp=>?_;refine⟨⟨d,e,p.1,k2.1,h1,hp,kX,rfl⟩,?_⟩;haveI l1:bN (G.cst "g"+p.1+k2.1,T.g p.2 k2.2)<bN (G.cst "g"+y.cost G.cst+k2.1,T.g y k2.2):=F9 (r:=k2) (q2 p hp);rcases YD with rfl |l2
    ·exact l1
    ·exact Yz l1 (zU (r:=(y.cost G.cst,y)) l2)
noncomputable def sW(G:Gr)(c:Nat)(p:Nat×T):Prop:=js G.nd p.2 c/\p.1=p.2.cost G.cst
noncomputable def dY(G:Gr)(many:Nat)(RS:sU):Prop:=∀c∈G.cs,∀x,Cl G many RS c x
omit K in
theorem dY.top(I:jY G many RS done u)(h:dY G many RS)(hc:c∈G.cs):jX many (sW G c) (RS c):=
 ⟨I.asc c hc,I.len c hc,I.val c hc,λp hp=>by
  have:=h c hc _ p.2 hp.1 (ap _);rw[<-hp.2]at this;exact this⟩
theorem zV(I:jY G many RS done u)(hm:many<=2)(nY:1<=many)(h:dY G many RS)(hc:c∈G.cs)(hr:jX many (wM G RS c) r):r=RS c:=by
 refine jX.unique (P:=sW G c) ⟨hr.asc,hr.len,λp hp=>?_,λp hp=>?_⟩ (h.top I hc)
 ·have:=sV K I hc (hr.sub p hp);exact⟨this.1,this.2.1⟩
 ·have:=tT K I nY hc hr (x:=p.2.cost G.cst) (λd hd=>h d hd _) p.2 hp.1 (cD _);rw[gh,<-hp.2]at this;exact this
noncomputable def cnt(RS:sU)(x c:Nat):Nat:=((RS c).filter λp=>decide (p.1<=x)).length
noncomputable def SH(G:Gr)(RS:sU)(x:Nat):Nat:=(G.cs.map (cnt RS x)).sum
omit K in
theorem Et(I:jY G many RS done u)(hc:c∈G.cs):cnt RS x c<=many:=aa (cZ _ _) (I.len c hc)
omit K in
theorem Ro{l:List Nat}{f g:Nat->Nat}(h:∀c∈l,f c<=g c):(l.map f).sum<=(l.map g).sum:=by
 induction l with
 |nil=>exact ap _
 |cons x l ih=>simp only[aP,kD];have:=h x (.head _);have:=ih λc hc=>h c (.tail _ hc);exact aR 0x1d7564440910c15840d60814 rfl (by assumption) this
omit K in
theorem Rq{l:List Nat}{f g:Nat->Nat}{a:Nat}(ha:a∈l)(h:∀c∈l,f c<=g c)(hl:f a<g a):(l.map f).sum<(l.map g).sum:=by
 induction l with
 |nil=>cases ha
 |cons x l ih=>
  simp only[aP,kD];rcases aq.mp ha with rfl |ha
  ·have:=Ro (f:=f) (g:=g) (l:=l) λc hc=>h c (.tail _ hc);exact aR 0x1d7574440910c15840d70814 rfl hl this
  ·have:=h x (.head _);have:=ih ha λc hc=>h c (.tail _ hc);exact aR 0x1d7574440910c15c40d60814 rfl (by assumption) this
omit K in
theorem Rs(I:jY G many RS done u)(x:Nat):SH G RS x<=G.cs.length*many:=by
 have:∀l:List Nat,(∀c∈l,c∈G.cs)->(l.map (cnt RS x)).sum<=l.length*many:=by
  intro l;induction l with
  |nil=>intro _;simp
  |cons a l ih=>intro hl;haveI h1:=Et I (x:=x) (hl a (.head _));haveI h2:=ih λc hc=>hl c (.tail _ hc);simp only[aP,kD,aU,jP];exact aR 0x1d7564421110c15840d60814 rfl h1 h2
 exact this _ λc hc=>hc
theorem LJ{xq:sU}{sX:List Nat}{u':Nat}(I':jY G many xq sX u'){c y:Nat}(hc:c∈G.cs)(i8:Cl G many xq c y){L:List (Nat×T)}(hn:L.Nodup)(hL:∀p∈L,sW G c p/\p.1<=y)(hl:L.length<=many):L.length<=cnt xq y c:=by
 by_cases pf:∀p∈L,p∈xq c
 ·exact fG hn λp hp=>a8.mpr ⟨pf p hp,decide_eq_true (hL p hp).2⟩
 ·simp only[oH]at pf;obtain⟨p,hp,hnp⟩:=pf;have yf:=(hL p hp).1;have I1:=(hL p hp).2;rcases i8 p.2 yf.1 (by rw[<-yf.2];exact I1) with q |⟨q1,q2⟩
  ·rw[<-yf.2]at q;exact absurd q hnp
  ·have:cnt xq y c=many:=by unfold cnt;rw[sg.mpr λq hq=>decide_eq_true ?_,q1];have:=q2 q hq;rw[l8]at this;rw[<-yf.2]at this;simp only at this;lia
   exact aR 0x1d7560c16020d60813 rfl hl this
theorem MM(I:jY G many RS done u)(nY:1<=many){x:Nat}(hx:∀c∈G.cs,Cl G many RS c x)(YE:¬dY G many RS):
  ∃y,(∀c∈G.cs,Cl G many RS c y)/\∀(xq:sU)(sX:List Nat)(u':Nat),jY G many xq sX u'->(∀c∈G.cs,Cl G many xq c (y+1))->SH G RS x+1<=SH G xq (y+1):=by
 revert K I nY;exists G,many,RS,done,u,x;have hex:∃v,∃c∈G.cs,∃t,js G.nd t c/\t.cost G.cst=v/\¬((t.cost G.cst,t)∈RS c\/((RS c).length=many/\∀q∈RS c,bN q<bN (t.cost G.cst,t))):=by unfold dY Cl at YE;simp only[oH]at YE;obtain⟨c,hc,v,t,ht,l9,uT⟩:=YE;exact⟨_,c,hc,t,ht,rfl,uT⟩
 obtain⟨v,hv,Vg⟩:∃v,(∃c∈G.cs,∃t,js G.nd t c/\t.cost G.cst=v/\¬((t.cost G.cst,t)∈RS c\/((RS c).length=many/\∀q∈RS c,bN q<bN (t.cost G.cst,t))))/\
   ∀w,w<v->¬∃c∈G.cs,∃t,js G.nd t c/\t.cost G.cst=w/\¬((t.cost G.cst,t)∈RS c\/((RS c).length=many/\∀q∈RS c,bN q<bN (t.cost G.cst,t))):=by
  refine bz hex λv hv=>?_;clear hex;induction v using lH with
  |_ v ih=>
   by_cases q:∃w,w<v/\∃c∈G.cs,∃t,js G.nd t c/\t.cost G.cst=w/\¬((t.cost G.cst,t)∈RS c\/((RS c).length=many/\∀q∈RS c,bN q<bN (t.cost G.cst,t)))
   ·refine aI q λw hw PW=>?_;clear q;exact ih w hw PW
   ·exact⟨v,hv,λw hw PW=>q ⟨w,hw,PW⟩⟩
 refine aI hv λc hc aT=>?_;clear hv;refine cQ aT λt ht l9 uT=>?_;clear aT;revert Vg hc;exists v,c,t;have Vh:=T.lz K t;have hvx:x<v:=by
  by_cases q:x<v
  ·exact q
  ·exact absurd (hx c hc t ht (by exact aR 0x75d58305a5c20d80813 rfl l9 q)) uT
 refine⟨v-1,λd hd s hs ze=>?_,λxq sX u' I' i8=>?_⟩
 ·by_cases q:(s.cost G.cst,s)∈RS d\/((RS d).length=many/\∀q∈RS d,bN q<bN (s.cost G.cst,s))
  ·exact q
  ·exact absurd ⟨d,hd,s,hs,rfl,q⟩ (Vg _ (by exact aR 0x1d75d5c20d64a00835818180813 rfl l9 Vh ze))
 ·exists xq,sX,u';have Px:v-1+1=v:=by exact aR 0x1d7580918128025818180812 rfl l9 Vh
  rw[Px]at i8 ⊢;have hF:∀d∈G.cs,∀p∈(RS d).filter (λp=>decide (p.1<=x)),sW G d p/\p.1<=v:=λd hd p hp=>by refine a9 (a8.mp hp) λh1 h2=>?_;have:=of_decide_eq_true h2;exact⟨I.val d hd p h1,by lia⟩
  have uh:∀d∈G.cs,((RS d).filter (λp=>decide (p.1<=x))).Nodup:=λd hd=>(fV (I.asc d hd)).filter _;refine Rq hc (λd hd=>?_) ?_
  ·exact LJ K I' hd (i8 d hd) (uh d hd) (hF d hd) (Et I hd)
  ·haveI fY:cnt RS x c<many:=by
    haveI hle:=Et I (x:=x) hc;by_cases q:cnt RS x c=many
    ·exfalso;apply uT;have hlen:(RS c).length=many:=by have:=cZ (λp:Nat×T=>decide (p.1<=x)) (RS c);haveI h2:=I.len c hc;unfold cnt at q;exact aR 0x1d75d6020d60835830580813 rfl q this h2
     refine .inr ⟨hlen,λp hp=>?_⟩;haveI pf:(RS c).filter (λp=>decide (p.1<=x))=RS c:=by refine gn.eq_of_length ?_;unfold cnt at q;exact aR 0x1d7580c16020d80813 rfl q hlen
     rw[<-pf]at hp;have:=of_decide_eq_true (a8.mp hp).2;erw[l8];left;simp only;exact aR 0x1d75d7570465831981445c20d80816 rfl l9 hvx hlen this
    ·exact aR 0x75d5c205a6020560812 rfl hle q
   have:=LJ K I' hc (i8 c hc) (L:=(t.cost G.cst,t)::(RS c).filter (λp=>decide (p.1<=x))) (bt.mpr ⟨λhm=>?_,uh c hc⟩) (λp hp=>?_) (by simp only[aU];unfold cnt at fY;exact aR 0x1d5824600570812 rfl fY)
   ·simp only[aU]at this;show cnt RS x c<cnt xq v c;unfold cnt at this ⊢;exact aR 0x1d5c20560918012 rfl this
   ·have:=of_decide_eq_true (a8.mp hm).2;simp only at this;exact aR 0x1d75d6560c15c20d80813 rfl l9 hvx this
   ·rcases aq.mp hp with rfl |hp
    ·exact⟨⟨ht,rfl⟩,by simp only;exact aR 32264336967698 rfl l9⟩
    ·exact hF c hc p hp
theorem zW(I:jY G many RS done u)(nY:1<=many)(h:∀c∈G.cs,jX many (wM G RS c) (RS c)):dY G many RS:=by
 have:∀x,∀c∈G.cs,Cl G many RS c x:=by
  intro x;induction x with
  |zero=>exactλc _=>Cl.zero K c
  |succ x ih=>
   intro c hc;have:=tT K I nY hc (h c hc) ih;haveI e:ly RS c (RS c)=RS:=by funext y;unfold ly;split<;>rename_i q<;>simp[q]
   rw[e]at this;exact this
 exactλc hc x=>this x c hc
end
end
section
noncomputable def HQ(r:Rk):Nat×T:=(r.c,match r.ks with
 | []=>if r.op="a" then .a else .b
 | [x]=>.f x
 |x::y::_=>.g x y)
theorem ot{P:Prop}(h:(⟨o,ks⟩:Row)=⟨o',oC⟩)(n:o≠o':=by decide):P:=absurd (congrArg Row.op h) n
theorem B9(p:Nat×T):HQ (rJ p)=p:=by obtain⟨k,t⟩:=p;cases t<;>simp[HQ,rJ,T.kids,T.op]
theorem LK(h:L.Perm (l.map rJ)):∃l2:List (Nat×T),l2.Perm l/\L=l2.map rJ:=by
 refine⟨L.map HQ,?_,?_⟩
 ·have:=h.map HQ;rw[ay]at this;haveI e:(HQ∘rJ)=_root_.id:=by funext p;exact B9 p
  rw[e,nj]at this;exact this
 ·erw[ay]
  symm
  conv=>rhs;rw[<-nj L]
  refine bf λx hx=>?_;refine aI (ak.mp (h.mem_iff.mp hx)) λp _ aT=>?_;obtain rfl:=aT;show rJ (HQ (rJ p))=_;erw[B9];rfl
theorem HS(h:TopC many l r)(p:l.Perm l2):TopC many l2 r:=by refine cQ h λl' h1 h2 h3=>?_;clear h;exact⟨l',h1.trans p,h2,h3⟩
theorem LM(h:TopC many l r)(hl:l.length<=many):r.Perm l:=by refine cQ h λl' h1 h2 h3=>?_;clear h;erw[h3,ef (by erw[h1.length_eq];exact hl)];exact h1
theorem tU{many:Nat}{l:List (Nat×T)}{r:List Rk}(h:TopC many (l.map rJ) r)(hn:l.Nodup):∃r':List (Nat×T),r=r'.map rJ/\jX many (· ∈l) r':=by
 refine cQ h λL h1 h2 h3=>?_;clear h;refine aI (LK h1) λl2 p2 aT=>?_;obtain rfl:=aT;revert hn;exists many,l,r,l2;have OE:l2.Nodup:=p2.nodup_iff.mpr hn;have Vi:l2.Pairwise λx y=>bN x<bN y:=by
  rw[dK]at h2;refine(h2.and OE).imp λ{a b}q=>?_;refine a9 q λq1 q2=>?_;clear q;rw[F8,F8]at q1;rcases YA a b with q |q |q
  ·exact q
  ·exact absurd q q2
  ·exact absurd q q1
 refine⟨l2.take many,by erw[h3,ga],Vi.sublist (List.take_sublist _ _),by erw[cG];exact cS _ _,λp hp=>p2.mem_iff.mp (eU hp),λp hp=>?_⟩;have I1:=p2.mem_iff.mpr hp;rw[<-cC many l2]at I1;rcases aH.mp I1 with q |q
 ·exact .inl q
 ·right;have hlen:many<l2.length:=by
   rcases dQ many l2.length with c |c
   ·exact c
   ·rw[kI.mpr c]at q;cases q
  refine⟨by erw[cG];exact aR 0x1d6015020570812 rfl hlen,λz hz=>?_⟩;have:=Vi;rw[<-cC many l2]at this;exact(GA.mp this).2.2 z hz p q
noncomputable def qg(cst:String->Nat)(RS:sU)(row:Row)(p:Nat×T):Prop:=match p.2 with
 |.a=>row=⟨"a",[]⟩/\p.1=cst "a"
 |.b=>row=⟨"b",[]⟩/\p.1=cst "b"
 |.f x=>∃d kx,row=⟨"f",[d]⟩/\(kx,x)∈RS d/\p.1=cst "f"+kx
 |.g x y=>∃d e kx ky,row=⟨"g",[d,e]⟩/\(kx,x)∈RS d/\(ky,y)∈RS e/\p.1=cst "g"+kx+ky
theorem wN:wM G RS c p↔∃row∈G.nd c,qg G.cst RS row p:=by
 exists G,RS,c,p;obtain⟨k,t⟩:=p;exists k,t;cases t with
 |a=>exact⟨λh=>⟨_,h.1,rfl,h.2⟩,λh=>aI h λ_ h1 h2=>⟨h2.1▸h1,h2.2⟩⟩
 |b=>exact⟨λh=>⟨_,h.1,rfl,h.2⟩,λh=>aI h λ_ h1 h2=>⟨h2.1▸h1,h2.2⟩⟩
 |f x=>exists x;exact⟨λh=>eQ h λd kx h1 h2=>⟨_,h1,d,kx,rfl,h2⟩,λh=>aI h λ_ h1 h2=>eQ h2 λd kx e h3=>⟨d,kx,e▸h1,h3⟩⟩
 |g x y=>exists x,y;exact⟨λh=>GC h λd e kx ky h1 h2=>⟨_,h1,d,e,kx,ky,rfl,h2⟩,λh=>aI h λ_ h1 h2=>GC h2 λd e kx ky q h3=>⟨d,e,kx,ky,q▸h1,h3⟩⟩
theorem zX{α β:Type}{l l2:List α}(f:α->List β)(h:l.Perm l2):(l.flatMap f).Perm (l2.flatMap f):=by
 induction h with
 |nil=>exact .refl _
 |cons x p ih=>erw[aX,aX];exact ih.append_left _
 |swap x y l=>simp only[aX];rw[<-bY,<-bY];exact List.Perm.append_right _ Fb
 |trans _ _ h1 h2=>exact h1.trans h2
section
variable {G:Gr} (K:rK G) {many:Nat} {RS:sU} {done:List Nat} {u:Nat}
theorem HT(I:jY G many RS done u)(nY:1<=many){row:Row}(ho:gI row)(hk:∀d∈row.kids,d∈G.cs){r:List Rk}(h:qW RS many row.kids [⟨G.cst row.op,row.op,[]⟩] r):∃r':List (Nat×T),r=r'.map rJ/\jX many (qg G.cst RS row) r':=by
 revert I nY ho hk;exists G,many,RS,done,u,row,r;obtain⟨o,ks⟩:=row;exists o,ks;rcases ho with⟨h1,h2⟩ |⟨h1,h2⟩ |⟨h1,d,h2⟩ |⟨h1,d,e,h2⟩
 ·simp only at h1 h2;subst h1 h2;refine⟨[(G.cst "a",.a)],h,by simp,nY,λp hp=>?_,λp hp=>?_⟩
  ·simp at hp;subst hp;exact⟨rfl,rfl⟩
  ·obtain⟨k,t⟩:=p;cases t with
   |a=>have:=hp.2;simp only at this;subst this;exact .inl (.head _)
   |b=>exact ot hp.1
   |f x=>exact eQ hp λ_ _ h _=>ot h
   |g x y=>exact GC hp λ_ _ _ _ h _=>ot h
 ·simp only at h1 h2;subst h1 h2;refine⟨[(G.cst "b",.b)],h,by simp,nY,λp hp=>?_,λp hp=>?_⟩
  ·simp at hp;subst hp;exact⟨rfl,rfl⟩
  ·obtain⟨k,t⟩:=p;cases t with
   |b=>have:=hp.2;simp only at this;subst this;exact .inl (.head _)
   |a=>exact ot hp.1
   |f x=>exact eQ hp λ_ _ h _=>ot h
   |g x y=>exact GC hp λ_ _ _ _ h _=>ot h
 ·exists d;simp only at h1 h2;subst h1 h2;refine aI h λl1 ht hr=>?_;exists l1;clear h;haveI hr:r=l1:=hr;subst hr;haveI hd:=hk d (.head _);haveI e1:ext RS d [⟨G.cst "f","f",[]⟩]=((RS d).map λp=>(G.cst "f"+p.1,T.f p.2)).map rJ:=by simp only[ext,aX,oA,bG,ay];rfl
  rw[e1]at ht;haveI hn:((RS d).map λp=>(G.cst "f"+p.1,T.f p.2)).Nodup:=gw _ (λa b pV e=>pV (by
   simp only[gQ,T.f.injEq]at e;exact Prod.ext (by lia) e.2)) (fV (I.asc d hd))
  refine aI (tU ht hn) λr' h1 h2=>?_;refine⟨r',h1,h2.asc,h2.len,λp hp=>?_,λp hp=>h2.all p ?_⟩
  ·refine aI (ak.mp (h2.sub p hp)) λq hq aT=>?_;obtain rfl:=aT;exact⟨d,q.1,rfl,hq,rfl⟩
  ·obtain⟨k,t⟩:=p;cases t with
   |f x=>refine fc hp λd' kx h1 h2 h3=>?_;clear hp;obtain rfl:=(bk (congrArg Row.kids h1)).1;exact ak.mpr ⟨_,h2,Prod.ext h3.symm rfl⟩
   |a=>exact ot hp.1
   |b=>exact ot hp.1
   |g x y=>exact GC hp λ_ _ _ _ h _=>ot h
 ·exists d,e;simp only at h1 h2;subst h1 h2;refine aI h λl1 ht aT=>?_;exists l1;clear h;refine aI aT λl2 ht2 hr=>?_;exists l2;clear aT;haveI hr:r=l2:=hr;subst hr;haveI hd:=hk d (.head _);haveI he:=hk e (.tail _ (.head _));haveI yf:l1.Perm (ext RS d [⟨G.cst "g","g",[]⟩]):=LM ht (by erw[F7];simp;exact I.len d hd);haveI I1:(ext RS e l1).Perm (((RS d).flatMap λp=>(RS e).map λq=>(G.cst "g"+p.1+q.1,T.g p.2 q.2)).map rJ):=by
   haveI e0:=zX (λone:Rk=>(RS e).map λp=>(⟨one.c+p.1,one.op,one.ks++[p.2]⟩:Rk)) yf;haveI e1:(ext RS d [⟨G.cst "g","g",[]⟩]).flatMap (λone:Rk=>(RS e).map λp=>(⟨one.c+p.1,one.op,one.ks++[p.2]⟩:Rk))=((RS d).flatMap λp=>(RS e).map λq=>(G.cst "g"+p.1+q.1,T.g p.2 q.2)).map rJ:=by
    simp only[ext,aX,oA,bG];erw[dw,List.flatMap_map]
    congr 1;funext p
    erw[ay];rfl
   rw[e1]at e0;exact e0
  haveI ht3:=HS ht2 I1;haveI hn:((RS d).flatMap λp=>(RS e).map λq=>(G.cst "g"+p.1+q.1,T.g p.2 q.2)).Nodup:=by
   haveI nd:=fV (I.asc d hd);haveI ne:=fV (I.asc e he);haveI vd:=I.val d hd;revert nd vd;generalize RS d=ld;exists ld,_;intro nd vd;induction ld with
   |nil=>exact cH
   |cons p ld ih=>
    exists p,ld;erw[aX,bI];refine a9 (bt.mp nd) λn1 n2=>?_;refine⟨gw _ (λa b pV e=>pV (by
     simp only[gQ,T.g.injEq]at e;exact Prod.ext (by lia) e.2.2)) ne,ih n2 λq hq=>vd q (.tail _ hq),?_⟩
    intro a ha b hb pV;subst pV;refine aI (ak.mp ha) λq hq aT=>?_;obtain rfl:=aT;refine aI (bn.mp hb) λp' IX hb=>?_;refine aI (ak.mp hb) λq' PF hb=>?_;simp only[gQ,T.g.injEq]at hb;refine ez hb λb1 b2 b3=>?_;clear hb;haveI v1:=(vd p (.head _)).2;haveI v2:=(vd p' (.tail _ IX)).2;rw[b2]at v2;have:p'=p:=Prod.ext (by erw[v1,v2]) b2;exact n1 (this▸IX)
  refine aI (tU ht3 hn) λr' h1 h2=>?_;exists r';refine⟨r',h1,h2.asc,h2.len,λp hp=>?_,λp hp=>h2.all p ?_⟩
  ·refine aI (bn.mp (h2.sub p hp)) λq hq hp=>?_;refine iu hp λq' PF=>?_;exact⟨d,e,q.1,q'.1,rfl,hq,PF,rfl⟩
  ·obtain⟨k,t⟩:=p;cases t with
   |g x y=>refine yX hp λd' e' kx ky h1 h2 h3 h4=>?_;clear hp;haveI h1:=bk (congrArg Row.kids h1);obtain rfl:=h1.1;obtain rfl:=(bk h1.2).1;exact bn.mpr ⟨_,h2,ak.mpr ⟨_,h3,Prod.ext h4.symm rfl⟩⟩
   |a=>exact ot hp.1
   |b=>exact ot hp.1
   |f x=>exact eQ hp λ_ _ h _=>ot h
noncomputable def wO(cst:String->Nat)(RS:sU)(many:Nat):List Row->List Rk->Prop
 | [],l=>l=[]
 |row::rows,l=>∃r l',qW RS many row.kids [⟨cst row.op,row.op,[]⟩] r/\wO cst RS many rows l'/\l=r++l'
theorem jp(tm:∀c∈G.cs,∀c'∈G.cs,∀r,r∈G.nd c->r∈G.nd c'->c=c')(K:rK G)(t:T)(c c':Nat)(h1:c∈G.cs)(h2:c'∈G.cs)(h3:js G.nd t c)(h4:js G.nd t c'):c=c':=by
 induction t generalizing c c' with
 |a=>exact tm c h1 c' h2 _ h3 h4
 |b=>exact tm c h1 c' h2 _ h3 h4
 |f x ih=>exact aI h3 λd h3 h5=>aI h4 λd' h4 h6=>tm c h1 c' h2 _ h3 (ih d d' (tS K h1 h3) (tS K h2 h4) h5 h6▸h4)
 |g x y ih Lw=>exact fc h3 λd e h3 h5 h7=>fc h4 λd' e' h4 h6 h8=>tm c h1 c' h2 _ h3 (ih d d' (nX K h1 h3).1 (nX K h2 h4).1 h5 h6▸Lw e e' (nX K h1 h3).2 (nX K h2 h4).2 h7 h8▸h4)
theorem HU(tm:∀c∈G.cs,∀c'∈G.cs,∀r,r∈G.nd c->r∈G.nd c'->c=c')(K:rK G)(I:jY G many RS done u)(hk:∀d∈row.kids,d∈G.cs)(mG:∀d∈HV.kids,d∈G.cs)(h:qg G.cst RS row p)(h':qg G.cst RS HV p):row=HV:=by
 obtain⟨k,t⟩:=p;cases t with
 |a=>exact h.1.trans h'.1.symm
 |b=>exact h.1.trans h'.1.symm
 |f x=>refine fc h λd kx h1 h2 h3=>?_;clear h;refine fc h' λd' kx' Km Bo h3'=>?_;clear h';subst h1;subst Km;have:=jp tm K x d d' (hk d (.head _)) (mG d' (.head _)) (I.val d (hk d (.head _)) _ h2).1 (I.val d' (mG d' (.head _)) _ Bo).1;erw[this]
 |g x y=>refine yX h λd e kx ky h1 h2 h3 h4=>?_;clear h;refine yX h' λd' e' kx' ky' Km Bo h3' h4'=>?_;clear h';subst h1;subst Km;haveI a1:=jp tm K x d d' (hk d (.head _)) (mG d' (.head _)) (I.val d (hk d (.head _)) _ h2).1 (I.val d' (mG d' (.head _)) _ Bo).1;haveI he:=hk e (.tail _ (.head _));haveI Nx:=mG e' (.tail _ (.head _));haveI a2:=jp tm K y e e' he Nx (I.val e he _ h3).1 (I.val e' Nx _ h3').1;erw[a1,a2]
theorem wP(tm:∀c∈G.cs,∀c'∈G.cs,∀r,r∈G.nd c->r∈G.nd c'->c=c')(K:rK G)(I:jY G many RS done u)(nY:1<=many)(hn:rows.Nodup)(hr:∀row∈rows,gI row/\∀d∈row.kids,d∈G.cs)(h:wO G.cst RS many rows l):
  ∃l':List (Nat×T),l=l'.map rJ/\l'.Nodup/\(∀p∈l',∃row∈rows,qg G.cst RS row p)/\∀row∈rows,∃r',jX many (qg G.cst RS row) r'/\∀p∈r',p∈l':=by
 induction rows generalizing l with
 |nil=>exact⟨[],h,cH,nofun,nofun⟩
 |cons row rows ih=>
  refine fc h λr l2 h1 h2 e=>?_;have hn:=bt.mp hn;have tj:=cO.mp hr;refine aI (HT I nY tj.1.1 tj.1.2 h1) λr' e1 t1=>?_;refine rg (ih hn.2 tj.2 h2) λl' e2 a1 a2 a3=>?_;refine⟨r'++l',by erw[e,e1,e2,az],bI.mpr ⟨fV t1.asc,a1,λa ha b hb pV=>?_⟩,λp hp=>?_,cO.mpr ⟨⟨r',t1,λp hp=>aW _ hp⟩,λx hx=>?_⟩⟩
  ·exact aI (a2 a (pV▸hb)) λHV h3 hc=>hn.1 (HU tm K I tj.1.2 (tj.2 HV h3).2 (t1.sub a ha) hc▸h3)
  ·exact(aH.mp hp).elim (λhp=>⟨row,.head _,t1.sub p hp⟩) λhp=>aI (a2 p hp) λHV h3 h4=>⟨HV,.tail _ h3,h4⟩
  ·exact aI (a3 x hx) λs s1 s2=>⟨s,s1,λp hp=>aK _ (s2 p hp)⟩
theorem HW(tm:∀c∈G.cs,∀c'∈G.cs,∀r,r∈G.nd c->r∈G.nd c'->c=c')(K:rK G)(I:jY G many RS done u)(nY:1<=many){c:Nat}(hc:c∈G.cs){rows:List Row}{l r:List Rk}(hn:rows.Nodup)(i6:∀row,row∈rows↔row∈G.nd c)(h:wO G.cst RS many rows l)(ht:TopC many l r):
  ∃r':List (Nat×T),r=r'.map rJ/\jX many (wM G RS c) r':=by
 refine rg (wP tm K I nY hn (λrow hr=>K.rows c hc row ((i6 row).mp hr)) h) λl' e1 a1 a2 a3=>?_;subst e1;refine aI (tU ht a1) λr' e2 t=>?_;refine⟨r',e2,t.asc,t.len,λp hp=>?_,λp hp=>?_⟩
 ·refine aI (a2 p (t.sub p hp)) λrow h1 h2=>?_;exact wN.mpr ⟨row,(i6 row).mp h1,h2⟩
 ·refine aI (wN.mp hp) λrow h1 h2=>?_;refine aI (a3 row ((i6 row).mpr h1)) λs s1 s2=>?_;rcases s1.all p h2 with q |⟨q1,q2⟩
  ·exact t.all p (s2 p q)
  ·exact .inr (t.many (L:=s) (fV s1.asc) (by erw[q1];exact ap _) λy hy=>⟨s2 y hy,q2 y hy⟩)
end
end
section
noncomputable def LN:List T:=[.a,.b]
noncomputable def Rt(l m:List T):List T:=l.flatMap λx=>m.map λy=>T.g x y
noncomputable def Ru:List T:=LN.map .f
noncomputable def Vj:List T:=Ru.map .f++Rt LN LN
noncomputable def YF:List T:=Vj.map .f++(Rt LN Ru++Rt Ru LN)
noncomputable def sz5:List T:=YF.map .f++(Rt LN Vj++Rt Vj LN++Rt Ru Ru)
noncomputable def LO:List T:=LN++Ru++Vj++YF++sz5
theorem Ca:LO.length=66:=by decide+kernel
theorem gK(t:T):1<=t.size:=by cases t<;>exact bP _
theorem qh(hx:x∈l)(hy:y∈m):T.g x y∈Rt l m:=bn.mpr ⟨x,hx,ak.mpr ⟨y,hy,rfl⟩⟩
theorem s1(h:t.size=1):t∈LN:=by
 cases t with
 |a=>simp[LN]
 |b=>simp[LN]
 |f x=>rw[kl]at h;have:=gK x;lia
 |g x y=>rw[jo]at h;have:=gK x;have:=gK y;lia
theorem s2(h:t.size=2):t∈Ru:=by
 cases t with
 |a=>cases h
 |b=>cases h
 |f x=>rw[kl]at h;exact ak.mpr ⟨x,s1 (by exact aR 0x1d6200588518011 rfl h),rfl⟩
 |g x y=>rw[jo]at h;have:=gK x;have:=gK y;lia
theorem s3(h:t.size=3):t∈Vj:=by
 cases t with
 |a=>cases h
 |b=>cases h
 |f x=>rw[kl]at h;exact aW _ (ak.mpr ⟨x,s2 (by exact aR 0x1d6210588918011 rfl h),rfl⟩)
 |g x y=>rw[jo]at h;have:=gK x;have:=gK y;exact aK _ (qh (s1 (by exact aR 0x1d75d6200560a05818188918110812 rfl h (by assumption) this)) (s1 (by exact aR 0x1d75d6200960a05818188918110812 rfl h (by assumption) this)))
theorem s4(h:t.size=4):t∈YF:=by
 cases t with
 |a=>cases h
 |b=>cases h
 |f x=>rw[kl]at h;exact aW _ (ak.mpr ⟨x,s3 (by exact aR 0x1d6220588d18011 rfl h),rfl⟩)
 |g x y=>
  rw[jo]at h;haveI hx:=gK x;haveI hy:=gK y;refine aK _ ?_;have:(x.size=1/\y.size=2)\/(x.size=2/\y.size=1):=by exact aR 0x1d75d71b6200988416d88426200560a05818188d18110812 rfl h hx hy
  rcases this with⟨h1,h2⟩ |⟨h1,h2⟩
  ·exact aW _ (qh (s1 h1) (s2 h2))
  ·exact aK _ (qh (s2 h1) (s1 h2))
theorem s5(h:t.size=5):t∈sz5:=by
 cases t with
 |a=>cases h
 |b=>cases h
 |f x=>rw[kl]at h;exact aW _ (ak.mpr ⟨x,s4 (by exact aR 0x1d6230589118011 rfl h),rfl⟩)
 |g x y=>
  rw[jo]at h;haveI hx:=gK x;haveI hy:=gK y;refine aK _ ?_;have:(x.size=1/\y.size=3)\/(x.size=3/\y.size=1)\/(x.size=2/\y.size=2):=by exact aR 0x1d75d71c6d884262105b6200988816d88826200560a05818189118110812 rfl h hx hy
  rcases this with⟨h1,h2⟩ |⟨h1,h2⟩ |⟨h1,h2⟩
  ·exact aW _ (aW _ (qh (s1 h1) (s3 h2)))
  ·exact aW _ (aK _ (qh (s3 h1) (s1 h2)))
  ·exact aK _ (qh (s2 h1) (s2 h2))
theorem wQ(h:t.size<=5):t∈LO:=by
 exists t;have:=gK t;unfold LO;have:t.size=1\/t.size=2\/t.size=3\/t.size=4\/t.size=5:=by exact aR 0x1d75c71c7189016230588816210588015818169011 rfl h this
 rcases this with q |q |q |q |q
 ·simp only[aH,s1 q,true_or]
 ·simp only[aH,s2 q,true_or,or_true]
 ·simp only[aH,s3 q,true_or,or_true]
 ·simp only[aH,s4 q,true_or,or_true]
 ·simp only[aH,s5 q,or_true]
open Classical in
theorem kZ{L M:List T}{P:T->Prop}(hL:L.Nodup)(hP:∀t∈L,P t/\t.size<=5)(hM:M.Nodup)(hM2:∀t∈M,¬P t/\t.size<=5)(h3:3<=M.length):L.length<=63:=by
 haveI hn:(L++M).Nodup:=bI.mpr ⟨hL,hM,λa ha b hb e=>(hM2 b hb).1 (e▸(hP a ha).1)⟩;have:=fG hn (r:=LO) λt ht=>by
  rcases aH.mp ht with h |h
  ·exact wQ (hP t h).2
  ·exact wQ (hM2 t h).2
 rw[Ca,an]at this;exact aR 0x1d7567ae88259e8634410960622 rfl h3 this
section
variable {G:Gr} (K:rK G) (tm:∀c∈G.cs,∀c'∈G.cs,∀r,r∈G.nd c->r∈G.nd c'->c=c') {c:Nat} (hc:c∈G.cs) (tN:∀l:List Row,l.Nodup->(∀r∈l,r∈G.nd c)->l.length<=3)
include K tm hc tN
open Classical in
theorem zY{x y:T}{A:Nat}(hA:A∈G.cs)(hx:js G.nd x A)(hy:js G.nd y c)(dM:A≠c)(IY:x.size<=1)(hys:y.size<=2):∃M:List T,M.Nodup/\(∀t∈M,¬js G.nd t c/\t.size<=5)/\3<=M.length:=by
 revert K tm hc tN;exists G,c,x,y,A;have Sv:x≠y:=λe=>by subst e;exact dM (jp tm K x A c hA hc hx hy)
 let six:List T:=[.f x,.f y,.g x x,.g x y,.g y x,.g y y]
 let M0:T->Row:=λt=>match t with
  |.f z=>⟨"f",[if z=x then A else c]⟩
  |.g z w=>⟨"g",[if z=x then A else c,if w=x then A else c]⟩
  |_=>⟨"a",[]⟩
 have MP:¬y=x:=λe=>Sv e.symm;have hcA:¬c=A:=λe=>dM e.symm;haveI Rv:six.Nodup:=by simp[six,Sv,MP]
 have ux:∀d∈G.cs,js G.nd x d->d=A:=λd hd h=>jp tm K x d A hd hA h hx;have uy:∀d∈G.cs,js G.nd y d->d=c:=λd hd h=>jp tm K y d c hd hc h hy;have D4:∀t∈six,js G.nd t c->M0 t∈G.nd c:=by
  intro t ht h;haveI ff:∀z,js G.nd (.f z) c->∃d,⟨"f",[d]⟩∈G.nd c/\js G.nd z d/\d∈G.cs:=λz w=>aI w λd h1 h2=>⟨d,h1,h2,tS K hc h1⟩
  have gg:∀z w,js G.nd (.g z w) c->∃d e,⟨"g",[d,e]⟩∈G.nd c/\js G.nd z d/\js G.nd w e/\d∈G.cs/\e∈G.cs:=λz w t=>fc t λd e h1 h2 h3=>⟨d,e,h1,h2,h3,nX K hc h1⟩
  simp only[six,aq,bx,or_false]at ht;rcases ht with rfl |rfl |rfl |rfl |rfl |rfl
  ·refine cQ (ff _ h) λd h1 h2 h3=>?_;haveI e:=ux d h3 h2;subst e;simpa[M0]using h1
  ·refine cQ (ff _ h) λd h1 h2 h3=>?_;haveI e:=uy d h3 h2;subst e;simpa[M0,MP]using h1
  ·refine vK (gg _ _ h) λd e h1 h2 h3 h4 h5=>?_;haveI e1:=ux d h4 h2;haveI e2:=ux e h5 h3;rw[e1,e2]at h1;simpa[M0]using h1
  ·refine vK (gg _ _ h) λd e h1 h2 h3 h4 h5=>?_;haveI e1:=ux d h4 h2;haveI e2:=uy e h5 h3;rw[e1,e2]at h1;simpa[M0,MP]using h1
  ·refine vK (gg _ _ h) λd e h1 h2 h3 h4 h5=>?_;haveI e1:=uy d h4 h2;haveI e2:=ux e h5 h3;rw[e1,e2]at h1;simpa[M0,MP]using h1
  ·refine vK (gg _ _ h) λd e h1 h2 h3 h4 h5=>?_;haveI e1:=uy d h4 h2;haveI e2:=uy e h5 h3;rw[e1,e2]at h1;simpa[M0,MP]using h1
 haveI inj:(six.map M0).Nodup:=by simp[six,M0,MP,dM,hcA]
 refine⟨six.filter λt=>decide (¬js G.nd t c),Rv.filter _,λt ht=>?_,?_⟩
 ·refine a9 (a8.mp ht) λh1 h2=>?_;refine⟨of_decide_eq_true h2,?_⟩;simp only[six,aq,bx,or_false]at h1;rcases h1 with rfl |rfl |rfl |rfl |rfl |rfl<;>simp only[kl,jo]<;>lia
 ·haveI h3:=tN ((six.filter λt=>decide (js G.nd t c)).map M0) ?_ ?_
  ·rw[ag]at h3;haveI e:(six.filter λt=>decide (js G.nd t c)).length+(six.filter λt=>decide (¬js G.nd t c)).length=six.length:=by
    generalize six=l;induction l with
    |nil=>rfl
    |cons z l ih=>
     by_cases q:js G.nd z c
     ·simp only[cV,q,decide_true,if_true,not_true,decide_false,bc,if_false,aU];exact aR 0x1d6118034424600580d10813 rfl ih
     ·simp only[cV,q,decide_false,bc,if_false,not_false_iff,decide_true,if_true,aU];exact aR 0x1d6118034518020580d10813 rfl ih
   haveI e6:six.length=6:=rfl;exact aR 0x1d75d5828989436034420568813 rfl h3 e e6
  ·exact inj.sublist (gn.map _)
  ·intro r hr;refine iu hr λt ht=>?_;refine a9 (a8.mp ht) λh1 h2=>?_;exact D4 t h1 (of_decide_eq_true h2)
open Classical in
theorem HX(hA:∃A∈G.cs,js G.nd .a A)(hB:∃B∈G.cs,js G.nd .b B){L:List T}(hL:L.Nodup)(hP:∀t∈L,js G.nd t c/\t.size<=5):L.length<=63:=by
 refine aI hA λA hA1 YG=>?_;clear hA;refine aI hB λB hB1 hB2=>?_;clear hB;haveI z2:∀t:T,(T.f t).size=t.size+1:=kl;by_cases ha:js G.nd .a c
 ·by_cases hb:js G.nd .b c
  ·by_cases hf:∃D,⟨"f",[D]⟩∈G.nd c
   ·refine bz hf λD hD=>?_;clear hf;have nog:∀x y,¬js G.nd (.g x y) c:=λx y t=>fc t λd e h1 _ _=>by
     have:=tN [⟨"a",[]⟩,⟨"b",[]⟩,⟨"f",[D]⟩,⟨"g",[d,e]⟩] (by simp) λr hr=>by
      simp only[aq,bx,or_false]at hr;rcases hr with rfl |rfl |rfl |rfl
      ·exact ha
      ·exact hb
      ·exact hD
      ·exact h1
     simp at this
    refine kZ hL hP (M:=[.g .a .a,.g .a .b,.g .b .a]) (by simp) (λt ht=>?_) (ap _);simp only[aq,bx,or_false]at ht;rcases ht with rfl |rfl |rfl<;>exact⟨nog _ _,by decide⟩
   ·have nof:∀x,¬js G.nd (.f x) c:=λx t=>aI t λd h1 _=>hf ⟨d,h1⟩;refine kZ hL hP (M:=[.f .a,.f .b,.f (.f .a)]) (by simp) (λt ht=>?_) (ap _);simp only[aq,bx,or_false]at ht;rcases ht with rfl |rfl |rfl<;>exact⟨nof _,by decide⟩
  ·haveI hBc:B≠c:=λe=>hb (e▸hB2);by_cases h1:js G.nd .a c
   ·refine cQ (zY K tm hc tN hB1 hB2 h1 hBc (by decide) (by decide)) λM m1 m2 m3=>?_;exact kZ hL hP m1 m2 m3
   ·exact absurd ha h1
 ·have hAc:A≠c:=λe=>ha (e▸YG);by_cases h1:js G.nd .b c
  ·refine cQ (zY K tm hc tN hA1 YG h1 hAc (by decide) (by decide)) λM m1 m2 m3=>?_;exact kZ hL hP m1 m2 m3
  ·by_cases h2:js G.nd (.f .a) c
   ·refine cQ (zY K tm hc tN hA1 YG h2 hAc (by decide) (by decide)) λM m1 m2 m3=>?_;exact kZ hL hP m1 m2 m3
   ·refine kZ hL hP (M:=[.a,.b,.f .a]) (by simp) (λt ht=>?_) (ap _);simp only[aq,bx,or_false]at ht;rcases ht with rfl |rfl |rfl
    ·exact⟨ha,by decide⟩
    ·exact⟨h1,by decide⟩
    ·exact⟨h2,by decide⟩
end
end
section
noncomputable def OF(nd:Nat->List Row)(c d:Nat):Prop:=∃r∈nd c,d∈r.kids
inductive Rp(nd:Nat->List Row):Nat->Nat->Prop
 |one {c d:Nat}:OF nd c d->Rp nd c d
 |step {c d e:Nat}:OF nd c d->Rp nd d e->Rp nd c e
theorem Rp.trans{nd:Nat->List Row}(h:Rp nd c d)(h2:Rp nd d e):Rp nd c e:=by
 induction h with
 |one h=>exact .step h h2
 |step h _ ih=>exact .step h (ih h2)
section
variable {G:Gr} (K:rK G)
include K
theorem wR:∀(c:Nat),c∈G.cs->∃t,js G.nd t c:=by
 exists G,_;intro K;intro c;exists c,_;induction c using lH with
 |_ c ih=>
  exists c,_;intro ih;intro hc;refine cQ (K.base c hc) λr hr hk _=>?_;exists r;have PQ:=(K.rows c hc r hr).2;obtain⟨o,ks⟩:=r;exists o,ks;rcases(K.rows c hc _ hr).1 with⟨h1,h2⟩ |⟨h1,h2⟩ |⟨h1,d,h2⟩ |⟨h1,d,e,h2⟩
  ·simp only at h1 h2;subst h1 h2;exact⟨.a,hr⟩
  ·simp only at h1 h2;subst h1 h2;exact⟨.b,hr⟩
  ·simp only at h1 h2;subst h1 h2;refine bz (ih d (hk d (.head _)) (PQ d (.head _))) λt ht=>?_;exact⟨.f t,d,hr,ht⟩
  ·simp only at h1 h2;subst h1 h2;refine bz (ih d (hk d (.head _)) (PQ d (.head _))) λt ht=>?_;refine bz (ih e (hk e (.tail _ (.head _))) (PQ e (.tail _ (.head _)))) λs hs=>?_;exact⟨.g t s,d,e,hr,ht,hs⟩
theorem Gc(hc:c∈G.cs)(h:OF G.nd c d)(ht:js G.nd t d):∃t',js G.nd t' c/\t.size<t'.size:=by
 revert K hc h;exists G,c,d,t;refine aI h λr hr hd=>?_;exists r;clear h;have PQ:=(K.rows c hc r hr).2;obtain⟨o,ks⟩:=r;exists o,ks;rcases(K.rows c hc _ hr).1 with⟨h1,h2⟩ |⟨h1,h2⟩ |⟨h1,d',h2⟩ |⟨h1,d',e',h2⟩
 ·simp only at h1 h2;subst h1 h2;cases hd
 ·simp only at h1 h2;subst h1 h2;cases hd
 ·simp only at h1 h2;subst h1 h2;simp only[aq,bx,or_false]at hd;subst hd;exact⟨.f t,⟨d,hr,ht⟩,by erw[kl];exact aR 6247416849 rfl⟩
 ·simp only at h1 h2;subst h1 h2;simp only[aq,bx,or_false]at hd;rcases hd with rfl |rfl
  ·refine bz (wR K e' (PQ e' (.tail _ (.head _)))) λs hs=>?_;exact⟨.g t s,⟨d,e',hr,ht,hs⟩,by erw[jo];exact aR 25589486584850 rfl⟩
  ·refine bz (wR K d' (PQ d' (.head _))) λs hs=>?_;exact⟨.g s t,⟨d',d,hr,hs,ht⟩,by erw[jo];exact aR 25589486520338 rfl⟩
theorem zZ(hc:c∈G.cs)(h:OF G.nd c d):d∈G.cs:=by refine aI h λr hr hd=>?_;clear h;exact(K.rows c hc r hr).2 d hd
theorem PX(h:Rp G.nd c d):c∈G.cs->∀{t:T},js G.nd t d->∃t',js G.nd t' c/\t.size<t'.size:=by
 induction h with
 |one h=>exactλhc t ht=>Gc K hc h ht
 |step h _ ih=>intro hc t ht;refine aI (ih (zZ K hc h) ht) λs hs Fz=>?_;refine aI (Gc K hc h hs) λr hr OB=>?_;exact⟨r,hr,by exact aR 0x1d7570c15c30970813 rfl Fz OB⟩
theorem Vk(h:Rp G.nd c d):c∈G.cs->d∈G.cs:=by
 induction h with
 |one h=>exactλhc=>zZ K hc h
 |step h _ ih=>exactλhc=>ih (zZ K hc h)
theorem LP(hc:c∈G.cs)(h:Rp G.nd c c):∀B:Nat,∃t,js G.nd t c/\B<=t.size:=by
 intro B;induction B with
 |zero=>exact bz (wR K c hc) λt ht=>⟨t,ht,aG _⟩
 |succ B ih=>refine aI ih λt ht hB=>?_;refine aI (PX K h hc ht) λs hs Fz=>?_;exact⟨s,hs,by exact aR 0x1d7560d18015c30960813 rfl hB Fz⟩
theorem HY(hg:g∈G.cs)(hr:Rp G.nd c c)(hgc:g=c\/Rp G.nd g c)(h:jX many (sW G g) l):l.length=many:=by
 by_cases q:l.length=many
 ·exact q
 ·exfalso;have hc:c∈G.cs:=by
   rcases hgc with rfl |e
   ·exact hg
   ·exact Vk K e hg
  have gS:∀B,∃t,js G.nd t g/\B<=t.size:=λB=>by
   refine aI (LP K hc hr B) λt ht hB=>?_;rcases hgc with rfl |e
   ·exact⟨t,ht,hB⟩
   ·refine aI (PX K e hg ht) λs hs Fz=>?_;exact⟨s,hs,by exact aR 0x1d7560c15c30960813 rfl hB Fz⟩
  refine aI (gS ((l.map λp=>p.2.size).sum+1)) λt ht hB=>?_;rcases h.all (t.cost G.cst,t) ⟨ht,rfl⟩ with e |⟨e,_⟩
  ·have:∀(l:List (Nat×T)),(t.cost G.cst,t)∈l->t.size<=(l.map λp=>p.2.size).sum:=by
    intro l;induction l with
    |nil=>intro h;cases h
    |cons p l ih=>
     intro h;simp only[aP,kD];rcases aq.mp h with rfl |h
     ·exact b7 _ _
     ·have:=ih h;lia
   have:=this l e;exact aR 0x1d7595810960918012 rfl hB this
  ·exact q e
end
end
section
noncomputable def bg(S:g8):List Nat:=(aM S.par.length).filter λa=>decide (S.par.getD a a=a)
noncomputable def km(S:g8)(c:Nat):List Row:=((aM S.rows.length).filter λm=>decide (root S.par m=c)).map (bl S)
noncomputable def oM(S:g8)(cst:String->Nat):Gr:=⟨bg S,km S,cst⟩
structure nZ(S:g8):Prop where
 fit:PJ S
 oF:S.rows.length<=5
 cz:∀c,c<S.rows.length->root S.par c=c->∃p,S.cz[c]?=some p/\p.2.length<64/\∀m,m∈p.2↔m<S.rows.length/\root S.par m=c
 tN:∀(c:Nat)(l:List Row),l.Nodup->(∀x∈l,∃m,m<S.rows.length/\root S.par m=c/\bl S m=x)->l.length<=3
 closed:∀i j,i<S.rows.length->j<S.rows.length->bl S i=bl S j->root S.par i=root S.par j
 ok:∀n,n<S.rows.length->gI (S.row n)
 leaf:∀n,n<=1->n<S.rows.length->(S.row n).kids=[]
structure qS(cst:String->Nat):Prop where
 c1:∀o,gC o->1<=cst o
 c3:∀o,gC o->cst o<=3
theorem qi:c∈bg S↔c<S.par.length/\S.par.getD c c=c:=by unfold bg;erw[a8,br,decide_eq_true_iff]
theorem jq:r∈km S c↔∃m,m<S.rows.length/\root S.par m=c/\bl S m=r:=ak.trans ⟨λh=>aI h λm hm e=>⟨m,br.mp (a8.mp hm).1,of_decide_eq_true (a8.mp hm).2,e⟩,λh=>cQ h λm h1 h2 e=>⟨m,a8.mpr ⟨br.mpr h1,decide_eq_true h2⟩,e⟩⟩
theorem f6(F:PJ S)(h:m<S.rows.length):root S.par m∈bg S:=qi.mpr ⟨a6 (sQ _ _) (by erw[F.len];exact h),sR F.po m⟩
theorem OG(h:gI (S.row m)):gI (bl S m):=by
 exists S,m;rcases h with⟨h1,h2⟩ |⟨h1,h2⟩ |⟨h1,d,h2⟩ |⟨h1,d,e,h2⟩
 ·exact .inl ⟨h1,congrArg (jz _) h2⟩
 ·exact .inr (.inl ⟨h1,congrArg (jz _) h2⟩)
 ·exact .inr (.inr (.inl ⟨h1,_,congrArg (jz _) h2⟩))
 ·exact .inr (.inr (.inr ⟨h1,_,_,congrArg (jz _) h2⟩))
theorem wS(F:nZ S){cst:String->Nat}(C:qS cst):rK (oM S cst):=by
 revert F;exists S,cst;have hl:=F.fit.len;have h5:=F.oF;refine⟨kh.filter _,?_,λc hc=>?_,λc hc r hr=>?_,λc hc=>?_,C.c1,C.c3⟩
 ·refine aa (cZ _ _) ?_;erw[aO];exact aR 0x1d7569015a40980812 rfl hl h5
 ·have:=(qi.mp hc).1;exact aR 0x1d75d5a30d70435a40980813 rfl hl h5 this
 ·refine cQ (jq.mp hr) λm h1 h2 aT=>?_;obtain rfl:=aT;refine⟨OG (F.ok m h1),λd hd=>?_⟩;refine iu hd λk hk=>?_;have:=F.fit.kids m h1 k hk;exact f6 F.fit (by exact aR 0x1d7570835c10d70813 rfl h1 this)
 ·refine a9 (qi.mp hc) λh1 h2=>?_;have Km:c<S.rows.length:=by exact aR 0x1d7570835c10d80813 rfl hl h1
  refine⟨bl S c,jq.mpr ⟨c,Km,jG h2,rfl⟩,λd hd=>?_,λDM=>?_⟩
  ·refine iu hd λk hk=>?_;exact a6 (sQ _ _) (F.fit.kids c Km k hk)
  ·show(S.row c).kids.map _=[];erw[F.leaf c DM Km];rfl
theorem Eu(F:nZ S){cst:String->Nat}:∀c∈(oM S cst).cs,∀c'∈(oM S cst).cs,∀r,r∈(oM S cst).nd c->r∈(oM S cst).nd c'->c=c':=by intro c hc c' Nm r h1 h2;refine cQ (jq.mp h1) λm a1 a2 a3=>?_;refine cQ (jq.mp h2) λm' b1 b2 b3=>?_;have:=F.closed m m' a1 b1 (a3.trans b3.symm);exact aR 0x1d75d6040980c16040d80814 rfl a2 b2 this
theorem LQ{l:List Nat}(h:l.Pairwise (· <·)){i c:Nat}(hi:l[i]?=some c){d:Nat}(hd:d∈l)(fY:d<c):d∈l.take i:=by
 refine bz (cq.mp hi) λhl e=>?_;refine bz (rc.mp hd) λj H=>bz H λhj e2=>?_;subst e e2;refine dC.mpr ⟨j,Nat.lt_min.mpr ⟨?_,hj⟩,rfl⟩;rcases jN j i with q |q |q
 ·exact q
 ·subst q;exact absurd fY (gj _)
 ·exact absurd fY (Nat.lt_asymm (b8.mp h i j hl hj q))
theorem z0(S:g8):(bg S).Pairwise (· <·):=List.pairwise_lt_range.filter _
theorem T.uC(t:T):t.hd=vr t.op:=by cases t<;>rfl
theorem T.Vl{s t:T}(h:s.v=t.v):s=t:=by
 haveI e:s.hd=t.hd:=(T.uC s).trans ((congrArg vr (qo (bk (V.tup.inj (s.v_eq.symm.trans (h.trans t.v_eq)))).1)).trans (T.uC t).symm);induction s generalizing t with
 |a=>cases t with
  |a=>rfl
  |_=>exact absurd e (of_decide_eq_false rfl)
 |b=>cases t with
  |b=>rfl
  |_=>exact absurd e (of_decide_eq_false rfl)
 |f x ih=>cases t with
  |f y=>haveI h:=(bk (bk (V.tup.inj h)).2).1;exact congrArg _ (ih h ((T.uC x).trans ((congrArg vr (qo (bk (V.tup.inj (x.v_eq.symm.trans (h.trans y.v_eq)))).1)).trans (T.uC y).symm)))
  |_=>exact absurd e (of_decide_eq_false rfl)
 |g x z ih Lw=>cases t with
  |g y w=>
   haveI h:=bk (bk (V.tup.inj h)).2;haveI h2:=(bk h.2).1;haveI h:=h.1;exact congr (congrArg _ (ih h ((T.uC x).trans ((congrArg vr (qo (bk (V.tup.inj (x.v_eq.symm.trans (h.trans y.v_eq)))).1)).trans (T.uC y).symm))))
    (Lw h2 ((T.uC z).trans ((congrArg vr (qo (bk (V.tup.inj (z.v_eq.symm.trans (h2.trans w.v_eq)))).1)).trans (T.uC w).symm)))
  |_=>exact absurd e (of_decide_eq_false rfl)
theorem HZ{p q:Nat×T}(h:(rJ p).v=(rJ q).v):p=q:=by haveI h:=bk (V.tup.inj h);haveI h3:=(bk (bk h.2).2).1;exact Prod.ext (iF (V.int.inj h.1)) (T.Vl (p.2.pD.trans (h3.trans q.2.pD.symm)))
theorem LU{l m:List (Nat×T)}(h:l.map (λp=>(rJ p).v)=m.map (λp=>(rJ p).v)):l=m:=(jf (f:=λp:Nat×T=>(rJ p).v) (λa b e=>HZ e)).mp h
theorem LV{cs:List Nat}{RS:sU}{c:Nat}(hc:c∈cs)(r:List (Nat×T)):dG (iL cs RS) (.i (c:Int)) (.lst (r.map λp=>(rJ p).v))=iL cs (ly RS c r):=by
 revert hc;exists cs,RS,c,r;unfold dG;have oD:(iL cs RS).any (λp=>decide (p.1=PK.i (c:Int)))=true:=cF.mpr ⟨_,ak.mpr ⟨c,hc,rfl⟩,by simp⟩;erw[if_pos oD];unfold iL;erw[ay];refine bf λx _=>?_;exists x;show(if PK.i (x:Int)=PK.i (c:Int) then _ else _)=_;by_cases q:x=c
 ·subst q;erw[if_pos rfl,gh]
 ·erw[if_neg (λe=>q (by injection e with e;lia)),kR _ _ q]
theorem wT{st:aL->Prop}{f:V->aL->ve->Prop}{cst:String->Nat}(qQ:many<=2)(hs:st N)(step:∀row∈rows,∀kk:ve,(∀r,qW RS many row.kids [⟨cst row.op,row.op,[]⟩] r->kk (r.map Rk.v) N)->f row.v N kk)(hb:acc.length+rows.length*100<=10000)
  (hlen:∀row∈rows,∀r,qW RS many row.kids [⟨cst row.op,row.op,[]⟩] r->r.length<=100) (h:∀l,wO cst RS many rows l->k (acc++l.map Rk.v) N):c9 st f (rows.map Row.v) acc N k:=by
 haveI ha:acc.length<=gS:=aa (aa (b7 _ _) hb) (by decide);induction rows generalizing acc with
 |nil=>exact⟨ha,hs,by have:=h [] rfl;rwa[uJ,bG]at this⟩
 |cons row rows ih=>
  refine⟨ha,hs,step row (.head _) _ λr hr=>?_⟩;haveI MQ:(acc++r.map Rk.v).length+rows.length*100<=10000:=by haveI PR:=hlen row (.head _) r hr;rw[aU,jP]at hb;erw[an,ag];exact aR 0x1d75679f7a07a685155e8e50910c159e8e50d679f7a07a685145e8e555e8e50813 rfl hb PR
  refine ih (λx hx=>step x (.tail _ hx)) MQ (λx hx=>hlen x (.tail _ hx)) (λl hl=>?_) (aa (aa (b7 _ _) MQ) (by decide));have:=h (r++l) ⟨r,l,hr,hl,rfl⟩;rwa[az,<-bY]at this
theorem tV(qQ:many<=2)(hl:l.length<=2)(h:qW RS many ks l r):r.length<=2:=by
 induction ks generalizing l with
 |nil=>exact(show r=l from h)▸hl
 |cons c ks ih=>exact aI h λl1 h1 h2=>ih (aa (LD h1) qQ) h2
theorem jZ{N:aL}{a b:ax}{x mo:cA}(hn:N a=none)(h:N b=some mo):(N.put a x) b=some mo:=by
 have:b≠a:=by rintro rfl;rw[hn]at h;cases h
 erw[aL.bE this];exact h
structure WD where
 RS:sU
 ep:Nat
 b:Bool
 kk:Nat
 u:Nat
noncomputable instance:Nonempty WD:=⟨⟨λ_=>[],0,true,0,0⟩⟩
structure WI(G:Gr)(many:Nat)(d:WD):Prop where
 I:jY G many d.RS [] d.u
 hu:d.u<=5*d.kk
 x:∃x,(∀c∈G.cs,Cl G many d.RS c x)/\(d.kk<=SH G d.RS x\/dY G many d.RS)
 f:d.b=false->dY G many d.RS
 t:d.b=true->d.kk<=10
structure FD where
 RS:sU
 ep:Nat
 b:Bool
noncomputable instance:Nonempty FD:=⟨⟨λ_=>[],0,true⟩⟩
structure Rw(G:Gr)(many y:Nat)(D:WD)(i:Nat)(d:FD):Prop where
 I:jY G many d.RS (G.cs.take i) (D.u+i)
 c1:∀c∈G.cs,Cl G many d.RS c y
 c2:∀c∈G.cs.take i,Cl G many d.RS c (y+1)
 c3:d.b=false->d.RS=D.RS/\∀c∈G.cs.take i,jX many (wM G D.RS c) (D.RS c)
 c4:dY G many D.RS->d.b=false/\d.RS=D.RS
theorem jY.Vm(I:jY G many RS d u)(h:∀c∈d',c∈d):jY G many RS d' u:=⟨I.asc,I.len,I.val,I.dep,I.cost,I.head,λc hc=>I.full c (h c hc)⟩
section
variable {G:Gr} (K:rK G) {many:Nat} (qQ:many<=2) (nY:1<=many) (asc:G.cs.Pairwise (· <·))
include K qQ nY
theorem OH:WI G many ⟨λ_=>[],ep,true,0,0⟩:=⟨⟨λ_ _=>pN,λ_ _=>aG _,λ_ _ p hp=>(nomatch hp),λ_ _ p hp=>(nomatch hp),λ_ _ p hp=>(nomatch hp),λ_ _ p rest e=>(nomatch e),λ_ h=>(nomatch h)⟩,aG _,⟨0,λc hc=>Cl.zero K c,.inl (aG _)⟩,nofun,λ_=>aG _⟩
theorem YH(W:WI G many D):∃y,Rw G many y D 0 ⟨D.RS,D.ep,false⟩/\(¬dY G many D.RS->∀(xq:sU)(sX:List Nat)(u':Nat),jY G many xq sX u'->(∀c∈G.cs,Cl G many xq c (y+1))->D.kk+1<=SH G xq (y+1)):=by
 revert K qQ nY;exists G,many,D;refine aI W.x λx XN Oa=>?_;have mk:∀y,(∀c∈G.cs,Cl G many D.RS c y)->Rw G many y D 0 ⟨D.RS,D.ep,false⟩:=λy h=>⟨W.I,h,nofun,λ_=>⟨rfl,nofun⟩,λ_=>⟨rfl,rfl⟩⟩
 by_cases Cb:dY G many D.RS
 ·exact⟨0,mk 0 λc hc=>Cl.zero K c,λq=>absurd Cb q⟩
 ·refine aI (MM K W.I nY XN Cb) λy h1 h2=>?_;refine⟨y,mk y h1,λ_ xq d' u' I' i8=>?_⟩;exact aa (aw (Oa.resolve_right Cb)) (h2 xq d' u' I' i8)
include asc in
theorem Rx{y i c:Nat}{D:WD}{d:FD}(F:Rw G many y D i d)(vt:G.cs[i]?=some c){r:List (Nat×T)}(tr:jX many (wM G d.RS c) r):
  (r=d.RS c->Rw G many y D (i+1) d)/\(r≠d.RS c->∀ep,Rw G many y D (i+1) ⟨ly d.RS c r,ep,true⟩):=by
 revert K qQ nY asc F vt;exists G,many,y,i,c,D,d,r;have sP:c∈G.cs:=a7 vt;refine bz (l7 vt) λlW hc=>?_;have Q6:G.cs.take (i+1)=G.cs.take i++[c]:=by erw[bJ lW,hc]
 have YI:∀{d},d∈G.cs.take (i+1)->d=c\/d∈G.cs.take i:=λ{d}hd=>by rw[Q6]at hd;exact(aH.mp hd).symm.imp ao.mp id
 have YJ:jY G many (ly d.RS c r) (G.cs.take (i+1)) (D.u+(i+1)):=(OC K F.I qQ nY sP (λd hd fY=>LQ asc vt hd fY) tr).Vm λd hd=>aq.mpr (YI hd);have cl0:=tT K F.I nY sP tr F.c1;haveI clo:∀{d' z},d'≠c->Cl G many d.RS d' z->Cl G many (ly d.RS c r) d' z:=λq h=>by unfold Cl at h ⊢;erw[kR _ _ q];exact h
 have cl1:∀d'∈G.cs,Cl G many (ly d.RS c r) d' y:=λd' hd=>by
  by_cases q:d'=c
  ·subst q;exact cl0.mono (cD _)
  ·exact clo q (F.c1 d' hd)
 haveI YK:∀d'∈G.cs.take (i+1),Cl G many (ly d.RS c r) d' (y+1):=λd' hd=>by
  by_cases q:d'=c
  ·subst q;exact cl0
  ·exact clo q (F.c2 d' ((YI hd).resolve_left q))
 refine⟨λe=>?_,λe ep=>⟨YJ,cl1,YK,nofun,λq=>absurd ?_ e⟩⟩
 ·have eid:ly d.RS c r=d.RS:=by
   funext z;unfold ly;split
   ·rename_i q;erw[q,e]
   ·rfl
  rw[eid]at YJ YK;refine⟨YJ,F.c1,YK,λhb=>⟨(F.c3 hb).1,λd' hd=>?_⟩,F.c4⟩;rcases YI hd with rfl |hd
  ·rw[<-(F.c3 hb).1];rw[e]at tr;exact tr
  ·exact(F.c3 hb).2 d' hd
 ·haveI q2:dY G many d.RS:=by erw[(F.c4 q).2];exact q
  exact zV K F.I qQ nY q2 sP tr
theorem Ry(h5:G.cs.length<=5){y:Nat}{D:WD}{d:FD}(W:WI G many D)(hb:D.b=true)(F:Rw G many y D G.cs.length d)
  (hy:¬dY G many D.RS->∀(xq:sU)(sX:List Nat)(u':Nat),jY G many xq sX u'->(∀c∈G.cs,Cl G many xq c (y+1))->D.kk+1<=SH G xq (y+1)):WI G many ⟨d.RS,d.ep,d.b,D.kk+1,D.u+G.cs.length⟩:=by
 revert K qQ nY h5;exists G,many,y,D,d;have c2:=F.c2;rw[cX]at c2;refine⟨F.I.Vm nofun,aa (df W.hu h5) (eR (Nat.mul_succ 5 D.kk).symm),⟨y+1,c2,?_⟩,λe=>?_,λe=>?_⟩
 ·by_cases q:dY G many D.RS
  ·exact .inr (by erw[(F.c4 q).2];exact q)
  ·exact .inl (hy q d.RS _ _ F.I c2)
 ·refine a9 (F.c3 e) λe1 e2=>?_;rw[cX]at e2;show dY G many d.RS;erw[e1];exact zW K W.I nY e2
 ·by_cases q:dY G many D.RS
  ·have e:d.b=true:=e;rw[(F.c4 q).1]at e;cases e
  ·exact aa (hy q d.RS _ _ F.I c2) (aa (Rs F.I (y+1)) (Aj h5 qQ))
end
theorem Cc{m:List (Nat×T)}(hm:∀p∈m,p.2.depth<=61):V.fw (m.map λp=>(rJ p).v)=true/\V.jB (m.map λp=>(rJ p).v)<=150:=⟨dX.mpr λv hv=>by
 refine iu hv λp _=>?_;exact B7 p.2.uz _,en.mpr λv hv=>by
 refine iu hv λp hp=>?_;exact aa (yH (c:=(p.1:Int)) (op:=p.2.op) (ks:=p.2.kids) (d:=61) λt ht=>aa (bq (T.gP ht)) (hm p hp)) (by decide)⟩
theorem Rz(h:gI row):gC row.op:=by
 exists row;rcases h with⟨h,_⟩ |⟨h,_⟩ |⟨h,_⟩ |⟨h,_⟩<;>erw[h]
 ·exact HN
 ·exact HO
 ·exact Ep
 ·exact Er
theorem OI(h:gI row):row.kids.length<=2:=by
 exists row;rcases h with⟨_,h⟩ |⟨_,h⟩ |⟨_,d,h⟩ |⟨_,d,e,h⟩<;>erw[h]
 ·exact aG _
 ·exact aG _
 ·exact cD _
 ·exact ap _
theorem Ev{cst:String->Nat}(qQ:many<=2)(h:wO cst RS many rows l):l.length<=rows.length*2:=by
 induction rows generalizing l with
 |nil=>exact(show l=[] from h)▸ap _
 |cons row rows ih=>refine fc h λr l' a1 a2 e=>?_;erw[e,an,aU,jP,gU];exact df (ih a2) (tV qQ (l:=[_]) (cD 1) a1)
section
variable {Γ:Cx} (hK:cL Γ.K) {n:Nat} {N:aL} {A:r7} {S:g8} {R:List (ax×cA)} {k:KV} {ha:ax}
include hK
theorem H7(H:HR N A S R)(F:nZ S)(hc:c∈bg S)(h:∀rs:List Row,rs.Nodup->(∀r,r∈rs↔r∈km S c)->rs.length<=3->k (.lst (rs.map Row.v)) N):aV Γ (n+4) (.ref 416) [.obj ha 438 A.dx,iv c] N k:=by
 refine a9 (qi.mp hc) λh1 h2=>?_;have i8:c<S.rows.length:=F.fit.len▸h1;have hr:root S.par c=c:=jG h2;refine cQ (F.cz c i8 hr) λp p1 p2 p3=>?_;have conv:∀r,(∃m∈p.2,bl S m=r)↔r∈km S c:=λr=>by
  erw[jq];constructor
  ·rintro⟨m,hm,e⟩;refine a9 ((p3 m).mp hm) λa b=>?_;exact⟨m,a,b,e⟩
  ·rintro⟨m,a1,a2,e⟩;exact⟨m,(p3 m).mpr ⟨a1,a2⟩,e⟩
 have tN:∀l:List Row,l.Nodup->(∀x∈l,∃m∈p.2,bl S m=x)->l.length<=3:=λl a b=>F.tN c l a λx hx=>jq.mp ((conv x).mp (b x hx));exact B5 hK H F.fit i8 (p:=p) (by erw[hr];exact p1) (λm hm=>((p3 m).mp hm).1) p2 (λl a b=>fb (tN l a b)) λrs r1 r2=>h rs r1 (λr=>(r2 r).trans (conv r)) (tN rs r1 λx hx=>(r2 x).mp hx)
theorem xO(H:HR N A S R)(F:nZ S){sa tP cd:ax}{kc:List (PK×V)}{MY:Nat}{cst:String->Nat}(C:qS cst){many:Nat}(h1:N tP=some (.at (qP ha A cd) 2))(h2:N cd=some (.dp kc MY))(h3:SF kc cst)
  (nY:1<=many) (qQ:many<=2) (OJ:60<=n) (Rg:n<=1000)
  (h:∀rd ep RS u,N rd=none->dY (oM S cst) many RS->jY (oM S cst) many RS [] u->u<=60->k (.ref rd) (N.put rd (.dp (iL (bg S) RS) ep))):aV Γ (n+6) (.ref 216) [.obj sa 224 tP,iv many] N k:=by
 revert hK H F C;exists Γ,n,N,A,S,R,k,ha,sa,tP,cd,kc,MY,cst,many;have K:=wS F C;haveI tm:=Eu F (cst:=cst);have i8:(bg S).length<=5:=K.len;have hb:S.par.length<=1000:=F.fit.len▸aa F.oF (by decide);have PY:(bg S).length<=gS:=aa i8 (by decide);refine ck hK.X3 rfl λG c=>c hK.KZ (zT hK h1) (rE hK H) (.one (pF hK H hb dU)) .lst
  (.one (fZ (l:=bg S) (v:=iv) (λc=>.tup [iv c,.lst []]) trivial PY λc hc G c'=>c' true dU))
  (.all (yA (kvs:=iL (bg S) λ_=>[]) ?_ ?_ ?_ λrd ep xP=>?_)) λ_ _ h=>h
 ·unfold iL;erw[ay];rfl
 ·unfold iL;erw[ay];exact gw _ (λa b pV e=>pV (iF (PK.i.inj e))) K.nodup
 ·unfold iL;erw[ag];exact aa i8 (by decide)
 ·intro G c;refine c (env:=λD:WD=>[("self",.obj sa 224 tP),("many",iv many),("rows",.ref rd),("is_turned",.bool D.b)]) (J:=λz D N1=>N1=N.put rd (.dp (iL (bg S) D.RS) D.ep)/\z+D.kk=12/\WI (oM S cst) many D)
   (P:=λD N1=>N1=N.put rd (.dp (iL (bg S) D.RS) D.ep)/\D.u<=60/\jY (oM S cst) many D.RS [] D.u/\dY (oM S cst) many D.RS)
   12 ⟨λ_=>[],ep,true,0,0⟩ (zI rfl) ⟨rfl,rfl,OH K qQ nY⟩ (v8 λz D N1 hj G=>?_) λD N1 e G c=>c (eO.ret ?_)
  ·obtain⟨RS,iz,b,kk,u⟩:=D;refine ez hj λaT hz W=>?_;clear hj;obtain rfl:=aT;have hz:z+kk=12:=hz;have CD:kk<=12:=hz▸f9 _ _;haveI YL:u<=60:=aa W.hu (eh 5 CD);cases b with
   |false=>exactλc=>c ⟨rfl,YL,W.I,W.f rfl⟩
   |true=>
    refine aI (YH K qQ nY W) λy F0 hy=>?_
    refineλc=>c (zT hK (jZ xP h1)) (rE hK (H.off xP)) (.one (pF hK (H.off xP) hb dU)) .lst
     (.all (u3 (items:=(bg S).map iv) (λ_(d:FD)=>[("self",.obj sa 224 tP),("many",iv many),("rows",.ref rd),("is_turned",.bool d.b)]) (λi d N1=>N1=N.put rd (.dp (iL (bg S) d.RS) d.ep)/\Rw (oM S cst) many y ⟨RS,iz,true,kk,u⟩ i d)
      ⟨RS,iz,false⟩ rfl ⟨rfl,F0⟩ (λ_ _ _ _=>trivial) λi x d N1 hx hP G c=>?_)) (λd N1 e G c=>c ⟨d.RS,d.ep,d.b,kk+1,u+(bg S).length⟩ (z-1) ?_ ?_ rfl) nr
    ·obtain⟨I3,SI,bi⟩:=d;refine a9 hP λaT FF=>?_;clear hP;obtain rfl:=aT;rw[aF]at hx;refine aI (aJ.mp hx) λcc vt aT=>?_;obtain rfl:=aT;have sP:cc∈bg S:=a7 vt;have lW:=(l7 vt).1;have Ii:=FF.I;haveI g1:=jZ (x:=.dp (iL (bg S) I3) SI) xP h1;haveI g2:=jZ (x:=.dp (iL (bg S) I3) SI) xP h2;haveI g3:(N.put rd (.dp (iL (bg S) I3) SI)) rd=some (.dp (iL (bg S) I3) SI):=aL.bH _ _ _;haveI LW:=W.t rfl;have Ww:u+(i+1)<=60:=aa (df W.hu (aa lW i8)) (aa (dg (eh 5 LW) 5) (by decide));haveI RB:LC (bg S) I3 many 60:=⟨Ii.len,qQ,λc hc p hp=>aa (Ii.dep c hc p hp) (aa (cD _) Ww),
      λc hc p hp=>aa (T.m7 K p.2) ((Ii.val c hc p hp).2▸aa (Ii.cost c hc p hp) (aa (eh 48 Ww) (by decide))),by decide⟩
     refine c (zT hK g1) (B0 hK (H.off xP)) (.all (H7 hK (H.off xP) F sP λrs rs1 Wx rs3=>?_)) λ_ _ h=>h;intro G c;refine c .lst (.all (wT (cst:=cst) (RS:=I3) (many:=many) qQ trivial (λrow rL kk2 YM=>gen 14 λG c=>?_) ?_ ?_ λl hl=>?_)) λ_ _ h=>h
     ·refine a9 (K.rows cc sP row ((Wx row).mp rL)) λro1 ro2=>?_;refine c (sM hK g1 hK.sH rfl) (.all (Eo hK g1 g2 h3 g3 (Rz ro1) (OI ro1) ro2 nY RB OJ Rg λr hr=>?_)) λ_ _ h=>h;intro G c;exact c .lst (.one (fZ (l:=r) (v:=Rk.v) (λx=>x.v) trivial (aa (tV qQ (l:=[_]) (cD 1) hr) (by decide)) λx hx G c=>c dU)) (YM r hr)
     ·erw[g7,gW];exact aa (kW 100 rs3) (by decide)
     ·exactλrow rL r hr=>aa (tV qQ (l:=[_]) (cD 1) hr) (by decide)
     ·intro G c;refine rg (wP tm K Ii nY rs1 (λrow hr=>K.rows cc sP row ((Wx row).mp hr)) hl) λl' el ln Wy YN=>?_;have H8:l.length<=6:=aa (Ev qQ hl) (kW 2 rs3);haveI inh:Inhabited Rk:=⟨⟨0,"a",[]⟩⟩
      have Vn:∀{p:Nat×T},wM (oM S cst) I3 cc p->p.2.depth<=61:=λh=>aa (sV K Ii sP h).2.2 (aa Ww (by decide));have jT:∀x∈l,∃p,p.2.depth<=61/\x=rJ p:=λx hx=>by rw[el]at hx;refine aI (ak.mp hx) λp hp e=>?_;refine aI (Wy p hp) λrow a b=>?_;exact⟨p,Vn (wN.mpr ⟨row,(Wx row).mp a,b⟩),e.symm⟩
      refine c hK.iK (.all (ib (l:=l) (f:=Rk.v) (.inl rfl)
       (yI (d:=61) (a6 H8 (by decide)) (λx hx=>?_) (λx hx t ht=>?_) (by decide) λx hx z hz he=>?_) λls Vd Fz=>?_)) λ_ _ h=>h
      ·refine aI (jT x hx) λp _ aT=>?_;obtain rfl:=aT;exact p.2.uz
      ·refine aI (jT x hx) λp hp aT=>?_;obtain rfl:=aT;exact aa (bq (T.gP ht)) hp
      ·refine aI (jT x hx) λp _ aT=>?_;obtain rfl:=aT;refine aI (jT z hz) λq _ aT=>?_;obtain rfl:=aT;exact LB he
      ·intro G c;refine aI (HW tm K Ii nY sP rs1 Wx hl ⟨ls,Vd,Fz,rfl⟩) λr' er tr=>?_;refine a9 (Rx K qQ nY (z0 S) FF vt tr) λT1 T2=>?_;have hs:lb (N.put rd (.dp (iL (bg S) I3) SI)) (.lst (ls.map Rk.v)) none (some (iv many)) (.lst (r'.map λp=>(rJ p).v)):=by
        haveI e:(r'.map λp=>(rJ p).v)=(ls.map Rk.v).take many:=by rw[<-ga,er,ay];rfl
        erw[e];exact .GJ rfl (by erw[ag,Vd.length_eq];exact aa H8 (by decide))
       have d1:=Cc (m:=r') λp hp=>Vn (tr.sub p hp);haveI d2:=Cc (m:=I3 cc) λp hp=>aa (Ii.dep cc sP p hp) (aa (cD _) (aa Ww (by decide)));by_cases e:r'=I3 cc
       ·exact c hs (.dp g3 rfl (nU sP)) (.Te (c:=false) rfl rfl ⟨d1.1,d2.1,d1.2⟩ ⟨nofun,λq=>(q (by erw[e])).elim⟩) ⟨I3,SI,bi⟩ ⟨rfl,T1 e⟩ rfl
       ·refine c hs (.dp g3 rfl (nU sP)) (.Te (c:=true) rfl rfl ⟨d1.1,d2.1,d1.2⟩ ⟨λ_ q=>e (LU q),λ_=>rfl⟩) (.all (.Tf g3 rfl (by unfold iL;erw[ag];exact PY) λWz=>?_)) λ_ h=>h;intro G c;refine c ⟨ly I3 cc r',Wz,true⟩ ⟨?_,T2 e Wz⟩ rfl;erw[aL.nL,LV sP]
    ·refine a9 e λaT FF=>?_;clear e;obtain rfl:=aT;rw[ag]at FF;haveI LW:kk<=10:=W.t rfl;exact aR 0x1d7570528015a9098ad10812 rfl (by assumption) LW
    ·refine a9 e λaT FF=>?_;clear e;obtain rfl:=aT;rw[ag]at FF;haveI LW:kk<=10:=W.t rfl;exact⟨rfl,by show z-1+(kk+1)=12;exact aR 0x1d758ad14600928015a9098ad10812 rfl (by assumption) LW,Ry K qQ nY i8 W rfl FF hy⟩
  ·refine qw e λaT e1 e2 e3=>?_;clear e;obtain rfl:=aT;exact h rd D.ep D.RS D.u xP e3 e2 e1
end
end
section
noncomputable def tv(p:Nat×T):V:=.tup [iv p.1,p.2.v]
section
variable {Γ:Cx} (hK:cL Γ.K) {n:Nat} {N:aL} {A:r7} {S:g8} {R:List (ax×cA)} {k:KV} {ha:ax}
include hK
theorem Cd(H:HR N A S R)(F:nZ S){sa tP cd:ax}{kc:List (PK×V)}{MY:Nat}{cst:String->Nat}(C:qS cst){many:Nat}(h1:N tP=some (.at (qP ha A cd) 2))(h2:N cd=some (.dp kc MY))(h3:SF kc cst)
  (qQ:many<=2) (OJ:60<=n) (Rg:n<=1000) {a:Nat} (r6:a<S.rows.length)
  (h:∀l,jX many (sW (oM S cst) (root S.par a)) l->(∀p∈l,p.2.depth<=60/\p.1<=2928)->k (.lst (l.map tv)) N):aV Γ (n+7) (.ref 221) [.obj sa 224 tP,iv a,iv many] N k:=by
 revert hK H F C h1 h2 h3 qQ OJ Rg;exists Γ,n,N,A,S,R,k,ha,sa,tP,cd,kc,MY,cst,many,a;haveI hb:S.par.length<=1000:=F.fit.len▸aa F.oF (by decide);refine ck hK.X4 rfl λG=>?_;by_cases hm:many=0
 ·subst hm
  exactλc=>c (.ltI (c:=true) ⟨λ_=>Int.one_pos,λ_=>rfl⟩) true (eO.ret (h [] ⟨pN,aG _,nofun,λp hp=>.inr ⟨rfl,nofun⟩⟩ nofun))
 ·haveI nY:1<=many:=Nat.pos_of_ne_zero hm
  refineλc=>c (.ltI (c:=false) ⟨nofun,λq=>(Int.not_lt.mpr (fD.mpr nY) q).elim⟩) (sM hK h1 hK.pv rfl) (.all (xO hK H F C h1 h2 h3 nY qQ OJ Rg λrd ep RS u xP Cb I hu=>?_)) λ_ _ h=>h
  intro G c;haveI sP:=f6 F.fit r6;haveI hlen:(RS (root S.par a)).length<=2:=aa (I.len _ sP) qQ;refine c (zT hK (jZ xP h1)) (eH hK (H.off xP)) (.one (eu hK (H.off xP) F.fit.po (F.fit.len▸r6) hb dU)) (.dp (aL.bH _ _ _) rfl (nU sP)) .lst
   (.one (fZ (l:=RS (root S.par a)) (v:=λp=>(rJ p).v) tv trivial (aa hlen (by decide)) λp hp G c=>c (.tup (j:=0) (x:=iv p.1) rfl) (.tup (j:=2) (x:=p.2.v) (by erw[T.pD];rfl)) dU)) ⟨_,_,.drop _ _ rd,?_⟩
  erw[aL.wv xP];exact h _ (dY.top I Cb sP) λp hp=>⟨aa (I.dep _ sP p hp) hu,aa (I.cost _ sP p hp) (eh 48 (aw hu))⟩
theorem Ew(h:∀sa tP,N tP=none->k (.obj sa 224 tP) (N.put tP (.at (cf.set (cf.set gu "heap" hv) "costs" (.ref cd)) 2))):aV Γ (n+2) (.ref 224) [hv,.ref cd] N k:=by
 refine nE.call (call_cls (f:=206) hK.D9 hK.BN hK.BO hK.Ea λa dx ha RA dM=>?_);refine sy hK.X1 rfl (Ss (a:=14) (m:=40) λG=>?_)
 refineλc=>c ⟨hK.mX,hK.pw,aL.bH _ _ _,by decide⟩ ⟨hK.mX,hK.on,aL.bH _ _ _,by decide⟩ (eO.next ⟨rfl,?_⟩)
 erw[aL.nL,aL.nL];exact h a dx RA
end
end
section
theorem Ce{nd:Nat->List Row}(h:js nd t c):∃ps:List (T×Nat),t.kids=ps.map (·.1)/\⟨t.op,ps.map (·.2)⟩∈nd c/\∀p∈ps,js nd p.1 p.2:=by
 cases t with
 |a=>exact⟨[],rfl,h,λ_ q=>absurd q bx⟩
 |b=>exact⟨[],rfl,h,λ_ q=>absurd q bx⟩
 |f x=>exact aI h λd h1 h2=>⟨[(x,d)],rfl,h1,λp q=>ao.mp q▸h2⟩
 |g x y=>exact fc h λd e h1 h2 h3=>⟨[(x,d),(y,e)],rfl,h1,λp q=>(aq.mp q).elim (λq=>q▸h2) λq=>ao.mp q▸h3⟩
theorem z4(l:List Nat):V.fw (l.map iv)=true:=dX.mpr λx hx=>by refine iu hx λn _=>?_;rfl
theorem Gd(l:List Nat):V.jB (l.map iv)<=150:=en.mpr λx hx=>by refine iu hx λn _=>?_;exact aG _
section
variable {Γ:Cx} (hK:cL Γ.K) {n:Nat} {N:aL} {A:r7} {S:g8} {R:List (ax×cA)} {k:KV} {ha:ax}
include hK
theorem uD(H:HR N A S R)(F:nZ S){d:Nat}{t:T}{c:Nat}{ps:List (T×Nat)}(e1:t.kids=ps.map (·.1))(e2:⟨t.op,ps.map (·.2)⟩∈km S c)(ih:∀p∈ps,∀k:KV,k (iv p.2) N->aV Γ (d+3) (.ref 476) [.obj ha 438 A.dx,p.1.v] N k)(h:k (iv c) N):
  aV Γ (d+4) (.ref 476) [.obj ha 438 A.dx,t.v] N k:=by
 revert hK H F;exists Γ,N,A,S,R,k,ha,d,t,c,ps;have hb:S.rows.length<=1000:=aa F.oF (by decide);haveI yJ:S.par.length<=1000:=F.fit.len▸hb;haveI kX:=t.pC;haveI I1:ps.length<=2:=by rw[e1,ag]at kX;exact kX
 refine cQ (jq.mp e2) λm m1 m2 m3=>?_;exists m;haveI e0:t.kids.map T.v=ps.map λp=>p.1.v:=by erw[e1,ay];rfl
 haveI x2:ps.map (λp=>iv p.2)=(ps.map (·.2)).map iv:=by erw[ay];rfl
 have sub:lb N t.v (some (.int ((1:Nat):Int))) none (.tup (ps.map λp=>p.1.v)):=by rw[T.v_eq,<-e0];exact .y4 (a:=1) (ap 1) (bP _) (aa (aw (by erw[ag];exact kX)) (by decide))
 refine ck hK.Yr rfl λG c'=>c' sub .tup (.one (fZ (l:=ps) (v:=λp=>p.1.v) (λp:T×Nat=>iv p.2) trivial (aa I1 (by decide)) λp hp G c=>c hK.ur (.one (ih p hp _ dU)) dU))
  hK.iQ (Ou hK H) (.one (Lu hK H hb dU)) (b:=S.rows.length) rfl (aa hb (by decide))
  (.all (FU (λ_(_:Unit)=>[("heap",.obj ha 438 A.dx),("term",t.v),("kids",.lst (ps.map λp=>iv p.2))]) (λi _ N'=>N'=N/\∀j<i,bl S j≠⟨t.op,ps.map (·.2)⟩) (R:=λv N'=>v=iv c/\N'=N) () rfl ⟨rfl,nofun⟩ (λ_ _ _ _=>trivial) λi x _ N' hx hP G=>?_))
  (λ_ N' e G _=>absurd m3 (e.2 m (by erw[ag,aO];exact m1))) λv N' e G c=>c (eO.ret ?_)
 ·revert hx hP;exists i,x,N',G,_;intro hx hP;refine a9 hP λaT g4=>?_;clear hP;obtain rfl:=aT;rw[aF]at hx;exists G,_;refine aI (aJ.mp hx) λi' uf aT=>?_;exists i',_;intro uf aT;obtain rfl:=aT;refine bz (l7 uf) λhi e=>?_;rw[je]at e;subst e;rw[aO]at hi;haveI hf:=F.fit.tN i hi;haveI top:gy N' t.v (.int ((0:Nat):Int)) (.str t.op):=by erw[T.v_eq];exact .tup rfl
  have T6:bl S i≠⟨t.op,ps.map (·.2)⟩->∀j<i+1,bl S j≠⟨t.op,ps.map (·.2)⟩:=λq j hj=>(oa.mp hj).elim (g4 j) λe=>e▸q;haveI x1:(S.row i).kids.map (λc=>iv (root S.par c))=(bl S i).kids.map iv:=by erw[bl,ay];rfl
  haveI oc:∀xs ys:List Nat,uc (xs.map iv) (ys.map iv):=λxs ys=>⟨z4 _,z4 _,Gd _⟩
  haveI mid:∀{q:Bool},Tr q ((bl S i).kids=ps.map (·.2))->dA N' .Eq (.lst ((S.row i).kids.map λc=>iv (root S.par c))) (.lst (ps.map λp=>iv p.2)) q:=λ{q}hq=>by erw[x1,x2];exact .W4 rfl rfl (oc _ _) (hq.trans ⟨λe=>congrArg _ e,Ow⟩)
  by_cases ho:(S.row i).op=t.op
  ·by_cases GT:(bl S i).kids=ps.map (·.2)
   ·haveI hce:bl S i=⟨t.op,ps.map (·.2)⟩:=by show Row.mk (S.row i).op (bl S i).kids=_;erw[ho,GT]
    haveI e:root S.par i=c:=(F.closed i m hi m1 (hce.trans m3.symm)).trans m2
    exactλc'=>c' (nS hK H) (FZ hK H) (.one (zR hK H hi hb dU)) top (.Tc (c:=true) ⟨λ_=>congrArg _ ho,λ_=>rfl⟩) (nS hK H) (zN hK H) (.one (wK hK H hi hb hf dU)) .tup
     (.one (fZ (λc=>iv (root S.par c)) trivial (aa hf (by decide)) λc hc G c'=>c' (eH hK H) (.one (eu hK H F.fit.po (F.fit.len▸bK (F.fit.kids i hi c hc) hi) yJ dU)) dU)) (mid (q:=true) ⟨λ_=>GT,λ_=>rfl⟩)
     (eH hK H) (.one (eu hK H F.fit.po (F.fit.len▸hi) yJ dU)) ⟨congrArg iv e,rfl⟩
   ·exactλc'=>c' (nS hK H) (FZ hK H) (.one (zR hK H hi hb dU)) top (.Tc (c:=true) ⟨λ_=>congrArg _ ho,λ_=>rfl⟩) (nS hK H) (zN hK H) (.one (wK hK H hi hb hf dU)) .tup
     (.one (fZ (λc=>iv (root S.par c)) trivial (aa hf (by decide)) λc hc G c'=>c' (eH hK H) (.one (eu hK H F.fit.po (F.fit.len▸bK (F.fit.kids i hi c hc) hi) yJ dU)) dU)) (mid (q:=false) ⟨nofun,λq=>(GT q).elim⟩)
     () ⟨rfl,T6 λe=>GT (by erw[e])⟩ rfl
  ·exactλc'=>c' (nS hK H) (FZ hK H) (.one (zR hK H hi hb dU)) top (.Tc (c:=false) ⟨nofun,λq=>(ho ((nM _ _).mp q)).elim⟩) () ⟨rfl,T6 λe=>ho (congrArg Row.op e)⟩ rfl
 ·refine a9 e λaT il=>?_;clear e;obtain rfl:=aT;obtain rfl:=il;exact h
theorem H9(H:HR N A S R)(F:nZ S):∀(d:Nat)(t:T)(c:Nat)(k:KV),t.depth<=d->c∈bg S->js (km S) t c->k (iv c) N->aV Γ (d+4) (.ref 476) [.obj ha 438 A.dx,t.v] N k:=by
 intro d;induction d with
 |zero=>intro t c k hd hc ht h;refine cQ (Ce ht) λps e1 e2 e3=>?_;refine uD hK H F e1 e2 (λp hp=>?_) h;exact absurd (aY (T.gP (t:=t) (x:=p.1) (by erw[e1];exact ak.mpr ⟨p,hp,rfl⟩)) hd) (dh _)
 |succ d ih=>intro t c k hd hc ht h;have K:=wS F (cst:=λ_=>1) ⟨λ_ _=>ap _,λ_ _=>by decide⟩;refine cQ (Ce ht) λps e1 e2 e3=>?_;refine uD hK H F e1 e2 (λp hp k h=>ih p.1 p.2 k ?_ ((K.rows c hc _ e2).2 p.2 (ak.mpr ⟨p,hp,rfl⟩)) (e3 p hp) h) h;exact e9 (aY (T.gP (t:=t) (x:=p.1) (by erw[e1];exact ak.mpr ⟨p,hp,rfl⟩)) hd)
end
end
section
noncomputable def fq(cs:List Nat)(LS:Nat->List Nat):List (PK×V):=cs.map λ(c:Nat)=>(.i (c:Int),.lst ((LS c).map iv))
theorem jH{cs:List Nat}{LS:Nat->List Nat}{c:Nat}(hc:c∈cs):dT (fq cs LS) (.i (c:Int))=some (.lst ((LS c).map iv)):=by
 exists cs,LS,c;unfold dT fq;induction cs with
 |nil=>cases hc
 |cons x cs ih=>
  by_cases e:x=c
  ·subst e;simp
  ·have Nm:c∈cs:=by
    rcases aq.mp hc with h |h
    ·exact absurd h.symm e
    ·exact h
   have h:=ih Nm;erw[aP,dq (by simp;lia)];exact h
noncomputable def wU(LS:Nat->List Nat)(c:Nat)(l:List Nat):Nat->List Nat:=λx=>if x=c then l else LS x
theorem LX{cs:List Nat}{LS:Nat->List Nat}{c:Nat}(hc:c∈cs)(l:List Nat):dG (fq cs LS) (.i (c:Int)) (.lst (l.map iv))=fq cs (wU LS c l):=by
 revert hc;exists cs,LS,c,l;unfold dG;have oD:(fq cs LS).any (λp=>decide (p.1=PK.i (c:Int)))=true:=cF.mpr ⟨_,ak.mpr ⟨c,hc,rfl⟩,by simp⟩;erw[if_pos oD];unfold fq;erw[ay];refine bf λx _=>?_;exists x;show(if PK.i (x:Int)=PK.i (c:Int) then _ else _)=_;by_cases q:x=c
 ·subst q;erw[if_pos rfl];simp[wU]
 ·erw[if_neg (λe=>q (by injection e with e;lia))];simp[wU,q]
theorem z5{cs:List Nat}{LS:Nat->List Nat}{c:Nat}(hc:c∉cs)(l:List Nat):dG (fq cs LS) (.i (c:Int)) (.lst (l.map iv))=fq (cs++[c]) (wU LS c l):=by
 unfold dG;haveI oD:¬(fq cs LS).any (λp=>decide (p.1=PK.i (c:Int)))=true:=λh=>by
  refine aI (cF.mp h) λp hp he=>?_;refine aI (ak.mp hp) λx hx aT=>?_;obtain rfl:=aT;have:=of_decide_eq_true he;injection this with this;have:x=c:=by lia
  exact hc (this▸hx)
 erw[if_neg oD];unfold fq;erw[az]
 congr 1
 ·refine bf λx hx=>?_;have:x≠c:=λe=>hc (e▸hx);simp[wU,this]
 ·simp[wU]
theorem Ex{l:List Nat}{ns:List Int}(h:∀x,x∈ns↔x∈l.map λ(n:Nat)=>(n:Int))(hn:ns.Nodup):∃l':List Nat,ns.map V.int=l'.map iv/\l'.Nodup/\∀x,x∈l'↔x∈l:=by
 obtain⟨as,rfl,has⟩:=wJ (f:=λ(n:Nat)=>(n:Int)) (P:=λn=>n∈l) (l:=ns) λx hx=>by refine aI (ak.mp ((h x).mp hx)) λn hn aT=>?_;obtain rfl:=aT;exact⟨n,rfl,hn⟩
 refine⟨as,by erw[ay];rfl,ni _ (λa b h e=>h (by erw[e])) hn,λx=>⟨has x,λhx=>?_⟩⟩;have:=(h (x:Int)).mpr (ak.mpr ⟨x,hx,rfl⟩);refine aI (ak.mp this) λy hy e=>?_;have:y=x:=by lia
 exact this▸hy
section
variable {Γ:Cx} {n:Nat} {N:aL} {k:KV}
theorem n4{v:V}{l:List Nat}(hs:d9 N v=some (l.map iv))(hb:l.length<=1000)(h:∀l':List Nat,l'.Nodup->(∀x,x∈l'↔x∈l)->k (.set (!cP Γ.w) (l'.map iv)) N):aV Γ n (.type "set") [v] N k:=by refine zy (ns:=l.map λ(n:Nat)=>(n:Int)) (by erw[hs,ay];rfl) (by erw[ag];exact hb) λns h1 h2=>?_;refine cQ (Ex h2 h1) λl' e h3 h4=>?_;erw[e];exact h l' h3 h4
theorem ko(hb:l.length<64)(h:∀l':List Nat,l'.Perm l->l'.Pairwise (· <=·)->k (.lst (l'.map iv)) N):aV Γ n (.builtin "sorted") [.set (!cP Γ.w) (l.map iv)] N k:=ib (l:=l) (f:=iv) (.inr rfl) (rF hb) λl' h1 h2=>h l' h1 (rG h2)
end
end
section
noncomputable def Ey(S:g8)(cs:List Nat)(LS:Nat->List Nat):Prop:=∀c∈cs,(LS c).length<=10/\∀d∈LS c,d∈bg S/\Rp (km S) c d
noncomputable def wV(S:g8)(c:Nat):List Nat:=S.rows.zipIdx.flatMap λp=>if root S.par p.2=c then p.1.kids.map (root S.par) else []
theorem Ia:(S.rows.zipIdx.flatMap λp:Row×Nat=>if root S.par p.2=c then(p.1.kids.map (root S.par)).map iv else [])=(wV S c).map iv:=by
 erw[wV,dw]
 congr 1;funext p
 split<;>rfl
theorem Cf(F:nZ S)(c:Nat):(wV S c).length<=10:=by
 revert F;exists S,c;haveI h5:=F.oF;have:∀l:List (Row×Nat),(∀p∈l,p.1.kids.length<=2)->(l.flatMap λp=>if root S.par p.2=c then p.1.kids.map (root S.par) else []).length<=l.length*2:=by
  intro l;induction l with
  |nil=>intro _;simp
  |cons x l ih=>
   intro hl;haveI h1:=hl x (.head _);haveI h2:=ih λd hd=>hl d (.tail _ hd);erw[aX,an,aU,jP];split
   ·erw[ag];exact aR 0x1d7564615610d10815958430968413 rfl h1 h2
   ·erw[g7];exact aR 0x1d5918558424417d65610812 rfl h2
 haveI h2:=this S.rows.zipIdx λp hp=>by haveI OK:=fH hp;have:=F.fit.tN p.2 OK.1;rw[g8.row,ar,aE OK.1]at this;erw[OK.2];exact this
 rw[eK]at h2;unfold wV;exact aR 0x1d756a425958410969012 rfl h5 h2
theorem OL(F:nZ S)(h:d∈wV S c):d∈bg S/\Rp (km S) c d:=by
 revert F;exists S,c,d;refine aI (bn.mp h) λp hp hd=>?_;exists p;haveI OK:=fH hp;haveI rL:p.1=S.row p.2:=by erw[g8.row,ar,aE OK.1];exact OK.2
 split at hd
 ·rename_i q;refine iu hd λk hk=>?_;exists k;rw[rL]at hk;haveI LY:=F.fit.kids p.2 OK.1 k hk;refine⟨f6 F.fit (by have:=OK.1;lia),.one ⟨bl S p.2,jq.mpr ⟨p.2,OK.1,q,rfl⟩,ak.mpr ⟨k,hk,rfl⟩⟩⟩
 ·cases hd
theorem OM{c:Nat}{l:List Nat}:iv c∈l.map iv↔c∈l:=⟨λq=>by refine aI (ak.mp q) λx hx e=>?_;rw[<-Em e];exact hx,λq=>ak.mpr ⟨c,q,rfl⟩⟩
theorem Vo{N:aL}{c:Nat}{l:List Nat}{b:Bool}(h:Tr b (c∈l)):dA N .In (iv c) (.lst (l.map iv)) b:=.ZT rfl rfl (z4 l) (aG _) (h.trans OM.symm)
structure LDt where
 LS:Nat->List Nat
 ep:Nat
theorem zip_rows(S:g8):gz (S.rows.map Row.v)=S.rows.zipIdx.map λp=>V.tup [iv p.2,p.1.v]:=by erw[gz,List.zipIdx_map,ay];rfl
theorem Ge{S:g8}{p:Row×Nat}(h:p∈S.rows.zipIdx):p.2<S.rows.length/\p.1=S.row p.2:=by refine a9 (fH h) λa b=>?_;refine⟨a,?_⟩;erw[g8.row,ar,aE a];exact b
theorem Ib(LS:Nat->List Nat)(c:Nat)(l:List Nat):wU LS c l c=l:=if_pos rfl
theorem ON(LS:Nat->List Nat)(l:List Nat)(h:x≠c):wU LS c l x=LS x:=if_neg h
theorem Ey.upd{LS:Nat->List Nat}(h:Ey S cs LS)(hl:l.length<=10/\∀d∈l,d∈bg S/\Rp (km S) c d)(hc:∀d∈cs',d=c\/d∈cs):Ey S cs' (wU LS c l):=λd hd=>by
 by_cases q:d=c
 ·subst q;erw[Ib];exact hl
 ·erw[ON _ _ q];exact h d ((hc d hd).resolve_left q)
theorem Ic{LS LS':Nat->List Nat}:(fq cs LS').map (·.1)=(fq cs LS).map (·.1):=by erw[fq,fq,ay,ay];rfl
theorem OO(cs:List Nat)(LS:Nat->List Nat):((fq cs LS).map λp=>p.1.v)=cs.map iv:=by erw[fq,ay];rfl
theorem OP{LS:Nat->List Nat}:∀{l:List Nat},(∀d∈l,(LS d).length<=m)->(l.flatMap LS).length<=l.length*m:=by
 intro l;induction l with
 |nil=>intro _;exact aG _
 |cons x l ih=>intro h;erw[aX,an,aU,jP,gU];exact df (ih λd hd=>h d (.tail _ hd)) (h x (.head _))
theorem Ie{LS:Nat->List Nat}:∀(l:List Nat),(l.flatMap λc=>if c∈LS c then [iv c] else [])=(l.filter λc=>decide (c∈LS c)).map iv:=by
 intro l;induction l with
 |nil=>exact rfl
 |cons x l ih=>
  erw[aX,ih,cV];by_cases q:x∈LS x
  ·erw[if_pos q,if_pos (decide_eq_true q)];rfl
  ·erw[if_neg q,if_neg (by erw[decide_eq_false q];exact bU)];rfl
theorem yK:Tr (!l.isEmpty) (l≠[]):=by
 cases l with
 |nil=>exact⟨nofun,λh=>(h rfl).elim⟩
 |cons x l=>exact⟨λ_=>nofun,λ_=>rfl⟩
section
variable {Γ:Cx} {n:Nat} {sc:Sc} {N:aL} {α:Type} {l:List α} {v:α->V} {st:aL->Prop} {g:bh} {gs:List bh} {elt:Expr} {ρ:fN}
theorem Gf(hi:items=l.map v)(f:α->List V)(he:l.flatMap f=r)(hs:st N)(hb:r.length<=gS)(step:∀x∈l,∀G,Bd Γ n (rX Γ n 14) sc g gs elt ρ (v x) N (λG vs N'=>Is (f x) N vs N'->G) G->G):c9 st (λx N2 kk=>gG Γ n sc g gs elt ρ.fn x N2 kk) items [] N (Is r N):=by subst hi;exact BV f he hs hb step
end
section
variable {Γ:Cx} (hK:cL Γ.K) {n:Nat} {N:aL} {A:r7} {S:g8} {R:List (ax×cA)} {k:KV} {ha:ax}
include hK
theorem Ig(H:HR N A S R)(F:nZ S){lr:ax}(M2:N lr=some (.list (S.rows.map Row.v))){g:Nat}(hg:g∈bg S)(h:∀b:Bool,(b=true->∃c,Rp (km S) c c/\(g=c\/Rp (km S) g c))->k (.bool b) N):
  aV Γ (n+6) (.ref 481) [.obj ha 438 A.dx,.ref lr,iv g] N k:=by
 revert hK H F M2;exists Γ,n,N,A,S,R,k,ha,lr,g;have hb:S.par.length<=1000:=F.fit.len▸aa F.oF (by decide);haveI K:=wS F (cst:=λ_=>1) ⟨λ_ _=>ap _,λ_ _=>by decide⟩;have i8:(bg S).length<=5:=K.len;have PY:(bg S).length<=gS:=aa i8 (by decide);haveI b10:∀{l:List Nat},l.length<=10->l.length<=gS:=λh=>aa h (by decide);haveI Es:∀LS,(fq (bg S) LS).length<=gS:=λLS=>by erw[fq,ag];exact PY
 refine ck hK.Ys rfl λG c=>c true λld ep LZ G c=>c (rE hK (H.off LZ)) (.one (pF hK (H.off LZ) hb dU)) .lst
  (.all (u3 (items:=(bg S).map iv) (λ_(_:LDt)=>[("heap",.obj ha 438 A.dx),("rows",.ref lr),("goal",iv g),("leads",.ref ld)]) (λi d N'=>N'=N.put ld (.dp (fq ((bg S).take i) d.LS) d.ep)/\Ey S ((bg S).take i) d.LS) ⟨λ_=>[],ep⟩ rfl ⟨rfl,nofun⟩ (λ_ _ _ _=>trivial) λi x d N' hx hP G c=>?_))
  (λd N' e G c=>?_) nr
 ·refine a9 hP λaT L0=>?_;clear hP;obtain rfl:=aT;obtain⟨LS,iz⟩:=d;rw[aF]at hx;refine aI (aJ.mp hx) λcc vt aT=>?_;obtain rfl:=aT;refine bz (l7 vt) λlW Vp=>?_;have Q6:(bg S).take (i+1)=(bg S).take i++[cc]:=by erw[bJ lW,Vp]
  haveI SJ:cc∉(bg S).take i:=λhm=>by obtain⟨j,hj,e⟩:=dC.mp hm;haveI PA:=aY hj (cS _ _);haveI fY:=b8.mp (z0 S) j i (bK PA lW) lW PA;rw[e,Vp]at fY;exact gj _ fY
  haveI g1:=jZ (x:=.dp (fq ((bg S).take i) LS) iz) LZ M2;haveI g2:(N.put ld (.dp (fq ((bg S).take i) LS) iz)) ld=some (.dp (fq ((bg S).take i) LS) iz):=aL.bH _ _ _;refine c hK.pj (.ref g1) (.one (Gf (zip_rows S) (λp=>if root S.par p.2=cc then(p.1.kids.map (root S.par)).map iv else []) Ia g1 (by erw[ag];exact b10 (Cf F cc)) λp hp G=>?_))
   (.all (.Tf g2 rfl (by erw[fq,ag,cG];exact aa (xh _ _) PY) λWz=>?_)) λ_ h=>h
  ·refine a9 (Ge hp) λCG rL=>?_;haveI rH:=F.fit.tN p.2 CG;haveI fo:aV Γ (n+5) (.ref 362) [.obj ha 438 A.dx,iv p.2] (N.put ld (.dp (fq ((bg S).take i) LS) iz)) (Is (iv (root S.par p.2)) _):=eu hK (H.off LZ) F.fit.po (F.fit.len▸CG) hb dU;by_cases q:root S.par p.2=cc
   ·erw[if_pos q]
    refineλc=>c rfl (eH hK (H.off LZ)) (.one fo) (eqT q) (.y4 (a:=1) (ap 1) (bP _) (aa (aw (by erw[ag,rL];exact rH)) (by decide))) .tup
     (.one (fZ (l:=p.1.kids) (v:=iv) (λd=>iv (root S.par d)) trivial (by erw[rL];exact aa rH (by decide)) λd hd G c=>c (eH hK (H.off LZ)) (.one (eu hK (H.off LZ) F.fit.po (F.fit.len▸bK (F.fit.kids p.2 CG d (rL▸hd)) CG) hb dU)) dU)) ⟨?_,rfl⟩
    erw[ay];rfl
   ·erw[if_neg q]
    exactλc=>c rfl (eH hK (H.off LZ)) (.one fo) (CM q) dU
  ·intro G c;refine c ⟨wU LS cc (wV S cc),Wz⟩ ⟨?_,L0.upd ⟨Cf F cc,λe he=>OL F he⟩ λd hd=>?_⟩ rfl
   ·erw[z5 SJ (wV S cc),aL.nL,Q6]
   ·rw[Q6]at hd;exact(aH.mp hd).symm.imp ao.mp id
 ·refine a9 e λaT L0=>?_;clear e;obtain rfl:=aT;obtain⟨LS,iz⟩:=d;rw[ag,cX]at *;haveI g2:∀LS,(N.put ld (.dp (fq (bg S) LS) iz)) ld=some (.dp (fq (bg S) LS) iz):=λLS=>aL.bH _ _ _;have gf:∀{LS:Nat->List Nat}(i:Nat)(d:Nat->List Nat)(N':aL),(N'=N.put ld (.dp (fq (bg S) d) iz)/\Ey S (bg S) d)->∃xz,N' ld=some (.dp xz iz)/\xz.map (·.1)=(fq (bg S) LS).map (·.1):=λi d N' h=>⟨fq (bg S) d,h.1▸g2 d,Ic⟩
  refine c (.keys (g2 LS)) (.all (u3 (λ_(_:Nat->List Nat)=>[("heap",.obj ha 438 A.dx),("goal",iv g),("leads",.ref ld)]) (λi d N'=>N'=N.put ld (.dp (fq (bg S) d) iz)/\Ey S (bg S) d) LS rfl ⟨rfl,L0⟩ gf λi x L4 N' hx hP G c=>?_)) (λL4 N' e G c=>?_) nr
  ·refine a9 hP λaT YO=>?_;clear hP;obtain rfl:=aT;refine c (.keys (g2 L4)) (.all (u3 (λ_(_:Nat->List Nat)=>[("heap",.obj ha 438 A.dx),("goal",iv g),("leads",.ref ld)]) (λi d N'=>N'=N.put ld (.dp (fq (bg S) d) iz)/\Ey S (bg S) d) L4 rfl ⟨rfl,YO⟩ gf λj x xQ N' hx hP G c=>?_)) (λxQ N' e G c=>c xQ e rfl) nr;refine a9 hP λaT WA=>?_;clear hP;obtain rfl:=aT;rw[OO,aF]at hx;refine aI (aJ.mp hx) λcc vt aT=>?_;obtain rfl:=aT;haveI sP:cc∈bg S:=a7 vt;refine a9 (WA cc sP) λhlc RE=>?_;have su:∀d∈xQ cc,(xQ d).length<=10:=λd hd=>(WA d (RE d hd).1).1;haveI TN:((xQ cc).flatMap xQ).length<=100:=aa (OP su) (kW 10 hlc);haveI Vq:(xQ cc).length+((xQ cc).flatMap xQ).length<=110:=df hlc TN;refine c hK.iK hK.FS (.dp (g2 xQ) rfl (jH sP)) (.dp (g2 xQ) rfl (jH sP)) .lst
    (.one (BV (l:=xQ cc) (v:=iv) (λd=>(xQ d).map iv) dw.symm trivial (by erw[ag];exact aa TN (by decide)) λd hd G c=>c (.dp (g2 xQ) rfl (jH (RE d hd).1)) .lst
     (.one (fZ (l:=xQ d) (v:=iv) iv trivial (b10 (su d hd)) λe he G c=>c dU)) dU)) (.bC rfl rfl (by erw[ag,ag];exact aa Vq (by decide)))
    (.all (n4 (l:=xQ cc++(xQ cc).flatMap xQ) (congrArg some az.symm) (by erw[an];exact aa Vq (by decide)) λl1 n1 m1=>?_)) λ_ _ h=>h
   intro G c;have qH:∀d∈l1,d∈bg S/\Rp (km S) cc d:=λd hd=>by
    rcases aH.mp ((m1 d).mp hd) with q |q
    ·exact RE d q
    ·refine aI (bn.mp q) λe he hd2=>?_;refine a9 (RE e he) λa1 a2=>?_;refine a9 ((WA e a1).2 d hd2) λb1 b2=>?_;exact⟨b1,a2.trans b2⟩
   have Gg:l1.length<=5:=aa (fG n1 λd hd=>(qH d hd).1) i8;refine c (.all (ko (l:=l1) (a6 Gg (by decide)) λl2 p2 _=>?_)) λ_ _ h=>h;intro G c;refine c (.one (.W5 (g2 xQ) rfl (Es xQ) ?_)) (wU xQ cc l2) ⟨?_,WA.upd ⟨by erw[p2.length_eq];exact aa Gg (by decide),λe he=>qH e (p2.mem_iff.mp he)⟩ λd hd=>.inr hd⟩ rfl
   ·erw[fq,ay];exact ak.mpr ⟨cc,sP,rfl⟩
   ·erw[LX sP l2,aL.nL]
  ·refine a9 e λaT hL1=>?_;clear e;obtain rfl:=aT;refine a9 (hL1 g hg) λEz Wb=>?_;have D4:∀c∈L4 g++[g],c∈bg S:=λc WB=>(aH.mp WB).elim (λq=>(Wb c q).1) λq=>ao.mp q▸hg;haveI hlb:(L4 g++[g]).length<=gS:=by erw[an];exact aa (dg Ez 1) (by decide)
   refine c (.dp (g2 L4) rfl (jH hg)) true (.bC rfl rfl (by erw[ag];exact aa (dg Ez 1) (by decide))) .lst
    (.one (Gf (l:=L4 g++[g]) (v:=iv) (az (l₂:=[g])).symm (λc=>if c∈L4 c then [iv c] else []) (Ie _) trivial (by erw[ag];exact aa (cZ _ _) hlb) λcc WB G=>?_)) true (.Te rfl rfl ⟨z4 _,rfl,Gd _⟩ yK) ⟨_,_,.drop _ _ ld,?_⟩
   ·by_cases q:cc∈L4 cc
    ·erw[if_pos q];exactλc=>c (.dp (g2 L4) rfl (jH (D4 cc WB))) (Vo (b:=true) ⟨λ_=>q,λ_=>rfl⟩) dU
    ·erw[if_neg q];exactλc=>c (.dp (g2 L4) rfl (jH (D4 cc WB))) (Vo (b:=false) ⟨nofun,λe=>(q e).elim⟩) dU
   ·erw[aL.wv LZ];refine h _ λhb=>?_;haveI dM:=yK.mp hb;refine bz (List.exists_mem_of_ne_nil _ dM) λx hxf=>?_;refine aI (ak.mp hxf) λcc hcf _=>?_;refine a9 (a8.mp hcf) λq1 q2=>?_;refine⟨cc,((hL1 cc (D4 cc q1)).2 cc (of_decide_eq_true q2)).2,?_⟩;exact(aH.mp q1).symm.imp (λq=>(ao.mp q).symm) λq=>(Wb cc q).2
end
end
section
noncomputable def jw(cells:List Int)(t:Nat)(b:Int)(ep:Nat):cA:=.dp [(.s "cells",.lst (cells.map V.int)),(.s "turn",iv t),(.s "blend",.int b)] ep
theorem wW(h:b<=a):jg N .Sub (iv a) (iv b) (iv (a-b)):=by have e:iv (a-b)=V.int ((a:Int)-(b:Int)):=congrArg V.int (Int.ofNat_sub h);erw[e];exact .vO
theorem Gh(hw:0<w):∃r:Nat,r<w/\jg N .Mod (.int x) (iv w) (iv r):=by haveI YP:(0:Int)<w:=jO.mpr hw;refine bz (CU (x7 x (EW YP))) λr hr=>?_;haveI h2:=t8 x YP;haveI m:jg N .Mod (.int x) (iv w) (.int (x % (w:Int))):=.Nj YP;rw[hr]at m h2;exact⟨r,jO.mp h2,m⟩
section
variable {Γ:Cx} (hK:cL Γ.K) {n:Nat} {N:aL} {k:KV}
include hK
theorem OQ{fd:ax}{cells:List Int}{t wide ep:Nat}{b:Int}(hN:N fd=some (jw cells t b ep))(ht:t<=1000)(hw:0<wide)(PW:wide<=1000)(i8:cells.length<=1000)(h:∀r,r<wide->k (iv r) (N.put fd (jw cells (t+1) b ep))):
  aV Γ (n+1) (.ref 449) [.ref fd,iv wide] N k:=by
 revert hK;exists Γ,n,N,k,fd,cells,t,wide,ep,b;haveI hM:(N.put fd (jw cells (t+1) b ep)) fd=some (jw cells (t+1) b ep):=aL.bH _ _ _;haveI hS:jC N fd (.str "turn") (iv (t+1)) (· =N.put fd (jw cells (t+1) b ep)):=.W5 (q:=.s "turn") hN rfl (by show 3<=gS;decide) (.tail _ (.head _));refine ck hK.Ym rfl λG=>?_;by_cases q:t+1<=cells.length
 ·refine aI (Gh (N:=N.put fd (jw cells (t+1) b ep)) (x:=cells[t]) hw) λr Al Vr=>?_;haveI e3:(cells.map V.int)[t]?=some (.int cells[t]):=by erw[aF,aE q];rfl
  exactλc=>c (.dp (q:=.s "turn") hN rfl rfl) .vN (.one hS) (.dp (q:=.s "turn") hM rfl rfl) hK.dH (.dp (q:=.s "cells") hM rfl rfl) (.one (eZ (xs:=cells.map V.int) rfl (sS _ i8) dU)) (.Sk (c:=true) ⟨λ_=>by erw[ag];exact fD.mpr q,λ_=>rfl⟩)
   (.dp (q:=.s "cells") hM rfl rfl) (wW (b:=1) (bP t)) (.lst rfl e3 (a6 ht (by decide))) Vr (eO.ret (h r Al))
 ·refine aI (Gh (N:=N.put fd (jw cells (t+1) b ep)) (x:=(5*((t+1:Nat):Int)*((t+1:Nat):Int)+11*((t+1:Nat):Int)+((t+1:Nat):Int) / 4+b) % 89) hw) λr Al Vr=>?_;haveI b1:small (5*((t+1:Nat):Int)):=by unfold small;lia
  exactλc=>c (.dp (q:=.s "turn") hN rfl rfl) .vN (.one hS) (.dp (q:=.s "turn") hM rfl rfl) hK.dH (.dp (q:=.s "cells") hM rfl rfl) (.one (eZ (xs:=cells.map V.int) rfl (sS _ i8) dU)) (.Sk (c:=false) ⟨nofun,λe=>(q (fD.mp (by rw[ag]at e;exact e))).elim⟩)
   (.Ni ⟨by decide,by decide⟩) (.Ni b1) (.Ni ⟨by decide,by decide⟩) .vN (.Ta (by decide) (by decide)) .vN (.dp (q:=.s "blend") hM rfl rfl) .vN (.Nj (by decide)) Vr (eO.ret (h r Al))
end
end
section
noncomputable def tW(nd:Nat->List Row):T->Row->Prop
 |.a,r=>r=⟨"a",[]⟩
 |.b,r=>r=⟨"b",[]⟩
 |.f x,r=>∃d,r=⟨"f",[d]⟩/\js nd x d
 |.g x y,r=>∃d e,r=⟨"g",[d,e]⟩/\js nd x d/\js nd y e
theorem OR{nd:Nat->List Row}{t:T}{c:Nat}:js nd t c↔∃r∈nd c,tW nd t r:=by
 exists nd,t,c;cases t with
 |a=>exact⟨λh=>⟨_,h,rfl⟩,λz=>aI z λr h e=>by have e:r=_:=e;subst e;exact h⟩
 |b=>exact⟨λh=>⟨_,h,rfl⟩,λz=>aI z λr h e=>by have e:r=_:=e;subst e;exact h⟩
 |f x=>exact⟨λz=>aI z λd h1 h2=>⟨_,h1,d,rfl,h2⟩,λz=>aI z λr h z=>aI z λd e h2=>by subst e;exact⟨d,h,h2⟩⟩
 |g x y=>exact⟨λz=>fc z λd e h1 h2 h3=>⟨_,h1,d,e,rfl,h2,h3⟩,λz=>aI z λr h z=>fc z λd e q h2 h3=>by subst q;exact⟨d,e,h,h2,h3⟩⟩
theorem Ih(K:rK G)(h:tW G.nd t r):G.cst r.op+r.kids.length<=t.cost G.cst:=by
 cases t with
 |a=>haveI h:r=_:=h;subst h;exact ap _
 |b=>haveI h:r=_:=h;subst h;exact ap _
 |f x=>refine aI h λd e _=>?_;clear h;subst e;have:=T.lz K x;simp only[T.cost,aU,g7];exact aR 0x1d59104245181f0960602 rfl this
 |g x y=>refine eQ h λd e q _=>?_;clear h;subst q;have:=T.lz K x;have:=T.lz K y;simp only[T.cost,aU,g7];exact aR 0x1d7564424410d14604607c35828160603 rfl (by assumption) this
noncomputable def m8(G:Gr)(p:Nat×Nat)(l:List T):Prop:=l.Nodup/\∀t,t∈l↔js G.nd t p.1/\t.cost G.cst=p.2
noncomputable def J4(S:g8)(cst:String->Nat)(c i:Nat)(L:Nat->List T):Prop:=∀n∈bg S,(L n).Nodup/\∀t,t∈L n↔t.cost cst=c/\∃j,j<i/\root S.par j=n/\tW (km S) t (bl S j)
section
variable {S:g8} (F:nZ S) {cst:String->Nat} (C:qS cst)
include F C
omit F C in
theorem J4.zero(c:Nat):J4 S cst c 0 (λ_=>[]):=λn _=>⟨cH,λt=>⟨(λh=>by cases h),λz=>a9 z λ_ z=>cQ z λj h _ _=>by lia⟩⟩
omit C in
theorem J4.seen{L:Nat->List T}(h:J4 S cst c i L)(hi:i<S.rows.length)(hj:j0<i)(he:bl S j0=bl S i):J4 S cst c (i+1) L:=λn hn=>by
 revert F h hi hj he;exists S,cst,c,i,j0,L,n;refine a9 (h n hn) λh1 h2=>?_;refine⟨h1,λt=>(h2 t).trans ⟨λz=>a9 z λa z=>cQ z λj b1 b2 b3=>⟨a,j,by exact aR 0x1d5d18020570812 rfl b1,b2,b3⟩,λz=>a9 z λa z=>cQ z λj b1 b2 b3=>?_⟩⟩;by_cases q:j=i
 ·subst q;have:=F.closed j0 j (by exact aR 0x1d7570835c10d70813 rfl hi hj) hi he;exact⟨a,j0,hj,by exact aR 0x1d7580836010d80813 rfl b2 this,by erw[he];exact b3⟩
 ·exact⟨a,j,by exact aR 0x75d5c205a6020574600812 rfl b1 q,b2,b3⟩
theorem J4.out{L:Nat->List T}(h:J4 S cst c i L)(rM:c<cst (bl S i).op+(bl S i).kids.length):J4 S cst c (i+1) L:=λn hn=>by
 revert F C h rM;exists S,cst,c,i,L,n;refine a9 (h n hn) λh1 h2=>?_;refine⟨h1,λt=>(h2 t).trans ⟨λz=>a9 z λa z=>cQ z λj b1 b2 b3=>⟨a,j,by exact aR 0x1d5d18020570812 rfl b1,b2,b3⟩,λz=>a9 z λa z=>cQ z λj b1 b2 b3=>?_⟩⟩;by_cases q:j=i
 ·subst q;have:=Ih (G:=oM S cst) (wS F C) b3;haveI e:(oM S cst).cst=cst:=rfl;rw[e,a]at this;lia
 ·exact⟨a,j,by exact aR 0x75d5c205a6020574600812 rfl b1 q,b2,b3⟩
theorem Ij{t:T}{i j:Nat}(hi:i<S.rows.length)(hj:j<S.rows.length)(h:tW (km S) t (bl S i))(h':tW (km S) t (bl S j)):bl S i=bl S j:=by
 revert F C;exists S,cst,t,i,j;have K:=wS F C;haveI tm:=Eu F (cst:=cst);have oq:∀m,m<S.rows.length->∀d∈(bl S m).kids,d∈(oM S cst).cs:=λm hm d hd=>(K.rows (root S.par m) (f6 F.fit hm) (bl S m) (jq.mpr ⟨m,hm,rfl,rfl⟩)).2 d hd;cases t with
 |a=>exact Eq.trans (show bl S i=_ from h) (show bl S j=_ from h').symm
 |b=>exact Eq.trans (show bl S i=_ from h) (show bl S j=_ from h').symm
 |f x=>refine aI h λd e1 e2=>?_;clear h;refine aI h' λd' PT OD=>?_;clear h';have:=jp tm K x d d' (oq i hi d (by erw[e1];exact .head _)) (oq j hj d' (by erw[PT];exact .head _)) e2 OD;erw[e1,PT,this]
 |g x y=>refine fc h λd e e1 e2 e3=>?_;clear h;refine fc h' λd' e' PT OD e3'=>?_;clear h';haveI a1:=jp tm K x d d' (oq i hi d (by erw[e1];exact .head _)) (oq j hj d' (by erw[PT];exact .head _)) e2 OD;haveI a2:=jp tm K y e e' (oq i hi e (by erw[e1];exact .tail _ (.head _))) (oq j hj e' (by erw[PT];exact .tail _ (.head _))) e3 e3';erw[e1,PT,a1,a2]
theorem J4.add{L:Nat->List T}(h:J4 S cst c i L)(hi:i<S.rows.length)(mV:∀j,j<i->bl S j≠bl S i)(hX:X.Nodup)(PZ:∀t,t∈X↔t.cost cst=c/\tW (km S) t (bl S i)):
  J4 S cst c (i+1) (λn=>if n=root S.par i then L n++X else L n):=λn hn=>by
 revert F C h hi mV hX PZ;exists S,cst,c,i,L,X,n;refine a9 (h n hn) λh1 h2=>?_;by_cases q:n=root S.par i
 ·simp only[if_pos q];refine⟨bI.mpr ⟨h1,hX,λa ha b hb e=>?_⟩,λt=>?_⟩
  ·revert ha;exists a,b;subst e;refine a9 ((h2 a).mp ha) λ_ aT=>?_;refine cQ aT λj hj _ hr=>?_;clear aT;exact mV j hj (Ij F C (by exact aR 0x1d7570835c10d70813 rfl hi hj) hi hr ((PZ a).mp hb).2)
  ·exists t;erw[aH,h2,PZ];constructor
   ·rintro(⟨a,j,b1,b2,b3⟩ |⟨a,b⟩)
    ·exact⟨a,j,by exact aR 0x1d5d18020570812 rfl b1,b2,b3⟩
    ·exact⟨a,i,by exact aR 6247416849 rfl,q.symm,b⟩
   ·rintro⟨a,j,b1,b2,b3⟩;exists j;by_cases e:j=i
    ·subst e;exact .inr ⟨a,b3⟩
    ·exact .inl ⟨a,j,by exact aR 0x75d5c205a6020574600812 rfl b1 e,b2,b3⟩
 ·simp only[if_neg q];refine⟨h1,λt=>(h2 t).trans ⟨λz=>a9 z λa z=>cQ z λj b1 b2 b3=>⟨a,j,by exact aR 0x1d5d18020570812 rfl b1,b2,b3⟩,λz=>a9 z λa z=>cQ z λj b1 b2 b3=>?_⟩⟩;by_cases e:j=i
  ·subst e;exact absurd b2.symm q
  ·exact⟨a,j,by exact aR 0x75d5c205a6020574600812 rfl b1 e,b2,b3⟩
omit F C in
theorem J4.spec{c:Nat}{L:Nat->List T}(h:J4 S cst c S.rows.length L){n:Nat}(hn:n∈bg S):m8 (oM S cst) (n,c) (L n):=by
 revert h;exists S,cst,c,L,n;refine a9 (h n hn) λh1 h2=>?_;refine⟨h1,λt=>(h2 t).trans ?_⟩;exists t;show _↔js (km S) t n/\t.cost cst=c;erw[OR];constructor
 ·rintro⟨a,j,b1,b2,b3⟩;exact⟨⟨bl S j,jq.mpr ⟨j,b1,b2,rfl⟩,b3⟩,a⟩
 ·rintro⟨⟨r,b1,b2⟩,a⟩;refine cQ (jq.mp b1) λj c1 c2 aT=>?_;obtain rfl:=aT;exact⟨a,j,c1,c2,b2⟩
end
noncomputable def lk(p:Nat×Nat):List PK:=[.i (p.1:Int),.i (p.2:Int)]
noncomputable def f8(KL:List (Nat×Nat))(LA:Nat×Nat->ax):List (List PK×V):=KL.map λp=>(lk p,.ref (LA p))
noncomputable def c6(KL:List (Nat×Nat))(LA:Nat×Nat->ax)(LT:Nat×Nat->List T):List (ax×cA):=KL.map λp=>(LA p,.list ((LT p).map T.v))
theorem L5(h:lk p=lk q):p=q:=by unfold lk at h;simp only[nv,PK.i.injEq,and_true]at h;exact Prod.ext (by lia) (by lia)
theorem ie{LA:Nat×Nat->ax}(hp:p∈KL):dT (f8 KL LA) (lk p)=some (.ref (LA p)):=by
 unfold dT f8;induction KL with
 |nil=>cases hp
 |cons x KL ih=>
  by_cases e:x=p
  ·subst e;simp
  ·have IX:p∈KL:=by
    rcases aq.mp hp with h |h
    ·exact absurd h.symm e
    ·exact h
   erw[aP,dq (by simp;exactλh=>e (L5 h))];exact ih IX
noncomputable def gJ{α:Type}(f:Nat×Nat->α)(p:Nat×Nat)(x:α):Nat×Nat->α:=λq=>if q=p then x else f q
theorem m9{α:Type}(f:Nat×Nat->α)(p:Nat×Nat)(x:α):gJ f p x p=x:=by simp[gJ]
theorem jr{α:Type}(f:Nat×Nat->α)(x:α)(h:q≠p):gJ f p x q=f q:=by simp[gJ,h]
theorem xR{LA:Nat×Nat->ax}(hp:p∉KL)(a:ax):dG (f8 KL LA) (lk p) (.ref a)=f8 (KL++[p]) (gJ LA p a):=by
 unfold dG;haveI oD:¬(f8 KL LA).any (λq=>decide (q.1=lk p))=true:=λh=>by refine aI (cF.mp h) λq hq he=>?_;refine aI (ak.mp hq) λx hx aT=>?_;obtain rfl:=aT;exact hp (L5 (of_decide_eq_true he)▸hx)
 erw[if_neg oD];unfold f8;erw[az]
 congr 1
 ·refine bf λx hx=>?_;erw[jr _ _ (λ(e:x=p)=>hp (e▸hx))]
 ·simp[gJ]
theorem Ik{LA:Nat×Nat->ax}{LT:Nat×Nat->List T}(h:Sub N (pre++(c6 KL LA LT++post)))(hp:p∈KL)(hn:KL.Nodup)(x:List T):
  Sub (N.put (LA p) (.list (x.map T.v))) (pre++(c6 KL LA (gJ LT p x)++post)):=by
 refine qv (Ji hp) λK1 K2 aT=>?_;obtain rfl:=aT;haveI uh:=bI.mp hn;haveI h1:∀q∈K1,q≠p:=λq hq e=>uh.2.2 q hq p (.head _) e;haveI h2:∀q∈K2,q≠p:=λq hq e=>(bt.mp uh.2.1).1 (e▸hq);haveI e1:c6 (K1++p::K2) LA LT=c6 K1 LA LT++(LA p,.list ((LT p).map T.v))::c6 K2 LA LT:=by simp[c6]
 haveI e2:c6 (K1++p::K2) LA (gJ LT p x)=c6 K1 LA LT++(LA p,.list (x.map T.v))::c6 K2 LA LT:=by
  simp only[c6,az,aP,m9]
  congr 1
  ·exact bf λq hq=>by erw[jr _ _ (h1 q hq)]
  ·congr 1
   exact bf λq hq=>by erw[jr _ _ (h2 q hq)]
 rw[e1]at h;erw[e2];haveI r1:pre++(c6 K1 LA LT++(LA p,cA.list ((LT p).map T.v))::c6 K2 LA LT++post)=(pre++c6 K1 LA LT)++(LA p,cA.list ((LT p).map T.v))::(c6 K2 LA LT++post):=by simp
 haveI r2:pre++(c6 K1 LA LT++(LA p,cA.list (x.map T.v))::c6 K2 LA LT++post)=(pre++c6 K1 LA LT)++(LA p,cA.list (x.map T.v))::(c6 K2 LA LT++post):=by simp
 rw[r1]at h;erw[r2];exact h.mid
theorem Il{LA:Nat×Nat->ax}{LT:Nat×Nat->List T}(hp:p∈KL):(LA p,cA.list ((LT p).map T.v))∈c6 KL LA LT:=ak.mpr ⟨p,hp,rfl⟩
theorem iM(r:Row):AF r.v=some r.pk:=by
 have:∀ks:List Nat,oe (ks.map λ(k:Nat)=>V.int (k:Int))=some (ks.map λ(k:Nat)=>PK.i (k:Int)):=by
  intro ks;induction ks with
  |nil=>rfl
  |cons x ks ih=>simp only[aP,oe,ri,ih]
 show oe (.str r.op::r.kids.map λ(k:Nat)=>V.int (k:Int))=_;simp only[oe,ri,this];rfl
end
section
noncomputable def LR(N:aL)(A:r7)(S:g8)(fd:ax)(KL:List (Nat×Nat))(LA:Nat×Nat->ax)(LT:Nat×Nat->List T)(R:List (ax×cA)):Prop:=HR N A S ((fd,.dt (f8 KL LA))::(c6 KL LA LT++R))
section
variable {N:aL} {A:r7} {S:g8} {fd:ax} {KL:List (Nat×Nat)} {LA:Nat×Nat->ax} {LT:Nat×Nat->List T} {R:List (ax×cA)}
theorem LR.M3(h:LR N A S fd KL LA LT R):N fd=some (.dt (f8 KL LA)):=h.2 (fd,.dt (f8 KL LA)) (aK _ (.head _))
theorem LR.cell(h:LR N A S fd KL LA LT R)(hp:p∈KL):N (LA p)=some (.list ((LT p).map T.v)):=h.2 (LA p,_) (aK _ (.tail _ (aW _ (Il hp))))
theorem LR.rest(h:LR N A S fd KL LA LT R)(hx:x∈R):N x.1=some x.2:=h.2 x (aK _ (.tail _ (aK _ hx)))
theorem LR.upd(h:LR N A S fd KL LA LT R)(hp:p∈KL)(hn:KL.Nodup)(x:List T):LR (N.put (LA p) (.list (x.map T.v))) A S fd KL LA (gJ LT p x) R:=by
 have e:∀LT',hC A S++((fd,cA.dt (f8 KL LA))::(c6 KL LA LT'++R))=(hC A S++[(fd,cA.dt (f8 KL LA))])++(c6 KL LA LT'++R):=λ_=>by simp
 unfold LR HR at h ⊢;rw[e]at h ⊢;exact Ik h hp hn x
theorem LR.entry(h:LR N A S fd KL LA LT R)(hp:p∉KL)(ha:N a=none):LR ((N.put a (.list [])).put fd (.dt (f8 (KL++[p]) (gJ LA p a)))) A S fd (KL++[p]) (gJ LA p a) (gJ LT p []) R:=by
 unfold LR HR at h ⊢;haveI h1:=h.new (mo:=.list []) ha;haveI ec:c6 (KL++[p]) (gJ LA p a) (gJ LT p [])=c6 KL LA LT++[(a,cA.list [])]:=by
  simp only[c6,az,aP,uJ,m9]
  congr 1
  refine bf λq hq=>?_;have:q≠p:=λ(e:q=p)=>hp (e▸hq);erw[jr _ _ this,jr _ _ this]
 erw[ec];refine h1.Um (a:=fd) (mo:=.dt (f8 KL LA)) (r:=(a,cA.list [])::(hC A S++(c6 KL LA LT++R))) ?_ ?_
 ·exact(cI.cons _).trans (IU _ _ _)
 ·refine cI.trans (u8 _ ?_);haveI e2:hC A S++(c6 KL LA LT++[(a,cA.list [])]++R)=(hC A S++c6 KL LA LT)++(a,cA.list [])::R:=by simp
  haveI e3:hC A S++(c6 KL LA LT++R)=(hC A S++c6 KL LA LT)++R:=by simp
  erw[e2,e3];exact cI
theorem LR.add(h:LR N A S fd KL LA LT R)(ha:N a=none):LR (N.put a mo) A S fd KL LA LT ((a,mo)::R):=by
 unfold LR HR at h ⊢;refine(h.new (mo:=mo) ha).perm ?_;haveI e:∀X,hC A S++((fd,cA.dt (f8 KL LA))::(c6 KL LA LT++X))=(hC A S++((fd,cA.dt (f8 KL LA))::c6 KL LA LT))++X:=λX=>by simp
 erw[e,e];exact cI
theorem LR.ly(h:LR N A S fd KL LA LT ((a,mo)::R)):LR (N.put a mo') A S fd KL LA LT ((a,mo')::R):=by
 unfold LR HR at h ⊢;have e:∀X,hC A S++((fd,cA.dt (f8 KL LA))::(c6 KL LA LT++X))=(hC A S++((fd,cA.dt (f8 KL LA))::c6 KL LA LT))++X:=λX=>by simp
 rw[e]at h ⊢;exact h.mid
theorem LR.Vs(h:LR N A S fd KL LA LT (x::R)):LR N A S fd KL LA LT R:=by
 unfold LR HR at h ⊢;have e:∀X,hC A S++((fd,cA.dt (f8 KL LA))::(c6 KL LA LT++X))=(hC A S++((fd,cA.dt (f8 KL LA))::c6 KL LA LT))++X:=λX=>by simp
 rw[e]at h ⊢;exact(h.perm cI.symm).tail
end
theorem k0{G:Gr}(K:rK G){l:List T}{c:Nat}(hc:c<=5)(hn:l.Nodup)(h:∀t∈l,t.cost G.cst=c):l.length<=66:=by have:=fG hn (r:=LO) λt ht=>wQ (by have:=T.m7 K t;have:=h t ht;exact aR 0x1d75d5a40980435830969013 rfl hc (by assumption) this);rw[Ca]at this;exact this
section
variable {S:g8} {cst:String->Nat}
theorem Gi(hu:(op="a"/\u=.a)\/(op="b"/\u=.b))(t:T):(t.cost cst=cst op/\tW (km S) t ⟨op,[]⟩)↔t=u:=by
 revert hu;exists S,cst,op,u,t;rcases hu with⟨rfl,rfl⟩ |⟨rfl,rfl⟩
 all_goals
  constructor
  ·rintro⟨h1,h2⟩;cases t with
   |a=>first |rfl |(have h2:(_:Row)=_:=h2;simp at h2)
   |b=>first |rfl |(have h2:(_:Row)=_:=h2;simp at h2)
   |f x=>refine aI h2 λd e _=>?_;clear h2;simp at e
   |g x y=>refine eQ h2 λd e q _=>?_;clear h2;simp at q
  ·rintro rfl;exact⟨rfl,rfl⟩
theorem Gj(h:tW (km S) t ⟨op,[]⟩):t.cost cst=cst op:=by
 cases t with
 |a=>have h:(_:Row)=_:=h;simp only[Row.mk.injEq]at h;erw[h.1];rfl
 |b=>have h:(_:Row)=_:=h;simp only[Row.mk.injEq]at h;erw[h.1];rfl
 |f x=>refine aI h λd e _=>?_;clear h;simp at e
 |g x y=>refine eQ h λd e q _=>?_;clear h;simp at q
theorem OS{d l c:Nat}{L:List T}(hc:cst "f"+l=c)(h:m8 (oM S cst) (d,l) L)(t:T):t∈L.map T.f↔t.cost cst=c/\tW (km S) t ⟨"f",[d]⟩:=by
 revert hc h;exists S,cst,d,l,c,L,t;haveI h2:∀t,t∈L↔js (km S) t d/\t.cost cst=l:=h.2;erw[ak];constructor
 ·rintro⟨x,hx,rfl⟩;refine a9 ((h2 x).mp hx) λa1 a2=>?_;exact⟨by show cst "f"+x.cost cst=c;exact aR 0x1d7580d11016021180d10814 rfl hc a2,d,rfl,a1⟩
 ·rintro⟨h1,h3⟩;cases t with
  |a=>haveI h3:(_:Row)=_:=h3;simp at h3
  |b=>haveI h3:(_:Row)=_:=h3;simp at h3
  |f x=>refine aI h3 λd' e a=>?_;clear h3;simp only[Row.mk.injEq,nv,and_true,true_and]at e;subst e;haveI h1:cst "f"+x.cost cst=c:=h1;exact⟨x,(h2 x).mpr ⟨a,by exact aR 0x1d7580846034440580d10814 rfl hc h1⟩,rfl⟩
  |g x y=>refine eQ h3 λd' e' q _=>?_;clear h3;simp at q
theorem L7{L:List T}(h:L.Nodup):(L.map T.f).Nodup:=dK.mpr (h.imp λpV e=>pV (by injection e))
noncomputable def Xg(L M:Nat->List T)(l s:Nat):List T:=(aM s).flatMap λq=>(L (q+1)).flatMap λx=>(M (l-(q+1))).map (T.g x)
theorem z6{L M:Nat->List T}:t∈Xg L M l s↔∃q x y,q<s/\x∈L (q+1)/\y∈M (l-(q+1))/\t=.g x y:=by
 exists L,M,l,s,t;unfold Xg;erw[bn];constructor
 ·rintro⟨q,hq,h⟩;refine aI (bn.mp h) λx hx h=>?_;refine iu h λy hy=>?_;exact⟨q,x,y,br.mp hq,hx,hy,rfl⟩
 ·rintro⟨q,x,y,hq,hx,hy,rfl⟩;exact⟨q,br.mpr hq,bn.mpr ⟨x,hx,ak.mpr ⟨y,hy,rfl⟩⟩⟩
theorem vw{L M:Nat->List T}:Xg L M l (s+1)=Xg L M l s++(L (s+1)).flatMap λx=>(M (l-(s+1))).map (T.g x):=by unfold Xg;erw[jc,gt];simp
theorem L8{L M:Nat->List T}{l s:Nat}(hL:∀q<s,(L (q+1)).Nodup)(hM:∀q<s,(M (l-(q+1))).Nodup)(hd:∀q<s,∀x∈L (q+1),x.cost cst=q+1):(Xg L M l s).Nodup:=by
 exists cst,L,M,l,s;induction s with
 |zero=>exact cH
 |succ s ih=>
  exists s;erw[vw];refine bI.mpr ⟨ih (λq hq=>hL q (by exact aR 0x1d5d18020570812 rfl hq)) (λq hq=>hM q (by exact aR 0x1d5d18020570812 rfl hq)) (λq hq=>hd q (by exact aR 0x1d5d18020570812 rfl hq)),?_,λa ha b hb e=>?_⟩
  ·refine Fc.mpr ⟨λx hx=>dK.mpr ((hM s (by exact aR 6247416849 rfl)).imp λpV e=>pV (by injection e)),(hL s (by exact aR 6247416849 rfl)).imp λpV x hx y hy e=>?_⟩;refine aI (ak.mp hx) λy1 _ aT=>?_;obtain rfl:=aT;refine aI (ak.mp hy) λy2 _ aT=>?_;obtain rfl:=aT;exact pV (by injection e)
  ·subst e;refine rh (z6.mp ha) λq x y hq hx hy aT=>?_;obtain rfl:=aT;refine aI (bn.mp hb) λx' Pn hb=>?_;refine aI (ak.mp hb) λy' ZV e=>?_;injection e with e1 e2;subst e1;have:=hd q (by exact aR 0x1d5d18020570812 rfl hq) _ hx;have:=hd s (by exact aR 6247416849 rfl) _ Pn;exact aR 0x1d75d6584600836118010d70813 rfl hq (by assumption) this
theorem OT{d e l c:Nat}{L M:Nat->List T}(hp:∀t:T,1<=t.cost cst)(hc:cst "g"+l=c)(hL:∀q,1<=q->q<l->m8 (oM S cst) (d,q) (L q))(hM:∀q,1<=q->q<l->m8 (oM S cst) (e,q) (M q))(t:T):
  t∈Xg L M l (l-1)↔t.cost cst=c/\tW (km S) t ⟨"g",[d,e]⟩:=by
 revert hp hc hL hM;exists S,cst,d,e,l,c,L,M,t;erw[z6];constructor
 ·rintro⟨q,x,y,hq,hx,hy,rfl⟩;refine a9 (((hL (q+1) (by exact aR 5978981889 rfl) (by exact aR 0x1d5c24600574a00812 rfl hq)).2 x).mp hx) λa1 a2=>?_;refine a9 (((hM (l-(q+1)) (by exact aR 0x1d5924600428174a00812 rfl hq) (by exact aR 0x1d5c24918010974a00812 rfl hq)).2 y).mp hy) λb1 b2=>?_;haveI a2:x.cost cst=q+1:=a2;haveI b2:y.cost cst=l-(q+1):=b2;refine⟨?_,d,e,rfl,a1,b1⟩;show cst "g"+x.cost cst+y.cost cst=c;exact aR 0x1d75d7580d11911416124601021984601055d28021180d10816 rfl hc hq a2 b2
 ·rintro⟨h1,h3⟩;cases t with
  |a=>haveI h3:(_:Row)=_:=h3;simp at h3
  |b=>haveI h3:(_:Row)=_:=h3;simp at h3
  |f x=>refine aI h3 λd' q _=>?_;clear h3;simp at q
  |g x y=>
   refine fc h3 λd' e' q a b=>?_;clear h3;simp only[Row.mk.injEq,nv,and_true,true_and]at q;refine a9 q λaT il=>?_;clear q;obtain rfl:=aT;obtain rfl:=il;haveI h1:cst "g"+x.cost cst+y.cost cst=c:=h1;haveI p1:=hp x;haveI p2:=hp y;refine⟨x.cost cst-1,x,y,by exact aR 0x1d75d7574a00928045858161206034454440580d10815 rfl hc h1 p1 p2,?_,?_,rfl⟩
   ·haveI e1:x.cost cst-1+1=x.cost cst:=by exact aR 0x1d6014604a00560601 rfl p1
    erw[e1];exact((hL _ p1 (by exact aR 0x1d75d5c21161606034454440580d10815 rfl hc h1 p2)).2 x).mpr ⟨a,rfl⟩
   ·haveI e1:l-(x.cost cst-1+1)=y.cost cst:=by exact aR 0x1d75d7581524604a01025858161206034454440580d10815 rfl hc h1 p1 p2
    erw[e1];exact((hM _ p2 (by exact aR 0x1d75d5c21561206034454440580d10815 rfl hc h1 p1)).2 y).mpr ⟨b,rfl⟩
end
theorem yL{α:Type}(f:Nat×Nat->α)(p:Nat×Nat):gJ f p (f p)=f:=by
 funext q;unfold gJ;split
 ·rename_i h;erw[h]
 ·rfl
theorem Im{α:Type}(f:Nat×Nat->α)(p:Nat×Nat)(x y:α):gJ (gJ f p x) p y=gJ f p y:=by
 funext q;unfold gJ;split<;>rfl
structure LL where
 KL:List (Nat×Nat)
 LA:Nat×Nat->ax
 LT:Nat×Nat->List T
noncomputable instance:Nonempty LL:=⟨⟨[],λ_=>0,λ_=>[]⟩⟩
structure L1(S:g8)(cst:String->Nat)(i:Nat)(d:LL):Prop where
 kn:d.KL.Nodup
 k1:∀p∈d.KL,p.1∈bg S/\1<=p.2/\p.2<=i
 k2:∀m∈bg S,∀c,1<=c->c<=i->(m,c)∈d.KL
 k3:∀p∈d.KL,m8 (oM S cst) p (d.LT p)
structure L2(S:g8)(cst:String->Nat)(i:Nat)(l2:List Nat)(j:Nat)(d:LL):Prop where
 kn:d.KL.Nodup
 q1:∀p∈d.KL,p.1∈bg S/\1<=p.2/\p.2<=i+1
 q2:∀m∈bg S,∀c,1<=c->c<=i->(m,c)∈d.KL
 q3:∀p∈d.KL,p.2<=i->m8 (oM S cst) p (d.LT p)
 q4:∀m,(m,i+1)∈d.KL↔m∈l2.take j
 q5:∀p∈d.KL,p.2=i+1->d.LT p=[]
structure WC where
 LT:Nat×Nat->List T
 sk:List (List PK×V)
noncomputable instance:Nonempty WC:=⟨⟨λ_=>[],[]⟩⟩
structure L3(S:g8)(cst:String->Nat)(i:Nat)(KL:List (Nat×Nat))(j:Nat)(d:WC):Prop where
 j1:∀q∈d.sk.map (·.1),∃x,x<j/\q=(bl S x).pk
 j2:∀x,x<j->(bl S x).pk∈d.sk.map (·.1)\/i+1<cst (S.row x).op+(S.row x).kids.length
 j3:∀p∈KL,p.2<=i->m8 (oM S cst) p (d.LT p)
 j4:J4 S cst (i+1) j (λm=>d.LT (m,i+1))
 j5:d.sk.length<=j
section
variable {S:g8} {cst:String->Nat} {i j:Nat} {d:LL} {l2:List Nat} {KL:List (Nat×Nat)} {e:WC}
theorem L1.zero{LA:Nat×Nat->ax}:L1 S cst 0 ⟨[],LA,λ_=>[]⟩:=⟨cH,nofun,λ_ _ c a b=>(dh _ (aY a b)).elim,nofun⟩
theorem L1.two(h:L1 S cst i d):L2 S cst i l2 0 d:=
 have no:∀p∈d.KL,p.2≠i+1:=λp hp e=>kV i (aa (eR e.symm) (h.k1 p hp).2.2)
 ⟨h.kn,λp hp=>have⟨a,b,c⟩:=h.k1 p hp;⟨a,b,fb c⟩,h.k2,λp hp _=>h.k3 p hp,λm=>⟨λhm=>(no _ hm rfl).elim,nofun⟩,λp hp e=>(no p hp e).elim⟩
theorem L2.YQ(h:L2 S cst i l2 j d)(hi:i<5)(hc:(bg S).length<=5):d.KL.length<=30:=by
 refine aa (fG h.kn (r:=(bg S).flatMap λm=>(aM 6).map λc=>(m,c)) λp hp=>?_) ?_
 ·refine ez (h.q1 p hp) λa1 a2 a3=>?_;exact bn.mpr ⟨p.1,a1,ak.mpr ⟨p.2,br.mpr (im (aa a3 hi)),rfl⟩⟩
 ·have e:∀l:List Nat,(l.flatMap λm=>(aM 6).map λc=>(m,c)).length=l.length*6:=by
   intro l;induction l with
   |nil=>rfl
   |cons x l ih=>erw[aX,an,ih,ag,aO,aU,jP,gU]
  erw[e];exact kW 6 hc
theorem L2.new(h:L2 S cst i l2 j d)(hn:l2.Nodup)(hm:l2[j]?=some m):(m,i+1)∉d.KL:=λAP=>by refine bz (l7 hm) λWE em=>?_;obtain⟨x,hx,e⟩:=dC.mp ((h.q4 m).mp AP);have hxj:=aY hx (cS _ _);exact b8.mp hn x j (bK hxj WE) WE hxj (e.trans em.symm)
theorem L2.step(h:L2 S cst i l2 j d)(hn:l2.Nodup)(hm:l2[j]?=some m)(RE:m∈bg S)(a:ax):L2 S cst i l2 (j+1) ⟨d.KL++[(m,i+1)],gJ d.LA (m,i+1) a,gJ d.LT (m,i+1) []⟩:=by
 revert h hn hm RE;exists S,cst,i,j,d,l2,m,a;have mV:=h.new hn hm;refine bz (l7 hm) λWE em=>?_;have sp:∀{p},p∈d.KL++[(m,i+1)]->p∈d.KL\/p=(m,i+1):=λhp=>(aH.mp hp).imp id ao.mp;have old:∀{p},p∈d.KL->p≠(m,i+1):=λhp e=>mV (e▸hp);refine⟨bI.mpr ⟨h.kn,gx _ _,λx hx y hy e=>old hx (e.trans (ao.mp hy))⟩,λp hp=>?_,λm' AP c c1 c2=>aW _ (h.q2 m' AP c c1 c2),λp hp CG=>?_,λm'=>?_,λp hp CG=>?_⟩
 ·rcases sp hp with hp |rfl
  ·exact h.q1 p hp
  ·exact⟨RE,bP _,ap _⟩
 ·rcases sp hp with hp |rfl
  ·show m8 _ p (gJ d.LT (m,i+1) [] p);erw[jr _ _ (old hp)];exact h.q3 p hp CG
  ·exact(kV i CG).elim
 ·show(m',i+1)∈d.KL++[(m,i+1)]↔_;erw[aH,h.q4,bJ WE,em,aH,ao,ao];exact or_congr_right ⟨λe=>(lP.mp e).1,λe=>by erw[e]⟩
 ·show gJ d.LT (m,i+1) [] p=[];rcases sp hp with hp |rfl
  ·erw[jr _ _ (old hp)];exact h.q5 p hp CG
  ·exact m9 _ _ _
theorem L2.three(h:L2 S cst i l2 l2.length d)(hl:∀m∈bg S,m∈l2):L3 S cst i d.KL 0 ⟨d.LT,[]⟩:=by refine⟨nofun,nofun,h.q3,λm hm=>?_,ap _⟩;haveI e:d.LT (m,i+1)=[]:=h.q5 _ ((h.q4 m).mpr (by erw[cX];exact hl m hm)) rfl;show(d.LT (m,i+1)).Nodup/\∀t,t∈d.LT (m,i+1)↔_;erw[e];exact J4.zero (S:=S) (cst:=cst) (i+1) m hm
theorem L3.one{LA:Nat×Nat->ax}(h2:L2 S cst i l2 l2.length d)(hl:∀m∈bg S,m∈l2)(h:L3 S cst i d.KL S.rows.length e):L1 S cst (i+1) ⟨d.KL,LA,e.LT⟩:=by
 refine⟨h2.kn,h2.q1,λm hm c c1 c2=>?_,λp hp=>?_⟩
 ·rcases dQ i c with q |q
  ·obtain rfl:c=i+1:=qr c2 q;exact(h2.q4 m).mpr (by erw[cX];exact hl m hm)
  ·exact h2.q2 m hm c c1 q
 ·rcases dQ i p.2 with q |q
  ·obtain⟨m,c⟩:=p;refine ez (h2.q1 _ hp) λa1 a2 a3=>?_;obtain rfl:c=i+1:=qr a3 q;exact h.j4.spec a1
  ·exact h.j3 p hp q
theorem iN{P:Nat->Prop}(h:x<j+1)(h1:∀x<j,P x)(h2:P j):P x:=(oa.mp h).elim (h1 x) λe=>e▸h2
theorem L3.seen(F:nZ S)(h:L3 S cst i KL j e)(hj:j<S.rows.length)(hm:(bl S j).pk∈e.sk.map (·.1)):L3 S cst i KL (j+1) e:=by refine aI (h.j1 _ hm) λx hx ex=>?_;exact⟨λq hq=>have⟨z,a,b⟩:=h.j1 q hq;⟨z,bZ a,b⟩,λx hx=>iN hx h.j2 (.inl hm),h.j3,h.j4.seen F hj hx (tO ex).symm,fb h.j5⟩
theorem L3.out(F:nZ S)(C:qS cst)(h:L3 S cst i KL j e)(rM:i+1<cst (S.row j).op+(S.row j).kids.length):L3 S cst i KL (j+1) e:=⟨λq hq=>have⟨z,a,b⟩:=h.j1 q hq;⟨z,bZ a,b⟩,λx hx=>iN hx h.j2 (.inr rM),h.j3,h.j4.out F C (by show _<cst (S.row j).op+((S.row j).kids.map _).length;erw[ag];exact rM),fb h.j5⟩
theorem L3.add(F:nZ S)(C:qS cst)(h:L3 S cst i KL j e)(hj:j<S.rows.length)(M4:(bl S j).pk∉e.sk.map (·.1))(rM:cst (S.row j).op+(S.row j).kids.length<=i+1){X:List T}(hX:X.Nodup)(PZ:∀t,t∈X↔t.cost cst=i+1/\tW (km S) t (bl S j)):
  L3 S cst i KL (j+1) ⟨gJ e.LT (root S.par j,i+1) (e.LT (root S.par j,i+1)++X),e.sk++[((bl S j).pk,.bool true)]⟩:=by
 revert F C h hj M4 rM;exists S,cst,i,j,KL,e,X;haveI mV:∀x,x<j->bl S x≠bl S j:=λx hx q=>by
  rcases h.j2 x hx with h |h
  ·exact M4 (q▸h)
  ·haveI q1:=congrArg Row.op q;haveI q1:(S.row x).op=(S.row j).op:=q1;haveI q2:=congrArg (λr=>r.kids.length) q;haveI q2:((S.row x).kids.map (root S.par)).length=((S.row j).kids.map (root S.par)).length:=q2;rw[ag,ag]at q2;rw[q1,q2]at h;exact pL.mpr rM h
 haveI em:(e.sk++[((bl S j).pk,V.bool true)]).map (·.1)=e.sk.map (·.1)++[(bl S j).pk]:=az;refine⟨λq hq=>?_,λx hx=>?_,λp hp CG=>?_,?_,by erw[an];exact aw h.j5⟩
 ·haveI hq:q∈(e.sk++[((bl S j).pk,V.bool true)]).map (·.1):=hq;rw[em]at hq;rcases aH.mp hq with hq |hq
  ·refine aI (h.j1 q hq) λz a b=>?_;exact⟨z,bZ a,b⟩
  ·exact⟨j,cK j,ao.mp hq⟩
 ·show(bl S x).pk∈(e.sk++[((bl S j).pk,V.bool true)]).map (·.1)\/_;erw[em];exact iN (P:=λx=>(bl S x).pk∈e.sk.map (·.1)++[(bl S j).pk]\/i+1<cst (S.row x).op+(S.row x).kids.length) hx (λx hx=>(h.j2 x hx).imp (aW _) id) (.inl (aK _ (.head _)))
 ·show m8 _ p (gJ _ _ _ p);erw[jr _ _ (λe=>by subst e;exact kV i CG)];exact h.j3 p hp CG
 ·haveI e2:(λm=>gJ e.LT (root S.par j,i+1) (e.LT (root S.par j,i+1)++X) (m,i+1))=λm=>if m=root S.par j then e.LT (m,i+1)++X else e.LT (m,i+1):=by
   funext m
   by_cases q:m=root S.par j
   ·subst q;erw[m9,if_pos rfl]
   ·erw[if_neg q,jr _ _ (λe=>q (lP.mp e).1)]
  show J4 S cst (i+1) (j+1) (λm=>gJ e.LT (root S.par j,i+1) (e.LT (root S.par j,i+1)++X) (m,i+1));erw[e2];exact h.j4.add F C hj mV hX PZ
end
end
section
theorem wX:((aM m).map λ(i:Nat)=>V.int (1+(i:Int)))=(aM m).map λi=>iv (i+1):=bf λi _=>congrArg V.int (pQ 1 i)
theorem OU{S:g8}{j:Nat}{x:V}(h:(gz (S.rows.map Row.v))[j]?=some x):j<S.rows.length/\x=.tup [iv j,(S.row j).v]:=by rw[zip_rows,aF]at h;refine aI (aJ.mp h) λp h1 aT=>?_;obtain rfl:=aT;haveI hm:=Ge (S:=S) (a7 h1);rw[kH]at h1;refine aI (aJ.mp h1) λy hy aT=>?_;obtain rfl:=aT;rw[gW]at hm;haveI e:y=S.row j:=hm.2;exact⟨hm.1,by erw[gW,e]⟩
theorem RF{S:g8}:gz (S.rows.map Row.v)=(aM S.rows.length).map λj=>V.tup [iv j,(S.row j).v]:=by refine List.ext_getElem (by erw[zip_rows,ag,ag,eK,aO]) λj h1 h2=>?_;erw[(OU (aE h1)).2,vG,je]
theorem OV(h:s<l-1):s+1<l:=by exact aR 0x1d5c24600574a00812 rfl h
theorem P0(h:s<l-1):1<=l-(s+1):=by exact aR 0x1d5924600428174a00812 rfl h
theorem P4(h:s<l-1):l-(s+1)<l:=by exact aR 0x1d5c24918010974a00812 rfl h
theorem YR(h:s<l-1)(g:l<=i):s+1≠i+1:=by exact aR 0x75d6984600d18015830974a00813 rfl h g
theorem Vt(h:s<l-1)(g:l<=i):l-(s+1)≠i+1:=by exact aR 0x75a6118024918030560813 rfl g
theorem RG{a b c:Nat}(h:¬a+b<=c):(c:Int)-(a:Int)<((b+1:Nat):Int)-1:=by lia
theorem RH{l b:Nat}(h:b<=l)(e:(l:Int)<((b+1:Nat):Int)-1):false=true:=by lia
theorem EA(l:Nat):((l:Int)-1).toNat=l-1:=by
 cases l with
 |zero=>rfl
 |succ l=>exact congrArg Int.toNat (ua (l:Int) 1)
theorem RI{l:Nat}(h:l<=5):(l:Int)<=100000/\-(2 ^ 62)<=(l:Int):=by lia
section
variable {Γ:Cx} (hK:cL Γ.K) {n:Nat} {N:aL} {A:r7} {S:g8} {R:List (ax×cA)} {k:KV} {ha:ax}
include hK
set_option maxHeartbeats 4000000 in
theorem Io(H:HR N A S R)(F:nZ S){cst:String->Nat}(C:qS cst){lr cd:ax}{kc:List (PK×V)}{MY:Nat}(M2:(lr,cA.list (S.rows.map Row.v))∈R)(Es:(cd,cA.dp kc MY)∈R)(h3:SF kc cst)
  (h:∀fd KL LA LT N',LR N' A S fd KL LA LT R->(∀m∈bg S,∀c,1<=c->c<=5->(m,c)∈KL/\m8 (oM S cst) (m,c) (LT (m,c)))->k (.ref fd) N'):aV Γ (n+4) (.ref 461) [.obj ha 438 A.dx,.ref lr,.ref cd] N k:=by
 have hb:S.rows.length<=1000:=aa F.oF (by decide);have yJ:S.par.length<=1000:=F.fit.len▸hb;have K:=wS F C;have i8:(bg S).length<=5:=K.len;have YS:∀{l:List T},l.length<=66->l.length<=gS:=λh=>aa h (by decide);refine ck hK.Yo rfl λG c=>c false λfd Vu G c=>c hK.iQ rfl rfl ⟨by decide,by decide,by decide,by decide⟩
  (.all (IJ (λ_(_:LL)=>[("heap",.obj ha 438 A.dx),("rows",.ref lr),("costs",.ref cd),("found",.ref fd)]) (λi d N'=>LR N' A S fd d.KL d.LA d.LT R/\L1 S cst i d) wX ⟨[],λ_=>0,λ_=>[]⟩ rfl ⟨(Sub.new (mo:=.dt []) H Vu).perm cI,L1.zero⟩ (λ_ _ _ _=>trivial) λi d N1 hi hP G=>?_))
  (λd N' e G c=>c (eO.ret (h fd d.KL d.LA d.LT N' e.1 λm hm c c1 c2=>have q:=e.2.k2 m hm c c1 c2;⟨q,e.2.k3 _ q⟩))) nr
 refine a9 hP λRL P1=>?_;clear hP;have Gk:=RL.rest M2
 refineλc=>c hK.iK hK.FS hK.iQ hK.dH (.one (eZ (fg Gk) (sS _ hb) dU)) (b:=S.rows.length) (congrArg iv (ag _)) (aa hb (by decide))
  (.one (fZ (l:=aM S.rows.length) (v:=iv) (λj=>iv (root S.par j)) trivial (by erw[aO];exact aa hb (by decide)) λj hj G c=>c (eH hK RL) (.one (eu hK RL F.fit.po (F.fit.len▸br.mp hj) yJ dU)) dU))
  (.all (n4 (l:=(aM S.rows.length).map (root S.par)) (by erw[ay];rfl) (by erw[ag,aO];exact hb) λl1 n1 h1=>?_)) λ_ _ h=>h
 intro G c;have qH:∀d,d∈l1↔d∈bg S:=λd=>by
  erw[h1,ak];constructor
  ·rintro⟨j,hj,rfl⟩;exact f6 F.fit (br.mp hj)
  ·intro hd;refine a9 (qi.mp hd) λa1 a2=>?_;exact⟨d,br.mpr (F.fit.len▸a1),jG a2⟩
 have Gg:l1.length<=5:=aa (fG n1 λd hd=>(qH d).mp hd) i8;refine c (.all (ko (l:=l1) (a6 Gg (by decide)) λl2 p2 _=>?_)) λ_ _ h=>h;intro G c;have rB:∀d,d∈l2↔d∈bg S:=λd=>p2.mem_iff.trans (qH d);have OE:l2.Nodup:=p2.nodup_iff.mpr n1;refine c .lst (.all (Si (λ_(_:LL)=>[("heap",.obj ha 438 A.dx),("rows",.ref lr),("costs",.ref cd),("found",.ref fd),("cost",iv (i+1))]) (λj d N'=>LR N' A S fd d.KL d.LA d.LT R/\L2 S cst i l2 j d) (l:=l2) (v:=iv) rfl d rfl ⟨RL,P1.two⟩ (λ_ _ _ _=>trivial) λj m d N2 YT hP G c=>?_)) (λd N2 e G=>?_) nr
 ·refine a9 hP λRL P2=>?_;clear hP;have mV:=P2.new OE YT;refine c false λa ha G c=>c (.one (N':=(N2.put a (.list [])).put fd (.dt (f8 (d.KL++[(m,i+1)]) (gJ d.LA (m,i+1) a)))) ?_) ⟨d.KL++[(m,i+1)],gJ d.LA (m,i+1) a,gJ d.LT (m,i+1) []⟩ ⟨RL.entry mV ha,P2.step OE YT ((rB m).mp (a7 YT)) a⟩ rfl;rw[<-xR mV a];exact .dt (q:=lk (m,i+1)) (jZ ha RL.M3) rfl (by erw[f8,ag];exact aa (P2.YQ hi i8) (by decide))
 refine a9 e λRL P2=>?_;clear e;have RJ:∀m∈bg S,m∈l2:=λm hm=>(rB m).mpr hm;obtain⟨KL,LA,LT⟩:=d
 refineλc=>c false λsd Vv G c=>c hK.pj (.ref (jZ Vv (RL.rest M2)))
  (.all (IJ (λ_(_:WC)=>[("heap",.obj ha 438 A.dx),("rows",.ref lr),("costs",.ref cd),("found",.ref fd),("cost",iv (i+1)),("seen",.ref sd)]) (λj d N'=>LR N' A S fd KL LA d.LT ((sd,.dt d.sk)::R)/\L3 S cst i KL j d) RF ⟨LT,[]⟩ rfl ⟨RL.add Vv,P2.three RJ⟩ (λ_ d N' h=>h.1.rest (.tail _ M2)) λj d N3 hj hP G c=>?_))
  (λe N' he G c=>c ⟨KL,LA,e.LT⟩ ⟨he.1.Vs,L3.one P2 RJ ?_⟩ rfl) nr
 ·obtain⟨LT,sk⟩:=d;refine a9 hP λRL P3=>?_;clear hP;have Vw:=F.fit.ops j hj;have rH:=F.fit.tN j hj;have Gl:=F.fit.kids j hj;have gcd:=RL.rest (.tail _ Es);have WF:=RL.rest (.head _);have LY:((S.row j).kids.map λd=>iv (root S.par d)).length<=2:=by erw[ag];exact rH
  have YU:jg N3 .Add (.tup [V.str (aN (S.row j).op)]) (.tup ((S.row j).kids.map λd=>iv (root S.par d))) (bl S j).v:=by
   have e:(bl S j).v=V.tup ([V.str (aN (S.row j).op)]++(S.row j).kids.map λd=>iv (root S.par d)):=by erw[Row.v,bl,qt,ay];rfl
   erw[e];exact .C9 (aa (bD LY 1) (by decide))
  have sY:∀{N:aL},aV Γ (n+3) (.builtin "len") [(S.row j).v] N (Is (iv ((S.row j).kids.length+1)) N):=eZ (xs:=V.str (aN (S.row j).op)::(S.row j).kids.map iv) rfl (aa (aw (by erw[ag];exact rH)) (by decide)) ⟨by erw[aU,ag];rfl,rfl⟩;have c:=c rfl (.tup (j:=0) (x:=.str (S.row j).op) rfl) hK.sF (.y4 (a:=1) (ap 1) (bP _) (aa (aw (by erw[ag];exact rH)) (by decide))) .tup
   (.one (fZ (l:=(S.row j).kids) (v:=iv) (λd=>iv (root S.par d)) trivial (aa rH (by decide)) λd hd G c=>c (eH hK RL) (.one (eu hK RL F.fit.po (F.fit.len▸bK (Gl d hd) hj) yJ dU)) dU))
   (.one (lu rfl (aa LY (by decide)) dU)) YU (mb (.get gcd)) (.tup (j:=0) (x:=.str (S.row j).op) rfl)
  have RK:aV Γ (n+3) (.builtin "dict.get") [.ref cd,.str (S.row j).op,.int 1] N3 (Is (iv (cst (S.row j).op)) N3):=tJ gcd rfl ⟨h3 _ Vw,rfl⟩;by_cases yM:(bl S j).pk∈sk.map (·.1)
  ·exact c (.one RK) .vO (.inD (c:=true) WF (iM _) ⟨λ_=>yM,λ_=>rfl⟩) ⟨LT,sk⟩ ⟨RL,P3.seen F hj yM⟩ rfl
  by_cases rM:cst (S.row j).op+(S.row j).kids.length<=i+1
  rotate_left
  ·exact c (.one RK) .vO (.inD (c:=false) WF (iM _) ⟨nofun,λe=>(yM e).elim⟩) hK.dH (.one sY) .vO (.ltI (c:=true) ⟨λ_=>RG rM,λ_=>rfl⟩) ⟨LT,sk⟩ ⟨RL,P3.out F C (Nat.lt_of_not_le rM)⟩ rfl
  refine bz (Nat.le.dest (aa (b7 _ _) rM)) λl hl=>?_;have YV:jg N3 .Sub (iv (i+1)) (iv (cst (S.row j).op)) (iv l):=by erw[show l=i+1-cst (S.row j).op from by exact aR 0x1d6120518030984600d10813 rfl hl];exact wW (aa (b7 _ _) rM)
  have RM:(S.row j).kids.length<=l:=by exact aR 0x1d7561026118034440564600d10814 rfl rM hl
  have EB:jC N3 sd (bl S j).v (.bool true) (· =N3.put sd (.dt (sk++[((bl S j).pk,.bool true)]))):=by
   have e:dG sk (bl S j).pk (.bool true)=sk++[((bl S j).pk,.bool true)]:=if_neg λh=>by refine aI (cF.mp h) λy hy e=>?_;exact yM (ak.mpr ⟨y,hy,of_decide_eq_true e⟩)
   rw[<-e];exact .dt WF (iM _) (aa P3.j5 (aa (bq hj) (aa hb (by decide))))
  have c:=c (.one RK) YV (.inD (c:=false) WF (iM _) ⟨nofun,λe=>(yM e).elim⟩) hK.dH (.one sY) .vO (.ltI (c:=false) ⟨nofun,λe=>RH RM e⟩) (.one EB) hK.dH;have M5:=RL.ly (mo':=.dt (sk++[((bl S j).pk,.bool true)]));have PR:root S.par j∈bg S:=f6 F.fit hj;have RN:(root S.par j,i+1)∈KL:=(P2.q4 _).mpr (by erw[cX];exact RJ _ PR);have fj:∀{N':aL}{X:List (ax×cA)},HR N' A S X->aV Γ (n+3) (.ref 362) [.obj ha 438 A.dx,iv j] N' (Is (iv (root S.par j)) N'):=λL=>eu hK L F.fit.po (F.fit.len▸hj) yJ dU;have Vx:(LT (root S.par j,i+1)).length<=66:=k0 K (c:=i+1) hi (P3.j4 _ PR).1 λt ht=>(((P3.j4 _ PR).2 t).mp ht).1;have gc:=M5.cell RN;have M3:=M5.M3;have add:=@L3.add _ _ _ _ _ _ F C P3 hj yM rM;have upd:=λX=>M5.upd RN P2.kn (LT (root S.par j,i+1)++X);have OW:=C.c1 _ Vw;have bb:∀{l m:List T},l.length<=66->m.length<=66->(l.map T.v).length+(m.map T.v).length<=gS:=λa b=>by erw[ag,ag];exact aa (df a b) (by decide)
  have leaf:∀u:T,(S.row j).kids=[]->u.v=.tup [.str (S.row j).op]->(∀t,(t.cost cst=cst (S.row j).op/\tW (km S) t (bl S j))↔t=u)->(∀t,tW (km S) t (bl S j)->t.cost cst=cst (S.row j).op)->G:=λu hk hu hu1 hu2=>by
   have e1:(S.row j).kids.length+1=1:=by erw[hk];rfl
   by_cases WG:l=0
   ·have ec:cst (S.row j).op=i+1:=by rw[<-hl,WG];rfl
    have up:=upd [u];refine c (.one sY) (eqT e1) (eqT WG) (eH hK M5) (.one (fj M5)) (.dt M3 rfl (ie RN)) (mb (.append gc)) (.tup (j:=0) (x:=.str (S.row j).op) rfl) (.one (x:=.none) (jV gc (by erw[ag];exact YS Vx) ⟨rfl,rfl⟩)) hK.dH (.one sY) (CM (by erw[e1];decide)) hK.iQ hK.dH (.one sY) (CM (by erw[e1];decide)) rfl rfl ⟨by decide,by decide,by decide,by decide⟩
     (.all (IJ (λ_(_:Unit)=>[("heap",.obj ha 438 A.dx),("rows",.ref lr),("costs",.ref cd),("found",.ref fd),("cost",iv (i+1)),("seen",.ref sd)]) (λ_ _ N'=>LR N' A S fd KL LA (gJ LT (root S.par j,i+1) (LT (root S.par j,i+1)++[u])) ((sd,.dt (sk++[((bl S j).pk,.bool true)]))::R)) wX () rfl ?_ (λ_ _ _ _=>trivial) λi _ _ hi=>(dh _ hi).elim))
     (λ_ N' e G c=>c ⟨gJ LT (root S.par j,i+1) (LT (root S.par j,i+1)++[u]),sk++[((bl S j).pk,.bool true)]⟩ ⟨e,add (gx _ _) λt=>?_⟩ rfl) nr
    ·rw[az,List.map_singleton,hu]at up;exact up
    ·rw[ao,<-hu1,ec]
   ·have a:=add (X:=[]) cH λt=>⟨nofun,λq=>(WG (Nat.add_left_cancel (m:=l) (k:=0) (hl.trans (q.1.symm.trans (hu2 t q.2))))).elim⟩
    rw[bG,yL]at a;exact c (.one sY) (eqT e1) (CM WG) hK.dH (.one sY) (CM (by erw[e1];decide)) hK.iQ hK.dH (.one sY) (CM (by erw[e1];decide)) rfl rfl ⟨by decide,by decide,by decide,by decide⟩
     (.all (IJ (λ_(_:Unit)=>[("heap",.obj ha 438 A.dx),("rows",.ref lr),("costs",.ref cd),("found",.ref fd),("cost",iv (i+1)),("seen",.ref sd)]) (λ_ _ N'=>LR N' A S fd KL LA LT ((sd,.dt (sk++[((bl S j).pk,.bool true)]))::R)) wX () rfl M5 (λ_ _ _ _=>trivial) λi _ _ hi=>(dh _ hi).elim))
     (λ_ N' e G c=>c ⟨_,_⟩ ⟨e,a⟩ rfl) nr
  rcases F.ok j hj with⟨ho,zJ⟩ |⟨ho,zJ⟩ |⟨ho,d,zJ⟩ |⟨ho,d,e,zJ⟩
  ·have ou:bl S j=⟨"a",[]⟩:=by erw[bl,ho,zJ];rfl
   exact leaf T.a zJ (by erw[ho];rfl) (λt=>by erw[ou,ho];exact Gi (.inl ⟨rfl,rfl⟩) t) λt h=>by erw[ho];rw[ou]at h;exact Gj h
  ·have ou:bl S j=⟨"b",[]⟩:=by erw[bl,ho,zJ];rfl
   exact leaf T.b zJ (by erw[ho];rfl) (λt=>by erw[ou,ho];exact Gi (.inr ⟨rfl,rfl⟩) t) λt h=>by erw[ho];rw[ou]at h;exact Gj h
  ·have e1:(S.row j).kids.length+1=2:=by erw[zJ];rfl
   have ou:bl S j=⟨"f",[root S.par d]⟩:=by erw[bl,ho,zJ];rfl
   have Ak:∀{N:aL},gy N (bl S j).v (.int ((1:Nat):Int)) (iv (root S.par d)):=by erw[ou];exact .tup rfl
   have tj:∀{N:aL},gy N (S.row j).v (.int ((0:Nat):Int)) (.str "f"):=by rw[<-ho];exact .tup rfl
   have HP:root S.par d∈bg S:=f6 F.fit (bK (Gl d (by erw[zJ];exact .head _)) hj);rw[zJ]at RM rM;rw[ho]at hl OW;have Od:l<=i:=by exact aR 0x1d7560c25818184600d10813 rfl hl OW
   have YW:=P2.q2 _ HP l RM Od;have MW:=P3.j3 _ YW Od;have SK:=M5.cell YW;have h66:(LT (root S.par d,l)).length<=66:=k0 K (c:=l) (aa Od (bq hi)) MW.1 λt ht=>((MW.2 t).mp ht).2;have up:=upd ((LT (root S.par d,l)).map T.f);refine c (.one sY) (CM (by erw[e1];decide)) hK.dH (.one sY) (eqT e1) (eH hK M5) (.one (fj M5)) (.dt M3 rfl (ie RN)) (mb (.extend gc)) Ak (.dt M3 rfl (ie YW)) (.ref SK)
    (.one (fZ (l:=LT (root S.par d,l)) (v:=T.v) (λt=>(T.f t).v) SK (YS h66) λt ht G c=>c tj dU)) (.one (x:=.none) (l5 gc rfl (by erw[ag,ag];exact aa (df Vx h66) (by decide)) ⟨rfl,rfl⟩))
    hK.iQ hK.dH (.one sY) (CM (by erw[e1];decide)) rfl rfl ⟨by decide,by decide,by decide,by decide⟩
    (.all (IJ (λ_(_:Unit)=>[("heap",.obj ha 438 A.dx),("rows",.ref lr),("costs",.ref cd),("found",.ref fd),("cost",iv (i+1)),("seen",.ref sd)]) (λ_ _ N'=>LR N' A S fd KL LA (gJ LT (root S.par j,i+1) (LT (root S.par j,i+1)++(LT (root S.par d,l)).map T.f)) ((sd,.dt (sk++[((bl S j).pk,.bool true)]))::R)) wX () rfl ?_ (λ_ _ _ _=>trivial) λi _ _ hi=>(dh _ hi).elim))
    (λ_ N' e G c=>c ⟨gJ LT (root S.par j,i+1) (LT (root S.par j,i+1)++(LT (root S.par d,l)).map T.f),sk++[((bl S j).pk,.bool true)]⟩ ⟨e,add (L7 MW.1) λt=>by erw[ou];exact OS hl MW t⟩ rfl) nr
   rw[az,ay]at up;exact up
  ·have e1:(S.row j).kids.length+1=3:=by erw[zJ];rfl
   have ou:bl S j=⟨"g",[root S.par d,root S.par e]⟩:=by erw[bl,ho,zJ];rfl
   have Ak:∀{N:aL},gy N (bl S j).v (.int ((1:Nat):Int)) (iv (root S.par d)):=by erw[ou];exact .tup rfl
   have kX:∀{N:aL},gy N (bl S j).v (.int ((2:Nat):Int)) (iv (root S.par e)):=by erw[ou];exact .tup rfl
   have tj:∀{N:aL},gy N (S.row j).v (.int ((0:Nat):Int)) (.str "g"):=by rw[<-ho];exact .tup rfl
   have HP:root S.par d∈bg S:=f6 F.fit (bK (Gl d (by erw[zJ];exact .head _)) hj);have Ve:root S.par e∈bg S:=f6 F.fit (bK (Gl e (by erw[zJ];exact .tail _ (.head _))) hj);rw[ho]at hl OW;have Od:l<=i:=by exact aR 0x1d7560c25818184600d10813 rfl hl OW
   have YX:l<=5:=aa Od (bq hi);have L0:∀m∈bg S,∀q,1<=q->q<l->(m,q)∈KL/\m8 (oM S cst) (m,q) (LT (m,q)):=λm hm q h1 h2=>have hq:=aa (bq h2) Od;⟨P2.q2 _ hm q h1 hq,P3.j3 _ (P2.q2 _ hm q h1 hq) hq⟩;have PZ:=OT (S:=S) (cst:=cst) (d:=root S.par d) (e:=root S.par e) (L:=λq=>LT (root S.par d,q)) (M:=λq=>LT (root S.par e,q)) (λt=>T.lz K t) hl (λq h1 h2=>(L0 _ HP q h1 h2).2) (λq h1 h2=>(L0 _ Ve q h1 h2).2);have hXn:∀s,s<=l-1->(Xg (λq=>LT (root S.par d,q)) (λq=>LT (root S.par e,q)) l s).Nodup:=λs hs=>L8 (cst:=cst) (λq hq=>(L0 _ HP (q+1) (bP _) (OV (aY hq hs))).2.1) (λq hq=>(L0 _ Ve (l-(q+1)) (P0 (aY hq hs)) (P4 (aY hq hs))).2.1) (λq hq x hx=>(((L0 _ HP (q+1) (bP _) (OV (aY hq hs))).2.2 x).mp hx).2);have P5:∀s,s<=l-1->(Xg (λq=>LT (root S.par d,q)) (λq=>LT (root S.par e,q)) l s).length<=66:=λs hs=>k0 K (c:=i+1) hi (hXn s hs) λt ht=>((PZ t).mp (by refine rh (z6.mp ht) λq x y hq hx hy et=>?_;exact z6.mpr ⟨q,x,y,aY hq hs,hx,hy,et⟩)).1;have elt:=EA l;refine c (.one sY) (CM (by erw[e1];decide)) hK.dH (.one sY) (CM (by erw[e1];decide)) hK.iQ hK.dH (.one sY) (eqT e1) rfl rfl ⟨by decide,by decide,RI YX⟩
    (.all (IJ (λ_(_:Unit)=>[("heap",.obj ha 438 A.dx),("rows",.ref lr),("costs",.ref cd),("found",.ref fd),("cost",iv (i+1)),("seen",.ref sd),("n",iv j),("row",(S.row j).v),("key",(bl S j).v),("left",iv l)]) (λs _ N'=>LR N' A S fd KL LA (gJ LT (root S.par j,i+1) (LT (root S.par j,i+1)++Xg (λq=>LT (root S.par d,q)) (λq=>LT (root S.par e,q)) l s)) ((sd,.dt (sk++[((bl S j).pk,.bool true)]))::R)) wX () rfl ?_ (λ_ _ _ _=>trivial) λs _ N4 hs L6 G c=>?_))
    (λ_ N' L6 G c=>c ⟨gJ LT (root S.par j,i+1) (LT (root S.par j,i+1)++Xg (λq=>LT (root S.par d,q)) (λq=>LT (root S.par e,q)) l (l-1)),sk++[((bl S j).pk,.bool true)]⟩ ⟨?_,add (hXn _ (ap _)) λt=>by erw[ou];exact PZ t⟩ rfl) nr
   ·show LR _ A S fd KL LA (gJ LT _ (LT _++[])) _;erw[bG,yL];exact M5
   ·have hs:s<l-1:=elt▸hs;refine a9 (L0 _ HP (s+1) (bP _) (OV hs)) λp1 p2=>?_;refine a9 (L0 _ Ve (l-(s+1)) (P0 hs) (P4 hs)) λp3 p4=>?_;have gc:=L6.cell RN;have YY:=L6.cell p1;have SK:=L6.cell p3;rw[m9]at gc;rw[jr _ _ (λe=>YR hs Od (congrArg uI e))]at YY;rw[jr _ _ (λe=>Vt hs Od (congrArg uI e))]at SK;have qH:(LT (root S.par d,s+1)).length<=66:=k0 K (c:=s+1) (aa (bq (OV hs)) YX) p2.1 λt ht=>((p2.2 t).mp ht).2;have rB:(LT (root S.par e,l-(s+1))).length<=66:=k0 K (c:=l-(s+1)) (aa (t6 _ _) YX) p4.1 λt ht=>((p4.2 t).mp ht).2;obtain⟨P,hP⟩:∃P:List (T×T),P=(LT (root S.par d,s+1)).flatMap λt=>(LT (root S.par e,l-(s+1))).map λu=>(t,u):=⟨_,rfl⟩
    have ep:((LT (root S.par d,s+1)).flatMap λt=>(LT (root S.par e,l-(s+1))).map λu=>V.tup [t.v,u.v])=P.map λp=>V.tup [p.1.v,p.2.v]:=by erw[hP,dw];congr 1;funext t;erw[ay];rfl
    have eP:(P.map λp=>T.g p.1 p.2)=(LT (root S.par d,s+1)).flatMap λt=>(LT (root S.par e,l-(s+1))).map (T.g t):=by erw[hP,dw];congr 1;funext t;erw[ay];rfl
    have YZ:(P.map λp=>T.g p.1 p.2).length<=66:=by have h1:=P5 (s+1) hs;rw[vw,<-eP,an]at h1;exact aa (f9 _ _) h1
    have hPb:P.length<=gS:=by rw[ag]at YZ;exact aa YZ (by decide)
    have Y0:(LT (root S.par j,i+1)++Xg (λq=>LT (root S.par d,q)) (λq=>LT (root S.par e,q)) l s).length<=132:=by erw[an];exact df Vx (P5 s (bq hs))
    have up:=L6.upd RN P2.kn (LT (root S.par j,i+1)++Xg (λq=>LT (root S.par d,q)) (λq=>LT (root S.par e,q)) l (s+1));rw[Im]at up;refine c Ak (.dt L6.M3 rfl (ie p1)) (.ref YY) (.one (BV (l:=LT (root S.par d,s+1)) (v:=T.v) _ ep YY (by erw[ag];exact hPb) λt ht G c=>c kX (wW (aa hs (t6 _ _))) (.dt L6.M3 rfl (ie p3)) (.ref SK)
      (.one (fZ (l:=LT (root S.par e,l-(s+1))) (v:=T.v) (λu=>.tup [t.v,u.v]) SK (YS rB) λu hu G c=>c dU)) dU))
     (eH hK L6) (.one (fj L6)) (.dt L6.M3 rfl (ie RN)) (mb (.extend gc)) .lst (.one (fZ (l:=P) (v:=λp=>.tup [p.1.v,p.2.v]) (λp=>(T.g p.1 p.2).v) trivial hPb λp hp G c=>c tj (.C9 (by show 3<=gS;decide)) dU))
     (.one (x:=.none) (l5 gc rfl (by rw[ag,ag]at *;exact aa (df Y0 YZ) (by decide)) ⟨rfl,rfl⟩)) () ?_ rfl
    rw[vw,<-eP,<-bY,az,ay]at up;rw[vw,<-eP,<-bY];exact up
   ·rw[elt]at L6;exact L6
 ·exact he.2
end
end
section
section
variable {N:aL} {A:r7} {S:g8} {R:List (ax×cA)}
theorem HR.Y1(h:HR N A S R)(x:List Row):HR (N.put A.ln (.list (x.map Row.v))) A {S with rows:=x} R:=Sub.set (i:=3) h rfl
theorem HR.Y2(h:HR N A S R)(x:List (List PK×V)):HR (N.put A.dn (.dt x)) A {S with nums:=x} R:=Sub.set (i:=4) h rfl
theorem HR.Y3(h:HR N A S R)(x:List Int):HR (N.put A.lt (.list (x.map V.int))) A {S with BY:=x} R:=Sub.set (i:=5) h rfl
theorem HR.Y4(h:HR N A S R)(x:List Int):HR (N.put A.ld (.list (x.map V.int))) A {S with CA:=x} R:=Sub.set (i:=6) h rfl
theorem HR.Vy(h:HR N A S R)(x:List Nat):HR (N.put A.la (.list (x.map iv))) A {S with par:=x} R:=Sub.set (i:=7) h rfl
theorem HR.Y5(h:HR N A S R)(x:List V):HR (N.put A.lm (.list x)) A {S with merged:=x} R:=Sub.set (i:=9) h rfl
theorem HR.Y6(h:HR N A S R)(x:List V):HR (N.put A.le (.list x)) A {S with i5:=x} R:=Sub.set (i:=10) h rfl
theorem HR.Y7(h:HR N A S R)(x:List V):HR (N.put A.lf (.list x)) A {S with nO:=x} R:=Sub.set (i:=11) h rfl
theorem HR.Vz(h:HR N A S R)(x:List (List PK×Nat)):HR (N.put A.dk (.dt (x.map λp=>(p.1,iv p.2)))) A {S with known:=x} R:=Sub.set (i:=12) h rfl
theorem HR.VA(h:HR N A S R)(x:List Nat):HR (N.put A.lw (.list (x.map iv))) A {S with wait:=x} R:=Sub.set (i:=14) h rfl
theorem Sub.sub(h:Sub N l)(s:l'.Sublist l):Sub N l':=⟨(s.map _).nodup h.1,λp hp=>h.2 p (s.subset hp)⟩
theorem HR.VB(h:HR N A S R)(x:List (Nat×Option ax×List Nat))(hx:(iE x).Sublist (iE S.gk))(ep:Nat):HR (N.put A.da (.dp (iT x) ep)) A {S with gk:=x,ep:=ep} R:=by haveI h1:Sub N (oG A S++(lQ S.cz++iE x)++R):=Sub.sub h (((fI _).append ((fI _).append hx)).append (fI _));exact Sub.set (i:=13) h1 rfl
theorem HR.Y8(h:HR N A S R)(ha:N a=none)(x:List (Nat×Option ax×List Nat))(hx:(iE x).Perm ((a,.list [])::iE S.gk))(ep:Nat):HR ((N.put a (.list [])).put A.da (.dp (iT x) ep)) A {S with gk:=x,ep:=ep} R:=by
 haveI h1:Sub (N.put a (.list [])) (oG A S++(lQ S.cz++iE x)++R):=by
  refine(Sub.new (mo:=.list []) h ha).perm ?_;haveI e:∀X,oG A S++(lQ S.cz++X)++R=(oG A S++lQ S.cz)++(X++R):=λX=>by simp
  erw[hC,e,e];exact((hx.append_right R).append_left _).trans cI
 exact Sub.set (i:=13) h1 rfl
theorem HR.VC(h:HR N A S R){a:ax}{c:Nat}{l l':List Nat}{x y:List (Nat×Option ax×List Nat)}(e:S.gk=x++(c,some a,l)::y):HR (N.put a (.list (l'.map iv))) A {S with gk:=x++(c,some a,l')::y} R:=by
 revert h;exists N,A,S,R,a,c,l,l',x,y;haveI q:∀l:List Nat,iE (x++(c,some a,l)::y)=iE x++(a,.list (l.map iv))::iE y:=λl=>by simp[iE,Option.elim]
 haveI qd:∀l:List Nat,iT (x++(c,some a,l)::y)=iT x++(.i (c:Int),.ref a)::iT y:=λl=>by simp[iT,Eg]
 haveI e2:∀(l:List Nat)(F:List (ax×cA)),F++(lQ S.cz++(iE x++(a,cA.list (l.map iv))::iE y))++R=(F++(lQ S.cz++iE x))++(a,.list (l.map iv))::(iE y++R):=λl F=>by simp
 haveI f:oG A S=oG A {S with gk:=x++(c,some a,l')::y}:=by unfold oG;simp only[];erw[e,qd,qd]
 unfold HR hC at h ⊢;rw[e,q,e2]at h;show Sub _ (oG A {S with gk:=x++(c,some a,l')::y}++(lQ S.cz++iE (x++(c,some a,l')::y))++R);rw[q,e2,<-f];exact h.mid
theorem HR.VD(h:HR N A S R)(ha:N a=none)(l:List Nat):HR ((N.put a (.list (l.map iv))).put A.ll (.list ((S.cz++[(a,l)]).map λp=>.ref p.1))) A {S with cz:=S.cz++[(a,l)]} R:=by
 haveI h1:Sub (N.put a (.list (l.map iv))) (oG A S++(lQ (S.cz++[(a,l)])++iE S.gk)++R):=by
  refine(Sub.new (mo:=.list (l.map iv)) h ha).perm ?_;haveI e:oG A S++(lQ (S.cz++[(a,l)])++iE S.gk)++R=(oG A S++lQ S.cz)++(a,.list (l.map iv))::(iE S.gk++R):=by simp[lQ]
  haveI e2:hC A S++R=(oG A S++lQ S.cz)++(iE S.gk++R):=by simp[hC]
  erw[e,e2];exact cI
 exact Sub.set (i:=8) h1 rfl
theorem HR.VE(h:HR N A S R){a:ax}{l l':List Nat}{x y:List (ax×List Nat)}(e:S.cz=x++(a,l)::y):HR (N.put a (.list (l'.map iv))) A {S with cz:=x++(a,l')::y} R:=by
 revert h;exists N,A,S,R,a,l,l',x,y;have q:∀l:List Nat,lQ (x++(a,l)::y)=lQ x++(a,.list (l.map iv))::lQ y:=λl=>by simp[lQ]
 have e2:∀(l:List Nat)(F:List (ax×cA)),F++((lQ x++(a,cA.list (l.map iv))::lQ y)++iE S.gk)++R=(F++lQ x)++(a,.list (l.map iv))::(lQ y++iE S.gk++R):=λl F=>by simp
 have f:oG A S=oG A {S with cz:=x++(a,l')::y}:=by unfold oG;simp only[];erw[e];simp
 unfold HR hC at h ⊢;rw[e,q,e2]at h;show Sub _ (oG A {S with cz:=x++(a,l')::y}++(lQ (x++(a,l')::y)++iE S.gk)++R);rw[q,e2,<-f];exact h.mid
end
section
variable {Γ:Cx} {n:Nat} {N:aL} {α:Type} {f:α->V} {a:ax} {xs:List α}
theorem Ip(x:α)(h:N a=some (.list (xs.map f)))(hb:xs.length<=1000):aV Γ n (.builtin "list.append") [.ref a,f x] N (Is .none (N.put a (.list ((xs++[x]).map f)))):=jV h (sS f hb) ⟨rfl,by erw[az];rfl⟩
theorem OX(ys:List α)(h:N a=some (.list (xs.map f)))(hv:d9 N v=some (ys.map f))(hb:xs.length<=1000)(FG:ys.length<=1000):aV Γ n (.builtin "list.extend") [.ref a,v] N (Is .none (N.put a (.list ((xs++ys).map f)))):=l5 h hv (by erw[ag,ag];exact aa (df hb FG) (by decide)) ⟨rfl,by erw[az]⟩
theorem tX(h:N a=some (.list (xs.map f)))(hb:xs.length<=1000):aV Γ n (.builtin "len") [.ref a] N (Is (iv xs.length) N):=eZ (fg h) (sS f hb) ⟨by erw[ag];rfl,rfl⟩
end
theorem WH{N:aL}{r:Row}(h:r.kids.length<=2):lb N r.v (some (.int ((1:Nat):Int))) none (.tup (r.kids.map iv)):=.y4 (a:=1) (ap 1) (bP _) (aa (aw (by erw[ag];exact h)) (by decide))
theorem RP:∀{l:List Int},(∀x∈l,0<=x/\x<=W)->0<=l.sum/\l.sum<=l.length*W:=by
 intro l;induction l with
 |nil=>intro _;exact⟨r4 _,by erw[g7];exact Int.le_of_eq (lS W).symm⟩
 |cons x l ih=>intro hl;refine a9 (hl x (.head _)) λa b=>?_;refine a9 (ih λy hy=>hl y (.tail _ hy)) λc d=>?_;erw[kD,aU,Int.natCast_succ,Int.add_mul,rQ,pQ x];exact⟨rS c a,Int.add_le_add d b⟩
theorem getD_mem{l:List Int}{c:Nat}(h:c<l.length):l.getD c 0∈l:=by erw[ar,aE h];exact du _
section
variable {Γ:Cx} (hK:cL Γ.K) {n:Nat} {N:aL} {A:r7} {S:g8} {R:List (ax×cA)} {k:KV} {ha:ax}
include hK
theorem EC(H:HR N A S R)(OY:gC op)(h:k .none N):aV Γ (n+2) (.ref 110) [.obj A.ab 181 A.l6,.str op] N k:=by
 revert hK H;exists Γ,n,N,A,S,R,k,op;have e:(⟨#[vr op]⟩:Str)=⟨#[(⟨#[vr op]⟩:Str).cps.getD 0 0]⟩/\¬(⟨#[vr op]⟩:Str)=aN "?":=by rcases OY with rfl |rfl |rfl |rfl<;>exact⟨rfl,by decide+kernel⟩
 have hi:gy N (.str op) (.int ((0:Nat):Int)) (.str ⟨#[vr op]⟩):=by erw[pE OY];exact .str Nat.zero_lt_one (by decide)
 exact ck hK.XX rfl λG c=>c hK.Oh (.one (On hK (pE OY) (by rcases OY with rfl |rfl |rfl |rfl<;>decide) dU)) hi (.Tc (c:=false) ⟨nofun,λq=>(e.2 q).elim⟩) (eO.next h)
theorem OZ(H:HR N A S R){r:Row}(OY:gC r.op)(hlen:r.kids.length<=2)(hk:∀c∈r.kids,c<S.rows.length)(mV:∀x,(r.pk,x)∉S.nums)(hb:S.rows.length<=10)(J2:S.nums.length<=10)(hw:S.BY.length=S.rows.length)(hd:S.CA.length=S.rows.length)
  {W:Int} (hwb:∀x∈S.BY,0<=x/\x<=W) (hW:W<=100000) (hW0:0<=W)
  (h:∀w d N',0<=w->w<=1+2*W->HR N' A {S with rows:=S.rows++[r],nums:=S.nums++[(r.pk,iv S.rows.length)],BY:=S.BY++[w],CA:=S.CA++[d]} R->k (iv S.rows.length) N'):
  aV Γ (n+3) (.ref 103) [.obj A.ab 181 A.l6,.str r.op,.tup (r.kids.map iv)] N k:=by
 revert hK H OY hlen hk mV hb J2 hw hd;exists Γ,n,N,A,S,R,k,r,W;have b1:S.rows.length<=1000:=aa hb (by decide);haveI rB:(r.kids.map iv).length<=2:=by erw[ag];exact hlen
 have M4:r.pk∉S.nums.map (·.1):=λhm=>by refine aI (ak.mp hm) λp hp e=>?_;exact mV p.2 (e▸hp)
 have EB:jC N A.dn r.v (iv S.rows.length) (· =N.put A.dn (.dt (S.nums++[(r.pk,iv S.rows.length)]))):=by
  haveI e:dG S.nums r.pk (iv S.rows.length)=S.nums++[(r.pk,iv S.rows.length)]:=if_neg λh=>by refine aI (cF.mp h) λy hy e=>?_;exact M4 (ak.mpr ⟨y,hy,of_decide_eq_true e⟩)
  rw[<-e];exact .dt H.dn (iM r) (aa J2 (by decide))
 haveI H1:=H.Y2 (S.nums++[(r.pk,iv S.rows.length)]);haveI H2:=H1.Y1 (S.rows++[r]);have Y9:∀x∈r.kids.map (λc=>S.BY.getD c 0),0<=x/\x<=W:=λx hx=>by refine iu hx λc hc=>?_;exact hwb _ (getD_mem (hw▸hk c hc))
 haveI hs:=RP Y9;rw[ag]at hs;haveI Fz:(r.kids.length:Int)*W<=2*W:=Int.mul_le_mul_of_nonneg_right (fD.mpr hlen) hW0;haveI H3:=H2.Y3 (S.BY++[1+(r.kids.map λc=>S.BY.getD c 0).sum]);haveI kb:r.kids.length<=gS:=aa hlen (by decide);refine ck hK.XW rfl λG c=>c hK.sF (.one (lu rfl (aa rB (by decide)) dU)) (.C9 (aa (bD rB 1) (by decide))) (yF hK H) (.inD (c:=false) H.dn (iM r) ⟨nofun,λq=>(M4 q).elim⟩)
  (Ej hK H) (.one (EC hK H OY dU)) (WH hlen) .tup
  (.all (Si (λ_(_:Unit)=>[("self",.obj A.ab 181 A.l6),("node",r.v),("op",.str r.op)]) (λ_ _ N'=>N'=N) rfl () rfl rfl (λ_ _ _ _=>trivial) λi cc _ N' vt e G c=>?_))
  (λ_ N' e G=>?_) nr
 ·subst e;exact c (.Sk (c:=true) ⟨λ_=>dR _,λ_=>rfl⟩) hK.dH (nR hK H) (.one (tX H.ln b1)) (.ltI (c:=true) ⟨λ_=>jO.mpr (hk cc (a7 vt)),λ_=>rfl⟩) () rfl rfl
 ·revert e;exists N',G,_;intro e;subst e
  refineλc=>c hK.dH (nR hK H) (.one (tX H.ln b1)) (yF hK H) (.one EB) (nR hK H1) (mb (.append H1.ln)) (.one (Ip r H1.ln b1))
   (yG hK H2) (mb (.append H2.lt)) hK.KY (WH hlen) .tup (.one (fZ (l:=r.kids) (v:=iv) (λc=>V.int (S.BY.getD c 0)) trivial kb λc hc G c'=>c' (yG hK H2) (.lst (fg H2.lt) (by erw[aF,getD_some (hw▸hk c hc)];rfl) (zM (hk c hc) b1)) dU))
   (.one (wt (ns:=r.kids.map λc=>S.BY.getD c 0) (congrArg some (by erw[ay];rfl)) (by erw[ag];exact aa hlen (by decide)) (λx hx=>⟨(Y9 x hx).1,eS (Y9 x hx).2 (eS hW (by decide))⟩) dU)) .vN (.one (Ip (f:=V.int) _ H2.lt (hw▸b1)))
   (BZ hK H3) (mb (.append H3.ld)) hK.UZ (WH hlen) .tup (.one (fZ (l:=r.kids) (v:=iv) (λc=>V.int (S.CA.getD c 0)) trivial kb λc hc G c'=>c' (BZ hK H3) (.lst (fg H3.ld) (by erw[aF,getD_some (hd▸hk c hc)];rfl) (zM (hk c hc) b1)) dU))
   true (.bC rfl rfl (by erw[ag];exact aa (dg hlen 1) (by decide))) (.all (KX (ns:=(r.kids.map λc=>S.CA.getD c 0)++[0]) (congrArg some (by erw[az,ay];rfl)) (by erw[an];exact bP _) λM _ _=>?_)) λ_ _ h=>h
  exists M,_;intro _ _;intro G c;exists G,_;intro c;haveI H4:=H3.Y4 (S.CA++[1+M]);refine c .vN (.one (Ip (f:=V.int) _ H3.ld (hd▸b1))) hK.dH (nR hK H4) (.one (tX H4.ln (by erw[an];exact aa (aw hb) (by decide)))) .vO (eO.ret ?_);haveI e7:V.int (((S.rows++[r]).length:Int)-1)=iv S.rows.length:=by erw[an];show V.int ((S.rows.length:Int)+1-1)=_;erw[ua];rfl
  show k (V.int (((S.rows++[r]).length:Int)-1)) _;erw[e7];exact h _ (1+M) _ (rS (by decide) hs.1) (Int.add_le_add_left (eS hs.2 Fz) 1) H4
end
end
section
@[elab_as_elim] theorem L9{α:Type}{motive:List α->Prop}(h:∀x y,motive [x,y])(l:List α)(hl:l.length=2):motive l:=by
 cases l with
 |nil=>exact nomatch hl
 |cons x l=>exact(oO.mp (cU hl)).elim λy e=>e▸h x y
theorem Cg{l:List Nat}{a b:Nat}(p:l.Perm [a,b])(h:l.Pairwise (· <=·)):l=[min a b,max a b]:=by
 haveI e:l=[a,b]\/l=[b,a]:=by
  refine L9 (motive:=λl=>l.Perm [a,b]->l=[a,b]\/l=[b,a]) (λx y p=>?_) l p.length_eq p;rcases aq.mp (p.mem_iff.mp (.head _)) with rfl |hx
  ·exact .inl (congrArg (x::·) (IW.mp (p.cons_inv)))
  ·obtain rfl:=ao.mp hx;exact .inr (congrArg (x::·) (IW.mp ((p.trans (.swap x a [])).cons_inv)))
 rcases e with rfl |rfl
 ·haveI q:=(dc.mp h).1 b (.head _);erw[qp q,xd q]
 ·haveI q:=(dc.mp h).1 a (.head _);erw[xe q,xS q]
structure Mg(P:List Nat)(a b kk gg:Nat):Prop where
 lt:kk<gg
 gl:gg<P.length
 kr:root P kk=kk
 gr:root P gg=gg
 ab:(root P a=kk/\root P b=gg)\/(root P a=gg/\root P b=kk)
theorem mg(hp:PO P)(ha:a<P.length)(hb:b<P.length)(dM:root P a≠root P b):Mg P a b (min (root P a) (root P b)) (max (root P a) (root P b)):=by
 rcases Nat.lt_or_gt_of_ne dM with q |q
 ·erw[qp (bq q),xd (bq q)];exact⟨q,a6 (sQ P b) hb,kY hp a,kY hp b,.inl ⟨rfl,rfl⟩⟩
 ·erw[xe (bq q),xS (bq q)];exact⟨q,a6 (sQ P a) ha,kY hp b,kY hp a,.inr ⟨rfl,rfl⟩⟩
theorem HR.VF(h:HR N A S R)(l':List Nat)(e:S.cz[i]?=some (a,l)):HR (N.put a (.list (l'.map iv))) A {S with cz:=S.cz.set i (a,l')} R:=by
 have hi:i<S.cz.length:=by
  rcases dQ i S.cz.length with q |q
  ·exact q
  ·rw[bQ q]at e;cases e
 haveI IZ:S.cz[i]=(a,l):=by rw[aE hi]at e;exact aA e
 haveI e1:S.cz=S.cz.take i++(a,l)::S.cz.drop (i+1):=(cC i S.cz).symm.trans (by erw[iP hi,IZ]);haveI e2:S.cz.set i (a,l')=S.cz.take i++(a,l')::S.cz.drop (i+1):=by erw[t9,if_pos hi]
 erw[e2];exact h.VE e1
section
variable {Γ:Cx} (hK:cL Γ.K) {n:Nat} {N:aL} {A:r7} {S:g8} {R:List (ax×cA)} {k:KV} {ha:ax}
include hK
theorem O0(H:HR N A S R)(hp:S.par.length<=10)(hl:S.cz.length<=10)(h:∀a N',HR N' A {S with par:=S.par++[S.par.length],cz:=S.cz++[(a,[S.cz.length])]} R->k (iv S.par.length) N'):
  aV Γ (n+1) (.ref 249) [.obj A.au 306 A.mH] N k:=by
 revert hK;exists Γ,n,N,A,S,R,k;haveI b1:S.par.length<=1000:=aa hp (by decide);haveI b2:S.cz.length<=1000:=aa hl (by decide);haveI H1:=H.Vy (S.par++[S.par.length]);refine ck hK.X6 rfl λG c=>c (jl hK H) (mb (.append H.la)) hK.dH (jl hK H) (.one (tX H.la b1)) (.one (Ip (f:=iv) S.par.length H.la b1)) (wG hK H1) (mb (.append H1.ll)) hK.dH (wG hK H1) (.one (tX H1.ll b2)) false λa ha G c=>?_;haveI H2:=H1.VD ha [S.cz.length];refine c (.one (Ip (f:=λp:ax×List Nat=>V.ref p.1) (a,[S.cz.length]) (jZ ha H1.ll) b2)) hK.dH (jl hK H2) (.one (tX H2.la (by erw[an];exact aa (aw hp) (by decide)))) .vO (eO.ret ?_);haveI e7:V.int (((S.par++[S.par.length]).length:Int)-1)=iv S.par.length:=by erw[an];show V.int ((S.par.length:Int)+1-1)=_;erw[ua];rfl
 show k (V.int (((S.par++[S.par.length]).length:Int)-1)) _;erw[e7];exact h a _ H2
theorem Iq(H:HR N A S R)(hp:PO S.par){a b:Nat}(r6:a<S.par.length)(Hs:b<S.par.length)(hb:S.par.length<=10)(hm:S.merged.length<=100)(H8:∀c,c<S.par.length->∃p,S.cz[c]?=some p/\p.2.length<=100)
  (h1:root S.par a=root S.par b->k .none N) (h2:∀kk gg,Mg S.par a b kk gg->∀p q N' v,S.cz[kk]?=some p->S.cz[gg]?=some q->
   HR N' A {S with par:=S.par.set gg kk,cz:=S.cz.set kk (p.1,p.2++q.2),merged:=S.merged++[v]} R->k (.tup [iv kk,iv gg]) N'):
  aV Γ (n+2) (.ref 270) [.obj A.au 306 A.mH,iv a,iv b] N k:=by
 revert hK H hp;exists Γ,n,N,A,S,R,k,a,b;have b1:S.par.length<=1000:=aa hb (by decide);haveI hs:∀{v w:V},v=iv (root S.par a)->w=iv (root S.par b)->aV Γ (n+1) (.builtin "sorted") [.lst [v,w]] N (Is (.lst [iv (min (root S.par a) (root S.par b)),iv (max (root S.par a) (root S.par b))]) N):=λe1 e2=>by subst e1 e2;exact ib (l:=[root S.par a,root S.par b]) (f:=iv) (.inl rfl) (rF (by show 2<64;decide)) λl a b=>⟨by erw[Cg a (rG b)];rfl,rfl⟩
 refine ck hK.X9 rfl λG c=>?_;haveI c:=c hK.iK (vq hK H) (.one (sT hK H hp r6 b1 dU)) (vq hK H) (.one (sT hK H hp Hs b1 dU)) true;by_cases dM:root S.par a=root S.par b
 ·exact c (.one (hs rfl rfl)) rfl (eqT (by erw[dM,Nat.min_self,Nat.max_self])) (eO.ret (h1 dM))
 have M:=mg hp r6 Hs dM;haveI hs:=hs rfl rfl;generalize min (root S.par a) (root S.par b)=kk at M hs;generalize max (root S.par a) (root S.par b)=gg at M hs;haveI P6:=M.gl;haveI LY:=bK M.lt P6;refine aI (H8 kk LY) λaT SL Bq=>?_;obtain⟨pa,pl⟩:=aT;refine aI (H8 gg P6) λaT Y' hql=>?_;obtain⟨qa,ql⟩:=aT;haveI Za:jC N A.la (iv gg) (iv kk) (· =N.put A.la (.list ((S.par.set gg kk).map iv))):=by erw[List.map_set];exact .lst H.la (by erw[ag];exact P6) (zM P6 b1)
 haveI H1:=H.Vy (S.par.set gg kk);haveI SD:∀{i p},i<S.par.length->S.cz[i]?=some p->gy (N.put A.la (.list ((S.par.set gg kk).map iv))) (.ref A.ll) (iv i) (.ref p.1):=λhi hp=>.lst (fg H1.ll) (by erw[aF,hp];rfl) (zM hi b1);haveI g1:=H1.SD (p:=(pa,pl)) (a7 SL);haveI g2:=H1.SD (p:=(qa,ql)) (a7 Y');haveI H2:=H1.VF (pl++ql) SL;exact c (.one hs) rfl (CM (bd M.lt)) (jl hK H) (.one Za) (wG hK H1) (SD LY SL) (mb (.extend g1)) (wG hK H1) (SD P6 Y') (.one (OX (f:=iv) ql g1 (fg g2) (aa Bq (by decide)) (aa hql (by decide))))
  (Lm hK H2) (mb (.append H2.lm)) (.one (jV H2.lm (aa hm (by decide)) dU)) (eO.ret (h2 kk gg M _ _ _ _ SL Y' (H2.Y5 (S.merged++[V.tup [iv kk,iv gg]]))))
end
end
section
theorem qj(hn:(l.map (·.1)).Nodup)(hp:p∈l):dT (iT l) (.i (p.1:Int))=some (Eg p.2):=by
 unfold dT iT;induction l with
 |nil=>cases hp
 |cons x l ih=>
  rw[aP,bt]at hn;rcases aq.mp hp with rfl |hp
  ·simp
  ·have dM:x.1≠p.1:=λe=>hn.1 (ak.mpr ⟨p,hp,e.symm⟩);erw[aP,dq (by simp;lia)];exact ih hn.2 hp
theorem wY(l:List (Nat×Option ax×List Nat))(g:Nat):(iT l).filter (λp=>!decide (p.1=.i (g:Int)))=iT (l.filter λx=>!decide (x.1=g)):=by
 unfold iT;erw[List.filter_map]
 congr 1
 refine List.filter_congr λx _=>?_;simp only[mc,PK.i.injEq]
 congr 1
 by_cases e:x.1=g
 ·simp[e]
 ·erw[decide_eq_false e,decide_eq_false (by lia)]
theorem O1{l:List (Nat×Option ax×List Nat)}{c:Nat}(hc:c∈l.map (·.1))(y:List Nat):dG (iT l) (.i (c:Int)) (.lst (y.map iv))=iT (l.map λx=>if x.1=c then(c,none,y) else x):=by
 revert hc;exists l,c,y;unfold dG;have oD:(iT l).any (λq=>decide (q.1=.i (c:Int)))=true:=by refine aI (ak.mp hc) λp hp e=>?_;exact cF.mpr ⟨_,ak.mpr ⟨p,hp,rfl⟩,by simp[e]⟩
 erw[if_pos oD];unfold iT;erw[ay,ay];refine bf λx _=>?_;simp only[mc];by_cases e:x.1=c
 ·simp[e,Eg]
 ·erw[if_neg e,if_neg (by simp;lia)]
theorem Ma:(iE (l.map λx=>if x.1=c then(c,none,y) else x)).Sublist (iE l):=by
 induction l with
 |nil=>exact fI _
 |cons x l ih=>
  unfold iE at ih ⊢;erw[aP,aX,aX];refine ya ?_ ih;by_cases e:x.1=c
  ·erw[if_pos e];exact List.nil_sublist _
  ·erw[if_neg e];exact fI _
theorem uE{f:Nat×Option ax×List Nat->Bool}:(iE (l.filter f)).Sublist (iE l):=by
 induction l with
 |nil=>exact fI _
 |cons x l ih=>
  unfold iE at ih ⊢;erw[cV,aX];split
  ·erw[aX];exact ya (fI _) ih
  ·exact ih.trans (List.sublist_append_right _ _)
theorem HR.Gm(h:HR N A S R)(hp:p∈S.gk)(mo:cA):d9 (N.put A.da mo) (Eg p.2)=some (p.2.2.map iv):=by
 haveI h1:=h.gk hp;obtain⟨c,o,l⟩:=p;cases o with
 |none=>rfl
 |some a=>haveI g:=y8 h1;exact fg ((aL.bE λe=>cA.noConfusion (aA ((e▸g).symm.trans h.da))).trans g)
noncomputable def g8.j6(S:g8)(kk gg:Nat)(e f v:V)(p q:ax×List Nat)(lk lg:List Nat)(ep:Nat):g8:={S with i5:=S.i5++[e],par:=S.par.set gg kk,cz:=S.cz.set kk (p.1,p.2++q.2),merged:=S.merged++[v],nO:=S.nO++[f],wait:=S.wait++lg,gk:=(S.gk.filter λx=>!decide (x.1=gg)).map (λx=>if x.1=kk then(kk,none,lk++lg) else x),ep:=ep}
section
variable {Γ:Cx} (hK:cL Γ.K) {n:Nat} {N:aL} {A:r7} {S:g8} {R:List (ax×cA)} {k:KV} {ha:ax}
include hK
theorem O2(H:HR N A S R)(hp:PO S.par){a b:Nat}{rv:V}(r6:a<S.par.length)(Hs:b<S.par.length)(hb:S.par.length<=10)(hm:S.merged.length<=100)(hf:S.nO.length<=100)(he:S.i5.length<=100)(hw:S.wait.length<=1000)
  (H8:∀c,c<S.par.length->∃p,S.cz[c]?=some p/\p.2.length<=100) (Ak:(S.gk.map (·.1)).Nodup) (kX:∀c,c<S.par.length->root S.par c=c->∃o l,(c,o,l)∈S.gk/\l.length<=100) (NG:S.gk.length<=100)
  (h1:root S.par a=root S.par b->∀N' e,HR N' A {S with i5:=S.i5++[e]} R->k (.bool false) N')
  (h2:∀kk gg,Mg S.par a b kk gg->∀p q N' e f v ok lk og lg ep,S.cz[kk]?=some p->S.cz[gg]?=some q->(kk,ok,lk)∈S.gk->(gg,og,lg)∈S.gk->
   HR N' A (S.j6 kk gg e f v p q lk lg ep) R->k (.bool true) N'):
  aV Γ (n+3) (.ref 383) [.obj ha 438 A.dx,iv a,iv b,rv] N k:=by
 revert hK H hp;exists Γ,n,N,A,S,R,k,ha,a,b,rv;haveI O3:∀{m:Nat},m<=100->m<=gS:=λh=>aa h (by decide);haveI Zb:∀{m:Nat},m<=100->m<=1000:=λh=>aa h (by decide);haveI H1:=H.Y6 (S.i5++[V.tup [iv a,iv b,rv]]);refine ck hK.Yh rfl λG c=>c (FX hK H) (mb (.append H.le)) (.one (jV H.le (O3 he) dU)) (mY hK H1) (Lo hK H1)
  (.all (Iq hK H1 hp r6 Hs hb hm H8 (λe G c=>c .ZR (eO.ret (h1 e _ _ H1))) λkk gg M p q N2 w yf SM H2=>?_)) λ_ _ h=>h
 intro G c;refine eQ (kX kk (bK M.lt M.gl) M.kr) λok lk xo U6=>?_;refine eQ (kX gg M.gl M.gr) λog lg CN Zc=>?_;revert M yf SM H2 c xo U6;exists kk,gg,p,q,N2,w,G,ok,lk,og,lg,_;intro CN Zc M yf SM H2 c xo U6;haveI hkf:kk∈(S.gk.filter λx=>!decide (x.1=gg)).map (·.1):=ak.mpr ⟨(kk,ok,lk),a8.mpr ⟨xo,by erw[decide_eq_false (bd M.lt)];rfl⟩,rfl⟩;haveI H3:=H2.Y7 (S.nO++[V.int (((S.i5++[V.tup [iv a,iv b,rv]]).length:Int)-1)]);have H4:=H3.VA (S.wait++lg);refine c .ZS rfl (Ln hK H2) (mb (.append H2.lf)) hK.dH (FX hK H2) (.one (eZ (fg H2.le) (by erw[an];exact aa (aw he) (by decide)) dU)) .vO (.one (jV H2.lf (O3 hf) dU))
  (qb hK H3) (mb (.extend H3.lw)) (pZ hK H3) (.dp H3.da rfl (qj (p:=(gg,og,lg)) Ak CN)) (.one (OX (f:=iv) lg H3.lw (H3.gk (p:=(gg,og,lg)) CN) hw (Zb Zc)))
  (pZ hK H4) (.dp H4.da rfl (qj (p:=(kk,ok,lk)) Ak xo)) (pZ hK H4) (mb (.Ti H4.da))
  (.all (Hv H4.da (qj (p:=(gg,og,lg)) Ak CN) (by erw[iT,ag];exact O3 NG) λiz=>?_)) λ_ _ h=>h
 intro G c;exists iz,G,_;intro c;haveI glk:=H4.Gm (p:=(kk,ok,lk)) xo (.dp ((iT S.gk).filter λp=>!decide (p.1=.i (gg:Int))) iz);haveI glg:=H4.Gm (p:=(gg,og,lg)) CN (.dp ((iT S.gk).filter λp=>!decide (p.1=.i (gg:Int))) iz);haveI H5:=H4.VB (S.gk.filter λx=>!decide (x.1=gg)) uE iz;rw[<-wY]at H5;haveI hd5:=H5.da;haveI e1:iT (S.gk.filter λx=>!decide (x.1=gg))=(iT S.gk).filter λp=>!decide (p.1=.i (gg:Int)):=(wY _ _).symm;refine c (.bC glk glg (by erw[ag,ag];exact aa (df U6 Zc) (by decide))) (pZ hK H5) (.all (.Tf hd5 rfl ?_ λWJ=>?_)) λ_ h=>h
 ·erw[iT,ag];exact O3 (aa (cZ _ _) NG)
 ·intro G c;exists WJ,G,_;intro c;refine c (eO.ret (h2 kk gg M p q _ (V.tup [iv a,iv b,rv]) (V.int (((S.i5++[V.tup [iv a,iv b,rv]]).length:Int)-1)) w ok lk og lg WJ yf SM xo CN ?_));haveI H6:=H4.VB ((S.gk.filter λx=>!decide (x.1=gg)).map λx=>if x.1=kk then(kk,none,lk++lg) else x) ((Ma (l:=S.gk.filter λx=>!decide (x.1=gg))).trans uE) WJ;haveI ey:(lk.map iv++lg.map iv)=(lk++lg).map iv:=(az ..).symm;erw[ey,aL.nL];haveI EB:=O1 (l:=S.gk.filter λx=>!decide (x.1=gg)) hkf (lk++lg);show HR (aL.put _ _ (.dp (dG (iT (S.gk.filter λx=>!decide (x.1=gg))) (.i (kk:Int)) (.lst ((lk++lg).map iv))) WJ)) A _ R;erw[EB];exact H6
end
end
section
structure Good(S:g8)(told:List (Nat×Nat))(ex:Nat->Prop):Prop where
 fit:PJ S
 oF:S.rows.length<=5
 ok:∀n,n<S.rows.length->gI (S.row n)
 leaf:∀n,n<=1->n<S.rows.length->(S.row n).kids=[]
 cz:∀c,c<S.rows.length->∃p,S.cz[c]?=some p/\p.2.Nodup/\(∀m∈p.2,m<S.rows.length)/\(root S.par c=c->∀m,m∈p.2↔m<S.rows.length/\root S.par m=c)
 ED:(S.gk.map (·.1)).Nodup
 O4:∀p∈S.gk,p.1<S.rows.length
 RQ:∀c,c<S.rows.length->root S.par c=c->∃o l,(c,o,l)∈S.gk
 wZ:∀p∈S.gk,root S.par p.1=p.1->∀m,m<S.rows.length->∀d∈(S.row m).kids,root S.par d=p.1->m∈p.2.2
 Mb:∀p∈S.gk,∀m∈p.2.2,m<S.rows.length
 Mc:∀p∈S.gk,p.2.2.length*2 ^ (bg S).length<=160
 wait:∀m∈S.wait,m<S.rows.length
 O5:S.i5.length+(bg S).length<=5+told.length
 SN:S.nO.length+(bg S).length<=5
 SO:S.merged.length+(bg S).length<=5
 known:∀m,m<S.rows.length->m∈S.wait\/ex m\/∃x,((bl S m).pk,x)∈S.known/\root S.par x=root S.par m
 tY:∀p∈S.known,p.2<S.rows.length/\∃r:Row,p.1=r.pk/\bl S p.2=⟨r.op,r.kids.map (root S.par)⟩
 tZ:(S.known.map (·.1)).Nodup
 gen:∀χ:Nat->Row,(∀p∈told,χ p.1=χ p.2)->(∀i j,i<S.rows.length->j<S.rows.length->bl S i=bl S j->χ i=χ j)->∀i j,i<S.rows.length->j<S.rows.length->root S.par i=root S.par j->χ i=χ j
noncomputable def mu(S:g8):Nat:=S.wait.length+80*(bg S).length
section
variable {par:List Nat} {kk gg:Nat}
theorem nc{l:List Nat}{i:Nat}(x:Nat)(hi:i<l.length)(a d:Nat):(l.set i x).getD a d=if a=i then x else l.getD a d:=by
 erw[ar,ar,List.getElem?_set];by_cases e:i=a
 ·subst e;simp[hi]
 ·erw[if_neg e,if_neg (λq=>e q.symm)]
theorem RU(hp:PO par)(fY:kk<gg)(hg:gg<par.length):PO (par.set gg kk):=λa=>by
 erw[nc _ hg];split
 ·exact aR 0x1d7560c16020d70813 rfl fY (by assumption)
 ·exact hp a
theorem Me(hp:PO par)(fY:kk<gg)(hg:gg<par.length)(O6:root par kk=kk)(P7:root par gg=gg):∀a,root (par.set gg kk) a=if root par a=gg then kk else root par a:=by
 exists par,kk,gg,_;intro hp fY hg O6 P7;have CD:root (par.set gg kk) kk=kk:=by refine jG ?_;erw[nc _ hg,if_neg (by exact aR 0x75a6020570812 rfl fY)];have:=sR hp kk;rw[O6]at this;exact this
 intro a;induction a using lH with
 |_ a ih=>
  exists a;by_cases e:a=gg
  ·subst e
   conv=>lhs;rw[nQ]
   erw[dif_pos (by erw[nc _ hg,if_pos rfl];exact fY),nc _ hg,if_pos rfl,CD];erw[if_pos P7]
  ·conv=>lhs;rw[nQ]
   conv=>rhs;rw[nQ]
   erw[nc _ hg,if_neg e];split
   ·rename_i h;exact ih _ h
   ·rename_i h;first |rfl |erw[if_neg e]
end
noncomputable def RV(kk gg x:Nat):Nat:=if x=gg then kk else x
theorem Mf:RV kk gg gg=kk:=if_pos rfl
theorem Gn(h:x≠gg):RV kk gg x=x:=if_neg h
theorem pG(h:RV kk gg x=c):(x=gg/\c=kk)\/(x≠gg/\x=c):=by
 by_cases e:x=gg
 ·exact .inl ⟨e,by rw[<-h,e,Mf]⟩
 ·exact .inr ⟨e,by rw[<-h,Gn e]⟩
theorem Row.ext'{r s:Row}(h1:r.op=s.op)(h2:r.kids=s.kids):r=s:=by cases r;cases s;simp_all
section
variable {S:g8} {told told':List (Nat×Nat)} {ex:Nat->Prop} {kk gg:Nat} {p q:ax×List Nat} {lk lg:List Nat} {e0 f0 v0:V} {ep0 a b:Nat}
theorem VG{α:Type}{l:List α}{x:α}{a b:Nat}(h:a+1=b)(h2:l.length+b<=5):(l++[x]).length+a<=5:=by subst h;erw[an,ub];exact h2
theorem Mg.root(M:Mg S.par a b kk gg)(G:Good S told ex)(a:Nat):root (S.par.set gg kk) a=RV kk gg (root S.par a):=by erw[Me G.fit.po M.lt M.gl M.kr M.gr];rfl
theorem qm(hr:∀a,root (S.par.set gg kk) a=RV kk gg (root S.par a))(m:Nat):bl (S.j6 kk gg e0 f0 v0 p q lk lg ep0) m=⟨(bl S m).op,(bl S m).kids.map (RV kk gg)⟩:=by refine Row.ext' rfl ?_;show(S.row m).kids.map _=((S.row m).kids.map _).map _;erw[ay];exact bf λa _=>hr a
theorem Mg.cls(M:Mg S.par a b kk gg)(G:Good S told ex):(bg (S.j6 kk gg e0 f0 v0 p q lk lg ep0)).length+1=(bg S).length:=by
 have P6:=M.gl;haveI fY:=M.lt;haveI uh:(bg S).Nodup:=(z0 S).imp λh=>bd h;have hm:gg∈bg S:=qi.mpr ⟨P6,(congrArg (λx=>S.par.getD x x=x) M.gr).mp (sR G.fit.po gg)⟩;haveI e:bg (S.j6 kk gg e0 f0 v0 p q lk lg ep0)=(bg S).erase gg:=by
  erw[uh.erase_eq_filter];show xk _ (aM (S.par.set gg kk).length)=xk _ (xk _ _);erw[List.length_set,List.filter_filter];refine List.filter_congr λa ha=>?_;show decide ((S.par.set gg kk).getD a a=a)=_;erw[nc _ P6];by_cases e:a=gg
  ·subst e;erw[if_pos rfl,decide_eq_false (bd fY)];simp
  ·erw[if_neg e];simp[e]
 erw[e,Ax hm];exact Nat.sub_add_cancel (oQ hm)
theorem Good.join(G:Good S told ex)(ha:a<S.rows.length)(hb:b<S.rows.length)(M:Mg S.par a b kk gg)
  (hp:S.cz[kk]?=some p) (hq:S.cz[gg]?=some q) {ok og:Option ax} (NP:(kk,ok,lk)∈S.gk) (Ez:(gg,og,lg)∈S.gk) (ht:∀x∈told,x∈told') (vm:told.length<=told'.length)
  (hχ:∀χ:Nat->Row,(∀p∈told',χ p.1=χ p.2)->(∀i j,i<S.rows.length->j<S.rows.length->bl (S.j6 kk gg e0 f0 v0 p q lk lg ep0) i=bl (S.j6 kk gg e0 f0 v0 p q lk lg ep0) j->χ i=χ j)->χ a=χ b):Good (S.j6 kk gg e0 f0 v0 p q lk lg ep0) told' ex/\mu (S.j6 kk gg e0 f0 v0 p q lk lg ep0)<=mu S/\Mine.root (S.par.set gg kk) a=Mine.root (S.par.set gg kk) b:=by
 revert ok og;exists S,told,told',ex,kk,gg,p,q,lk,lg,e0,f0,v0,ep0,a,b;exists ok,og;haveI fY:=M.lt;have hg:gg<S.rows.length:=by rw[<-G.fit.len];exact M.gl
 have O6:=M.kr;have P7:=M.gr;have VH:=bd fY;haveI LY:=bK fY hg;have hr:=M.root G;haveI hc:=qm (p:=p) (q:=q) (lk:=lk) (lg:=lg) (e0:=e0) (f0:=f0) (v0:=v0) (ep0:=ep0) hr;haveI i8:=M.cls (p:=p) (q:=q) (lk:=lk) (lg:=lg) (e0:=e0) (f0:=f0) (v0:=v0) (ep0:=ep0) G;have EE:∀c,Mine.root (S.par.set gg kk) c=c->c≠gg/\Mine.root S.par c=c:=λc h=>by
  rw[hr]at h;rcases pG h with⟨e,e2⟩ |⟨e,e2⟩
  ·subst e2;exact(VH (O6.symm.trans e)).elim
  ·exact⟨λq=>e (by erw[q];exact P7),e2⟩
 haveI RW:∀i j,bl S i=bl S j->bl (S.j6 kk gg e0 f0 v0 p q lk lg ep0) i=bl (S.j6 kk gg e0 f0 v0 p q lk lg ep0) j:=λi j h=>by erw[hc,hc,h]
 haveI VJ:=G.Mc _ Ez;haveI VK:=G.Mc _ NP;obtain⟨c,hcc⟩:∃c,(bg (S.j6 kk gg e0 f0 v0 p q lk lg ep0)).length=c:=⟨_,rfl⟩
 exists c;haveI VL:(bg S).length=c+1:=by exact aR 0x1d7584600c26030580918013 rfl i8 hcc
 rw[VL,pO]at VJ VK;haveI Zd:lg.length*2 ^ c<=80:=by have:lg.length*(2 ^ c*2)<=160:=VJ;rw[<-to]at this;lia
 haveI adh:lk.length*2 ^ c<=80:=by have:lk.length*(2 ^ c*2)<=160:=VK;rw[<-to]at this;lia
 haveI Ze:1<=2 ^ c:=Nat.one_le_two_pow;haveI Zf:lg.length<=80:=aa (C6 _ Ze) Zd;haveI VM:(g8.gk (S.j6 kk gg e0 f0 v0 p q lk lg ep0)).map (·.1)=(S.gk.filter λx=>!decide (x.1=gg)).map (·.1):=by
  show(jz _ _).map _=_;erw[ay];refine bf λx _=>?_;show(if x.1=kk then(kk,none,lk++lg) else x).1=x.1;by_cases h:x.1=kk
  ·erw[if_pos h];exact h.symm
  ·erw[if_neg h]
 have jT:∀x∈g8.gk (S.j6 kk gg e0 f0 v0 p q lk lg ep0),x.1≠gg/\((x.1=kk/\x.2.2=lk++lg)\/(x.1≠kk/\x∈S.gk)):=λx hx=>by
  refine iu hx λy hy=>?_;refine a9 (a8.mp hy) λXM MU=>?_;by_cases q:y.1=kk
  ·erw[if_pos q];exact⟨VH,.inl ⟨rfl,rfl⟩⟩
  ·erw[if_neg q];exact⟨λe=>Bool.noConfusion (MU.symm.trans (congrArg (!·) (decide_eq_true e))),.inr ⟨q,XM⟩⟩
 haveI Zg:∀{x},x∈S.gk->x.1≠gg->(if x.1=kk then(kk,none,lk++lg) else x)∈g8.gk (S.j6 kk gg e0 f0 v0 p q lk lg ep0):=λ{x}h1 h2=>ak.mpr ⟨x,a8.mpr ⟨h1,congrArg (!·) (decide_eq_false h2)⟩,rfl⟩;refine⟨⟨⟨RU G.fit.po fY M.gl,List.length_set.trans G.fit.len,G.fit.small,G.fit.kids,G.fit.tN,G.fit.ops⟩,G.oF,G.ok,G.leaf,?_,VM▸G.ED.sublist (gn.map _),?_,?_,?_,?_,?_,?_,?_,?_,?_,?_,?_,G.tZ,?_⟩,?_,?_⟩
 ·
  intro c DM;exists c;refine rg (G.cz kk LY) λp0 hp0 p1 p2 p3=>?_;exists p0;refine rg (G.cz gg hg) λq0 hq0 q1 q2 q3=>?_;exists q0;haveI ep:p=p0:=aA (hp.symm.trans hp0);haveI eq:q=q0:=aA (hq.symm.trans hq0);subst ep;subst eq;by_cases e:kk=c
  ·subst e;refine⟨(p.1,p.2++q.2),List.getElem?_set_self (l7 hp).1,bI.mpr ⟨p1,q1,λx hx y hy e=>?_⟩,λm hm=>?_,λ_ m=>?_⟩
   ·subst e;haveI h1:=((p3 O6 x).mp hx).2;haveI h2:=((q3 P7 x).mp hy).2;exact VH (h1.symm.trans h2)
   ·rcases aH.mp hm with h |h
    ·exact p2 m h
    ·exact q2 m h
   ·erw[aH,p3 O6,q3 P7];exact⟨λh=>h.elim (λh=>⟨h.1,(hr m).trans (by erw[h.2,Gn VH])⟩) λh=>⟨h.1,(hr m).trans (by erw[h.2,Mf])⟩,λh=>(pG ((hr m).symm.trans h.2)).elim (λq=>.inr ⟨h.1,q.1⟩) λq=>.inl ⟨h.1,q.2⟩⟩
  ·refine rg (G.cz c DM) λr0 tj r1 r2 r3=>?_;refine⟨r0,(List.getElem?_set_ne e).trans tj,r1,r2,λSQ m=>?_⟩;refine a9 (EE c SQ) λh1 h2=>?_;erw[r3 h2];exact⟨λh=>⟨h.1,(hr m).trans (by erw[h.2,Gn h1])⟩,λh=>(pG ((hr m).symm.trans h.2)).elim (λq=>absurd q.2.symm e) λq=>⟨h.1,q.2⟩⟩
 ·exactλx hx=>(jT x hx).2.elim (λh=>h.1▸LY) λh=>G.O4 x h.2
 ·intro c DM SQ;refine a9 (EE c SQ) λh1 h2=>?_;refine qv (G.RQ c DM h2) λo l h3=>?_;haveI hf:=Zg h3 h1;by_cases e:c=kk
  ·rw[if_pos e]at hf;erw[e];exact⟨_,_,hf⟩
  ·rw[if_neg e]at hf;exact⟨_,_,hf⟩
 ·intro x hx hrx m hm d hd xP;refine a9 (EE _ hrx) λh1 h2=>?_;haveI xP:=(hr d).symm.trans xP;rcases(jT x hx).2 with⟨e,e2⟩ |⟨e,h⟩
  ·erw[e2,aH];exact(pG xP).elim (λq=>.inr (G.wZ _ Ez P7 m hm d hd q.1)) λq=>.inl (G.wZ _ NP O6 m hm d hd (q.2.trans e))
  ·exact(pG xP).elim (λq=>absurd q.2 e) λq=>G.wZ x h h2 m hm d hd q.2
 ·intro x hx m hm;rcases(jT x hx).2 with⟨e,e2⟩ |⟨e,h⟩
  ·rw[e2,aH]at hm;rcases hm with h |h
   ·exact G.Mb _ NP m h
   ·exact G.Mb _ Ez m h
  ·exact G.Mb x h m hm
 ·intro x hx;erw[hcc];rcases(jT x hx).2 with⟨e,e2⟩ |⟨e,h⟩
  ·erw[e2,an,Nat.add_mul];lia
  ·have:=G.Mc x h;rw[VL,pO,<-to]at this;exact aR 0x1d59e7e905679fa558411 rfl this
 ·intro m hm;exact(aH.mp hm).elim (G.wait m) (G.Mb _ Ez m)
 ·have:=G.O5;haveI e:(S.i5++[e0]).length=S.i5.length+1:=an;show(S.i5++[e0]).length+_<=_;erw[e];lia
 ·exact VG i8 G.SN
 ·exact VG i8 G.SO
 ·
  intro m hm;exists m;by_cases e:∃d∈(S.row m).kids,root S.par d=gg
  ·obtain⟨d,hd,e⟩:=e;exact .inl (aK _ (G.wZ _ Ez P7 m hm d hd e))
  ·haveI ecr:bl (S.j6 kk gg e0 f0 v0 p q lk lg ep0) m=bl S m:=by erw[hc];refine Row.ext' rfl ?_;refine(bf λx hx=>?_).trans (nj _);refine iu hx λd hd=>?_;exact if_neg λq=>e ⟨d,hd,q⟩
   rcases G.known m hm with h |h |⟨x,h1,h2⟩
   ·exact .inl (aW _ h)
   ·exact .inr (.inl h)
   ·exact .inr (.inr ⟨x,by erw[ecr];exact h1,(hr _).trans (h2▸(hr _).symm)⟩)
 ·intro x hx;refine a9 (G.tY x hx) λh1 aT=>?_;refine aI aT λr h2 h3=>?_;clear aT;refine⟨h1,r,h2,?_⟩;erw[hc,h3];refine Row.ext' rfl ?_;erw[ay];exact bf λy _=>(hr y).symm
 ·
  intro χ h1 h2 i j hi hj mT;revert h1 h2;exists χ,i,j;have Zh:=G.gen χ (λp hp=>h1 p (ht p hp)) (λi j hi hj h=>h2 i j hi hj (RW i j h));haveI pV:=hχ χ h1 h2;haveI mT:=(hr i).symm.trans (mT.trans (hr j));have key:∀x,x<S.rows.length->(root S.par x=kk\/root S.par x=gg)->χ x=χ a:=λx hx h=>by
   haveI ka:root S.par x=root S.par a->χ x=χ a:=λe=>Zh x a hx ha e;haveI kb:root S.par x=root S.par b->χ x=χ a:=λe=>(Zh x b hx hb e).trans pV.symm;rcases M.ab with⟨m1,m2⟩ |⟨m1,m2⟩
   ·exact h.elim (λe=>ka (e.trans m1.symm)) λe=>kb (e.trans m2.symm)
   ·exact h.elim (λe=>kb (e.trans m2.symm)) λe=>ka (e.trans m1.symm)
  rcases pG mT with⟨e1,e2⟩ |⟨e1,e2⟩
  ·erw[key i hi (.inr e1),key j hj ((pG e2).elim (λq=>.inr q.1) λq=>.inl q.2)]
  ·rcases pG e2.symm with⟨q1,q2⟩ |⟨q1,q2⟩
   ·erw[key i hi (.inl q2),key j hj (.inr q1)]
   ·exact Zh i j hi hj q2.symm
 ·show(S.wait++lg).length+_<=S.wait.length+_;erw[an];exact aR 0x1d75645509e7e411154179f9110c459e7e40d80918014 rfl i8 Zf
 ·erw[hr,hr];rcases M.ab with⟨m1,m2⟩ |⟨m1,m2⟩<;>erw[m1,m2,Mf,Gn VH]
end
end
section
noncomputable def n5(l:List (List PK×Nat)):List (List PK×V):=l.map λp=>(p.1,iv p.2)
theorem w0(h:dT (n5 l) q=some x):∃m,(q,m)∈l/\x=iv m:=by unfold dT n5 at h;refine aI (aJ.mp h) λy hy e=>?_;refine aI (ak.mp (mI hy)) λz hz e2=>?_;haveI hq:=List.find?_some hy;subst e2;haveI hq:z.1=q:=of_decide_eq_true hq;subst hq;exact⟨z.2,hz,e.symm⟩
theorem EF(h:dT (n5 l) q=none):q∉l.map (·.1):=λhm=>by refine aI (ak.mp hm) λp hp e=>?_;unfold dT n5 at h;rw[Az,List.find?_eq_none]at h;exact h _ (ak.mpr ⟨p,hp,rfl⟩) (by simp[e])
section
variable {S:g8} {told:List (Nat×Nat)} {ex:Nat->Prop} {kk gg:Nat} {p q:ax×List Nat} {lk lg:List Nat} {e0 f0 v0:V} {ep0 a b:Nat}
theorem Mg.keep(M:Mg S.par a b kk gg)(G:Good S told ex)(Ez:(gg,og,lg)∈S.gk)(hr:∀a,Mine.root (S.par.set gg kk) a=RV kk gg (Mine.root S.par a))(hm:m<S.rows.length):m∈S.wait++lg\/Mine.bl (S.j6 kk gg e0 f0 v0 p q lk lg ep0) m=Mine.bl S m:=by
 by_cases e:∃d∈(S.row m).kids,Mine.root S.par d=gg
 ·obtain⟨d,hd,e⟩:=e;exact .inl (aK _ (G.wZ _ Ez M.gr m hm d hd e))
 ·refine .inr ?_;erw[qm hr];refine Row.ext' rfl ?_;refine(bf λx hx=>?_).trans (nj _);refine iu hx λd hd=>?_;exact if_neg λq=>e ⟨d,hd,q⟩
theorem Good.move(G:Good S told ex){Fj:Nat->Prop}(hw:∀m∈w,m<S.rows.length)(he:ed.length+(bg S).length<=5+told'.length)
  (hk:∀m,m<S.rows.length->m∈w\/Fj m\/∃x,((Mine.bl S m).pk,x)∈kn/\Mine.root S.par x=Mine.root S.par m)
  (O6:∀p∈kn,p.2<S.rows.length/\∃r:Row,p.1=r.pk/\Mine.bl S p.2=⟨r.op,r.kids.map (Mine.root S.par)⟩) (ht:∀x∈told,x∈told') (Ir:(kn.map (·.1)).Nodup):Good {S with i5:=ed,known:=kn,wait:=w} told' Fj:=
 ⟨⟨G.fit.po,G.fit.len,G.fit.small,G.fit.kids,G.fit.tN,G.fit.ops⟩,G.oF,G.ok,G.leaf,G.cz,G.ED,G.O4,G.RQ,G.wZ,G.Mb,G.Mc,hw,he,G.SN,G.SO,hk,O6,Ir,λχ h1 h2=>G.gen χ (λp hp=>h1 p (ht p hp)) h2⟩
theorem Good.exc(G:Good S told ex){Fj:Nat->Prop}(h:∀m,m<S.rows.length->ex m->Fj m\/m∈S.wait\/∃x,((Mine.bl S m).pk,x)∈S.known/\Mine.root S.par x=Mine.root S.par m):Good S told Fj:=
 G.move G.wait G.O5 (λm hm=>by
  rcases G.known m hm with a |a |a
  ·exact .inl a
  ·rcases h m hm a with b |b |b
   ·exact .inr (.inl b)
   ·exact .inl b
   ·exact .inr (.inr b)
  ·exact .inr (.inr a)) G.tY (λ_ h=>h) G.tZ
theorem Good.Zi(G:Good S told ex)(hn:n<S.rows.length)(mV:(Mine.bl S n).pk∉S.known.map (·.1)):Good {S with known:=S.known++[((Mine.bl S n).pk,n)]} told ex:=
 G.move G.wait G.O5 (λm hm=>by
   rcases G.known m hm with a |a |⟨x,h1,h2⟩
   ·exact .inl a
   ·exact .inr (.inl a)
   ·exact .inr (.inr ⟨x,aW _ h1,h2⟩)) (λp hp=>by
   rcases aH.mp hp with h |h
   ·exact G.tY p h
   ·simp at h;subst h;refine⟨hn,Mine.bl S n,rfl,?_⟩;refine Row.ext' rfl ?_;show(S.row n).kids.map _=((S.row n).kids.map _).map _;erw[ay];exact bf λd _=>(kY G.fit.po d).symm) (λ_ h=>h) (by
   erw[az];exact bI.mpr ⟨G.tZ,by simp,λa ha b hb e=>by simp at hb;subst hb;subst e;exact mV ha⟩)
theorem Good.Zj(G:Good S told ex):(bg S).length<=5:=by haveI h:(bg S).length<=_:=cZ (λa=>decide (S.par.getD a a=a)) (aM S.par.length);rw[aO,G.fit.len]at h;have:=G.oF;exact aR 0x1d7569015a40960812 rfl h this
theorem Good.Zk(G:Good S told ex)(hc:c<S.rows.length):∃p,S.cz[c]?=some p/\p.2.length<=5:=by refine rg (G.cz c hc) λp h1 h2 h3 _=>?_;refine⟨p,h1,?_⟩;have:=fG h2 (r:=aM S.rows.length) λm hm=>br.mpr (h3 m hm);rw[aO]at this;have:=G.oF;exact aR 0x1d7569015a40960812 rfl (by assumption) this
theorem Good.VN(G:Good S told ex){p:Nat×Option ax×List Nat}(hp:p∈S.gk)(hr:Mine.root S.par p.1=p.1):p.2.2.length<=80:=by
 haveI h1:=G.Mc p hp;haveI hm:p.1∈bg S:=by have:=f6 G.fit (G.O4 p hp);rw[hr]at this;exact this
 haveI h2:=oQ hm;obtain⟨c,hc⟩:∃c,(bg S).length=c+1:=⟨(bg S).length-1,by exact aR 0x1d61181280105705f1 rfl h2⟩
 rw[hc,pO,<-to]at h1;haveI h3:p.2.2.length*2 ^ c<=80:=by exact aR 0x1d59e7e405679fa558411 rfl h1
 exact aa (C6 _ Nat.one_le_two_pow) h3
theorem Good.RX(G:Good S told ex):S.gk.length<=5:=by
 have:=fG G.ED (r:=aM S.rows.length) λm hm=>by refine iu hm λp hp=>?_;exact br.mpr (G.O4 p hp)
 rw[ag,aO]at this;have:=G.oF;exact aR 0x1d7569015a40960812 rfl (by assumption) this
end
section
variable {Γ:Cx} (hK:cL Γ.K) {n:Nat} {N:aL} {A:r7} {S:g8} {R:List (ax×cA)} {k:KV} {ha:ax} {told:List (Nat×Nat)} {ex:Nat->Prop} {a0:Nat}
include hK
theorem yN(H:HR N A S R)(G:Good S told ex)(vm:told.length<=10)(hw:S.wait.length<=1000){a b:Nat}{rv:V}(r6:a<S.rows.length)(Hs:b<S.rows.length)
  (h1:root S.par a=root S.par b->∀N' e,HR N' A {S with i5:=S.i5++[e]} R->k (.bool false) N')
  (h2:∀N' p q lk lg og kk gg ok e f v ep,Mg S.par a b kk gg->S.cz[kk]?=some p->S.cz[gg]?=some q->(kk,ok,lk)∈S.gk->(gg,og,lg)∈S.gk->HR N' A (S.j6 kk gg e f v p q lk lg ep) R->k (.bool true) N'):
  aV Γ (n+3) (.ref 383) [.obj ha 438 A.dx,iv a,iv b,rv] N k:=by
 have hl:=G.fit.len;refine O2 hK H G.fit.po (hl▸r6) (hl▸Hs) (hl▸aa G.oF (by decide)) (aa (b7 _ _) (aa G.SO (by decide))) (aa (b7 _ _) (aa G.SN (by decide))) (aa (b7 _ _) (aa G.O5 (aa (bD vm 5) (by decide)))) hw
  (λc hc=>?_) G.ED (λc hc SQ=>?_) (aa G.RX (by decide)) h1 λkk gg M p q N' e f v ok lk og lg ep hp hq hk hg H'=>h2 N' p q lk lg og kk gg ok e f v ep M hp hq hk hg H'
 ·refine aI (G.Zk (hl▸hc)) λp h1 h2=>?_;exact⟨p,h1,aa h2 (by decide)⟩
 ·refine qv (G.RQ c (hl▸hc) SQ) λo l h1=>?_;exact⟨o,l,h1,aa (G.VN h1 SQ) (by decide)⟩
theorem O7(H:HR N A S R)(G:Good S told (λm=>ex m\/m=a0))(vm:told.length<=10)(hw:S.wait.length<=1000)(Ir:S.known.length<=1000)(I4:a0<S.rows.length)
  (h:∀N' S',HR N' A S' R->Good S' told ex->mu S'<=mu S->S'.known.length<=S.known.length+1->S'.rows=S.rows->k .none N'):
  aV Γ (n+4) (.ref 355) [.obj ha 438 A.dx,iv a0] N k:=by
 revert hK;exists Γ,n,N,A,S,R,k,ha,told,ex,a0;have hl:=G.fit.len;have yJ:S.par.length<=1000:=hl▸aa G.oF (by decide);refine ck hK.U3 rfl λG' c0=>c0 (FY hK H) (mb (.rl H.dk)) (zO hK H) (.one (wL hK H G.fit I4 dU))
  (.all (mW (kvs:=n5 S.known) H.dk (iM _) (by erw[n5,ag];exact aa Ir (by decide)) (λx hx=>?_) λhx=>?_)) λ_ _ h=>h
 ·refine aI (w0 hx) λm hm e=>?_;subst e;intro G' c;refine a9 (G.tY _ hm) λWK aT=>?_;refine aI aT λr Al OB=>?_;clear aT;have Vr:bl S a0=r:=tO Al;have sP:bl S m=bl S a0:=by refine Eq.trans OB ?_;rw[<-Vr];refine Row.ext' rfl ?_;show((S.row a0).kids.map _).map _=(S.row a0).kids.map _;erw[ay];exact bf λd _=>kY G.fit.po d
  have c:=c (eH hK H) (.one (eu hK H G.fit.po (hl▸WK) yJ dU)) (eH hK H);have f0:aV Γ (n+3) (.ref 362) [.obj ha 438 A.dx,iv a0] N (Is (iv (root S.par a0)) N):=eu hK H G.fit.po (hl▸I4) yJ dU;by_cases e:root S.par m=root S.par a0
  ·exact c (.one f0) (SE e) (eO.next (h _ S H (G.exc λx hx VO=>VO.elim .inl λe2=>.inr (.inr ⟨m,e2▸hm,e2▸e⟩)) (ap _) (cD _) rfl))
  ·refine c (.one f0) (neT e) (F6 hK H) (.all (yN hK H G vm hw WK I4 (λq=>absurd q e) λN' p q lk lg og kk gg ok e0 f0 v0 ep0 M hp hq NP Ez H'=>?_)) λ_ _ h=>h
   refineλ_ c=>c (eO.next ?_)
   haveI PD:=M.root G;refine ez (G.join (e0:=e0) (f0:=f0) (v0:=v0) (ep0:=ep0) WK I4 M hp hq NP Ez (told':=told) (λ_ h=>h) (ap _) (λχ _ h2=>h2 m a0 WK I4 (by erw[qm PD,qm PD,sP]))) λG' CO qT=>?_;refine h N' _ H' (G'.exc λx hx VO=>VO.elim .inl λe=>?_) CO (cD _) rfl;subst e;exact(M.keep G Ez PD I4).elim (λq=>.inr (.inl q)) λq=>.inr (.inr ⟨m,by erw[q];exact hm,qT⟩)
 ·intro G' c;rw[show n5 S.known++[((bl S a0).pk,iv a0)]=(S.known++[((bl S a0).pk,a0)]).map (λp=>(p.1,iv p.2)) by erw[az];rfl]at c;haveI hx:=EF hx;haveI H1:=H.Vz (S.known++[((bl S a0).pk,a0)]);haveI G1:=G.Zi I4 hx;exact c (eH hK H1) (.one (eu hK H1 G.fit.po (show a0<S.par.length from hl▸I4) yJ dU)) (eH hK H1) (.one (eu hK H1 G.fit.po (show a0<S.par.length from hl▸I4) yJ dU)) (SE rfl)
   (eO.next (h _ _ H1 (G1.exc λx hx VO=>VO.elim .inl λe2=>.inr (.inr ⟨x,aK _ (ao.mpr (e2▸rfl)),rfl⟩)) (ap _) (by erw[an];exact ap _) rfl))
theorem It(H:HR N A S R)(G:Good S told ex)(vm:told.length<=9)(hw:S.wait.length<=1000)(r6:a<S.rows.length)(Hs:b<S.rows.length)
  (h:∀N' S' t,HR N' A S' R->Good S' (told++[(a,b)]) ex->mu S'<=mu S->S'.known.length<=S.known.length->S'.rows=S.rows->k (.bool t) N'):
  aV Γ (n+4) (.ref 376) [.obj ha 438 A.dx,iv a,iv b,rv] N k:=by
 refine ck hK.Yg rfl λG' c=>c (F6 hK H) (.all (k:=k) (yN hK H G (fb vm) hw r6 Hs (λhe N' e H'=>?_) λN' p q lk lg og kk gg ok e0 f0 v0 ep0 M hp hq NP Ez H'=>?_)) λv N' e G c=>c (eO.ret e)
 ·refine h _ _ _ H' (G.move G.wait ?_ G.known G.tY (λx hx=>aW _ hx) G.tZ) (ap _) (ap _) rfl;have:=G.O5;show(S.i5++[e]).length+_<=_;erw[an,an,ub];exact aw this
 ·refine ez (G.join (e0:=e0) (f0:=f0) (v0:=v0) (ep0:=ep0) r6 Hs M hp hq NP Ez (told':=told++[(a,b)]) (λx hx=>aW _ hx) (by erw[an];exact cD _) (λχ h1 _=>h1 (a,b) (aK _ (ao.mpr rfl)))) λG' CO qT=>?_;exact h N' _ true H' G' CO (ap _) rfl
theorem Iu(H:HR N A S R)(G:Good S told (λ_=>False))(vm:told.length<=9)(hb:S.known.length+mu S<=900)
  (h:∀N' S',HR N' A S' R->Good S' told (λ_=>False)->S'.wait=[]->S'.rows=S.rows->k .none N'):
  aV Γ (n+5) (.ref 390) [.obj ha 438 A.dx] N k:=by
 revert hK;exists Γ,n,N,A,S,R,k,ha,told;refine ck hK.Yi rfl λG' c=>c (env:=λ_:g8=>[("self",.obj ha 438 A.dx)]) (J:=λz S1 N1=>HR N1 A S1 R/\Good S1 told (λ_=>False)/\S1.known.length+mu S1<=900/\mu S1=z/\S1.rows=S.rows)
  (P:=λS1 N1=>HR N1 A S1 R/\Good S1 told (λ_=>False)/\S1.wait=[]/\S1.rows=S.rows) (mu S) S (zI rfl) ⟨H,G,hb,rfl,rfl⟩ (v8 λz S1 N1 hj G'=>?_) λS1 N1 e G' c=>c (eO.next (h N1 S1 e.1 e.2.1 e.2.2.1 e.2.2.2))
 revert hj;exists z,S1,N1,G',_;intro hj;refine Qe hj λH G hb aT i6=>?_;clear hj;obtain rfl:=aT;haveI Zl:S1.wait.length<=mu S1:=b7 _ _;haveI hw9:S1.wait.length<=1000:=by exact aR 0x1d7567a77ad8835820d67a37a78910813 rfl hb Zl
 rcases List.eq_nil_or_concat S1.wait with hw |⟨w,x,hw⟩
 ·exactλc=>c hK.dH (qb hK H) (.one (tX H.lw hw9)) (.W2 (c:=false) ⟨nofun,λq=>by rw[hw]at q;exact nomatch q⟩) ⟨H,G,hw,i6⟩
 ·exists w,x,_;intro hw;rw[List.concat_eq_append]at hw;have WL:S1.wait.length=w.length+1:=by erw[hw,an];rfl
  haveI glw:=H.lw;rw[hw,az]at glw;haveI H1:=H.VA w;haveI G1:Good {S1 with wait:=w} told (λm=>False\/m=x):=G.move (λm hm=>G.wait m (by erw[hw];exact aW _ hm)) G.O5 (λm hm=>by
   rcases G.known m hm with q |q |q
   ·rw[hw,aH,ao]at q;exact q.imp id λq=>.inl (.inr q)
   ·exact q.elim
   ·exact .inr (.inr q)) G.tY (λ_ h=>h) G.tZ
  haveI WM:x<S1.rows.length:=G.wait x (by erw[hw];exact aK _ (.head _));have RY:mu {S1 with wait:=w}+1=mu S1:=by show w.length+80*(bg S1).length+1=S1.wait.length+80*(bg S1).length;erw[WL,ub]
  refineλc=>c hK.dH (qb hK H) (.one (tX H.lw hw9)) (.W2 (c:=true) ⟨λ_=>by erw[WL];exact jO.mpr (bP _),λ_=>rfl⟩) (wH hK H) (qb hK H) (mb (.pop H.lw)) (.one (KU glw (by erw[ag];exact aa (by exact aR 0x1d75d59e9deb621184601035820d67a37a78910814 rfl hb Zl WL:w.length<=1000) (by decide)) dU))
   (.all (O7 hK H1 G1 (fb vm) (by show w.length<=_;exact aR 0x1d75d59e9deb621184601035820d67a37a78910814 rfl hb Zl WL) (by show S1.known.length<=_;exact aR 0x1d7567a77ad8816024600d67a37a78910813 rfl hb RY) WM λN' S' H' G' CO Ir PD=>?_)) λ_ _ h=>h
  intro G c;exact c S' (mu S') (by exact aR 0x1d7570835810d80918013 rfl RY CO) ⟨H',G',by exact aR 0x1d75d7567a37a78911055918011560c46024600d67a37a78910815 rfl hb RY CO Ir,rfl,PD.trans i6⟩ rfl
end
end
section
theorem VP(S:g8):∀told:List (Nat×Nat),∃(φ:Row->Row)(E:List Row),E.length<=told.length/\(∀p∈told,φ (bl S p.1)=φ (bl S p.2))/\∀r,r∉E->φ r=r:=by
 intro told;induction told with
 |nil=>exact⟨id,[],ap _,(λp hp=>by cases hp),λr _=>rfl⟩
 |cons p t ih=>
  obtain⟨a,b⟩:=p;refine fc ih λφ E h1 h2 h3=>?_;refine⟨λr=>if φ r=φ (bl S b) then φ (bl S a) else φ r,φ (bl S b)::E,by simp;exact h1,λp hp=>?_,λr hr=>?_⟩
  ·rcases aq.mp hp with rfl |hp
   ·show(if φ (bl S a)=φ (bl S b) then φ (bl S a) else φ (bl S a))=if φ (bl S b)=φ (bl S b) then φ (bl S a) else φ (bl S b)
    simp
   ·have:=h2 p hp;simp only[this]
  ·simp only[aq,not_or]at hr;have:=h3 r hr.2;simp only[this];erw[if_neg hr.1]
theorem Good.fin(G:Good S told (λ_=>False))(hw:S.wait=[])(ht:told.length<=2):nZ S:=by
 exists S,told;refine⟨G.fit,G.oF,λc hc hr=>?_,λc l hl hm=>?_,λi j hi hj he=>?_,G.ok,G.leaf⟩
 ·refine rg (G.cz c hc) λp h1 h2 h3 h4=>?_;refine⟨p,h1,?_,h4 hr⟩;have:=fG h2 (r:=aM S.rows.length) λm hm=>br.mpr (h3 m hm);rw[aO]at this;have:=G.oF;exact aR 0x1d75779f8c15a40960812 rfl (by assumption) this
 ·refine fc (VP S told) λφ E h1 h2 h3=>?_;cases l with
  |nil=>simp
  |cons x0 l=>
   refine cQ (hm x0 (.head _)) λm0 a1 a2 a3=>?_;haveI hg:=G.gen (λm=>φ (bl S m)) h2 (λi j _ _ h=>by show φ _=φ _;erw[h]);have:=fG hl (r:=φ x0::E) λx hx=>by
    refine cQ (hm x hx) λm b1 b2 b3=>?_;haveI e:φ (bl S m)=φ (bl S m0):=hg m m0 b1 a1 (b2.trans a2.symm);rw[b3,a3]at e;by_cases q:x∈E
    ·exact .tail _ q
    ·rw[h3 x q]at e;erw[e];exact .head _
   simp only[aU]at this ⊢;exact aR 0x1d75d5a24600d64600918035810968413 rfl ht h1 this
 ·rcases G.known i hi with a |a |⟨x,b1,b2⟩
  ·rw[hw]at a;cases a
  ·exact a.elim
  rcases G.known j hj with a |a |⟨y,c1,c2⟩
  ·rw[hw]at a;cases a
  ·exact a.elim
  rw[<-b2,<-c2];rw[he]at b1;haveI key:∀(l:List (List PK×Nat))(q:List PK)(x y:Nat),(l.map (·.1)).Nodup->(q,x)∈l->(q,y)∈l->x=y:=by
   intro l;induction l with
   |nil=>intro _ _ _ _ h;cases h
   |cons z l ih=>
    intro q x y hn hx hy;rw[aP,bt]at hn;rcases aq.mp hx with e |hx
    ·rcases aq.mp hy with e2 |hy
     ·rw[<-e]at e2;exact(lP.mp e2).2.symm
     ·exact absurd (ak.mpr ⟨_,hy,by rw[<-e]⟩) hn.1
    ·rcases aq.mp hy with e2 |hy
     ·exact absurd (ak.mpr ⟨_,hx,by rw[<-e2]⟩) hn.1
     ·exact ih q x y hn.2 hx hy
  erw[key _ _ _ _ G.tZ b1 c1]
end
section
theorem Sub.ins(h:Sub N (x++y))(ha:N a=none):Sub (N.put a mo) (x++(a,mo)::y):=(h.new ha).perm cI
theorem Sub.at(h:Sub N (x++(a,mo)::y)):N a=some mo:=h.2 (a,mo) (by simp)
theorem Sub.attr{ρ:Str->Option V}(H:Sub N (P++(dx,.at ρ c)::(Q++R)))(ha:N l=none)(mo:cA):
  (N.put l mo) dx=some (.at ρ c)/\∀ρ' c',Sub ((N.put l mo).put dx (.at ρ' c')) (P++(dx,.at ρ' c')::(Q++(l,mo)::R)):=by
 have e:∀(m:cA)(X:List (ax×cA)),P++(dx,m)::(Q++X)=(P++(dx,m)::Q)++X:=λm X=>by simp
 rw[e]at H;have H1:=H.ins (mo:=mo) ha;rw[<-e]at H1;exact⟨H1.at,λρ' c'=>H1.mid⟩
theorem Sub.Mh{ρ:Str->Option V}(H:Sub N (P++(dx,.at ρ c)::(P2++(Q++R))))(ha:N l=none)(mo:cA):
  (N.put l mo) dx=some (.at ρ c)/\∀ρ' c',Sub ((N.put l mo).put dx (.at ρ' c')) (P++(dx,.at ρ' c')::(P2++(Q++(l,mo)::R))):=by
 refine a9 (Sub.attr (Q:=P2++Q) (R:=R) (P:=P) (dx:=dx) (ρ:=ρ) (c:=c) (by erw[bY P2];exact H) ha mo) λa b=>?_;exact⟨a,λρ' c'=>by rw[<-bY P2];exact b ρ' c'⟩
noncomputable def EG(ln dn lt ld:ax):Str->Option V:=cf.set (cf.set (cf.set (cf.set gu "nodes" (.ref ln)) "numbers" (.ref dn)) "weights" (.ref lt)) "depths" (.ref ld)
noncomputable def Iv(la ll lm:ax):Str->Option V:=cf.set (cf.set (cf.set gu "above" (.ref la)) "lots" (.ref ll)) "merged" (.ref lm)
section
variable {Γ:Cx} (hK:cL Γ.K) {n:Nat} {N:aL} {A:r7} {S:g8} {R:List (ax×cA)} {k:KV} {ha:ax}
include hK
theorem Mi(H:Sub N (P++R))(h:∀ab l6 ln dn lt ld N',Sub N' (P++((l6,.at (EG ln dn lt ld) 4)::(ln,.list [])::(dn,.dt [])::(lt,.list [])::(ld,.list [])::R))->k (.obj ab 181 l6) N'):aV Γ (n+2) (.ref 181) [] N k:=by
 revert hK;exists Γ,n,N,k,P,R;refine nE.call (call_cls (f:=91) hK.Oi hK.Ld hK.Le hK.Oj λa dx ha RA dM=>?_);exists a,dx;refine sy hK.f91 rfl (Ss (a:=14) (m:=40) λG=>?_);exists G,_;haveI H:=H.ins (mo:=.at gu 0) RA
 refineλc=>c false λln Zm G c=>?_
 revert Zm;exists ln,G,_;intro c Zm;refine a9 (Sub.attr (Q:=[]) H Zm (.list [])) λg H1=>?_;haveI H:=H1 (cf.set gu "nodes" (.ref ln)) 1;refine c ⟨hK.tK,hK.sG,g,by decide⟩ false λdn SG G c=>?_;revert SG;exists dn,G,_;intro c SG;refine a9 (Sub.attr (Q:=[(ln,.list [])]) H SG (.dt [])) λg H1=>?_;haveI H:=H1 (cf.set (cf.set gu "nodes" (.ref ln)) "numbers" (.ref dn)) 2;refine c ⟨hK.tK,hK.pq,g,by decide⟩ false λlt fY G c=>?_;revert fY;exists lt,G,_;intro c fY;refine a9 (Sub.attr (Q:=[(ln,.list []),(dn,.dt [])]) H fY (.list [])) λg H1=>?_;haveI H:=H1 (cf.set (cf.set (cf.set gu "nodes" (.ref ln)) "numbers" (.ref dn)) "weights" (.ref lt)) 3;refine c ⟨hK.tK,hK.pt,g,by decide⟩ false λld LZ G c=>?_;refine a9 (Sub.attr (Q:=[(ln,.list []),(dn,.dt []),(lt,.list [])]) H LZ (.list [])) λg H1=>?_;haveI H:=H1 (cf.set (cf.set (cf.set (cf.set gu "nodes" (.ref ln)) "numbers" (.ref dn)) "weights" (.ref lt)) "depths" (.ref ld)) 4;refine c ⟨hK.tK,hK.qJ,g,by decide⟩ (eO.next ⟨rfl,?_⟩);exact h _ _ _ _ _ _ _ H
theorem EH{P P2 R:List (ax×cA)}(H:Sub N (P++(P2++R)))(h:∀au mH la ll lm N',Sub N' (P++((mH,.at (Iv la ll lm) 3)::(P2++((la,.list [])::(ll,.list [])::(lm,.list [])::R))))->k (.obj au 306 mH) N'):aV Γ (n+2) (.ref 306) [] N k:=by
 revert hK;exists Γ,n,N,k,P,P2,R;refine nE.call (call_cls (f:=242) hK.HF hK.Eb hK.Ec hK.HG λa dx ha RA dM=>?_);exists a,dx;refine sy hK.X5 rfl (Ss (a:=14) (m:=40) λG=>?_);exists G,_;haveI H:=H.ins (mo:=.at gu 0) RA
 refineλc=>c false λla Zn G c=>?_
 revert Zn;exists la,G,_;intro c Zn;refine a9 (Sub.Mh (P2:=P2) (Q:=[]) H Zn (.list [])) λg H1=>?_;haveI H:=H1 (cf.set gu "above" (.ref la)) 1;refine c ⟨hK.px,hK.pz,g,by decide⟩ false λll H8 G c=>?_;refine a9 (Sub.Mh (P2:=P2) (Q:=[(la,.list [])]) H H8 (.list [])) λg H1=>?_;haveI H:=H1 (cf.set (cf.set gu "above" (.ref la)) "lots" (.ref ll)) 2;refine c ⟨hK.px,hK.qK,g,by decide⟩ false λlm hlm G c=>?_;refine a9 (Sub.Mh (P2:=P2) (Q:=[(la,.list []),(ll,.list [])]) H hlm (.list [])) λg H1=>?_;haveI H:=H1 (cf.set (cf.set (cf.set gu "above" (.ref la)) "lots" (.ref ll)) "merged" (.ref lm)) 3;refine c ⟨hK.px,hK.oo,g,by decide⟩ (eO.next ⟨rfl,?_⟩);exact h a dx la ll lm _ H
theorem Mj{R:List (ax×cA)}(H:Sub N R)(h:∀ha A ep N',HR N' A ⟨[],[],[],[],[],[],[],[],[],[],[],ep,[]⟩ R->k (.obj ha 438 A.dx) N'):aV Γ (n+4) (.ref 438) [] N k:=by
 revert hK;exists Γ,n,N,k,R;refine nE.call (call_cls (f:=324) hK.Ok hK.Lf hK.Lg hK.Ol λa dx ha RA dM=>?_);exists a,dx;refine sy hK.Yb rfl (Ss (a:=14) (m:=40) λG=>?_);exists G,_;haveI H:=Sub.ins (x:=[]) (mo:=.at gu 0) H RA
 refineλc=>c hK.Q4 (.all (Mi hK (P:=[(dx,.at gu 0)]) H λab l6 ln dn lt ld N1 H=>?_)) λ_ _ h=>h
 exists ab,l6,ln,dn,lt,ld,N1,_;intro H;intro G c;exists G,_;intro c;haveI g:=Sub.at (x:=[]) H;haveI H:=Sub.mid (x:=[]) (mo':=.at (cf.set gu "bank" (.obj ab 181 l6)) 1) H;refine c ⟨hK.nN,hK.ut,g,by decide⟩ hK.Lc (.all (EH hK (P:=[(dx,.at (cf.set gu "bank" (.obj ab 181 l6)) 1),(l6,.at (EG ln dn lt ld) 4)]) (P2:=[(ln,.list []),(dn,.dt []),(lt,.list []),(ld,.list [])]) H λau mH la ll lm N2 H=>?_)) λ_ _ h=>h;exists au,mH,la,ll,lm,N2,_;intro H;intro G c;exists G,_;intro c;haveI g:=Sub.at (x:=[]) H;haveI H:=Sub.mid (x:=[]) (mo':=.at (cf.set (cf.set gu "bank" (.obj ab 181 l6)) "unions" (.obj au 306 mH)) 2) H;refine c ⟨hK.nN,hK.qL,g,by decide⟩ false λle hle G c=>?_;revert hle;exists le,G,_;intro c hle;refine a9 (Sub.attr (P:=[]) (R:=R) (Q:=[(l6,.at (EG ln dn lt ld) 4),(mH,.at (Iv la ll lm) 3),(ln,.list []),(dn,.dt []),(lt,.list []),(ld,.list []),(la,.list []),(ll,.list []),(lm,.list [])]++[]) H hle (.list [])) λg H1=>?_;haveI H:=H1 (cf.set (cf.set (cf.set gu "bank" (.obj ab 181 l6)) "unions" (.obj au 306 mH)) "edges" (.ref le)) 3;refine c ⟨hK.nN,hK.sI,g,by decide⟩ false λlf Zo G c=>?_;revert Zo;exists lf,G,_;intro c Zo;refine a9 (Sub.attr (P:=[]) (R:=R) (Q:=[(l6,.at (EG ln dn lt ld) 4),(mH,.at (Iv la ll lm) 3),(ln,.list []),(dn,.dt []),(lt,.list []),(ld,.list []),(la,.list []),(ll,.list []),(lm,.list [])]++[(le,.list [])]) H Zo (.list [])) λg H1=>?_;haveI H:=H1 (cf.set (cf.set (cf.set (cf.set gu "bank" (.obj ab 181 l6)) "unions" (.obj au 306 mH)) "edges" (.ref le)) "forest" (.ref lf)) 4;refine c ⟨hK.nN,hK.qM,g,by decide⟩ false λdk MZ G c=>?_;revert MZ;exists dk,G,_;intro c MZ;refine a9 (Sub.attr (P:=[]) (R:=R) (Q:=[(l6,.at (EG ln dn lt ld) 4),(mH,.at (Iv la ll lm) 3),(ln,.list []),(dn,.dt []),(lt,.list []),(ld,.list []),(la,.list []),(ll,.list []),(lm,.list [])]++[(le,.list []),(lf,.list [])]) H MZ (.dt [])) λg H1=>?_;haveI H:=H1 (cf.set (cf.set (cf.set (cf.set (cf.set gu "bank" (.obj ab 181 l6)) "unions" (.obj au 306 mH)) "edges" (.ref le)) "forest" (.ref lf)) "known" (.ref dk)) 5;refine c ⟨hK.nN,hK.sJ,g,by decide⟩ true λda ep Zp G c=>?_;revert Zp;exists da,ep,G,_;intro c Zp;refine a9 (Sub.attr (P:=[]) (R:=R) (Q:=[(l6,.at (EG ln dn lt ld) 4),(mH,.at (Iv la ll lm) 3),(ln,.list []),(dn,.dt []),(lt,.list []),(ld,.list []),(la,.list []),(ll,.list []),(lm,.list [])]++[(le,.list []),(lf,.list []),(dk,.dt [])]) H Zp (.dp [] ep)) λg H1=>?_;haveI H:=H1 (cf.set (cf.set (cf.set (cf.set (cf.set (cf.set gu "bank" (.obj ab 181 l6)) "unions" (.obj au 306 mH)) "edges" (.ref le)) "forest" (.ref lf)) "known" (.ref dk)) "above" (.ref da)) 6;refine c ⟨hK.nN,hK.sK,g,by decide⟩ false λlw Zq G c=>?_;revert Zq;exists lw,G,_;intro c Zq;refine a9 (Sub.attr (P:=[]) (R:=R) (Q:=[(l6,.at (EG ln dn lt ld) 4),(mH,.at (Iv la ll lm) 3),(ln,.list []),(dn,.dt []),(lt,.list []),(ld,.list []),(la,.list []),(ll,.list []),(lm,.list [])]++[(le,.list []),(lf,.list []),(dk,.dt []),(da,.dp [] ep)]) H Zq (.list [])) λg H1=>?_;haveI H:=H1 (cf.set (cf.set (cf.set (cf.set (cf.set (cf.set (cf.set gu "bank" (.obj ab 181 l6)) "unions" (.obj au 306 mH)) "edges" (.ref le)) "forest" (.ref lf)) "known" (.ref dk)) "above" (.ref da)) "waiting" (.ref lw)) 7;refine c ⟨hK.nN,hK.pA,g,by decide⟩ (eO.next ⟨rfl,?_⟩);exact h a ⟨dx,ab,l6,au,mH,le,lf,dk,da,lw,ln,dn,lt,ld,la,ll,lm⟩ ep _ H
end
end
section
structure pH(S:g8):Prop where
 par:S.par=aM S.rows.length
 known:S.known=S.rows.zipIdx.map λp=>(p.1.pk,p.2)
 nums:S.nums=HJ S.rows
 wtl:S.BY.length=S.rows.length
 dpl:S.CA.length=S.rows.length
 wtb:∀x∈S.BY,0<=x/\x<=3 ^ S.rows.length
 cz:S.cz.map (·.2)=(aM S.rows.length).map λi=>[i]
 Iw:S.gk.map (·.1)=aM S.rows.length
 Zr:∀p∈S.gk,∃a,p.2.1=some a
 ED:∀p∈S.gk,p.2.2.Nodup
 wZ:∀p∈S.gk,∀m,m∈p.2.2↔m<S.rows.length/\p.1∈(S.row m).kids
 wait:S.wait=[]
 O5:S.i5=[]
 SN:S.nO=[]
 SO:S.merged=[]
 nd:S.rows.Nodup
 ok:∀n,n<S.rows.length->gI (S.row n)
 kids:∀n<S.rows.length,∀c∈(S.row n).kids,c<n
theorem gI.op(h:gI r):gC r.op:=by exists r;rcases h with⟨h,_⟩ |⟨h,_⟩ |⟨h,_⟩ |⟨h,_⟩<;>erw[h]<;>simp[gC]
theorem gI.tN(h:gI r):r.kids.length<=2:=by exists r;rcases h with⟨_,h⟩ |⟨_,h⟩ |⟨_,_,h⟩ |⟨_,_,_,h⟩<;>erw[h]<;>simp
theorem HR.Mk(h:HR N A S R)(hp:(c,some a,l)∈S.gk):N a=some (.list (l.map iv)):=h.2 (a,.list (l.map iv)) (aW _ (aK _ (aK _ (bn.mpr ⟨_,hp,ao.mpr rfl⟩))))
theorem w5(d:Nat):(aM n).getD a d=if a<n then a else d:=by
 erw[ar];by_cases h:a<n
 ·erw[r8 h,if_pos h];rfl
 ·erw[bQ (by simpa using h),if_neg h];rfl
theorem w6(n:Nat):PO (aM n):=λa=>by erw[w5];split<;>exact aR 1442833 rfl
theorem rN(n a:Nat):root (aM n) a=a:=jG (by erw[w5];split<;>rfl)
theorem pH.fit(F:pH S)(h5:S.rows.length<=5):PJ S:=⟨by erw[F.par];exact w6 _,by erw[F.par,aO],by exact aR 32274805854225 rfl h5,F.kids,λn hn=>(F.ok n hn).tN,λn hn=>(F.ok n hn).op⟩
theorem Go(h:S.par=aM S.rows.length)(m:Nat):bl S m=S.row m:=by unfold bl;erw[h];refine Row.ext' rfl ?_;exact(bf λa _=>rN _ a).trans (nj _)
noncomputable def g8.xy(S:g8)(r:Row)(w d:Int)(la:ax)(av:List (Nat×Option ax×List Nat))(ep:Nat):g8:={S with rows:=S.rows++[r],nums:=S.nums++[(r.pk,iv S.rows.length)],BY:=S.BY++[w],CA:=S.CA++[d],par:=S.par++[S.par.length],cz:=S.cz++[(la,[S.cz.length])],gk:=av,ep:=ep}
structure AB(S:g8)(l2:List Nat)(i:Nat)(av:List (Nat×Option ax×List Nat)):Prop where
 k1:av.map (·.1)=aM (S.rows.length+1)
 k2:∀p∈av,∃a,p.2.1=some a
 k3:∀p∈av,p.2.2.Nodup
 k4:∀p∈av,∀m,m∈p.2.2↔(m<S.rows.length/\p.1∈(S.row m).kids)\/(m=S.rows.length/\p.1∈l2.take i)
section
variable {S:g8} {l2:List Nat} {i:Nat} {av:List (Nat×Option ax×List Nat)}
theorem AB.zero(F:pH S)(a:ax):AB S l2 0 (S.gk++[(S.rows.length,some a,[])]):=by
 revert F;exists S,l2,a;have sp:∀{p},p∈S.gk++[(S.rows.length,some a,[])]->p∈S.gk\/p=(S.rows.length,some a,[]):=λh=>(aH.mp h).imp id ao.mp;refine⟨by erw[az,F.Iw,jc];rfl,λp hp=>?_,λp hp=>?_,λp hp m=>?_⟩
 ·rcases sp hp with q |rfl
  ·exact F.Zr p q
  ·exact⟨a,rfl⟩
 ·rcases sp hp with q |rfl
  ·exact F.ED p q
  ·exact cH
 ·rcases sp hp with q |rfl
  ·erw[F.wZ p q m];exact⟨.inl,λh=>h.elim id λh=>nomatch h.2⟩
  ·exact⟨nofun,λh=>h.elim (λh=>(Nat.lt_asymm h.1 (F.kids m h.1 _ h.2)).elim) λh=>nomatch h.2⟩
theorem AB.step(h:AB S l2 i av)(hn:l2.Nodup)(vt:l2[i]?=some c)(hc:c<S.rows.length):∃b ls X Y,av=X++(c,some b,ls)::Y/\ls.length<=S.rows.length+1/\AB S l2 (i+1) (X++(c,some b,ls++[S.rows.length])::Y):=by
 revert h hn;exists S,l2,i,av,c;refine bz (l7 vt) λlW Vp=>?_;have SJ:c∉l2.take i:=λhm=>by obtain⟨x,hx,e⟩:=dC.mp hm;haveI GY:=aY hx (cS _ _);exact b8.mp hn x i (bK GY lW) lW GY (e.trans Vp.symm)
 have hck:c∈av.map (·.1):=by erw[h.k1];exact br.mpr (bZ hc)
 refine aI (ak.mp hck) λaT P8 il=>?_;exists aT;obtain⟨c',o,ls⟩:=aT;exists c',o,ls;obtain rfl:=il;refine bz (h.k2 _ P8) λb aT=>?_;exists b;obtain rfl:=aT;refine qv (Ji P8) λX Y aT=>?_;exists X,Y;obtain rfl:=aT;haveI M4:((X++(c',some b,ls)::Y).map (·.1)).Nodup:=by erw[h.k1];exact kh
 rw[az,aP]at M4;refine ez (bI.mp M4) λa1 a2 a3=>?_;haveI k4:=h.k4 _ P8;have uF:∀{p},p∈X++(c',some b,ls++[S.rows.length])::Y->p=(c',some b,ls++[S.rows.length])\/(p.1≠c'/\p∈X++(c',some b,ls)::Y):=λhp=>by
  rcases aH.mp hp with h |h
  ·exact .inr ⟨a3 _ (ak.mpr ⟨_,h,rfl⟩) c' (.head _),aW _ h⟩
  ·exact(aq.mp h).imp id λh=>⟨λq=>(bt.mp a2).1 (ak.mpr ⟨_,h,q⟩),aK _ (.tail _ h)⟩
 haveI Wq:l2.take (i+1)=l2.take i++[c']:=by erw[bJ lW,Vp]
 refine⟨b,ls,X,Y,rfl,?_,⟨by rw[<-h.k1,az,az];rfl,λp hp=>?_,λp hp=>?_,λp hp m=>?_⟩⟩
 ·have:=fG (h.k3 _ P8) (r:=aM (S.rows.length+1)) λm hm=>br.mpr (((k4 m).mp hm).elim (λq=>bZ q.1) λq=>q.1▸cK _);rw[aO]at this;exact this
 ·rcases uF hp with rfl |⟨_,q⟩
  ·exact⟨b,rfl⟩
  ·exact h.k2 p q
 ·rcases uF hp with rfl |⟨_,q⟩
  ·refine bI.mpr ⟨h.k3 _ P8,gx _ _,λx hx y hy e=>?_⟩;obtain rfl:=ao.mp hy;subst e;rcases(k4 _).mp hx with q |q
   ·exact gj _ q.1
   ·exact SJ q.2
  ·exact h.k3 p q
 ·erw[Wq,aH];rcases uF hp with rfl |⟨q1,q⟩
  ·show m∈ls++[S.rows.length]↔_;erw[aH,k4 m,ao];exact⟨λh=>h.elim (λh=>h.imp id λh=>⟨h.1,.inl h.2⟩) λh=>.inr ⟨h,.inr (.head _)⟩,λh=>h.elim (λh=>.inl (.inl h)) λh=>.inr h.1⟩
  ·erw[h.k4 p q m];exact or_congr_right (and_congr_right λ_=>⟨.inl,λh=>h.resolve_right λe=>q1 (ao.mp e)⟩)
theorem Gp(rows:List Row)(r:Row):(rows++[r]).zipIdx=rows.zipIdx++[(r,rows.length)]:=by erw[List.zipIdx_append,gW];rfl
theorem AB.fresh(F:pH S)(h:AB S l2 l2.length av)(tj:gI r)(RZ:r∉S.rows)(I5:∀c∈r.kids,c<S.rows.length)(rB:∀c,c∈l2↔c∈r.kids)(WN:0<=w)(Pq:w<=1+2*3 ^ S.rows.length):
  pH {S.xy r w d la av ep with known:=S.known++[(r.pk,S.rows.length)]}:=by
 revert F h tj RZ I5 rB WN Pq;exists S,l2,av,r,w,d,la,ep;haveI rP:(S.rows++[r]).getD S.rows.length Row.dflt=r:=by erw[ar,lO];rfl
 haveI yO:∀m,m<S.rows.length->(S.rows++[r]).getD m Row.dflt=S.row m:=λm hm=>by erw[g8.row,ar,ar,f7 hm]
 haveI hlen:(S.rows++[r]).length=S.rows.length+1:=an;haveI uF:∀{P:Nat->Prop},(∀m,m<S.rows.length->P m)->P S.rows.length->∀m,m<(S.rows++[r]).length->P m:=λa b m hm=>iN (hlen▸hm) a b;haveI H8:S.cz.length=S.rows.length:=by have:=congrArg cB F.cz;rw[ag,ag,aO]at this;exact this
 refine⟨?_,?_,?_,?_,?_,λx hx=>?_,?_,?_,h.k2,h.k3,λp hp m=>?_,F.wait,F.O5,F.SN,F.SO,?_,uF (λm hm=>?_) ?_,uF (λm hm=>?_) ?_⟩
 ·show S.par++[S.par.length]=aM (S.rows++[r]).length;erw[hlen,F.par,aO,jc]
 ·show S.known++[(r.pk,S.rows.length)]=(S.rows++[r]).zipIdx.map _;erw[F.known,Gp,az];rfl
 ·show S.nums++[(r.pk,iv S.rows.length)]=HJ (S.rows++[r]);erw[F.nums,HJ,HJ,Gp,az];rfl
 ·show(S.BY++[w]).length=(S.rows++[r]).length;erw[an,F.wtl,hlen];rfl
 ·show(S.CA++[d]).length=(S.rows++[r]).length;erw[an,F.dpl,hlen];rfl
 ·exists x;show 0<=x/\x<=3 ^ (S.rows++[r]).length;haveI hp:(0:Int)<3 ^ S.rows.length:=Int.pow_pos (by decide);erw[hlen,Int.pow_succ];rcases aH.mp hx with q |q
  ·have:=F.wtb x q;lia
  ·obtain rfl:=ao.mp q;lia
 ·show(S.cz++[(la,[S.cz.length])]).map _=(aM (S.rows++[r]).length).map _;erw[hlen,az,F.cz,jc,az,H8];rfl
 ·show av.map _=aM (S.rows++[r]).length;erw[hlen];exact h.k1
 ·revert hp;exists p,m;show m∈p.2.2↔m<(S.rows++[r]).length/\p.1∈((S.rows++[r]).getD m Row.dflt).kids;have k4:=h.k4 p hp m;rw[cX,rB]at k4;erw[k4,hlen];constructor
  ·rintro(⟨a1,a2⟩ |⟨rfl,a2⟩)
   ·exact⟨bZ a1,by erw[yO m a1];exact a2⟩
   ·exact⟨cK _,by erw[rP];exact a2⟩
  ·rintro⟨a1,a2⟩;rcases oa.mp a1 with q |rfl
   ·rw[yO m q]at a2;exact .inl ⟨q,a2⟩
   ·rw[rP]at a2;exact .inr ⟨rfl,a2⟩
 ·exact bI.mpr ⟨F.nd,gx _ _,λa ha b hb e=>RZ (ao.mp hb▸e▸ha)⟩
 ·show gI ((S.rows++[r]).getD m Row.dflt);erw[yO m hm];exact F.ok m hm
 ·show gI ((S.rows++[r]).getD S.rows.length Row.dflt);erw[rP];exact tj
 ·show ∀c∈((S.rows++[r]).getD m Row.dflt).kids,c<m;erw[yO m hm];exact F.kids m hm
 ·show ∀c∈((S.rows++[r]).getD S.rows.length Row.dflt).kids,c<S.rows.length;erw[rP];exact I5
theorem AB.fit(F:pH S)(tj:gI r)(I5:∀c∈r.kids,c<S.rows.length)(h4:S.rows.length<=4):PJ (S.xy r w d la av ep)/\bl (S.xy r w d la av ep) S.rows.length=r:=by
 have rP:(S.rows++[r]).getD S.rows.length Row.dflt=r:=by erw[ar,lO];rfl
 have yO:∀m,m<S.rows.length->(S.rows++[r]).getD m Row.dflt=S.row m:=λm hm=>by erw[g8.row,ar,ar,f7 hm]
 haveI hlen:(S.rows++[r]).length=S.rows.length+1:=an;have uF:∀{P:Nat->Prop},(∀m,m<S.rows.length->P m)->P S.rows.length->∀m,m<(S.rows++[r]).length->P m:=λa b m hm=>iN (hlen▸hm) a b;haveI EI:S.par++[S.par.length]=aM (S.rows++[r]).length:=by erw[hlen,F.par,aO,jc]
 haveI old:∀{Q:Nat->Row->Prop},(∀m,m<S.rows.length->Q m (S.row m))->Q S.rows.length r->∀m,m<(S.rows++[r]).length->Q m ((S.rows++[r]).getD m Row.dflt):=λa b=>uF (λm hm=>by erw[yO m hm];exact a m hm) (by erw[rP];exact b);refine⟨⟨?_,?_,?_,old (Q:=λm r=>∀c∈r.kids,c<m) F.kids I5,old (Q:=λ_ r=>r.kids.length<=2) (λm hm=>(F.ok m hm).tN) tj.tN,old (Q:=λ_ r=>gC r.op) (λm hm=>(F.ok m hm).op) tj.op⟩,?_⟩
 ·show PO (S.par++[S.par.length]);erw[EI];exact w6 _
 ·show(S.par++[S.par.length]).length=(S.rows++[r]).length;erw[EI,aO]
 ·show(S.rows++[r]).length<=10;erw[hlen];exact aa (aw h4) (by decide)
 ·exact(Go (S:=S.xy r w d la av ep) EI _).trans rP
end
section
variable {Γ:Cx} (hK:cL Γ.K) {n:Nat} {N:aL} {A:r7} {S:g8} {R:List (ax×cA)} {k:KV} {ha:ax} {a0:Nat}
include hK
theorem Ml(H:HR N A S R)(F:PJ S)(Ir:S.known.length<=1000)(I4:a0<S.rows.length)(mV:(bl S a0).pk∉S.known.map (·.1))
  (h:∀N',HR N' A {S with known:=S.known++[((bl S a0).pk,a0)]} R->k .none N'):aV Γ (n+4) (.ref 355) [.obj ha 438 A.dx,iv a0] N k:=by
 haveI hpa:a0<S.par.length:=F.len▸I4;haveI yJ:S.par.length<=1000:=F.len▸aa F.small (by decide);haveI H1:=H.Vz (S.known++[((bl S a0).pk,a0)]);refine ck hK.U3 rfl λG' c=>c (FY hK H) (mb (.rl H.dk)) (zO hK H) (.one (wL hK H F I4 dU)) (.one (x:=iv a0) (N:=N.put A.dk (.dt ((S.known++[((bl S a0).pk,a0)]).map λp=>(p.1,iv p.2))))
   (mW (kvs:=n5 S.known) H.dk (iM _) (by erw[n5,ag];exact aa Ir (by decide)) (λx hx=>?_) λhx=>⟨rfl,by erw[az];rfl⟩))
  (eH hK H1) (.one (eu hK H1 F.po hpa yJ dU)) (eH hK H1) (.one (eu hK H1 F.po hpa yJ dU)) (SE rfl) (eO.next (h _ H1))
 refine aI (w0 hx) λm hm aT=>?_;obtain rfl:=aT;exact absurd (ak.mpr ⟨_,hm,rfl⟩) mV
theorem R6(H:HR N A S R)(F:pH S)(h4:S.rows.length<=4)(tj:gI r)(RZ:r∉S.rows)(I5:∀c∈r.kids,c<S.rows.length)
  (h:∀N' S',HR N' A S' R->pH S'->S'.rows=S.rows++[r]->k (iv S.rows.length) N'):aV Γ (n+5) (.ref 341) [.obj ha 438 A.dx,.str r.op,.tup (r.kids.map iv)] N k:=by
 revert hK H F h4;exists Γ,n,N,A,S,R,k,ha,r;haveI rH:=tj.tN;have Bq:S.par.length=S.rows.length:=by erw[F.par,aO]
 haveI H8:S.cz.length=S.rows.length:=by have:=congrArg cB F.cz;rw[ag,ag,aO]at this;exact this
 haveI r6:S.gk.length=S.rows.length:=by have:=congrArg cB F.Iw;rw[ag,aO]at this;exact this
 haveI SB:S.rows.length<=10:=aa h4 (by decide);have Mm:S.rows.length<=1000:=aa h4 (by decide);haveI h3:(3:Int) ^ S.rows.length<=81:=(by decide:∀n,n<=4->(3:Int) ^ n<=81) _ h4;haveI h30:(0:Int)<=3 ^ S.rows.length:=jK (Int.pow_pos (by decide));haveI jT:∀{p:Row×Nat},p∈S.rows.zipIdx->p.1.pk≠r.pk:=λ{p}hp e=>RZ (tO e▸(fH hp).2▸du _);haveI EI:S.par++[S.par.length]=aM (S.rows.length+1):=by erw[F.par,aO,jc]
 haveI hpo:PO (S.par++[S.par.length]):=by erw[EI];exact w6 _
 haveI qT:∀d,root (S.par++[S.par.length]) d=d:=λd=>by erw[EI];exact rN _ d
 haveI VQ:(S.par++[S.par.length]).length=S.rows.length+1:=by erw[EI,aO]
 haveI yJ:(S.par++[S.par.length]).length<=1000:=by erw[VQ];exact aa (aw h4) (by decide)
 refine ck hK.Ye rfl λG c=>c (nS hK H) (Ot hK H) (.all (OZ hK H tj.op rH I5 (λx hx=>?_) SB (by erw[F.nums,HJ,ag,eK];exact SB) F.wtl F.dpl F.wtb (eS h3 (by decide)) h30 λw d N1 WN Pq H1=>?_)) λ_ _ h=>h
 ·rw[F.nums,HJ]at hx;refine aI (ak.mp hx) λp hp e=>?_;exact jT hp (lP.mp e).1
 revert c;exists G,w,d,N1,_;intro WN Pq H1 c;intro G c;exists G,_;intro c;refine c (mY hK H1) (Oq hK H1) (.one (Lq hK H1 (Bq▸Mm) dU)) (.ltI (c:=false) ⟨nofun,λq=>(Int.lt_irrefl _ (Bq▸q:((S.rows.length:Nat):Int)<((S.rows.length:Nat):Int))).elim⟩) (mY hK H1) (Op hK H1)
  (.all (O0 hK H1 (Bq▸SB) (H8▸SB) λla N2 H2=>?_)) λ_ _ h=>h
 exists la,N2,_;intro H2;intro G c;exists G,_;intro c;haveI H2:HR N2 A (S.xy r w d la S.gk S.ep) R:=H2;refine c false λa VR G c=>c (pZ hK (H2.off VR)) (.all (.Tf (H2.off VR).da rfl (by erw[iT,ag];exact r6▸aa Mm (by decide)) λiz=>?_)) λ_ h=>h;revert VR c;exists a,G,iz,_;intro VR c;intro G c;exists G,_;intro c;haveI EB:dG (iT S.gk) (.i (S.rows.length:Int)) (.ref a)=iT (S.gk++[(S.rows.length,some a,[])]):=by
  haveI oD:¬(iT S.gk).any (λq=>decide (q.1=.i (S.rows.length:Int)))=true:=λhm=>by refine aI (cF.mp hm) λq hq he=>?_;refine aI (ak.mp hq) λx hx aT=>?_;obtain rfl:=aT;haveI WM:x.1∈S.gk.map (·.1):=ak.mpr ⟨x,hx,rfl⟩;rw[F.Iw]at WM;exact gj _ (iF (PK.i.inj (of_decide_eq_true he))▸br.mp WM)
  unfold dG;erw[if_neg oD,iT,iT,az];rfl
 have H3:HR ((N2.put a (.list [])).put A.da (.dp (dG (iT S.gk) (.i (S.rows.length:Int)) (.ref a)) iz)) A (S.xy r w d la (S.gk++[(S.rows.length,some a,[])]) iz) R:=by
  erw[EB];refine H2.Y8 VR (S.gk++[(S.rows.length,some a,[])]) ?_ iz;haveI e:iE (S.gk++[(S.rows.length,some a,[])])=iE S.gk++[(a,.list [])]:=by erw[iE,iE,gt];rfl
  erw[e];exact Fb
 refine c hK.iK hK.FS .tup (.one (fZ (l:=r.kids) (v:=iv) iv trivial (aa rH (by decide)) λd hd G c=>c (eH hK H3) (.one (x:=iv d) (eu hK H3 hpo (Nat.lt_of_lt_of_eq (bZ (I5 d hd)) VQ.symm) yJ ⟨congrArg iv (qT d),rfl⟩)) dU))
  (.all (n4 (l:=r.kids) rfl (aa rH (by decide)) λl1 n1 m1=>?_)) λ_ _ h=>h
 exists l1,_;intro n1 m1;intro G c;exists G,_;intro c;haveI qH:l1.length<=2:=aa (fG n1 λx hx=>(m1 x).mp hx) rH;refine c (.all (ko (l:=l1) (a6 qH (by decide)) λl2 p2 _=>?_)) λ_ _ h=>h;exists l2,_;intro p2 _;intro G c;exists G,_;intro c;have rB:∀c,c∈l2↔c∈r.kids:=λc=>p2.mem_iff.trans (m1 c);haveI OE:l2.Nodup:=p2.nodup_iff.mpr n1;refine c .lst (.all (u3 (λ_(_:List (Nat×Option ax×List Nat))=>[("self",.obj ha 438 A.dx),("n",iv S.rows.length)]) (λi av N'=>HR N' A (S.xy r w d la av iz) R/\AB S l2 i av) (S.gk++[(S.rows.length,some a,[])]) rfl ⟨H3,AB.zero F a⟩ (λ_ _ _ _=>trivial) λi x av N1 hx hP G c=>?_)) (λav N1 hP G c=>?_) nr
 ·revert hx hP;exists i,x,av,N1,G,_;intro c hx hP;refine a9 hP λH B=>?_;clear hP;rw[aF]at hx;exists G,_;intro c;refine aI (aJ.mp hx) λcc vt aT=>?_;exists cc;obtain rfl:=aT;haveI i8:=I5 cc ((rB cc).mp (a7 vt));refine S3 (B.step OE vt i8) λb ls X Y e hlen B'=>?_;haveI P8:(cc,some b,ls)∈av:=by erw[e];exact aK _ (.head _)
  haveI M4:(av.map (·.1)).Nodup:=by erw[B.k1];exact kh
  haveI gb:=H.Mk P8;exact c (pZ hK H) (.dp H.da rfl (qj M4 P8)) (mb (.append gb)) (.one (Ip (f:=iv) S.rows.length gb (aa hlen (aa (aw h4) (by decide))))) (X++(cc,some b,ls++[S.rows.length])::Y) ⟨HR.VC H e,B'⟩ rfl
 ·revert hP;exists av,N1,G,_;intro c hP;refine a9 hP λH B=>?_;clear hP;rw[ag]at B;refine a9 (AB.fit (av:=av) (w:=w) (d:=d) (la:=la) (ep:=iz) F tj I5 h4) λF4 SJ=>?_;haveI LY:S.known.length=S.rows.length:=by erw[F.known,ag,eK]
  refine c (wH hK H) (.all (Ml hK H F4 (aa (eR LY) Mm) (by show S.rows.length<(S.rows++[r]).length;erw[an];exact cK _) (λhm=>?_) λN5 H5=>?_)) λ_ _ h=>h
  ·rw[SJ]at hm;haveI hm:r.pk∈S.known.map (·.1):=hm;rw[F.known,ay]at hm;refine aI (ak.mp hm) λq hq e=>?_;exact jT hq e
  ·rw[SJ]at H5;intro G c;exact c (eO.ret (h N5 _ H5 (B.fresh F tj RZ I5 rB WN Pq) rfl))
end
end
section
theorem pH.good(F:pH S)(h5:S.rows.length<=5)(VS:∀n,n<=1->n<S.rows.length->(S.row n).kids=[]):Good S [] (λ_=>False):=by
 exists S;have qT:∀d,root S.par d=d:=λd=>by erw[F.par];exact rN _ d
 haveI rp:=F.fit h5;have i8:(bg S).length<=5:=by have h:(bg S).length<=_:=cZ (λa=>decide (S.par.getD a a=a)) (aM S.par.length);rw[aO,rp.len]at h;exact aR 0x1d7569025810969012 rfl h5 h
 haveI WO:=Go F.par;haveI ND:∀m,m<S.rows.length->S.rows[m]?=some (S.row m):=λm hm=>getD_some hm;refine⟨rp,h5,F.ok,VS,λc hc=>?_,?_,λp hp=>?_,λc hc _=>?_,λp hp _ m hm d hd xP=>?_,λp hp m hm=>((F.wZ p hp m).mp hm).1,λp hp=>?_,λm hm=>?_,?_,?_,?_,λm hm=>?_,λp hp=>?_,?_,λχ _ _ i j _ _ h=>?_⟩
 ·haveI e:(S.cz.map (·.2))[c]?=some [c]:=by erw[F.cz,aF,r8 hc];rfl
  rw[aF]at e;refine aI (aJ.mp e) λp hp e2=>?_;refine⟨p,hp,by erw[e2];simp,λm hm=>?_,λ_ m=>?_⟩
  ·rw[e2]at hm;simp at hm;exact aR 0x1d7570836010d70813 rfl hc hm
  ·erw[e2,qT];simp;exact aR 0x1d7570836010d70813 rfl hc
 ·erw[F.Iw];exact kh
 ·have:p.1∈S.gk.map (·.1):=ak.mpr ⟨p,hp,rfl⟩;rw[F.Iw]at this;exact br.mp this
 ·have:c∈S.gk.map (·.1):=by erw[F.Iw];exact br.mpr hc
  refine aI (ak.mp this) λaT hp e=>?_;obtain⟨c',o,l⟩:=aT;haveI e:c'=c:=e;subst e;exact⟨o,l,hp⟩
 ·rw[qT]at xP;exact(F.wZ p hp m).mpr ⟨hm,xP▸hd⟩
 ·haveI h1:=fG (F.ED p hp) (r:=aM S.rows.length) λm hm=>br.mpr ((F.wZ p hp m).mp hm).1;rw[aO]at h1;haveI h2:2 ^ (bg S).length<=2 ^ 5:=rY (by exact aR 1541616 rfl) i8;exact aa (Aj (aa h1 h5) h2) (by decide)
 ·rw[F.wait]at hm;cases hm
 ·erw[F.O5];simp;exact aR 32273463676945 rfl i8
 ·erw[F.SN];simp;exact aR 32273463676945 rfl i8
 ·erw[F.SO];simp;exact aR 32273463676945 rfl i8
 ·refine .inr (.inr ⟨m,?_,rfl⟩);erw[WO,F.known];exact ak.mpr ⟨(S.row m,m),List.mem_zipIdx_iff_getElem?.mpr (ND m hm),rfl⟩
 ·rw[F.known]at hp;refine iu hp λq hq=>?_;haveI h1:=fH hq;haveI h2:q.1=S.row q.2:=by have:=ND q.2 h1.1;rw[aE h1.1,<-h1.2]at this;exact aA this
  refine⟨h1.1,q.1,rfl,?_⟩;show bl S q.2=_;rw[WO,<-h2];refine Row.ext' rfl ?_;exact((bf λd _=>qT d).trans (nj _)).symm
 ·haveI e:S.known.map (·.1)=S.rows.map Row.pk:=by erw[F.known,ay];have:(λp:Row×Nat=>((p.1.pk,p.2):List PK×Nat).1)=Row.pk∘Prod.fst:=rfl;show S.rows.zipIdx.map (Row.pk∘Prod.fst)=_;rw[<-ay,List.zipIdx_map_fst]
  erw[e];exact dK.mpr (F.nd.imp λh e=>h (tO e))
 ·rw[qT,qT]at h;erw[h]
structure lA(rs:List Row):Prop where
 nd:rs.Nodup
 ok:∀n,n<rs.length->gI (rs.getD n Row.dflt)
 kids:∀n<rs.length,∀c∈(rs.getD n Row.dflt).kids,c<n
 two:2<=rs.length
 leaf:∀n,n<=1->(rs.getD n Row.dflt).kids=[]
 ab:rs.getD 0 Row.dflt=⟨"a",[]⟩/\rs.getD 1 Row.dflt=⟨"b",[]⟩
@[elab_as_elim] theorem Zs{motive:Nat->Prop}(h0:motive 0)(h1:motive 1)(n:Nat)(h:n<2):motive n:=by
 cases n with
 |zero=>exact h0
 |succ n=>erw[Nat.eq_zero_of_le_zero (dz (dz h))];exact h1
theorem lA.init:lA [⟨"a",[]⟩,⟨"b",[]⟩]:=by
 refine⟨by decide,λn hn=>?_,λn hn=>?_,by decide,λn hn=>?_,rfl,rfl⟩
 ·refine Zs ?_ ?_ n hn
  ·exact .inl ⟨rfl,rfl⟩
  ·exact .inr (.inl ⟨rfl,rfl⟩)
 ·refine Zs ?_ ?_ n hn
  ·exactλ_ h=>absurd h bx
  ·exactλ_ h=>absurd h bx
 ·refine Zs ?_ ?_ n (im hn)
  ·rfl
  ·rfl
theorem lA.add(h:lA rs)(hr:gI r)(hk:∀c∈r.kids,c<rs.length)(hn:r∉rs):lA (rs++[r]):=by
 revert h;exists rs,r;haveI P9:(rs++[r]).getD rs.length Row.dflt=r:=by simp[ar]
 haveI hold:∀m,m<rs.length->(rs++[r]).getD m Row.dflt=rs.getD m Row.dflt:=λm hm=>by erw[ar,ar,f7 hm]
 haveI hlen:(rs++[r]).length=rs.length+1:=by simp
 haveI h2:=h.two;refine⟨bI.mpr ⟨h.nd,by simp,λa ha b hb e=>by simp at hb;subst hb;subst e;exact hn ha⟩,λn hn=>?_,λn hn=>?_,by exact aR 0x1d7560615828584600812 rfl hlen h2,λn hn=>?_,by erw[hold 0 (by exact aR 32281374098961 rfl h2)];exact h.ab.1,by erw[hold 1 (by exact aR 32281378293265 rfl h2)];exact h.ab.2⟩
 ·rw[hlen]at hn;rcases dQ n rs.length with q |q
  ·erw[hold n q];exact h.ok n q
  ·have:n=rs.length:=by exact aR 0x1d7580815810974600812 rfl hn q
   subst this;erw[P9];exact hr
 ·rw[hlen]at hn;rcases dQ n rs.length with q |q
  ·erw[hold n q];exact h.kids n q
  ·have:n=rs.length:=by exact aR 0x1d7580815810974600812 rfl hn q
   subst this;erw[P9];exact hk
 ·erw[hold n (by exact aR 0x1d7570425a00960612 rfl h2 hn)];exact h.leaf n hn
theorem Mn{r s:Row}(h:r.v=s.v):r=s:=by have h1:=iM r;rw[h,iM s]at h1;exact(tO (aA h1)).symm
end
section
theorem HR.ly(mo':cA)(h:HR N A S (X++(a,mo)::Y)):HR (N.put a mo') A S (X++(a,mo')::Y):=by unfold HR at h ⊢;rw[<-bY]at h ⊢;exact h.mid
theorem HR.O8(h:HR N A S R)(hp:p∈R):N p.1=some p.2:=h.2 p (aK _ hp)
theorem HR.VT(h:HR N A S R)(ha:N a=none):HR (N.put a mo) A S ((a,mo)::R):=Sub.ins h ha
theorem lA.ops(h:lA rs):∀x∈rs,gC x.op:=λx hx=>by obtain⟨i,hi,e⟩:=rc.mp hx;have:=h.ok i hi;rw[ar,aE hi]at this;rw[<-e];exact gI.op this
structure RT where
 rs:List Row
 t:Nat
structure MT where
 S:g8
 told:List (Nat×Nat)
 t:Nat
theorem Mp{r:Row}{rs:List Row}:r.v∈rs.map Row.v↔r∈rs:=⟨λq=>by refine aI (ak.mp q) λx hx e=>?_;rw[<-Mn e];exact hx,λq=>ak.mpr ⟨r,q,rfl⟩⟩
theorem Ch{Γ:Cx}{n:Nat}{N:aL}{lr:ax}{rs:List Row}{r:Row}(g:N lr=some (.list (rs.map Row.v)))(hl:rs.length<=50)(RO:lA rs)(hr:gI r)(hk:∀c∈r.kids,c<rs.length):
  ∃b:Bool,dA N .NotIn r.v (.ref lr) b/\∃Gq:List Row,aV Γ n (.builtin "list.extend") [.ref lr,.lst (bif b then [r.v] else [])] N (Is .none (N.put lr (.list (Gq.map Row.v))))/\lA Gq/\Gq.length<=rs.length+1:=by
 have S:=uw (l:=r::rs) (a6 (aw hl) (by decide)) (λx hx=>by
  rcases aq.mp hx with rfl |hx
  ·exact gI.op hr
  ·exact RO.ops x hx)
 have h1:=dX.mp S.ok;have h2:=en.mp S.dp;have cm:∀{b:Bool},Tr b (r∉rs)->dA N .NotIn r.v (.ref lr) b:=λhb=>.Td (fg g) (h1 _ (.head _)) (dX.mpr λx hx=>h1 x (.tail _ hx)) (h2 _ (.head _)) (hb.trans (not_congr Mp.symm));haveI hb:rs.length<=1000:=aa hl (by decide);by_cases q:r∈rs
 ·exact⟨false,cm ⟨nofun,λh=>(h q).elim⟩,rs,by have:=OX (Γ:=Γ) (n:=n) (f:=Row.v) (v:=.lst []) [] g rfl hb (aG _);rw[bG]at this;exact this,RO,cD _⟩
 ·exact⟨true,cm ⟨λ_=>q,λ_=>rfl⟩,rs++[r],OX (f:=Row.v) [r] g rfl hb (by show 1<=1000;decide),RO.add hr hk q,by erw[an];exact ap _⟩
section
variable {Γ:Cx} (hK:cL Γ.K) {n:Nat} {N:aL} {A:r7} {S:g8} {R:List (ax×cA)} {k:KV} {ha:ax} {a0:Nat}
include hK
theorem lB(H:HR N A S (X++(fd,jw cells t b ep)::R))(ht:t<=1000)(hw:0<wide)(PW:wide<=1000)(i8:cells.length<=1000)
  (h:∀r N',r<wide->HR N' A S (X++(fd,jw cells (t+1) b ep)::R)->k (iv r) N'):aV Γ (n+1) (.ref 449) [.ref fd,iv wide] N k:=
 OQ hK (H.O8 (p:=(fd,_)) (aK _ (.head _))) ht hw PW i8 λr a=>h r _ a (HR.ly (X:=X) _ H)
theorem Mq{fd:ax}{cells:List Int}{t ep:Nat}{b:Int}(H0:Sub N ((fd,jw cells t b ep)::R))(ht:t<=10)(i8:cells.length<=1000)
  (h:∀ha A S lr t' N',t'<=100->HR N' A S ((lr,.list (S.rows.map Row.v))::(fd,jw cells t' b ep)::R)->nZ S->2<=S.rows.length->S.row 0=⟨"a",[]⟩/\S.row 1=⟨"b",[]⟩->k (.tup [.obj ha 438 A.dx,.ref lr]) N'):
  aV Γ (n+8) (.ref 456) [.ref fd] N k:=by
 revert hK;exists Γ,n,N,R,k,fd,cells,t,ep,b;refine ck hK.Yn rfl λG c=>c hK.Q5 (.all (Mj hK H0 λha A Zt N1 H1=>?_)) λ_ _ h=>h;revert c;exists G,ha,A,Zt,N1,_;intro H1 c;intro G c;exists G,_;intro c;refine c false λlr M2 G c=>?_;revert M2;exists lr,G,_;intro c M2;haveI H:HR (N1.put lr (.list ([⟨"a",[]⟩,⟨"b",[]⟩].map Row.v))) A _ ((lr,.list ([⟨"a",[]⟩,⟨"b",[]⟩].map Row.v))::(fd,jw cells t b ep)::R):=H1.VT M2;refine c rfl hK.iQ hK.fC (.all (lB hK (wide:=3) (X:=[_]) H (aa ht (by decide)) (by decide) (by decide) i8 λx N2 hx H2=>?_)) λ_ _ h=>h;exists x,N2,_;intro hx H2;intro G c;exists G,_;intro c;refine c .vN (b:=x+1) (congrArg V.int (pQ 1 _)) (aa hx (by decide)) (.all (u3 (λ_(_:RT)=>[("feed",.ref fd),("heap",.obj ha 438 A.dx),("rows",.ref lr)]) (λi d N'=>HR N' A ⟨[],[],[],[],[],[],[],[],[],[],[],Zt,[]⟩ ((lr,.list (d.rs.map Row.v))::(fd,jw cells d.t b ep)::R)/\lA d.rs/\d.rs.length<=2+i/\d.t<=t+1+3*i)
  ⟨_,t+1⟩ rfl ⟨H2,lA.init,ap 2,ap _⟩ (λ_ _ _ _=>trivial) λi v d N2 hv hP G c=>?_)) (λd N2 e G c=>?_) nr
 ·revert d hv hP;exists i,v,N2,G,_;intro c d hv hP;obtain⟨rs,t'⟩:=d;exists rs,t';refine qw hP λH RO hlen M6=>?_;clear hP;haveI hlen:rs.length<=2+i:=hlen;haveI M6:t'<=t+1+3*i:=M6;have hi:i<x+1:=by have:=(l7 hv).1;rw[ag,aO]at this;exact this
  have h2:0<rs.length:=aY (by decide) RO.two;have Zu:rs.length<=50:=by lia
  have Al:rs.length<=1000:=aa Zu (by decide);have O9:t'<=900:=by lia
  refine c hK.fC (.all (lB hK (wide:=2) (X:=[_]) H (aa O9 (by decide)) (by decide) (by decide) i8 λop N3 OY H=>?_)) λ_ _ h=>h;exists op,N3,_;intro OY H;intro G c;exists G,_;intro c;refine c hK.fC hK.dH (.one (tX (H.O8 (p:=(lr,_)) (.head _)) Al)) (.all (lB hK (X:=[_]) H (aa (aw O9) (by decide)) h2 Al i8 λone N3 u4 H=>?_)) λ_ _ h=>h;exists one,N3,_;intro u4 H;intro G c;exists G,_;intro c;refine c hK.fC hK.dH (.one (tX (H.O8 (p:=(lr,_)) (.head _)) Al)) (.all (lB hK (X:=[_]) H (aa (dg O9 2) (by decide)) h2 Al i8 λother N3 w7 H=>?_)) λ_ _ h=>h;exists other,N3,_;intro w7 H;intro G c;exists G,_;intro c;haveI Gk:=H.O8 (p:=(lr,_)) (.head _);haveI l1:∀{Gq:List Row},Gq.length<=rs.length+1->Gq.length<=2+(i+1):=λh=>aa h (aw hlen);haveI t1:t'+1+1+1<=t+1+3*(i+1):=dg M6 3;by_cases q:op=0
  ·refine aI (Ch (Γ:=Γ) (n:=n+7) Gk Zu RO (r:=⟨"f",[one]⟩) (.inr (.inr (.inl ⟨rfl,one,rfl⟩))) (λc hc=>ao.mp hc▸u4)) λbb hb aT=>?_;refine cQ aT λGq hc VU hl=>?_;clear aT;haveI H':=HR.ly (X:=[]) (.list (Gq.map Row.v)) H;cases bb with
   |true=>exact c rfl (eqT (b:=0) q) (mb (.extend Gk)) hb true (.one hc) ⟨Gq,_⟩ ⟨H',VU,l1 hl,t1⟩ rfl
   |false=>exact c rfl (eqT (b:=0) q) (mb (.extend Gk)) hb true (.one hc) ⟨Gq,_⟩ ⟨H',VU,l1 hl,t1⟩ rfl
  ·refine aI (Ch (Γ:=Γ) (n:=n+7) Gk Zu RO (r:=⟨"g",[one,other]⟩) (.inr (.inr (.inr ⟨rfl,one,other,rfl⟩))) (λc hc=>(aq.mp hc).elim (λe=>e▸u4) λhc=>ao.mp hc▸w7)) λbb hb aT=>?_;refine cQ aT λGq hc VU hl=>?_;clear aT;haveI H':=HR.ly (X:=[]) (.list (Gq.map Row.v)) H;cases bb with
   |true=>exact c rfl (CM (b:=0) q) (mb (.extend Gk)) hb true (.one hc) ⟨Gq,_⟩ ⟨H',VU,l1 hl,t1⟩ rfl
   |false=>exact c rfl (CM (b:=0) q) (mb (.extend Gk)) hb true (.one hc) ⟨Gq,_⟩ ⟨H',VU,l1 hl,t1⟩ rfl
 revert d e;exists N2,G,_;intro c d e;obtain⟨rs,t'⟩:=d;exists rs,t';refine qw e λH RO hlen M6=>?_;clear e;rw[ag,aO]at hlen M6;have SM:rs.length<=5:=aa hlen (bD hx 2);have hq2:t'<=20:=aa M6 (df (aw ht) (eh 3 hx));clear hlen M6;haveI hlen:=SM;haveI M6:=hq2;clear SM hq2;have Al:rs.length<=1000:=aa hlen (by decide);refine c (.ref (H.O8 (p:=(lr,_)) (.head _))) (.all (u3 (λ_(_:g8)=>[("feed",.ref fd),("heap",.obj ha 438 A.dx),("rows",.ref lr)]) (λi S N'=>HR N' A S ((lr,.list (rs.map Row.v))::(fd,jw cells t' b ep)::R)/\pH S/\S.rows=rs.take i) ⟨[],[],[],[],[],[],[],[],[],[],[],Zt,[]⟩ rfl
  ⟨H,⟨rfl,rfl,rfl,rfl,rfl,nofun,rfl,rfl,nofun,nofun,nofun,rfl,rfl,rfl,rfl,cH,nofun,nofun⟩,rfl⟩ (λi S N' h=>h.1.O8 (p:=(lr,_)) (.head _)) λi v S N3 hv hP G c=>?_)) (λS N3 e G c=>?_) nr
 ·revert hv hP;exists i,v,S,N3,G,_;intro c hv hP;refine ez hP λH F hS=>?_;clear hP;rw[aF]at hv;exists G,_;intro c;refine aI (aJ.mp hv) λr hri aT=>?_;exists r;obtain rfl:=aT;have egd:rs.getD i Row.dflt=r:=by erw[ar,hri];rfl
  refine bz (l7 hri) λlW eri=>?_;haveI tj:gI r:=egd▸RO.ok i lW;haveI I5:∀c∈r.kids,c<i:=egd▸RO.kids i lW;have Sy:S.rows.length=i:=by erw[hS,cG];exact qp (bq lW)
  haveI RZ:r∉S.rows:=λhm=>by rw[hS]at hm;obtain⟨y,hy,e⟩:=dC.mp hm;haveI hyi:=aY hy (cS _ _);exact b8.mp RO.nd y i (bK hyi lW) lW hyi (e.trans eri.symm)
  refine c (Q9 hK H) (.tup (j:=0) (x:=.str r.op) rfl) (WH tj.tN) (.all (R6 hK H F (Sy▸e9 (aY lW hlen)) tj RZ (λc hc=>Sy▸I5 c hc) λN4 S' H' F' hS'=>?_)) λ_ _ h=>h;intro G c;exact c S' ⟨H',F',by erw[hS',hS,bJ lW,eri]⟩ rfl
 revert e;exists S,N3,G,_;intro c e;refine ez e λH F hS=>?_;clear e;rw[ag,cX]at hS;subst hS;haveI G':=F.good hlen (λn hn _=>RO.leaf n hn);refine c hK.iQ hK.fC (.all (lB hK (wide:=3) (X:=[_]) H (aa M6 (by decide)) (by decide) (by decide) i8 λy N4 hy H=>?_)) λ_ _ h=>h;exists y,N4,_;intro hy H;intro G c;exists G,_;intro c;haveI Zv:mu S<=400:=by unfold mu;erw[F.wait,g7,gW];exact eh 80 G'.Zj
 haveI Zw:S.known.length<=5:=by erw[F.known,ag,eK];exact hlen
 have h2:0<S.rows.length:=aY (by decide) RO.two;refine c (b:=y) rfl (aa (bq hy) (by decide)) (.all (u3 (λ_(_:MT)=>[("feed",.ref fd),("heap",.obj ha 438 A.dx),("rows",.ref lr)]) (λi d N'=>HR N' A d.S ((lr,.list (S.rows.map Row.v))::(fd,jw cells d.t b ep)::R)/\Good d.S d.told (λ_=>False)/\d.told.length=i/\mu d.S<=400/\d.S.known.length<=5/\d.S.rows=S.rows/\d.t<=30+2*i)
  ⟨S,[],t'+1⟩ rfl ⟨H,G',rfl,Zv,Zw,rfl,aa (aw M6) (by decide)⟩ (λ_ _ _ _=>trivial) λi v d N4 hv hP G c=>?_)) (λd N4 e G c=>?_) nr
 ·revert d hv hP;exists i,v,N4,G,_;intro c d hv hP;obtain⟨S1,told,t1⟩:=d;exists S1,told,t1;refine Qg hP λH GG vm CO Ir i6 O'=>?_;clear hP;haveI CO:mu S1<=400:=CO;haveI i6:S1.rows=S.rows:=i6;haveI O':t1<=30+2*i:=O';haveI vm:told.length=i:=vm;rw[aF]at hv;revert c;exists G,S1,told,t1,_;intro H GG vm CO Ir i6 O' CO i6 O' vm c;refine aI (aJ.mp hv) λi' uf aT=>?_;exists i';obtain rfl:=aT;refine bz (l7 uf) λhi e=>?_;rw[je]at e;subst e;rw[aO]at hi;have IZ:i<=2:=e9 (bK hi hy);have O9:t1<=900:=by lia
  refine c (Lp hK H) hK.fC hK.dH (.one (tX (H.O8 (p:=(lr,_)) (.head _)) Al)) (.all (lB hK (X:=[_]) H (aa O9 (by decide)) h2 Al i8 λone N5 u4 H=>?_)) λ_ _ h=>h;exists one,N5,_;intro u4 H;intro G c;exists G,_;intro c;refine c hK.fC hK.dH (.one (tX (H.O8 (p:=(lr,_)) (.head _)) Al)) (.all (lB hK (X:=[_]) H (aa (aw O9) (by decide)) h2 Al i8 λother N5 w7 H=>?_)) λ_ _ h=>h;exists other,N5,_;intro w7 H;intro G c;exists G,_;intro c;haveI Zx:((aN "t").length+(aN (toString (i:Int))).length)<=1000:=by rcases(show i=0\/i=1\/i=2 by exact aR 0x1d71c62105880161f0568411 rfl IZ) with rfl |rfl |rfl<;>decide+kernel
  refine c hK.U2 (.one (KT (i:=(i:Int)) (dR _) (jO.mpr (a6 IZ (by decide))) dU)) (.xy Zx) (.all (It hK H GG (by exact aR 0x1d75d5a80970436030978813 rfl hy (by assumption) hi) (aa (b7 _ (80*(bg S1).length)) (aa CO (by decide))) (by erw[i6];exact u4) (by erw[i6];exact w7) λN5 S2 tt H2 G2 Zy Zz ZA=>?_)) λ_ _ h=>h;intro G c;exact c ⟨S2,told++[(one,other)],t1+1+1⟩ ⟨H2,G2,by erw[an,vm];rfl,aa Zy CO,aa Zz Ir,ZA.trans i6,dg O' 2⟩ rfl
 ·revert d e;exists N4,G,_;intro c d e;obtain⟨S1,told,t1⟩:=d;exists S1,told,t1;refine Qg e λH GG vm CO Ir i6 O'=>?_;clear e;rw[ag,aO]at vm O';haveI vm:told.length=y:=vm;haveI O':t1<=30+2*y:=O';haveI CO:mu S1<=400:=CO;haveI Ir:S1.known.length<=5:=Ir;haveI i6:S1.rows=S.rows:=i6;refine c (HK hK H) (.all (Iu hK H GG (by exact aR 0x1d756a026010978812 rfl hy (by assumption)) (by exact aR 0x1d7567a37a78910425a409679fe012 rfl (by assumption) (by assumption)) λN5 S2 H2 G2 PW OB=>?_)) λ_ _ h=>h;intro G c;rw[<-i6,<-OB]at H2;exact c (eO.ret (h ha A S2 lr t1 N5 (by lia) H2 (G2.fin PW (by lia)) (by erw[OB,i6];exact RO.two) (by unfold g8.row;erw[OB,i6];exact RO.ab)))
end
end
section
theorem Mr{l:List (Nat×T)}(hl:l.Pairwise λx y=>bN x<bN y)(many:Nat):jX many (· ∈l) (l.take many):=by
 refine⟨hl.sublist (List.take_sublist _ _),by erw[cG];exact aR 5911087122 rfl,λp hp=>eU hp,λp hp=>?_⟩;rcases dQ many l.length with q |q
 ·rw[<-cC many l]at hp hl;rcases aH.mp hp with hp |hp
  ·exact .inl hp
  ·exact .inr ⟨by erw[cG];exact aR 0x1d6015020570812 rfl q,λz hz=>(GA.mp hl).2.2 z hz p hp⟩
 ·erw[ef q];exact .inl hp
theorem t0(h:bN p<bN q):p.1<=q.1:=by rcases l8.mp h with h |⟨h,_⟩<;>lia
theorem Ci{told:List (Nat×T)}(hs:told.Pairwise λx y=>bN x<bN y):∀{m:Nat},m=(told.filter λp=>decide (p.1<=5)).length->told.take m=told.filter λp=>decide (p.1<=5):=by
 induction told with
 |nil=>intro m _;simp
 |cons x t ih=>
  intro m hm;refine a9 (dc.mp hs) λh1 h2=>?_;by_cases e:x.1<=5
  ·rw[Cw (by simpa using e)]at hm ⊢;rw[aU]at hm;subst hm;erw[List.take_succ_cons,ih h2 rfl]
  ·rw[Cv (by simpa using e)]at hm ⊢;have:t.filter (λp=>decide (p.1<=5))=[]:=by erw[List.filter_eq_nil_iff];intro y hy hd;have:=t0 (h1 y hy);have:=of_decide_eq_true hd;lia
   rw[this]at hm ⊢;subst hm;rfl
theorem Ix{many:Nat}{P:Nat×T->Prop}{told l:List (Nat×T)}(ht:jX many P told)(hl:l.Pairwise λx y=>bN x<bN y)(hm:∀p,p∈l↔P p/\p.1<=5):
  told.take l.length=l.take many/\∀p∈told.drop l.length,5<p.1:=by
 exists many,P,told,l;have h5:jX many (· ∈l) (told.filter λp=>decide (p.1<=5)):=by
  refine⟨ht.asc.sublist gn,aa (cZ _ _) ht.len,λp hp=>?_,λp hp=>?_⟩
  ·refine a9 (a8.mp hp) λa b=>?_;exact(hm p).mpr ⟨ht.sub p a,of_decide_eq_true b⟩
  ·refine a9 ((hm p).mp hp) λa b=>?_;rcases ht.all p a with c |⟨c,d⟩
   ·exact .inl (a8.mpr ⟨c,decide_eq_true b⟩)
   ·have e:told.filter (λp=>decide (p.1<=5))=told:=sg.mpr λq hq=>decide_eq_true (by have:=t0 (d q hq);exact aR 0x1d7569025810969012 rfl b this);erw[e];exact .inr ⟨c,d⟩
 have e1:=(Mr hl many).unique h5;have hle:(told.filter λp=>decide (p.1<=5)).length<=l.length:=fG (fV h5.asc) h5.sub;by_cases pf:∀q∈told,q.1<=5
 ·have e:told.filter (λp=>decide (p.1<=5))=told:=sg.mpr λq hq=>decide_eq_true (pf q hq);rw[e]at e1 hle;erw[ef hle,e1];exact⟨rfl,λp hp=>by rw[CZ hle]at hp;cases hp⟩
 ·obtain⟨q,hq,hq5⟩:∃q∈told,¬q.1<=5:=by refine de λh=>pf λq hq=>de λh2=>h ⟨q,hq,h2⟩
  haveI su:∀x∈l,x∈told.filter λp=>decide (p.1<=5):=λx hx=>by
   refine a9 ((hm x).mp hx) λa b=>?_;rcases ht.all x a with c |⟨_,d⟩
   ·exact a8.mpr ⟨c,decide_eq_true b⟩
   ·have:=t0 (d q hq);lia
  haveI QX:=fG (fV hl) su;have e:l.length=(told.filter λp=>decide (p.1<=5)).length:=by exact aR 0x1d7580425810960812 rfl hle QX
  have e2:=Ci ht.asc e;refine⟨e2.trans e1.symm,λp hp=>?_⟩;refine de λh=>?_;haveI T7:p∈told:=q9 hp;haveI hp5:p∈told.take l.length:=by erw[e2];exact a8.mpr ⟨T7,decide_eq_true (by exact aR 0x7569016970641 rfl h)⟩
  haveI hn:=fV ht.asc;rw[<-cC l.length told]at hn;exact(bI.mp hn).2.2 p hp5 p hp rfl
theorem sZ(p q:Nat×T):V.lt (fi p.1 p.2) (fi q.1 q.2)=some (decide (bN p<bN q)):=by
 exists p,q;refine mZ (x:=.int p.1) (y:=.int q.1) (xs:=[.int (p.2.size:Int),.lst (p.2.subs.map λs=>V.str s.op),.lst (p.2.subs.map λs=>V.int ((s.kids.length:Int)+1))])
  (ys:=[.int (q.2.size:Int),.lst (q.2.subs.map λs=>V.str s.op),.lst (q.2.subs.map λs=>V.int ((s.kids.length:Int)+1))]) (wI _ _) λ_=>mZ (wI _ _) λ_=>?_
 by_cases he:p.2=q.2
 ·erw[he];exact(B3 _).trans (congrArg some (decide_eq_false (jy _)).symm)
 ·refine(wb λe=>he ?_).trans ?_
  ·have h:=congrArg (jz vr) (B6 (V.lst.inj e));rw[ay,ay]at h;exact(qe p.2 q.2 (congrArg (· ++[]) (p.2.m6.trans (h.trans q.2.m6.symm)))).1
  ·erw[T.m6,T.m6];exact zQ (f:=λs:T=>V.str (aN s.op)) λx _ y _=>El x.uz y.uz
theorem Iy{p q:Nat×T}(h:fi p.1 p.2=fi q.1 q.2):p=q:=by
 exists p,q;have h1:=sZ p q;have h2:=sZ p p;rw[<-h,h2]at h1;have e1:decide (bN p<bN p)=decide (bN p<bN q):=aA h1;have h3:=sZ q p;rw[<-h,h2]at h3;have e2:decide (bN p<bN p)=decide (bN q<bN p):=aA h3;rw[decide_eq_false (ltI p)]at e1 e2;rcases YA p q with a |a |a
 ·exact absurd a (of_decide_eq_false e1.symm)
 ·exact a
 ·exact absurd a (of_decide_eq_false e2.symm)
theorem k6(p:Nat×T):(fi p.1 p.2).r5=true/\(fi p.1 p.2).dep<=2:=
 have e1:V.fw (p.2.subs.map λs=>V.str (aN s.op))=true:=dX.mpr (b9.mpr λs _=>uu s.uz);have e2:V.fw (p.2.subs.map λs=>V.int ((s.kids.length:Int)+1))=true:=dX.mpr (b9.mpr λ_ _=>rfl);have d1:V.jB (p.2.subs.map λs=>V.str (aN s.op))<=0:=en.mpr (b9.mpr λ_ _=>ap _);have d2:V.jB (p.2.subs.map λs=>V.int ((s.kids.length:Int)+1))<=0:=en.mpr (b9.mpr λ_ _=>ap _)
 ⟨show(true&&(true&&(V.fw _&&(V.fw _&&true))))=true from ge rfl (ge rfl (ge e1 (ge e2 rfl))),
  aw (dE (aG _) (dE (aG _) (dE (aw d1) (dE (aw d2) (aG _)))))⟩
theorem s0(h:l.length<64):jj l (λp=>fi p.1 p.2) bN:=by
 refine⟨h,dX.mpr λx hx=>?_,en.mpr λx hx=>?_,λa _ b _=>sZ a b,.inr (.inl λx hx=>?_)⟩
 ·refine aI (ak.mp hx) λp _ aT=>?_;obtain rfl:=aT;exact(k6 p).1
 ·refine aI (ak.mp hx) λp _ aT=>?_;obtain rfl:=aT;have:=(k6 p).2;exact aR 0x1d59e9680568411 rfl this
 ·refine aI (ak.mp hx) λp _ aT=>?_;obtain rfl:=aT;exact⟨_,_,rfl⟩
end
section
noncomputable def uG(l:List (String×Nat)):List (PK×V):=l.map λp=>(.s p.1,iv p.2)
noncomputable def w8(l:List (String×Nat))(o:String):Nat:=((l.find? λp=>decide (p.1=o)).map (·.2)).getD 1
theorem Ms(l:List (String×Nat)):SF (uG l) (w8 l):=λop _=>by
 unfold dT uG w8;induction l with
 |nil=>rfl
 |cons x l ih=>
  by_cases e:x.1=op
  ·subst e;simp
  ·erw[aP,dq (by simp only[PK.s.injEq,nM,e,decide_false];simp),dq (by simp[e])];exact ih
theorem Pa(h:∀p∈l,1<=p.2/\p.2<=3):qS (w8 l):=by
 have:∀o,1<=w8 l o/\w8 l o<=3:=λo=>by
  unfold w8;cases e:l.find? λp=>decide (p.1=o) with
  |none=>exact⟨ap _,by decide⟩
  |some p=>exact h p (mI e)
 exact⟨λo _=>(this o).1,λo _=>(this o).2⟩
noncomputable def Iz:List String:=["a","b","f","g"]
theorem Mt(l:List (Nat×T)):V.fw (l.map tv)=true:=dX.mpr (b9.mpr λp _=>show(true&&(V.r5 (T.v p.2)&&true))=true from ge rfl (ge (T.Va p.2) rfl))
theorem Pb{l:List (Nat×T)}{d:Nat}(h:∀p∈l,p.2.depth<=d):V.jB (l.map tv)<=d+2:=en.mpr (b9.mpr λp hp=>aw (dE (aG _) (dE (aa (T.PP p.2) (aw (h p hp))) (aG _))))
theorem T.IA(cst:String->Nat):∀t:T,(t.subs.map λs=>((cst s.op:Nat):Int)).sum=((t.cost cst:Nat):Int):=by
 intro t;induction t with
 |a=>exact f' _
 |b=>exact f' _
 |f x h=>show((cst "f":Nat):Int)+(x.subs.map λs=>((cst s.op:Nat):Int)).sum=((cst "f"+x.cost cst:Nat):Int);erw[h];exact(qu _ _).symm
 |g x y h1 h2=>show((cst "g":Nat):Int)+((x.subs++y.subs).map λs=>((cst s.op:Nat):Int)).sum=((cst "g"+x.cost cst+y.cost cst:Nat):Int);erw[az,List.sum_append,h1,h2,qu,qu,Co]
theorem t4(l:List (Nat×T)):V.fw (l.map λp=>fi p.1 p.2)=true/\V.jB (l.map λp=>fi p.1 p.2)<=150:=⟨dX.mpr λx hx=>by refine iu hx λp _=>?_;exact(k6 p).1,en.mpr λx hx=>by refine iu hx λp _=>?_;have:=(k6 p).2;exact aR 0x1d59e9680568411 rfl this⟩
theorem Mu{N:aL}{p q:Nat×T}(dM:p≠q):dA N .Eq (fi p.1 p.2) (fi q.1 q.2) false:=by haveI a:=k6 p;haveI b:=k6 q;haveI c:fi p.1 p.2≠fi q.1 q.2:=λe=>dM (Iy e);unfold fi at a b c ⊢;exact .eqT ⟨a.1,b.1,aa (jM a.2) (by decide)⟩ ⟨nofun,λe=>(c (congrArg V.tup e)).elim⟩
noncomputable def s8:List (Str×bj):=[("row",.local),("_law_rank",.globalImplicit)]
noncomputable def IB(ha:ax)(A:r7)(cd lr:ax)(g:Nat)(told:List (Nat×T))(many:Nat)(W:List (Nat×T)):fN:=[("heap",.obj ha 438 A.dx),("costs",.ref cd),("goal",iv g),("told",.lst (told.map tv)),("many",iv many),("rows",.ref lr),("whole",.lst (W.map tv))]
structure Pc(ρ:cf)(N:aL)(W:List (Nat×T))(ha:ax)(A:r7)(S:g8)(R3:List (ax×cA))(cst:String->Nat)(kc:List (PK×V))(z7:Nat)(cd lr:ax)(told:List (Nat×T))(many asked:Nat):Prop where
 H:HR N A S R3
 F:nZ S
 C:qS cst
 h3:SF kc cst
 gcd:N cd=some (.dp kc z7)
 Gk:N lr=some (.list (S.rows.map Row.v))
 n6:asked<S.rows.length
 top:jX many (sW (oM S cst) (root S.par asked)) told
 dep:∀p∈told,p.2.depth<=60/\p.1<=2928
 w9:many<=2
 mem:∀p,p∈W↔sW (oM S cst) (root S.par asked) p/\p.1<=5
 nd:W.Nodup
 len:W.length<=63
 s:jE (IB ha A cd lr (root S.par asked) told many W).fn ρ
theorem Mv(h:jE (IB ha A cd lr g told many W).fn ρ):jE (IB ha A cd lr g told many l).fn (ρ.set "whole" (.lst (l.map tv))):=by haveI e:(IB ha A cd lr g told many l)=(IB ha A cd lr g told many W).put "whole" (.lst (l.map tv)):=rfl;erw[e,fN.Dy];exact h.put _ _
noncomputable def pI(LT:Nat×Nat->List T)(g:Nat):List (Nat×T):=(aM 5).flatMap λi=>(LT (g,i+1)).map λt=>(i+1,t)
section
variable {S:g8} {cst:String->Nat} (F:nZ S) (C:qS cst) {LT:Nat×Nat->List T} {g:Nat} (hg:g∈bg S) (I6:∀c,1<=c->c<=5->m8 (oM S cst) (g,c) (LT (g,c)))
include F C hg I6
theorem qn(p:Nat×T):p∈pI LT g↔sW (oM S cst) g p/\p.1<=5:=by
 erw[pI,bn];constructor
 ·rintro⟨i,hi,hp⟩;refine iu hp λt ht=>?_;have hi:=br.mp hi;refine a9 (((I6 (i+1) (bP i) hi).2 t).mp ht) λa b=>?_;exact⟨⟨a,b.symm⟩,hi⟩
 ·rintro⟨⟨a,b⟩,c⟩;obtain⟨c0,t⟩:=p;have b:c0=t.cost (oM S cst).cst:=b;refine bz (Nat.exists_eq_succ_of_ne_zero (n:=c0) λe=>absurd (T.lz (wS F C) t) (by rw[<-b,e];decide)) λc1 aT=>?_;obtain rfl:=aT;exact⟨c1,br.mpr c,ak.mpr ⟨t,((I6 (c1+1) (bP _) c).2 t).mpr ⟨a,b.symm⟩,rfl⟩⟩
theorem Cj:(pI LT g).Nodup:=by
 refine Fc.mpr ⟨λi hi=>?_,?_⟩
 ·exact dK.mpr ((I6 (i+1) (bP i) (br.mp hi)).1.imp λh e=>h (lP.mp e).2)
 ·refine kh.imp λdM x hx y hy e=>dM ?_;refine aI (ak.mp hx) λt _ aT=>?_;obtain rfl:=aT;refine aI (ak.mp hy) λu _ aT=>?_;obtain rfl:=aT;exact cU (lP.mp e).1
theorem Mw(pV:S.row 0=⟨"a",[]⟩/\S.row 1=⟨"b",[]⟩)(h2:2<=S.rows.length):(pI LT g).length<=63:=by
 haveI KG:=wS F C;haveI h0:0<S.rows.length:=aY (by decide) h2;haveI hA:∃A'∈(oM S cst).cs,js (oM S cst).nd .a A':=⟨root S.par 0,f6 F.fit h0,jq.mpr ⟨0,h0,rfl,by unfold bl;erw[pV.1];rfl⟩⟩
 haveI hB:∃B'∈(oM S cst).cs,js (oM S cst).nd .b B':=⟨root S.par 1,f6 F.fit h2,jq.mpr ⟨1,h2,rfl,by unfold bl;erw[pV.2];rfl⟩⟩
 haveI hn:((pI LT g).map (·.2)).Nodup:=by refine dK.mpr ((Cj F C hg I6).imp_of_mem λ{p q}hp hq dM e=>dM ?_);haveI a:=((qn F C hg I6 p).mp hp).1.2;haveI b:=((qn F C hg I6 q).mp hq).1.2;exact Prod.ext (by erw[a,b,e]) e
 have:=HX KG (c:=g) (Eu F) hg (λl hl hm=>F.tN g l hl λx hx=>jq.mp (hm x hx)) hA hB hn λt ht=>by refine iu ht λp hp=>?_;refine a9 ((qn F C hg I6 p).mp hp) λaT c=>?_;refine a9 aT λa b=>?_;clear aT;exact⟨a,aa (T.m7 KG p.2) (b▸c)⟩
 rwa[ag]at this
end
theorem Pd(LT:Nat×Nat->List T)(g:Nat):((aM 5).flatMap λi=>(LT (g,i+1)).map λt=>tv (i+1,t))=(pI LT g).map tv:=by
 erw[pI,dw]
 congr 1;funext i;erw[ay];rfl
noncomputable def Run(Γ:Cx)(n:Nat)(sc:Sc)(ss:List c7)(ρ:fN)(N:aL)(K:KS):Prop:=∀G,DB Γ n (rX Γ n 14) 40 sc ss ρ N (λG fl cn N'=>K fl cn.fn N'->G) G->G
theorem Run.ok{Γ:Cx}{n:Nat}{sc:Sc}{ss:List c7}{ρ:fN}{N:aL}{K:KS}(h:Run Γ n sc ss ρ N K):my Γ n sc ss ρ.fn N K:=Ss (a:=14) (m:=40) h
theorem Pe{st:aL->Prop}(Inv:Nat->List V->aL->Prop)(gf:∀i acc N,Inv i acc N->acc.length<=gS/\st N)
  (step:∀i x acc N,items[i]?=some x->Inv i acc N->∀G,Bd Γ n (rX Γ n 14) sc g gs elt ρ x N (λG vs N'=>(Inv (i+1) (acc++vs) N'->G)) G->G) (fin:∀acc N,Inv items.length acc N->k acc N) (h0:Inv 0 [] N):
  c9 st (λx N2 kk=>gG Γ n sc g gs elt ρ.fn x N2 kk) items [] N k:=
 BI (f:=λx N2 kk=>gG Γ n sc g gs elt ρ.fn x N2 kk) Inv gf (λi x acc N kk hx hI CD=>gG.mono CD (gen (k:=λvs N'=>Inv (i+1) (acc++vs) N') 14 (step i x acc N hx hI))) fin h0
theorem Mx{α:Type}:∀l:List α,l.flatMap (λ_=>([]:List V))=[]:=by
 intro l;induction l with
 |nil=>exact rfl
 |cons _ l ih=>exact ih
theorem xb:((aN "abfg").cps.toList.map λc=>V.str (⟨#[c]⟩:Str))=Iz.map λo=>V.str (aN o):=by erw[show(aN "abfg").cps.toList=[97,98,102,103] by decide+kernel];unfold Iz;rw[aP,aP,aP,aP,aP,aP,aP,aP,pE HN,pE HO,pE Ep,pE Er];rfl
theorem R7(l:List (String×Nat)):(l.map λp=>V.tup [.str (aN p.1),iv p.2])=(uG l).map BG:=by unfold uG;erw[ay];rfl
structure EJ(i:Nat)(l:List (String×Nat)):Prop where
 b:∀p∈l,1<=p.2/\p.2<=3
 n:(l.map (·.1)).Nodup
 m:∀p∈l,p.1∈Iz.take i
 l:l.length<=i
theorem EJ.skip{i:Nat}{l:List (String×Nat)}(h:EJ i l):EJ (i+1) l:=⟨h.b,h.n,λp hp=>(List.take_subset_take_left _ (cD i)) (h.m p hp),fb h.l⟩
theorem EJ.put{i:Nat}{l:List (String×Nat)}(h:EJ i l){o:String}(ho:Iz[i]?=some o){y:Nat}(hy:y<3):EJ (i+1) (l++[(o,1+y)]):=by
 refine bz (l7 ho) λlW eoi=>?_;haveI hon:o∉Iz.take i:=λhm=>by obtain⟨x,hx,e⟩:=dC.mp hm;haveI GY:=aY hx (cS _ _);exact b8.mp (show Iz.Nodup by decide) x i (bK GY lW) lW GY (e.trans eoi.symm)
 refine⟨λp hp=>?_,?_,λp hp=>?_,by erw[an];exact aw h.l⟩
 ·rcases aH.mp hp with q |q
  ·exact h.b p q
  ·obtain rfl:=ao.mp q;exact⟨b7 _ _,bD (e9 hy) 1⟩
 ·erw[az];refine bI.mpr ⟨h.n,gx _ _,λa ha b hb e=>hon ?_⟩;refine aI (ak.mp ha) λp hp e2=>?_;haveI e3:p.1=o:=e2.trans (e.trans (ao.mp hb));exact e3▸h.m p hp
 ·erw[bJ lW,eoi];rcases aH.mp hp with q |q
  ·exact aW _ (h.m p q)
  ·obtain rfl:=ao.mp q;exact aK _ (.head _)
section
variable {Γ:Cx} (hK:cL Γ.K) {n:Nat} {N:aL} {A:r7} {S:g8} {R:List (ax×cA)} {k:KV} {ha:ax} {a0:Nat}
include hK
omit hK in
theorem R8{i d:Nat}(h:i<((d:Int)-1).toNat)(hd:d<=2):i=0/\d=2:=by
 rcases d with _ |_ |_ |d
 ·exact absurd h (dh _)
 ·exact absurd h (dh _)
 ·exact⟨Nat.lt_one_iff.mp h,rfl⟩
 ·exact absurd (dz (dz hd)) (Nat.not_succ_le_zero _)
inductive MN(names:List (Str×bj)):c7->Prop
 |mk {p1 p2 p3 p4 p5 p6 p7 p8 p9 Fe I7 I8 q1 q2 q3 q4:Pos} (z8:mJ) (qH:z8.names=s8) (rB:z8.isCoroutine=false) (WP:z8.isGenerator=false) (WQ:z8.kind=.function) (i8:∀env:Env,rV z8 env=pure []) (hw:names.lookup ("whole":Str)=some .local) (hs:names.lookup ("sorted":Str)=some .globalImplicit):
  MN names (.Assign [.Name "whole" p1] (.Call (.Name "sorted" p2) [.Name "whole" p3] [⟨some "key",.Lambda ⟨[],[⟨"row",none,p4⟩],none,[],[],none,[]⟩ (.Call (.Name "_law_rank" p5) [.Subscript (.Name "row" p6) (.Constant (.int 0) 0 p7) p8,.Subscript (.Name "row" p9) (.Constant (.int 1) 0 Fe) I7] [] I8) z8 q1,q2⟩] q3) q4)
set_option maxHeartbeats 8000000 in
theorem IC(ZB:n<=100):∃pre st post names,FnAt Γ.K 486 ["script"] (pre++st::post) names/\
  (∀(xs:List Int)(N:aL)(K:KS),xs.length<=1000->(∀ρ N' W ha A S R3 cst kc z7 cd lr told many asked,Pc ρ N' W ha A S R3 cst kc z7 cd lr told many asked->K .next ρ N')->Run Γ (n+99) names pre [("script",.lst (xs.map V.int))] N K)/\
  (∀(ρ:cf)(N:aL)(k:KV)L ha A S R3 cst kc z7 cd lr told many asked,Pc ρ N L ha A S R3 cst kc z7 cd lr told many asked->L.Pairwise (λx y=>¬bN y<bN x)->(∀N',k (.bool true) N')->Run Γ (n+99) names post (IB ha A cd lr (root S.par asked) told many L) N (eO k))/\
  MN names st:=by
 revert hK;exists Γ,n;refine⟨[_,_,_,_,_,_,_,_],_,_,_,hK.U4,?_,?_,.mk _ rfl rfl rfl rfl (λ_=>rfl) rfl rfl⟩
 ·intro xs N K IY h;exists xs,N,K;have i8:(xs.take 40).length<=40:=by erw[cG];exact cS _ _
  haveI PY:(xs.take 40).length<=gS:=aa i8 (by decide);have DM:(xs.take 40).length<=1000:=aa i8 (by decide)
  refineλG c=>c (.GJ (a:=40) rfl (sS _ IY)) .lst (.one (Gf (l:=xs.take 40) (v:=V.int) ga.symm (λx=>[V.int x]) (pi _ _) trivial (by erw[ag];exact PY) λx hx G c=>c hK.U1 (.one (KR dU)) dU))
   hK.KY .lst (.one (fZ (l:=xs.take 40) (v:=V.int) (λx:Int=>V.int ((if x<0 then -x else x) % 997)) trivial PY λx hx G c=>c hK.U0 (.one (KQ dU)) (.Nj (by decide)) dU))
   (.one (wt (ns:=(xs.take 40).map λx:Int=>(if x<0 then -x else x) % 997) (congrArg some (by erw[ay];rfl)) (by erw[ag];exact aa i8 (by decide)) (λy hy=>?_) dU)) λfd WR Vu G c=>?_
  ·refine iu hy λx _=>?_;exact⟨x7 _ (by decide),eS (jK (t8 _ (by decide:(0:Int)<997))) (by decide)⟩
  revert Vu;exists fd,WR,G,_;intro c Vu;generalize ((xs.take 40).map λx:Int=>(if x<0 then -x else x) % 997).sum=Gs at c;exists Gs,_;intro c;haveI H0:Sub (N.put fd (jw (xs.take 40) 0 Gs WR)) [(fd,jw (xs.take 40) 0 Gs WR)]:=Sub.new Sub.nil Vu;refine c hK.D8 (.all (Mq hK (n:=n+91) (R:=[]) H0 (aG _) DM λha A S lr t N1 ht H F h2 pV=>?_)) λ_ _ h=>h;exists ha,A,S,lr,t,N1,_;intro ht H F h2 pV;intro G c;exists G,_;intro c;haveI hb:S.rows.length<=1000:=aa F.oF (by decide);refine c rfl hK.KZ (.str (by decide+kernel)) (.all (Pe (λi acc N'=>∃l t',acc=l.map (λp=>V.tup [.str (aN p.1),iv p.2])/\EJ i l/\HR N' A S [(lr,.list (S.rows.map Row.v)),(fd,jw (xs.take 40) t' Gs WR)]/\t'<=100+2*i/\i<=4)
    (λi acc N' z=>vK z λl t' e a _ _ b=>⟨by erw[e,ag];exact aa a.l (aa b (by decide)),trivial⟩) (λi x acc N2 hx hI G=>?_) (λacc N2 e=>?_) ⟨[],t,rfl,⟨nofun,cH,nofun,ap _⟩,H,ht,aG _⟩)) λ_ _ h=>h
  ·revert hx hI;exists i,x,acc,N2,G,_;intro hx hI;refine vK hI λl t' aT CI H I9 hi4=>?_;exists l,t',_;intro aT CI H I9;clear hI;obtain rfl:=aT;rw[xb,aF]at hx;exists G,l,t',_;intro CI H I9;refine aI (aJ.mp hx) λo ZC aT=>?_;exists o,_;intro ZC aT;obtain rfl:=aT;have hi:i+1<=4:=(l7 ZC).1;have O9:t'<=900:=aa I9 (aa (bD (eh 2 hi4) 100) (by decide))
   refineλc=>c hK.fC (.all (lB hK (wide:=2) (X:=[_]) H (aa O9 (by decide)) (by decide) (by decide) DM λx N3 Oa H=>?_)) λ_ _ h=>h
   exists x,N3,_;intro Oa H;intro G c;exists G,_;intro c;by_cases q:x=1
   ·refine c (eqT (b:=1) q) hK.fC (.all (lB hK (wide:=3) (X:=[_]) H (aa (aw O9) (by decide)) (by decide) (by decide) DM λy N4 hy H=>?_)) λ_ _ h=>h;intro G c;refine c .vN ⟨l++[(o,1+y)],t'+1+1,?_,CI.put ZC hy,H,dg I9 2,hi⟩;erw[az];haveI e:V.int (1+(y:Int))=iv (1+y):=congrArg V.int (qu 1 y).symm;erw[e];rfl
   ·exact c (CM (b:=1) q) ⟨l,t'+1,bG _,CI.skip,H,aa (aw I9) (cD _),hi⟩
  ·exists acc,N2,_;intro e;refine vK e λl t' aT CI H I9 _=>?_;exists l,t',_;intro aT CI H I9;clear e;obtain rfl:=aT;intro G c;exists G,_;intro c;rw[xb]at CI I9;exists G,_;intro c;have I9:t'<=108:=I9;refine c (.all (yA (kvs:=uG l) (congrArg some (R7 l)) ?_ (by erw[uG,ag];exact aa CI.l (by decide)) λcd z7 Es=>?_)) λ_ _ h=>h
   ·erw[uG,ay];exact dK.mpr (dK.mp CI.n |>.imp λh e=>h ((nM _ _).mp (PK.s.inj e)))
   exists cd,z7,_;intro Es;intro G c;exists G,_;intro c;have C:=Pa CI.b;haveI h3:=Ms l;generalize w8 l=cst at C h3;exists cst;generalize uG l=kc at h3 c;exists kc,_;intro h3 c;haveI H:=H.VT (mo:=.dp kc z7) Es;refine c hK.fC hK.dH (.one (tX (H.O8 (p:=(lr,_)) (.tail _ (.head _))) hb)) (.all (lB hK (X:=[_,_]) H (aa I9 (by decide)) (aY (by decide) h2) hb DM λasked N4 n6 H=>?_)) λ_ _ h=>h;exists asked,N4,_;intro n6 H;intro G c;exists G,_;intro c;refine c hK.fC (.all (lB hK (wide:=3) (X:=[_,_]) H (aa (aw I9) (by decide)) (by decide) (by decide) DM λmany N4 w9 H=>?_)) λ_ _ h=>h;exists many,N4,_;intro w9 H;intro G c;exists G,_;intro c;haveI qQ:many<=2:=e9 w9;have CN:root S.par asked∈bg S:=f6 F.fit n6;refine c rfl (eH hK H) (.one (eu hK (n:=n+97) H F.fit.po (F.fit.len▸n6) (F.fit.len▸hb) dU)) hK.BJ (.all (Io hK (n:=n+95) H F C (.tail _ (.head _)) (.head _) h3 λld KL LA LT N4 HL I6=>?_)) λ_ _ h=>h;exists ld,KL,LA,LT,N4,_;intro HL I6;intro G c;exists G,_;intro c;refine c rfl hK.HB (.all (Ew hK λsa tP Vv=>?_)) λ_ _ h=>h;exists sa,tP,_;intro Vv;intro G c;exists G,_;intro c;haveI gs:(N4.put tP (.at (qP ha A cd) 2)) tP=some (.at (qP ha A cd) 2):=aL.bH _ _ _;haveI HL:=HL.add (mo:=.at (qP ha A cd) 2) Vv;haveI gcd:=HL.rest (.tail _ (.head _));haveI Gk:=HL.rest (.tail _ (.tail _ (.head _)));haveI hL:∀c,1<=c->c<=5->m8 (oM S cst) (root S.par asked,c) (LT (root S.par asked,c)):=λc a b=>(I6 _ CN c a b).2;refine c (sM hK gs hK.rC rfl) (.all (Cd hK (n:=n+92) HL F C gs gcd h3 qQ (aa (by decide) (f9 92 n)) (aa (dg ZB 92) (by decide)) n6 λtold z9 R9=>?_)) λ_ _ h=>h;exists told,_;intro z9 R9;intro G c;exists G,_;intro c;haveI h63:=Mw F C CN hL pV h2;refine c hK.iQ rfl rfl ⟨by decide,by decide,by decide,by decide⟩ (.one (Gf (l:=aM 5) (v:=λi=>iv (i+1)) (bf λi _=>congrArg V.int (pQ 1 _)) (λi=>(LT (root S.par asked,i+1)).map λt=>tv (i+1,t)) (Pd LT _) trivial (by erw[ag];exact aa h63 (by decide)) λi hi G c=>?_))
    (h _ _ (pI LT (root S.par asked)) ha A S _ cst kc z7 cd lr told many asked ⟨HL,F,C,h3,gcd,Gk,n6,z9,R9,qQ,qn F C CN hL,Cj F C CN hL,h63,zI rfl⟩)
   have hi5:=br.mp hi;refine a9 (I6 _ CN (i+1) (bP _) hi5) λp1 p2=>?_;exact c (.dt HL.M3 rfl (ie p1)) (.ref (HL.cell p1)) (.one (fZ (l:=LT (root S.par asked,i+1)) (v:=T.v) (λt=>tv (i+1,t)) (HL.cell p1) (aa (k0 (wS F C) (c:=i+1) hi5 p2.1 λt ht=>((p2.2 t).mp ht).2) (by decide)) λt ht G c=>c dU)) dU
 ·intro ρ N k L ha A S R3 cst kc z7 cd lr told many asked M VV h;exists ρ,N,k,L,ha,A,S,R3,cst,kc,z7,cd,lr,told,many,asked;obtain⟨H,F,C,h3,gcd,Gk,n6,z9,R9,w9,hLm,hLn,Vx,hs⟩:=M;have CN:root S.par asked∈bg S:=f6 F.fit n6;have KG:=wS F C;haveI asc:∀{l:List (Nat×T)},l.Nodup->l.Pairwise (λx y=>¬bN y<bN x)->l.Pairwise λx y=>bN x<bN y:=λa b=>(b.and a).imp λ{x y}h=>(YA x y).resolve_right λq=>q.elim h.2 h.1;refine a9 (Ix z9 (asc hLn VV) hLm) λvU lZ=>?_;have vm:=z9.len;have tb:told.length<=1000:=aa vm (aa w9 (by decide));have Lb:L.length<=1000:=aa Vx (by decide);haveI SS:∀p∈told.drop L.length,p∈told:=λp hp=>q9 hp;haveI SU:(told.drop L.length).Pairwise λx y=>bN x<bN y:=z9.asc.sublist (List.drop_sublist _ _);haveI PG:(told.drop L.length).length<=2:=by erw[List.length_drop];exact aa (t6 _ _) (aa vm w9)
  have s1:lb N (.lst (told.map tv)) none (some (iv L.length)) (.lst ((L.take many).map tv)):=by rw[<-vU,ga];exact .GJ rfl (sS _ tb)
  have s2:lb N (.lst (L.map tv)) none (some (iv many)) (.lst ((L.take many).map tv)):=by erw[ga];exact .GJ rfl (sS _ Lb)
  haveI s3:lb N (.lst (told.map tv)) (some (iv L.length)) none (.lst ((told.drop L.length).map tv)):=by erw[Ay];exact .Tg rfl (sS _ tb)
  haveI o1:uc ((L.take many).map tv) ((L.take many).map tv):=⟨Mt _,Mt _,aa (Pb (d:=60) λp hp=>(R9 p (eU (vU▸hp))).1) (by decide)⟩
  generalize told.drop L.length=D at lZ SS SU PG s3;exists D;have hsz:∀p∈D,p.2.size<=2928:=λp hp=>aa (T.m7 KG p.2) ((z9.sub p (SS p hp)).2▸(R9 p (SS p hp)).2);haveI hDb:D.length<=gS:=aa PG (by decide);haveI Pf:∀{N:aL},aV Γ (n+99) (.builtin "len") [.lst (told.map tv)] N (Is (iv told.length) N):=eZ rfl (sS _ tb) ⟨by erw[ag];rfl,rfl⟩;haveI Sa:∀{N:aL},aV Γ (n+99) (.builtin "len") [.lst (L.map tv)] N (Is (iv L.length) N):=eZ rfl (sS _ Lb) ⟨by erw[ag];rfl,rfl⟩;have ZD:aV Γ (n+99) (.builtin "len") [.lst (D.map λp=>fi p.1 p.2)] N (Is (iv D.length) N):=eZ rfl (by erw[ag];exact hDb) ⟨by erw[ag];rfl,rfl⟩;haveI ZE:Inhabited (Nat×T):=⟨(0,T.a)⟩
  haveI ZF:∀{xs:List V},uc xs xs->dA N .NotEq (.lst xs) (.lst xs) false:=λo=>.Te rfl rfl o ⟨nofun,λq=>(q rfl).elim⟩
  refineλG c=>c hK.dH (.one Sa) s1 s2 (ZF o1) hK.dH (.one Sa) s3 .lst (.one (fZ (l:=D) (v:=tv) (λp=>fi p.1 p.2) trivial hDb λp hp G c=>c rfl hK.ww (.one (BX hK (n:=n+97) (aa (R9 p (SS p hp)).1 (aa (by decide) (f9 97 n))) (aa (hsz p hp) (by decide)) dU)) dU))
   hK.iK (.one (x:=.lst (D.map λp=>fi p.1 p.2)) (ib (l:=D) (f:=λp=>fi p.1 p.2) (.inl rfl) (s0 (a6 PG (by decide))) λD' a b=>⟨by erw[Ga (asc (a.nodup_iff.mpr (fV SU)) b) SU λp=>a.mem_iff],rfl⟩)) (ZF ⟨(t4 _).1,(t4 _).1,(t4 _).2⟩)
   hK.iQ hK.dH (.one ZD) rfl rfl ⟨by decide,by decide,eS (fD.mpr PG) (by decide),eS (by decide) (dR _)⟩ (.one (BV (l:=aM ((D.length:Int)-1).toNat) (v:=λ(i:Nat)=>V.int (1+(i:Int))) (λ_=>[]) (Mx _) trivial (aG _) λi hi G=>?_)) true (ZF ⟨rfl,rfl,aG _⟩)
   hK.dH (.one Sa) s3 .lst
   (.all (u3 (λ_(_:Unit)=>[("heap",.obj ha 438 A.dx),("costs",.ref cd),("goal",iv (root S.par asked)),("told",.lst (told.map tv)),("many",iv many),("rows",.ref lr)]) (λ_ _ N'=>N'=N) () rfl rfl (λ_ _ _ _=>trivial) λi x _ N' hx e G c=>?_)) (λ_ N' e G=>?_) nr
  ·have hi:=br.mp hi;haveI e:=R8 hi PG;refine a9 e λaT h2D=>?_;clear e;obtain rfl:=aT;revert SU;refine L9 ?_ D h2D;intro x y SU
   exactλc=>c (.lst (j:=1) (x:=fi y.1 y.2) rfl rfl (by decide)) .vO (.lst (j:=0) (x:=fi x.1 x.2) rfl rfl (by decide)) (Mu (p:=y) (q:=x) λe=>ltI x (e▸(dc.mp SU).1 y (.head _):bN x<bN x)) dU
  ·revert hx e;exists i,x,N',G,_;intro c hx e;subst e;rw[aF]at hx;exists G,_;intro c;refine aI (aJ.mp hx) λp CG aT=>?_;exists p;obtain rfl:=aT;haveI hp:p∈D:=a7 CG;haveI hd:p.2.depth<=n+95:=aa (R9 p (SS p hp)).1 (aa (by decide) (f9 95 n));haveI Vh:=z9.sub p (SS p hp);haveI zu:p.2.subs.length<=2928:=hsz p hp;haveI hpc:p.1=p.2.cost cst:=Vh.2;exact c rfl hK.KY hK.pn (.one (yE hK (n+98) p.2 N' _ (aa hd (bD (by decide) n)) (aa (hsz p hp) (by decide)) dU)) .lst
    (.one (fZ (l:=p.2.subs) (v:=T.v) (λt:T=>V.int ((cst t.op:Nat):Int)) trivial (aa zu (by decide)) λt ht G c=>c (mb (.get gcd)) (by erw[T.v_eq];exact .tup (j:=0) (x:=.str (aN t.op)) rfl) (.one (x:=iv (cst t.op)) (tJ gcd rfl ⟨h3 _ (T.uz t),rfl⟩)) dU))
    (.one (x:=iv p.1) (wt (ns:=p.2.subs.map λt=>((cst t.op:Nat):Int)) (congrArg some (by erw[ay];rfl)) (by erw[ag];exact aa zu (by decide)) (λy hy=>by refine iu hy λt _=>?_;exact⟨dR _,fD.mpr (aa (C.c3 _ (T.uz t)) (by decide))⟩) ⟨by rw[T.IA,<-hpc];rfl,rfl⟩))
    (.Sk (c:=false) ⟨nofun,λq=>(Nat.not_le.mpr (lZ p hp) (fD.mp q)).elim⟩) (SE rfl) hK.ur (.one (H9 hK H F (n+95) p.2 (root S.par asked) _ hd CN Vh.1 dU)) (SE rfl) () rfl rfl
  ·revert e;exists N',G,_;intro e;subst e;haveI c1:dA N' .LtE (iv told.length) (iv many) true:=.Sk ⟨λ_=>fD.mpr vm,λ_=>rfl⟩;by_cases q:told.length=many
   ·exactλc=>c hK.dH (.one Pf) c1 hK.dH (.one Pf) (eqT q) (eO.ret (h _))
   ·refineλc=>c hK.dH (.one Pf) c1 hK.dH (.one Pf) (CM q) hK.wx (.one (x:=.bool false) (N:=N') (Ig hK (n:=n+93) H F Gk CN λb hb=>?_)) (eO.ret (h _))
    cases b with
    |false=>exact dU
    |true=>refine aI (hb rfl) λc DM MS=>?_;exact absurd (HY KG CN DM MS z9) q
end
end
section
section
variable {prog:cx} {w:eB} {A:bW} {s:aj}
theorem Ck{R:EY->aj->Prop}
  (VW:A.depth<recursionLimit) (ho:s.heap.get? a=some o) (VX:o.data=.func fd) (Q3:s.heap.NoLimit) (Es:s.heap.CodeRec fd.code fd.qualname)
  (Bi:fd.body=.expr body) (Bj:bindArgs fd ⟨vals,[]⟩=pure binds) (Kn:fd.closure=[])
  (VY:∀x∈binds,fd.scope.names.lookup x.1=some .local\/(fd.scope.names.lookup x.1=some .cell/\((gm (s.heap.objs.size+1) fd.scope.names []).lookup x.1).isSome=true))
  (h:∀fJ,InCallC s (qz fd s.heap.objs.size a).locals (bindL (qz fd s.heap.objs.size a).kindOf binds λ_=>none) (qz fd s.heap.objs.size a).cells
    (bindC (qz fd s.heap.objs.size a).kindOf binds λ_=>none) fJ->
   am (bB prog w) (A.deeper (qz fd s.heap.objs.size a)) (eval body (qz fd s.heap.objs.size a)) (λv s'=>R (.ok (.ret v)) s') (λ_ _=>False) fJ)
  (QN:fd.scope.isCoroutine=false) (DK:fd.scope.isGenerator=false) (hk:fd.scope.kind=.function):
  ja (bB prog w) A (.call (.ref a) ⟨vals,[]⟩) R s:=by
 refine kla_callFunE VW ho VX QN DK Bi Es ?_;erw[Bj,Kn];refine ah (wpAny_newFunctionEnv_cells hk VY λenv he s' x=>?_);subst he;exact⟨Q3.keeps x.toInCall.keep,kla_codeExpr (aS (h s' x) (λ_ _ q=>q) λ_ _ f=>f.elim)⟩
end
structure My(h:cg)(f:ax)(params:List Str)(body:PySem.Expr)(names:List (Str×bj)):Prop where
 at_:∃o fd,h.get? f=some o/\o.data=.func fd/\fd.scope.isCoroutine=false/\fd.scope.isGenerator=false/\fd.scope.kind=.function/\fd.body=.expr body/\fd.closure=[]/\fd.globals=dN/\fd.builtins=rT/\
  fd.scope.names=names/\h.CodeRec fd.code fd.qualname/\∀vals,vals.length=params.length->bindArgs fd ⟨vals,[]⟩=pure (params.zip vals)
 nodup:(names.map (·.1)).Nodup
 tE:params.Nodup
 kinds:∀p∈names,(p.2=.local\/p.2=.cell\/p.2=.globalImplicit)/\p.1≠("__debug__":Str)/\p.1≠("__classdict__":Str)
 pk:∀x∈params,names.lookup x=some .local\/names.lookup x=some .cell
section
variable {Γ:Cx} {f:ax} {params:List Str} {body:PySem.Expr} {names:List (Str×bj)}
theorem Mz(FA:My s.heap f params body names)(hlen:args.length=params.length)(h:TE Γ n names body (mR params args) N k)(hA:Lv (n+1) A){L:ax->Bool}(hL:∀a,L a=true->N a=none)(R:bS Γ (hide L N) s)(pT:ch s.heap (hide L N) vs args):
  ja Γ.M A (.call (.ref f) ⟨vs,[]⟩) (QM Γ L N s.heap k) s:=by
 refine Pk FA.at_ λo fd ho hd QN DK hk Bi Kn Ko Kq rt WO Bj=>?_;have Bk:vs.length=params.length:=pT.length.trans hlen;haveI MR:((params.zip vs).map (·.1))=params:=List.map_fst_zip (eR Bk.symm);refine Ck (fd:=fd) (body:=body) (vals:=vs) (binds:=params.zip vs) (by have:=hA.2.1;show A.depth<1000;exact aR 0x1d5de9deb620577a77ad8918114600812 rfl this) ho hd R.nolimit WO Bi (Bj vs Bk) Kn (rt▸ym FA.nodup FA.pk MR) ?_ QN DK hk;intro s1 X;have Y:=yn (s1:=s1) FA.nodup FA.tE FA.kinds MR hL R pT rfl (rt▸rfl) (λ_=>rt▸rfl) hk Ko Kq X;generalize qz fd s.heap.objs.size f=env at Y ⊢;refine aS (h (hA.deeper env) Y.S Y.F Y.R) (λv s2 p=>?_) λ_ _ f=>f.elim;obtain⟨x,N2,hv,R2,li,kX⟩:=p;haveI F2:=Y.F.step Y.R li;exact⟨x,N2,hv.less (Y.back F2).1,R2.less (Y.back F2).2,λb o e hn=>li b o (Y.kp b o e) hn,kX⟩
end
end
section
section
variable {prog:cx} {w:eB} {A:bW} {E:al->aj->Prop} {s:aj} {M:aL}
theorem Pg{α:Type}[Inhabited α]{l:List α}{f fk:α->V}{key:α->List Nat}{a kS:ax}{vs ks:List al}{e1 e2:Nat}{P:Au->aj->Prop}(hu:A.units+160<=fW)(S:jj l fk key)
  (ho:s.heap.get? a=some (dS "list" #[] e1)) (WS:s.heap.get? kS=some (dS "list" ks.toArray e2)) (dM:kS≠a) (hv:ch s.heap M vs (l.map f)) (o7:ch s.heap M ks (l.map fk))
  (h:∀(l':List α)ul h' e,l'.Perm l->l'.Pairwise (λx y=>¬key y<key x)->(∀b o,b≠a->b≠kS->s.heap.get? b=some o->h'.get? b=some o)->h'.get? a=some (listOf (bp ul) e)->(∃o,h'.get? kS=some o)->ch s.heap M ul (l'.map f)->P (.done (.ret .none)) {s with heap:=h'}):
  am (bB prog w) A (ksk_end a false vs.toArray e1 (.ref kS) ks.toArray) P E s:=by
 revert α l f fk key;exists prog,w,A,E,s,M,a,kS,vs,ks,e1,e2,P;haveI hlen:vs.length=l.length:=by erw[hv.length];simp
 haveI VZ:ks.length=l.length:=by erw[o7.length];simp
 haveI Nu:ks.length=vs.length:=VZ.trans hlen.symm;haveI yv:vs.length<64:=by erw[hlen];exact S.len
 haveI fin:∀(yu:SortSt)(p:List Nat),p.Perm (aM l.length)->p.Pairwise (λi j=>rk key l i<=rk key l j)->(arrOf yu).map (·.2)=bp (p.map λi=>vs.getD i al.none)->E4 yu=none->
   am (bB prog w) A (ksk_tail a false e1 (.ref kS) yu) P E s:=by
  intro yu p hp hs Wn hf;refine cQ (uk key hp hs) λl' g1 g2 g3=>?_;haveI Bp:(s.heap.update kS (bV λ_=>(#[]:Array al))).get? a=some (dS "list" #[] e1):=by erw[cE _ _ _ _ dM.symm];exact ho
  unfold ksk_tail
  try dsimp only
  refine af (lM WS rfl ?_ (by erw[dI,Nu,bF];exact aR 0x1d59e7de7de7de7de7ef05779f8c11 rfl yv) (aG _));refine af (wpAny_letGo ?_);refine af (Av Bp rfl ?_);haveI Bq:∀i∈p,i<l.length:=λi hi=>by simpa using hp.mem_iff.mp hi
  erw[Wn];simp only[bc,if_false];refine af (lM Bp rfl ?_ (aG _) (by erw[dI,ag,hp.length_eq,aO,bF];have:=S.len;exact aR 0x1d75646079f79f79f79f79fbc25de7e30580812 rfl hlen yv));erw[hf];simp only[bne_self_eq_false,bc,if_false];refine ah (h l' (p.map λi=>vs.getD i al.none) _ _ g1 g2 (λb o zu FG e=>?_) (dW Bp _) ⟨_,(cE _ _ _ _ dM).trans (dW WS _)⟩ ?_)
  ·erw[cE _ _ _ _ zu,cE _ _ _ _ FG];exact e
  ·erw[g3];exact ch.perm hv Bq
 unfold ksk_end
 try dsimp only
 simp only[bc,if_false];exact yt hu S hv o7 fin
end
end
section
section
variable {Γ:Cx} {A:bW} {s:aj} {N:aL} {L:ax->Bool}
theorem vB{L:ax->Bool}(h:hide L N b=none):L b=false/\N b=none:=co.mp h
theorem iw{L:ax->Bool}(h:L a=true):hide L N a=some .jd:=by unfold hide;erw[if_pos h]
noncomputable def MA(N:aL)(kS:ax)(h h':cg):Prop:=∀b o,b≠kS->N b=none->h.get? b=some o->h'.get? b=some o
theorem MA.ext(x:MA N kS h h')(hk:L kS=true):cl (hide L N) h (hide L N) h':=λb o e hn=>by refine a9 (vB hn) λa1 a2=>?_;exact⟨x b o (λq=>by rw[q,hk]at a1;cases a1) a2 e,hn⟩
theorem MB{α:Type}[Inhabited α]{l:List α}{f fk:α->V}{key:α->List Nat}{a kS fa:ax}{vs:List al}{e1:Nat}{P:Au->aj->Prop}(hu:A.units+160<=fW)(S:jj l fk key)
  (hL:∀b,L b=true->N b=none) (ZG:L a=true) (Sb:L kS=true) (dM:kS≠a) (R:bS Γ (hide L N) s) (ho:s.heap.get? a=some (dS "list" #[] e1)) (WS:s.heap.get? kS=some (dS "list" #[] 0)) (hv:ch s.heap (hide L N) vs (l.map f))
  (turn:∀s' v x,x∈l->bS Γ (hide L N) s'->MA N kS s.heap s'.heap->VI s'.heap (hide L N) v (f x)->am Γ.M A (oI (.ref fa) [v] []) (λv uX=>VI uX.heap (hide L N) v (fk x)/\bS Γ (hide L N) uX/\cl N s'.heap N uX.heap) (λ_ _=>False) s')
  (h:∀(l':List α)ul s' e,l'.Perm l->l'.Pairwise (λx y=>¬key y<key x)->bS Γ (hide L N) s'->(∀b o,b≠a->b≠kS->N b=none->s.heap.get? b=some o->s'.heap.get? b=some o)->s'.heap.get? a=some (listOf (bp ul) e)->ch s'.heap (hide L N) ul (l'.map f)->P (.done (.ret .none)) s'):
  am Γ.M A (ksk_rest a (.ref fa) false vs.toArray e1 (.ref kS)) P (λ_ _=>False) s:=by
 revert α l f fk key;exists Γ,A,s,N,L,a,kS,fa,vs,e1,P;have hlen:vs.length=l.length:=by erw[hv.length];simp
 unfold ksk_rest;refine af (dZ ?_)
 first
  |erw[List.forIn_toArray]
  |(rw[<-lV];simp only[List.toList_toArray])
  |rw[<-lV]
 refine af (ksk_fold (λi s'=>bS Γ (hide L N) s'/\MA N kS s.heap s'.heap/\∃ks e,s'.heap.get? kS=some (dS "list" (bp ks) e)/\ch s'.heap (hide L N) ks ((l.take i).map fk)) vs 0 s ⟨R,λ_ _ _ _ e=>e,[],0,WS,.nil⟩ ?step ?done)
 case step=>
  rintro j x s' hx ⟨R',pr,ks,e,hk,o7⟩;simp only[gW]at o7 ⊢;have hj:j<l.length:=by have:=(cq.mp hx).1;exact aR 0x1d7570835c10d80813 rfl hlen this
  haveI np:VI s'.heap (hide L N) x (f l[j]):=by refine aI (hv.get (show(l.map f)[j]?=some (f l[j]) by erw[aF,aE hj];rfl)) λv h1 h2=>?_;rw[hx]at h1;cases h1;exact h2.ext (pr.ext Sb)
  refine af (wpAny_attempt (aS (turn s' x l[j] (du hj) R' pr np) (λv uX q=>?_) λ_ _ hF=>hF.elim));refine ez q λNu R2 li=>?_;clear q
  try dsimp only
  haveI kX:uX.heap.get? kS=some (dS "list" (bp ks) e):=(li _ _ hk (hL _ Sb)).1;haveI V0:ks.length=j:=by erw[o7.length,ag,cG];exact aR 0x1d6015020570812 rfl hj
  haveI V1:=S.len;haveI hsL:∀t,bS Γ (hide L N) {uX with heap:=uX.heap.update kS (bV (·.push v)),toks:=t}:=λt=>by
   refine R2.GS (wr:=[kS]) (λb o hb e=>?_) (λb hb=>?_) λb hb=>?_
   ·erw[cE _ _ _ _ (by simpa using hb)];exact e
   ·simp at hb;subst hb;exact iw Sb
   ·simp at hb;subst hb;exact⟨_,dW kX _⟩
  obtain⟨c2,MS⟩:∃c2,(uX.heap.update kS (bV (·.push v))).get? kS=some (dS "list" ((bp ks).push v) c2):=⟨_,dW kX (·.push v)⟩
  haveI pr2:MA N kS s.heap (uX.heap.update kS (bV (·.push v))):=λb o hb hn e=>by erw[cE _ _ _ _ hb];exact(li _ _ (pr b o hb hn e) hn).1
  haveI uW:cl (hide L N) uX.heap (hide L N) (uX.heap.update kS (bV (·.push v))):=λb o e hn=>by refine a9 (vB hn) λa1 a2=>?_;exact⟨by erw[cE _ _ _ _ (λq=>by rw[q,Sb]at a1;cases a1)];exact e,hn⟩
  haveI ZH:cl (hide L N) s'.heap (hide L N) uX.heap:=λb o e hn=>⟨(li b o e (vB hn).2).1,hn⟩
  refine af (lM kX rfl ?_ (by erw[dI,V0,bF];exact aR 0x1d75679f79f79f79f79fbc15de7e30970812 rfl hj V1) (by erw[Array.size_push,dI,V0,bF];exact aR 0x1d75646079f79f79f79f79fbd18015de7e30970812 rfl hj V1));refine ah ⟨rfl,hsL _,pr2,ks++[v],c2,by erw[MS];simp,?_⟩;erw[bJ hj,az];exact(((o7.ext ZH).append (.cons Nu .nil))).ext uW
 case done=>
  rintro s' ⟨R',pr,ks,e,hk,o7⟩;haveI e3:l.take (0+vs.length)=l:=ef (by exact aR 0x1d59105f0980812 rfl hlen);rw[e3]at o7
  try dsimp only
  refine af (listItems_at hk rfl ?_);have vc:s'.heap.get? a=some (dS "list" #[] e1):=pr a _ dM.symm (hL _ ZG) ho;refine Pg (M:=hide L N) hu S vc hk dM (hv.ext (pr.ext Sb)) o7 λl' ul h' e4 g1 g2 g3 g4 g5 g6=>?_;have Sq:cl (hide L N) s'.heap (hide L N) h':=λb o e hn=>by refine a9 (vB hn) λa1 a2=>?_;exact⟨g3 b o (λq=>by rw[q,ZG]at a1;cases a1) (λq=>by rw[q,Sb]at a1;cases a1) e,hn⟩
  refine h l' ul {s' with heap:=h'} e4 g1 g2 ?_ (λb o zu FG hn e=>g3 b o zu FG (pr b o FG hn e)) g4 (g6.ext Sq);refine R'.GS (wr:=[a,kS]) (t:=s'.toks) (λb o hb e=>?_) (λb hb=>?_) λb hb=>?_
  ·simp only[aq,bx,or_false,not_or]at hb;exact g3 b o hb.1 hb.2 e
  ·simp only[aq,bx,or_false]at hb;rcases hb with rfl |rfl
   ·exact iw ZG
   ·exact iw Sb
  ·simp only[aq,bx,or_false]at hb;rcases hb with rfl |rfl
   ·exact⟨_,g4⟩
   ·exact g5
end
end
section
section
variable {Γ:Cx} {A:bW} {s:aj} {N:aL} {L:ax->Bool}
noncomputable def u5(L:ax->Bool)(a k:ax):ax->Bool:=λb=>L b||b==a||b==k
theorem ig:u5 L a k b=true↔L b=true\/b=a\/b=k:=by unfold u5;simp[or_assoc]
theorem MC(R:bS Γ (hide L N) s)(hL:∀b,L b=true->N b=none)(ha:s.heap.get? a=none)(hk:s.heap.get? k=none)(keep:∀b o,s.heap.get? b=some o->h'.get? b=some o)(Tz:∃o,h'.get? a=some o)(mG:∃o,h'.get? k=some o):
  bS Γ (hide (u5 L a k) N) {s with heap:=h',toks:=t}/\cl (hide L N) s.heap (hide (u5 L a k) N) h'/\N a=none/\N k=none:=by
 revert R hL ha hk;exists Γ,s,N,L,a,k,h',t;have na:=(co.mp (R.ce ha)).2;have nk:=(co.mp (R.ce hk)).2;have ex:cl (hide L N) s.heap (hide (u5 L a k) N) h':=λb o e hn=>by
  refine a9 (co.mp hn) λa1 a2=>?_;refine⟨keep b o e,co.mpr ⟨?_,a2⟩⟩;cases q:u5 L a k b with
  |false=>rfl
  |true=>
   rcases ig.mp q with q |rfl |rfl
   ·rw[a1]at q;cases q
   ·rw[ha]at e;cases e
   ·rw[hk]at e;cases e
 refine⟨⟨λb mo hb=>?_,λb o e=>keep b o (R.base b o e),λb mo hb=>?_,R.gens,R.os⟩,ex,na,nk⟩
 ·by_cases q:u5 L a k b=true
  ·rw[iw q]at hb;cases hb;rcases ig.mp q with q |rfl |rfl
   ·refine bz (R.live (iw (N:=N) q)) λo ho=>?_;exact⟨o,keep b o ho⟩
   ·exact Tz
   ·exact mG
  ·haveI qf:L b=false:=by
    cases r:L b with
    |false=>rfl
    |true=>exact absurd (ig.mpr (.inl r)) q
   haveI zu:N b=some mo:=by unfold hide at hb;rw[if_neg q]at hb;exact hb
   have FG:hide L N b=some mo:=by unfold hide;erw[if_neg (by erw[qf];exact bU)];exact zu
   refine bz (R.live FG) λo ho=>?_;exact(R.obj b mo FG).ext ex ((keep b o ho).trans ho.symm)
 ·by_cases q:u5 L a k b=true
  ·rcases ig.mp q with q |rfl |rfl
   ·exact R.off b _ (iw (N:=N) q)
   ·cases r:Γ.H0.get? b with
    |none=>rfl
    |some o=>rw[R.base b o r]at ha;cases ha
   ·cases r:Γ.H0.get? b with
    |none=>rfl
    |some o=>rw[R.base b o r]at hk;cases hk
  ·haveI qf:L b=false:=by
    cases r:L b with
    |false=>rfl
    |true=>exact absurd (ig.mpr (.inl r)) q
   haveI zu:N b=some mo:=by unfold hide at hb;rw[if_neg q]at hb;exact hb
   exact R.off b mo (by unfold hide;erw[if_neg (by erw[qf];exact bU)];exact zu)
theorem ID(hL:∀b,L b=true->N b=none)(na:N a=none)(nk:N k=none):∀b mo,hide L N b=some mo->hide (u5 L a k) N b=some mo:=λb mo hb=>by
 by_cases q:L b=true
 ·rw[iw q]at hb;rw[iw (ig.mpr (.inl q))];exact hb
 ·have zu:N b=some mo:=by unfold hide at hb;rw[if_neg q]at hb;exact hb
  unfold hide;rw[if_neg (λr=>?_)]
  ·exact zu
  ·rcases ig.mp r with r |rfl |rfl
   ·exact q r
   ·rw[na]at zu;cases zu
   ·rw[nk]at zu;cases zu
theorem IE:∀b,hide (u5 L a k) N b=none->hide L N b=none:=λb hb=>by
 refine a9 (co.mp hb) λa1 a2=>?_;refine co.mpr ⟨?_,a2⟩;cases q:L b with
 |false=>rfl
 |true=>rw[ig.mpr (.inl q)]at a1;cases a1
theorem EK{α:Type}[Inhabited α]{l:List α}{f fk:α->V}{key:α->List Nat}{lv fa:ax}{vs:List al}{Q:al->aj->Prop}(hu:A.units+162<=fW)(S:jj l fk key)
  (hL:∀b,L b=true->N b=none) (R:bS Γ (hide L N) s) (hl:s.heap.IsList lv vs.toArray) (hv:ch s.heap (hide L N) vs (l.map f))
  (turn:∀L',(∀b,L' b=true->N b=none)->∀s' v x,x∈l->bS Γ (hide L' N) s'->(∀b o,N b=none->s.heap.get? b=some o->s'.heap.get? b=some o)->VI s'.heap (hide L' N) v (f x)->
   am Γ.M A.in1.in1 (oI (.ref fa) [v] []) (λv uX=>VI uX.heap (hide L' N) v (fk x)/\bS Γ (hide L' N) uX/\cl N s'.heap N uX.heap) (λ_ _=>False) s')
  (h:∀D(l':List α)ul s' e,l'.Perm l->l'.Pairwise (λx y=>¬key y<key x)->bS Γ (hide L N) s'->(∀b o,N b=none->s.heap.get? b=some o->s'.heap.get? b=some o)->hide L N D=none->s'.heap.get? D=some (listOf (bp ul) e)->ch s'.heap (hide L N) ul (l'.map f)->Q (.ref D) s'):
  am Γ.M A (oI (.builtin "sorted") [.ref lv] [(aN "key",.ref fa)]) Q (λ_ _=>False) s:=by
 revert α l f fk key;exists Γ,A,s,N,L,lv,fa,vs,Q;haveI hlen:vs.length=l.length:=by erw[hv.length];simp
 have yv:vs.length<64:=by erw[hlen];exact S.len
 refine call_function_entry_kw kind_sorted plain_sorted entry_sorted (ksk_s1 _ _) ?_;unfold Builtin.«sorted»;refine af (m:=checkCount "sorted" 1 1 _) (ah ?_);refine af (collect_list hl ?_ (by erw[bF];exact aR 0x1d59e7de7de7de7de7ef05779f8c11 rfl yv));refine af (vH ?_ (by erw[bF];exact aR 0x1d59e7de7de7de7de7ef05779f8c11 rfl yv));haveI hsz:((s.heap.push (dS "list" #[] 0)).update s.heap.objs.size (bV (· ++vs.toArray))).objs.size=s.heap.objs.size+1:=by erw[cg.size_update,size_push']
 haveI MX:(((s.heap.push (dS "list" #[] 0)).update s.heap.objs.size (bV (· ++vs.toArray))).push (dS "list" vs.toArray 0)).get? (s.heap.objs.size+1)=some (dS "list" vs.toArray 0):=by rw[<-hsz];exact aB _ rfl
 haveI keep:∀b o,s.heap.get? b=some o->(((s.heap.push (dS "list" #[] 0)).update s.heap.objs.size (bV (· ++vs.toArray))).push (dS "list" vs.toArray 0)).get? b=some o:=λb o q=>by haveI fY:b<s.heap.objs.size:=bO q;erw[cg.get?_push_ne _ _ _ (by erw[hsz];exact bd (bZ fY)),cE _ _ _ _ (bd fY),cg.get?_push_ne _ _ _ (bd fY)];exact q
 show am _ _ _ _ _ {s with heap:=((s.heap.push (dS "list" #[] 0)).update s.heap.objs.size (bV (· ++vs.toArray))).push (dS "list" vs.toArray 0)};erw[hsz];generalize Wp:((s.heap.push (dS "list" #[] 0)).update s.heap.objs.size (bV (· ++vs.toArray))).push (dS "list" vs.toArray 0)=h1 at MX keep;haveI FQ:s.heap.get? (s.heap.objs.size+1)=none:=iD (cD _);generalize hD:s.heap.objs.size+1=D at MX FQ;refine af (aZ (wpAny_call_entry_kw slot_list_sort ⟨_,MX,rfl⟩ entry_list_sort ?body (ksk_l1 _ _)))
 case body=>
  show am Γ.M A.in1.in1 (Builtin.«list.sort» ⟨[.ref D],_⟩) _ _ _;erw[ksk_t1];unfold ksk_tree;refine af (listItems_at MX rfl ?_);refine af (lM MX rfl ?_ (by erw[dI,bF];exact aR 0x1d59e7de7de7de7de7ef05779f8c11 rfl yv) (aG _));obtain⟨e1,Bp⟩:∃e1,(h1.update D (bV λ_=>(#[]:Array al))).get? D=some (dS "list" #[] e1):=⟨_,dW MX (λ_=>#[])⟩
  refine af (Av Bp rfl ?_);refine af (E5 ?_ (by show vs.length<=_;erw[bF];exact aR 0x1d59e7de7de7de7de7ef05779f8c11 rfl yv));refine af (vH ?_ (aG _));refine aZ ?_;dsimp only;generalize hkS:((h1.update D (bV λx=>(#[]:Array al))).push {cls:=e8 "tuple",data:=mv vs.toArray}).objs.size=kS;haveI NG:(((h1.update D (bV λx=>(#[]:Array al))).push {cls:=e8 "tuple",data:=mv vs.toArray}).push {cls:=e8 "list",data:=mv #[]}).get? kS=some (dS "list" #[] 0):=by rw[<-hkS];exact aB _ rfl
  haveI V2:(((h1.update D (bV λx=>(#[]:Array al))).push {cls:=e8 "tuple",data:=mv vs.toArray}).push {cls:=e8 "list",data:=mv #[]}).get? D=some (dS "list" #[] e1):=ai _ (ai _ Bp);haveI we:∀b o,s.heap.get? b=some o->(((h1.update D (bV λx=>(#[]:Array al))).push {cls:=e8 "tuple",data:=mv vs.toArray}).push {cls:=e8 "list",data:=mv #[]}).get? b=some o:=λb o e=>by refine ai _ (ai _ ?_);erw[cE _ _ _ _ (λq=>by rw[q,FQ]at e;cases e)];exact keep b o e
  haveI ZI:D<kS:=by
   haveI h9:D<h1.objs.size:=bO MX;haveI h8:kS=h1.objs.size+1:=by rw[<-hkS,size_push',cg.size_update]
   erw[h8];exact bZ h9
  haveI MZ:s.heap.get? kS=none:=iD (by rw[<-hD]at ZI;exact bq (Nat.lt_of_succ_lt ZI));generalize ((h1.update D (bV λx=>(#[]:Array al))).push {cls:=e8 "tuple",data:=mv vs.toArray}).push {cls:=e8 "list",data:=mv #[]}=h3 at NG V2 we;refine qw (MC (t:=s.toks) R hL FQ MZ we ⟨_,V2⟩ ⟨_,NG⟩) λR3 uW nD nK=>?_;have hL3:∀b,u5 L D kS b=true->N b=none:=λb hb=>by
   rcases ig.mp hb with q |rfl |rfl
   ·exact hL b q
   ·exact nD
   ·exact nK
  refine MB (s:={s with heap:=h3}) (L:=u5 L D kS) (N:=N) (by show A.units+1+1+160<=fW;lia) S hL3 (ig.mpr (.inr (.inl rfl))) (ig.mpr (.inr (.inr rfl))) (E7 ZI) R3 V2 NG (hv.ext uW)
   (λs' v x hx R' pr np=>turn _ hL3 s' v x hx R' (λb o hn e=>pr b o (λq=>by rw[q,MZ]at e;cases e) hn (we b o e)) np) λl' ul s' e g1 g2 R' g3 g4 g5=>⟨_,rfl,?_⟩
  refine ah ⟨_,rfl,h D l' ul s' e g1 g2 (R'.less (ID hL nD nK)) (λb o hn eb=>g3 b o (λq=>by rw[q,FQ]at eb;cases eb) (λq=>by rw[q,MZ]at eb;cases eb) hn (we b o eb)) (R.ce FQ) g4 (g5.less IE)⟩
end
end
section
section
variable {M:Ja} {A:bW} {E:al->aj->Prop} {s:aj} {env:Env} {c P:ax} {ps:Array al} {pos:Pos} {mg:Str->Option al} {Q:al->aj->Prop}
theorem Sd{P:List al->Prop}(h:∀a,P [a]):∀vals,vals.length=1->P vals:=λvals hv=>by
 cases vals with
 |nil=>exact nomatch hv
 |cons a l=>erw[kJ (cU hv)];exact h a
theorem MD(QN:scope.isCoroutine=false)(DK:scope.isGenerator=false)(hk:scope.kind=.function)(uh:(scope.names.map (·.1)).Nodup)
  (Se:∀p∈scope.names,(p.2=.local\/p.2=.cell\/p.2=.globalImplicit)/\p.1≠("__debug__":Str)/\p.1≠("__classdict__":Str)) (SL:scope.names.lookup ("row":Str)=some .local\/scope.names.lookup ("row":Str)=some .cell)
  (i8:rV scope env=pure []) (ZJ:env.globals=dN) (qU:env.code=.ref c) (C:CodeHd s.heap c P) (hP:s.heap.get? P=some (pR ps)) (ht:TriplesOk ps.toList) (hnf:codeAmong pos ps.toList=none) (hg:s.heap.Ns dN mg) (M7:dN≠P) (hb:s.heap.BuiltinsAt mg P)
  (h:∀f h' tk,(∀b o,b≠P->s.heap.get? b=some o->h'.get? b=some o)->(∃Am:Array al,h'.get? P=some (pR Am))->s.heap.get? f=none->(∀MO:cg,(∀b o,s.heap.get? b=none->h'.get? b=some o->MO.get? b=some o)->My MO f ["row"] body scope.names)->Q (.ref f) {s with heap:=h',toks:=tk}):
  am M A (eval (.Lambda ⟨[],[⟨"row",none,p⟩],none,[],[],none,[]⟩ body scope pos) env) Q E s:=by
 exists M,A,E,s,env,c,P,ps,pos,mg,Q,p,body,scope;refine kla_eval rfl (kla_makeFunction i8 ZJ hg qU C hP ht hnf M7 hb λc' ctv h' tk hx QX fY V3 htb=>?_);exists c',ctv,h',tk;have hsz:s.heap.objs.size<=h'.objs.size:=bq (a6 QX fY);refine h h'.objs.size _ tk (λb o hb e=>ai _ (hx b o hb e)) ⟨_,ai _ htb⟩ (iD hsz) (λMO up=>?_);have hf:MO.get? h'.objs.size=_:=up _ _ (iD hsz) (aB _ rfl);refine⟨⟨_,_,hf,rfl,QN,DK,hk,rfl,rfl,rfl,rfl,rfl,?_,?_⟩,uh,by simp,Se,by simpa using SL⟩
 ·refine yX V3 λc2 oc vs t e2 hoc hd hv=>?_;clear V3;cases e2;exact⟨_,oc,vs,t,rfl,up _ _ (iD QX) (ai _ hoc),hd,hv⟩
 ·exact Sd λa=>rfl
end
end
section
section
variable {Γ:Cx} (hK:cL Γ.K) {n:Nat} {N:aL} {L:ax->Bool} {s:aj}
include hK
theorem IF
  (FA:My s.heap fa ["row"] (.Call (.Name "_law_rank" p5) [.Subscript (.Name "row" p6) (.Constant (.int 0) 0 p7) p8,.Subscript (.Name "row" p9) (.Constant (.int 1) 0 Fe) I7] [] I8) s8)
 (hd:p.2.depth<=n) (hs:p.2.size<=9000) (hA:Lv (n+3) A) (hL:∀a,L a=true->N a=none) (R:bS Γ (hide L N) s) (hv:VI s.heap (hide L N) v (tv p)):
  am Γ.M A (oI (.ref fa) [v] []) (λv uX=>VI uX.heap (hide L N) v (fi p.1 p.2)/\bS Γ (hide L N) uX/\cl N s.heap N uX.heap) (λ_ _=>False) s:=by
 revert hK FA hd hs v;exists Γ,n,N,L,s,fa,p5,p6,p7,p8,p9,Fe,I7,I8,p,A;exists v;have h:TE Γ (n+2) s8 (.Call (.Name "_law_rank" p5) [.Subscript (.Name "row" p6) (.Constant (.int 0) 0 p7) p8,.Subscript (.Name "row" p9) (.Constant (.int 1) 0 Fe) I7] [] I8) (mR ["row"] [tv p]) N (λv N'=>v=fi p.1 p.2/\N'=N):=exp (ρ:=[("row",tv p)]) 14 λG=>by exactλc=>c hK.ww (.tup (j:=0) (x:=iv p.1) rfl) (.tup (j:=1) (x:=p.2.v) rfl) (.one (BX hK hd hs dU)) ⟨rfl,rfl⟩
 refine wpAny_call (dJ (Mz FA (args:=[tv p]) rfl h hA hL R (.cons hv .nil)) λr s' q=>?_);exists r,s';cases r with
 |error e=>exact q.elim
 |ok f=>
  cases f with
  |ret v'=>obtain⟨x,N',h1,h2,h3,rfl,rfl⟩:=q;exact⟨h1,h2,h3⟩
  |_=>exact q.elim
end
end
section
section
variable {Γ:Cx} {n:Nat} {N:aL} {L:ax->Bool} {s s':aj} {env:Env} {ρ:cf}
theorem ME(R:bS Γ (full env ρ L N) s)(F:fu env L N)(hP:L P=true)(EL:aQ env ρ P=none)(R':bS Γ (hide (jQ env L) N) s')(x:∀b o,b≠P->N b=none->s.heap.get? b=some o->s'.heap.get? b=some o)(M8:∃o,s'.heap.get? P=some o):
  bS Γ (full env ρ L N) s':=by
 exists Γ,N,L,s,s',env,ρ,P;haveI ex:cl (full env ρ L N) s.heap (full env ρ L N) s'.heap:=λb o e hn=>by refine⟨x b o (λq=>?_) (ba.mp hn).2.2 e,hn⟩;subst q;have:=(ba.mp hn).2.1;rw[hP]at this;cases this
 haveI keep:∀a mo,full env ρ L N a=some mo->N a=none->a≠P->s'.heap.get? a=s.heap.get? a:=λa mo e hn dM=>by refine bz (R.live e) λo ho=>?_;erw[ho];exact x a o dM hn ho
 refine R'.swap (λa=>fS.symm) λa mo h=>?_;exists a,mo;cases e:aQ env ρ a with
 |some m=>rw[hH e]at h;cases h;have hf:full env ρ L N a=some mo:=hH e;exact(R.obj a mo hf).ext ex (keep a _ hf (F.off (by erw[e];exactλq=>by cases q)) (λq=>by rw[q,EL]at e;cases e))
 |none=>
  cases l:L a with
  |true=>
   haveI hm:mo=.jd:=by unfold Mine.full Mine.hide at h;rw[e,if_pos l]at h;cases h;rfl
   subst hm;have hf:full env ρ L N a=some .jd:=by unfold Mine.full Mine.hide;erw[e,if_pos l];rfl
   by_cases q:a=P
   ·erw[q];exact M8
   ·refine bz (R.live hf) λo ho=>?_;exact⟨o,(keep a _ hf (F.kL a l) q).trans ho⟩
  |false=>
   haveI hn:N a=some mo:=by unfold Mine.full at h;rw[e,mw l]at h;exact h
   haveI hq:Mine.hide (jQ env L) N a=some mo:=by erw[mw (gO.mpr ⟨e,l⟩)];exact hn
   exact(R'.obj a mo hq).less λb=>fS.mpr
end
section
variable {Γ:Cx} (hK:cL Γ.K) {n:Nat} {N:aL} {L:ax->Bool} {s:aj} {env:Env} {ρ:cf} {sc:List (Str×bj)}
include hK
theorem EM{A:bW}(hA:Lv (n+30) A)(SC:fe env sc)(F:fu env L N)(R:bS Γ (full env ρ L N) s)(hw:sc.lookup ("whole":Str)=some .local)(hs:sc.lookup ("sorted":Str)=some .globalImplicit)
  {W:List (Nat×T)} (Qy:ρ "whole"=some (.lst (W.map tv))) (hlen:W.length<64) (hd:∀p∈W,p.2.depth<=n/\p.2.size<=9000)
  {P c:ax} {mg:Str->Option al} (hP:L P=true) (EL:aQ env ρ P=none) (qU:env.code=.ref c) (C:CodeHd Γ.H0 c P) (M8:s.heap.get? P=some (pR #[])) (hg:∀h:cg,(∀b o,Γ.H0.get? b=some o->h.get? b=some o)->h.Ns dN mg) (M7:dN≠P) (hb:∀h:cg,(∀b o,Γ.H0.get? b=some o->h.get? b=some o)->h.BuiltinsAt mg P)
  {p2 p3 p4 p5 p6 p7 p8 p9 Fe I7 I8 q1 q2 q3:Pos} {z8:mJ} (qH:z8.names=s8) (rB:z8.isCoroutine=false) (WP:z8.isGenerator=false) (WQ:z8.kind=.function) (i8:rV z8 env=pure []):
  am Γ.M A (eval (.Call (.Name "sorted" p2) [.Name "whole" p3] [⟨some "key",.Lambda ⟨[],[⟨"row",none,p4⟩],none,[],[],none,[]⟩ (.Call (.Name "_law_rank" p5) [.Subscript (.Name "row" p6) (.Constant (.int 0) 0 p7) p8,.Subscript (.Name "row" p9) (.Constant (.int 1) 0 Fe) I7] [] I8) z8 q1,q2⟩] q3) env)
   (λv s'=>∃l':List (Nat×T),l'.Perm W/\l'.Pairwise (λx y=>¬bN y<bN x)/\VI s'.heap (full env ρ L N) v (.lst (l'.map tv))/\bS Γ (full env ρ L N) s'/\(∀b o,b≠P->N b=none->s.heap.get? b=some o->s'.heap.get? b=some o)/\∃Am:Array al,s'.heap.get? P=some (pR Am)) ju s:=by
 revert hK hA SC F R hw hs Qy hlen hd hP EL qU C M8 hg M7 hb p5 p6 p7 p8 p9 Fe I7 I8 q1 q2 q3 z8;exists Γ,n,N,L,s,env,ρ,sc,A,W,P,c,mg,p2,p3,p4;exists p5,p6,p7,p8,p9,Fe,I7,I8,q1,q2,q3,z8;refine wpAny_Call_Name_kw ?_;have h1:TE Γ (n+30) sc (.Name "sorted" p2) ρ N (λv N'=>v=.raw (.builtin "sorted")/\N'=N):=TE.ZW hs hK.iK ⟨rfl,rfl⟩;refine aS (h1 hA SC F R) (λv s1 q=>?_) λ_ _ e=>e;exists v,s1;obtain⟨x,N1,Px,R1,eE,rfl,rfl⟩:=q;exists N1;cases Px;haveI k1:∀b o,N1 b=none->s.heap.get? b=some o->s1.heap.get? b=some o:=λb o hn e=>(eE b o e hn).1;haveI nP:N1 P=none:=F.kL P hP;refine callWith_kw ?_;have h2:xm Γ (n+30) sc [.Name "whole" p3] ρ N1 (λvs N'=>vs=[.lst (W.map tv)]/\N'=N1):=by apply xm.cons rfl;apply TE.loc hw (.inl rfl) Qy;apply xm.nil;exact⟨rfl,rfl⟩
 refine aS (h2 hA (pos:=q3) SC F R1) (λvs s2 q=>?_) λ_ _ e=>e;exists vs,s2;obtain⟨x,N2,NV,R2,li,rfl,rfl⟩:=q;exists N2;have k2:∀b o,N2 b=none->s.heap.get? b=some o->s2.heap.get? b=some o:=λb o hn e=>(li b o (k1 b o hn e) hn).1;refine kws_cons ?_;have C2:CodeHd s2.heap c P:=C.keeps R2.base;refine MD (c:=c) (P:=P) (ps:=#[]) (mg:=mg) rB WP WQ (by erw[qH];decide) (by erw[qH];decide) (by erw[qH];decide) i8 F.glob qU C2 (k2 _ _ nP M8) True.intro rfl (hg _ R2.base) M7 (hb _ R2.base) λf h3 I0 V4 WT Z' FA=>?_;exists f,h3,I0;refine kws_nil ?_;rw[qH]at FA;haveI hLh:∀b,jQ env L b=true->N2 b=none:=λb hb=>by
  unfold jQ at hb;simp only[pJ,beq_iff_eq]at hb;rcases hb with(rfl |h) |h
  ·exact F.yY
  ·refine bz (Option.isSome_iff_exists.mp h) λx hx=>?_;exact F.yZ _ (fm hx)
  ·exact F.kL b h
 haveI R2i:bS Γ (hide (jQ env L) N2) s2:=R2.into F;haveI hPh:jQ env L P=true:=by unfold jQ;erw[hP];simp
 haveI R3:bS Γ (hide (jQ env L) N2) {s2 with heap:=h3,toks:=I0}:=by
  refine R2i.GS (wr:=[P]) (λb o hb e=>V4 b o (by simpa using hb) e) (λb hb=>?_) λb hb=>?_
  ·simp at hb;subst hb;exact iw hPh
  ·simp at hb;subst hb;refine bz WT λo e=>?_;clear WT;exact⟨_,e⟩
 haveI ZE:Inhabited (Nat×T):=⟨(0,T.a)⟩
 obtain⟨lv,rfl⟩:∃lv,vs=lv:=⟨_,rfl⟩
 cases NV with |cons NV r=>
 cases r;cases NV with | @lst lv lvs ln _ XT OE ZK=>
 exists lv,lvs,ln;haveI ZL:lv≠P:=λq=>by rw[q]at OE;have:=(ba.mp OE).2.1;rw[hP]at this;cases this
 haveI V2:h3.get? lv=some (listOf lvs.toArray ln):=V4 _ _ ZL XT;haveI uW:cl (full env ρ L N2) s2.heap (hide (jQ env L) N2) h3:=λb o e hn=>by refine⟨V4 b o (λq=>?_) e,fS.mp hn⟩;rw[q]at hn;have:=(ba.mp hn).2.1;rw[hP]at this;cases this
 refine EK (s:={s2 with heap:=h3,toks:=I0}) (L:=jQ env L) (N:=N2) (f:=tv) (fk:=λp=>fi p.1 p.2) (by have:=hA.2.2;unfold fW;exact aR 0x1d59eadea5e96145e8690567ab7a97a58517a7ad1551f42ac12 rfl this) (s0 hlen) hLh R3 ⟨_,V2,rfl,ln,rfl⟩ (ZK.ext uW) (λL' hL' s' v x hx R' pr hv=>?_) λD l' ul s' e g1 g2 R' g3 g4 g5 g6=>?_
 ·haveI Oa:=hd x hx;refine IF hK (n:=n) (FA s'.heap λb o lj e=>pr b o (ba.mp (R2.ce lj)).2.2 e) Oa.1 Oa.2 ?_ hL' R' hv;refine ez hA λa1 a2 a3=>?_;clear hA;refine⟨a1,?_,?_⟩
  ·show A.depth+_+1<1000;exact aR 0x1d5de9deb624604518820577a77ad89181147d0812 rfl a2
  ·show A.units+1+1+_+200<=9900;exact aR 0x1d59eadea5e96145e9eb4554620ab4604600567ab7a97a58517a7ad1551f42ac12 rfl a3
 ·refine bz WT λoP hoP=>?_;clear WT;exact⟨l',g1,g2,.lst g5 (fS.mpr g4) (g6.less λb=>fS.mpr),ME R2 F hP EL R' (λb o hb hn e=>g3 b o hn (V4 b o hb e)) ⟨_,g3 P _ nP hoP⟩,λb o hb hn e=>g3 b o hn (V4 b o hb (k2 b o hn e)),oP,g3 P _ nP hoP⟩
end
end
section
section
variable {Γ:Cx} (hK:cL Γ.K) {n:Nat} {N:aL} {L:ax->Bool} {s:aj} {env:Env} {ρ:cf} {sc:List (Str×bj)}
include hK
set_option tactic.hygienic true in
theorem EN{A:bW}(hA:Lv (n+30) A)(SC:fe env sc)(F:fu env L N)(R:bS Γ (full env ρ L N) s){st:c7}(ks:MN sc st)
  {W:List (Nat×T)} (Qy:ρ "whole"=some (.lst (W.map tv))) (hlen:W.length<64) (hd:∀p∈W,p.2.depth<=n/\p.2.size<=9000)
  {P c:ax} {mg:Str->Option al} (hP:L P=true) (EL:aQ env ρ P=none) (qU:env.code=.ref c) (C:CodeHd Γ.H0 c P) (M8:s.heap.get? P=some (pR #[])) (hg:∀h:cg,(∀b o,Γ.H0.get? b=some o->h.get? b=some o)->h.Ns dN mg) (M7:dN≠P) (hb:∀h:cg,(∀b o,Γ.H0.get? b=some o->h.get? b=some o)->h.BuiltinsAt mg P):
  am Γ.M A (exec st env)
   (λf s'=>f=.next/\∃l':List (Nat×T),l'.Perm W/\l'.Pairwise (λx y=>¬bN y<bN x)/\bS Γ (full env (ρ.set "whole" (.lst (l'.map tv))) L N) s'/\(∀b o,b≠P->own env ρ N b=none->s.heap.get? b=some o->s'.heap.get? b=some o)/\∃Am:Array al,s'.heap.get? P=some (pR Am)) ju s:=by
 obtain⟨z8,qH,rB,WP,WQ,i8,hw,hs⟩:=ks;rename_i p1 p2 p3 p4 p5 p6 p7 p8 p9 Fe I7 I8 q1 q2 q3 q4;revert hK hA SC F R hw hs Qy hlen hd hP EL qU C M8 hg M7 hb p4 p5 p6 p7 p8 p9 Fe I7 I8 q1 q2 q3 q4 z8;exists Γ,n,N,L,s,env,ρ,sc,A,W,P,c,mg,p1,p2,p3;exists p4,p5,p6,p7,p8,p9,Fe,I7,I8,q1,q2,q3,q4,z8;erw[se,rr rfl];refine af (c8 (af (ah ?_)));erw[if_neg bU];refine af (aS (EM hK hA SC F R hw hs Qy hlen hd hP EL qU C M8 hg M7 hb qH rB WP WQ (i8 env)) (λv s1 q=>?_) λ_ _ e=>e);refine WV q λl' g1 g2 hv R1 pr aT=>?_;clear q;refine bz aT λAm CK=>?_;clear aT;have Pt:lL [.Name "whole" p1] (.Call (.Name "sorted" p2) [.Name "whole" p3] [⟨some "key",.Lambda ⟨[],[⟨"row",none,p4⟩],none,[],[],none,[]⟩ (.Call (.Name "_law_rank" p5) [.Subscript (.Name "row" p6) (.Constant (.int 0) 0 p7) p8,.Subscript (.Name "row" p9) (.Constant (.int 1) 0 Fe) I7] [] I8) z8 q1,q2⟩] q3) env=pure none:=rfl;erw[Pt,nA rfl];refine af (ah ?_);unfold assignStores;refine af (m:=assignAll v [kq (.Name "whole" p1) env]) (aS (lh (Q:=λ_ s2=>bS Γ (full env (ρ.set "whole" (.lst (l'.map tv))) L N) s2/\eF env sc s1.heap s2.heap) SC F R1 (.inl hw) hv λs2 R2 kb=>⟨R2,kb⟩) (λ_ s2 p=>ah ?_) λ_ _ e=>e);refine a9 p λR2 kb=>?_;clear p;have li:=kb.own (ρ:=ρ) (ρ':=ρ) (N:=N) F;refine⟨rfl,l',g1,g2,R2,λb o hb hn e=>(li b o (pr b o hb (cY.mp hn).2 e) hn).1,Am,(li _ _ CK (cY.mpr ⟨EL,F.kL P hP⟩)).1⟩
end
end
section
theorem Aa:∀a:List c7,E2 (a++b) env=(E2 a env >>= λf=>match f with |.next=>E2 b env |f=>pure f):=by
 intro a;induction a with
 |nil=>erw[arm_execs_nil,pure_bind];rfl
 |cons st a ih=>
  erw[kg,arm_execs_cons,arm_execs_cons,bind_assoc]
  congr 1;funext f
  cases f with
  |next=>exact ih
  |_=>erw[pure_bind]
theorem IG{E:al->aj->Prop}{Q:Flow->aj->Prop}
  (h:am M A (E2 a env) (λf s1=>match f with |.next=>am M A (E2 b env) Q E s1 |f=>Q f s1) E s):am M A (E2 (a++b) env) Q E s:=by
 erw[Aa];refine af (aS h (λf s1 q=>?_) λ_ _ e=>e);cases f with
 |next=>exact q
 |_=>exact ah q
end
section
theorem zl.bool(f:zl d N v N'):∀{b:Bool},v=.bool b->d=.bool b:=by
 induction f with
 |refl=>exact id
 |lst e=>intro b h;cases h
 |drop=>exact id
 |trans _ _ h1 h2=>exactλh=>h1 (h2 h)
theorem T.EO:∀t:T,t.depth<=t.size:=by
 intro t;induction t with
 |a=>exact aG _
 |b=>exact aG _
 |f x ih=>have:=ih;erw[kl];simp only[vn,vp];exact aR 0x1d5918024600560812 rfl this
 |g x y T8 T9=>have:=T8;have:=T9;erw[jo];simp only[vn,vp];exact aR 0x1d7564604440918130c15840d60814 rfl (by assumption) this
section
variable {Γ:Cx} (hK:cL Γ.K) {n:Nat}
include hK
theorem MF(ZB:n<=100):∃stmts names,FnAt Γ.K 486 ["script"] stmts names/\
  ∀{A:bW}(hA:Lv (n+99) A){env:Env}{L:ax->Bool}{s:aj}{N:aL}{xs:List Int}(SC:fe env names)(F:fu env L N)(R:bS Γ (full env (mR ["script"] [.lst (xs.map V.int)]) L N) s)(IY:xs.length<=1000)
   {P c:ax} {mg:Str->Option al} (hP:L P=true) (EL:∀ρ,aQ env ρ P=none) (qU:env.code=.ref c) (C:CodeHd Γ.H0 c P) (M8:s.heap.get? P=some (pR #[])) (hg:∀h:cg,(∀b o,Γ.H0.get? b=some o->h.get? b=some o)->h.Ns dN mg) (M7:dN≠P) (hb:∀h:cg,(∀b o,Γ.H0.get? b=some o->h.get? b=some o)->h.BuiltinsAt mg P),
   am Γ.M A (E2 stmts env) (λf s'=>f=.ret (.bool true)/\(∃ρ' N',bS Γ (full env ρ' L N') s')/\∃Am:Array al,s'.heap.get? P=some (pR Am)) ju s:=by
 revert hK;exists Γ,n;refine yX (IC hK ZB) λpre st post names FA ZM V5 ks=>?_;exists pre,st,post,names;refine⟨_,names,FA,?_⟩;intro A hA env L s N xs SC F R IY P c mg hP EL qU C M8 hg M7 hb;revert hA SC F R IY;exists A,env,L,s,N,xs,P,c,mg;refine IG ?_;refine aS ((ZM xs N (λfl ρ N'=>fl=.next/\∃W ha A S R3 cst kc z7 cd lr told many asked,Pc ρ N' W ha A S R3 cst kc z7 cd lr told many asked) IY λρ N' W ha A S R3 cst kc z7 cd lr told many asked M=>⟨rfl,W,ha,A,S,R3,cst,kc,z7,cd,lr,told,many,asked,M⟩).ok hA SC F R) (λf s1 q=>?_) λ_ _ e=>e;exists f,s1;obtain⟨fl,cn,N1,hf,R1,F1,eE,rfl,W,ha,A',S,R3,cst,kc,z7,cd,lr,told,many,asked,M⟩:=q;revert R1 F1 eE hf;exists cn,N1,W,ha,A',S,R3,cst,kc,z7,cd,lr,told,many,asked;cases hf;haveI K:=wS M.F M.C;have hPs:s1.heap.get? P=some (pR #[]):=by refine(eE _ _ M8 (cY.mpr ⟨EL _,F.kL P hP⟩)).1
 refine wpAny_execs_cons ?_;refine aS (EN hK (n:=n+69) hA SC F1 R1 ks (M.s _ _ rfl) (by have:=M.len;exact aR 0x1d5de7e30567ae8811 rfl this) (λp hp=>?_) hP (EL _) qU C hPs hg M7 hb) (λf s2 q=>?_) λ_ _ e=>e
 ·exists p;refine a9 ((M.mem p).mp hp) λaT c5=>?_;refine a9 aT λa b=>?_;clear aT;haveI h1:=T.m7 K p.2;haveI h2:=T.EO p.2;haveI b:p.1=p.2.cost (oM S cst).cst:=b;exact aR 0x1d75d75b59e9de85e8a10d645e9231445831160836020569015 rfl c5 (by assumption) h1 h2
 ·exists f,s2;refine a9 q λaT il=>?_;clear q;obtain rfl:=aT;refine Jo il λl' g1 g2 R2 pr Bb=>?_;exists l';clear il;refine bz Bb λAm CK=>?_;exists Am;clear Bb;have M':Pc (cf.set cn "whole" (.lst (l'.map tv))) N1 l' ha A' S R3 cst kc z7 cd lr told many asked:=⟨M.H,M.F,M.C,M.h3,M.gcd,M.Gk,M.n6,M.top,M.dep,M.w9,λp=>g1.mem_iff.trans (M.mem p),g1.nodup_iff.mpr M.nd,by erw[g1.length_eq];exact M.len,Mv M.s⟩
  refine aS (my.weak M'.s (V5 _ N1 (λv _=>v=.bool true) l' ha A' S R3 cst kc z7 cd lr told many asked M' g2 λ_=>rfl).ok hA SC F1 R2) (λf s3 q=>?_) λ_ _ e=>e;exists f,s3;obtain⟨fl,o8,N3,hf,R4,F3,uW,hk⟩:=q;exists fl,o8,N3;cases hf with
  |ret hv=>refine eQ hk λv' N' fz e=>?_;exists v',N';clear hk;haveI hd:=fz.bool e;subst hd;cases hv;exact⟨rfl,⟨_,_,R4⟩,Am,(uW _ _ CK (cY.mpr ⟨EL _,F1.kL P hP⟩)).1⟩
  |next=>refine eQ hk λv' N' fz e=>?_;clear hk;cases fz.bool e
  |brk=>exact hk.elim
  |cont=>exact hk.elim
end
end
section
theorem FnAt.uniq{K:tc}{f:ax}{ps Am:List Str}{b b':List c7}{n n':List (Str×bj)}(x:FnAt K f ps b n)(y:FnAt K f Am b' n'):b=b'/\n=n':=by refine Pj x.at_ λo fd h1 h2 _ _ _ h3 _ _ _ h4 _=>?_;refine Pj y.at_ λo' fd' g1 g2 _ _ _ g3 _ _ _ g4 _=>?_;obtain rfl:=aA (h1.symm.trans g1);obtain rfl:=Data.func.inj (h2.symm.trans g2);exact⟨FuncBody.stmts.inj (h3.symm.trans g3),h4.symm.trans g4⟩
theorem MG{w:eB}{h h':cg}{N:aL}{vs:List al}{xs:List Int}(x:WellAll w.params h vs (ofPys (xs.map GB))):ch h' N vs (xs.map V.int):=by
 induction xs generalizing vs with
 |nil=>haveI x:WellAll w.params h vs []:=x;cases x;exact .nil
 |cons i xs ih=>haveI x:WellAll w.params h vs (.int i::ofPys (xs.map GB)):=x;refine fc (wellAll_cons_inv x) λv us e a r=>?_;refine bz (dF ((encInt default w).is a).1) λt e2=>?_;erw[e,e2];exact .cons (.int _ _) (ih r)
set_option tactic.hygienic true in
theorem join{K:tc}(LF:cL K){prog:cx}{w:eB}{loose MH:List Str}{Sf:ExcName->Option al}{view P':cx}{mg mb:Str->Option al}{s1:aj}{h1:cg}{tk:Nat}{nm:Str}{sc:mJ}{body:List c7}{fa sa:ax}{xs:List Int}{m:Str->Option al}{o5 o4 o3 o2 o1:Obj}{c5 c4 c3 c2 c1:Option al}
  (hlen:¬((63:Nat):Int)<(xs.length:Int)) (T0:Top view loose Sf mg mb s1.heap) (imp:importsNone view=true)
  (hT:TabsAt [(485,483)] s1.heap) (X:(K).In (kE s1.heap [(485,483)])) (T:Top P' MH Sf mg mb (kE s1.heap [(485,483)]))
  (F:Fr (kE s1.heap [(485,483)]) s1.heap.objs.size h1 m) (hm:m "script"=some (.ref sa)) (C:CodeHd (kE s1.heap [(485,483)]) (485,483).fst (485,483).snd)
  (N:News (kE s1.heap [(485,483)]) s1.heap.objs.size h1 [(s1.heap.objs.size+1+1+1+1+1,o5),(s1.heap.objs.size+1+1+1+1,o4),(s1.heap.objs.size+1+1+1,o3),(s1.heap.objs.size+1+1,o2),(s1.heap.objs.size+1,o1),(483,pR #[])])
  (d5:o5.data=.cell c5) (d4:o4.data=.cell c4) (d3:o3.data=.cell c3) (d2:o2.data=.cell c2) (d1:o1.data=.cell c1)
  (W:Well w.params s1.heap (.ref sa) (ofPy (.list (xs.map GB)))) (hg:s1.gens=#[]) (l0:483<s1.heap.objs.size) (hk:sc.kind=.function)
  (Sg:gm (s1.heap.objs.size+1) sc.names []=([("rest",s1.heap.objs.size+1+1+1+1+1),("lists",s1.heap.objs.size+1+1+1+1),("goal",s1.heap.objs.size+1+1+1),("costs",s1.heap.objs.size+1+1),("feed",s1.heap.objs.size+1)]:List (Str×ax)))
  (FA:FnAt (K) 486 ["script"] body sc.names):
  am (bB prog w) (callerA.deeper (envOfC nm sc s1.heap.objs.size fa (.ref 485))) (E2 body (envOfC nm sc s1.heap.objs.size fa (.ref 485)))
   (λf s'=>f=.ret (.bool true)/\(∀b o,(kE s1.heap [(485,483)]).get? b=some o->s'.heap.get? b=some o)/\s'.gens=#[]/\s'.os=s1.os/\∃Am,s'.heap.get? 483=some (pR Am)) ju
   {heap:=h1,gens:=s1.gens,drawn:=s1.drawn,toks:=tk,os:=s1.os}:=by
 revert LF fa sa xs m o5 o4 o3 o2 o1 c5 c4 c3 c2 c1;exists K,prog,w,loose,MH,Sf,view,P',mg,mb,s1,h1,tk,nm,sc,body;exists fa,sa,xs,m,o5,o4,o3,o2,o1,c5,c4,c3,c2,c1;refine aI (T0.seer imp).mods λmm Yx _=>?_;refine uR (ghost_ns hT Yx) λom _ _ hom _=>?_;let Γ:Cx:={prog:=prog,w:=w,K:=K,H0:=kE s1.heap [(485,483)],mg:=mg,mb:=mb,ZO:=s1.os,X:=X,g:=T.g,b:=T.b,nolimit:=T.nolimit,builtins:=T.builtins,mods:=⟨om,hom⟩}
 refine eQ (MF (Γ:=Γ) LF (n:=100) (ap _)) λstmts names FA' B=>?_;refine a9 (FA.uniq FA') λaT il=>?_;obtain rfl:=aT;obtain rfl:=il;generalize EQ:envOfC nm sc s1.heap.objs.size fa (.ref 485)=env;haveI e1:env.locals=s1.heap.objs.size:=by rw[<-EQ];rfl
 haveI e2:env.cells=gm (s1.heap.objs.size+1) sc.names []:=by rw[<-EQ];rfl
 haveI e3:∀x,env.kindOf x=sc.names.lookup x:=λx=>by rw[<-EQ];rfl
 haveI e7:env.code=.ref 485:=by rw[<-EQ];rfl
 refine ez (l3 (n:=s1.heap.objs.size+1) FA.nodup) λTX TY TW=>?_;have OD:=e2.trans Sg;haveI hH0:∀{b:ax}{o:Obj},(kE s1.heap [(485,483)]).get? b=some o->h1.get? b=some o:=λe=>F.keep _ _ e;haveI S:fe env sc.names:=Bh FA.nodup FA.kinds e2 e3;have s9:∀p∈env.cells,(∃cv,h1.IsCell p.2 cv)/\(kE s1.heap [(485,483)]).get? p.2=none/\s1.heap.objs.size<p.2:=by
  erw[OD];intro p hp;rcases aq.mp hp with rfl |hp
  ·have:=N _ (.head _);exact⟨⟨_,_,this.1,d5⟩,this.2.2,by dsimp only;exact aR 0x174604604604604600411 rfl⟩
  rcases aq.mp hp with rfl |hp
  ·have:=N _ (.tail _ (.head _));exact⟨⟨_,_,this.1,d4⟩,this.2.2,by dsimp only;exact aR 0x174604604604600411 rfl⟩
  rcases aq.mp hp with rfl |hp
  ·have:=N _ (.tail _ (.tail _ (.head _)));exact⟨⟨_,_,this.1,d3⟩,this.2.2,by dsimp only;exact aR 0x174604604600411 rfl⟩
  rcases aq.mp hp with rfl |hp
  ·have:=N _ (.tail _ (.tail _ (.tail _ (.head _))));exact⟨⟨_,_,this.1,d2⟩,this.2.2,by dsimp only;exact aR 25589488550929 rfl⟩
  rcases aq.mp hp with rfl |hp
  ·have:=N _ (.tail _ (.tail _ (.tail _ (.tail _ (.head _)))));exact⟨⟨_,_,this.1,d1⟩,this.2.2,by dsimp only;exact aR 6247416849 rfl⟩
  ·cases hp
 have hP:=N (483,pR #[]) (.tail _ (.tail _ (.tail _ (.tail _ (.tail _ (.head _))))));haveI FR:fu env (λa=>a==483) (λ_=>none):=by
  refine⟨by rw[<-EQ];exact hk,by rw[<-EQ];rfl,by rw[<-EQ];rfl,?_,by erw[e2];exact TX,λp hp e=>?_,rfl,λ_ _=>rfl,λ_ _=>rfl⟩
  ·erw[OD];simp;exact aR 0x1b6da60146046005b6980518118118016980518118016db6980518118118118016980518118118016980518118011 rfl
  ·have:=(s9 p hp).2.2;rw[e,e1]at this;exact gj _ this
 cases W with
 |list ha hw=>
  rename_i vs;haveI hsa:h1.get? sa=some (listOf vs.toArray 0):=hH0 (ghost_get hT ha (λq=>by cases q));haveI hsz:∀{b:ax}{o:Obj},(kE s1.heap [(485,483)]).get? b=some o->b<s1.heap.objs.size:=λe=>aY (bO e) F.above;haveI Tz:=ghost_get hT ha (λq=>by cases q);haveI fn0:∀{b:ax}{o:Obj}{ρ:cf},(kE s1.heap [(485,483)]).get? b=some o->aQ env ρ b=none:=λ{b o ρ}e=>by
   refine eV.mpr ⟨?_,gN λp hp q=>?_⟩
   ·erw[e1];exact beq_eq_false_iff_ne.mpr (bd (hsz e))
   ·have:=(s9 p hp).2.1;rw[q,e]at this;cases this
  have f0:∀{b:ax}{o:Obj}{ρ:cf},(kE s1.heap [(485,483)]).get? b=some o->full env ρ (λa=>a==483) (λ_=>none) b=none:=λ{b o ρ}e=>by refine ba.mpr ⟨fn0 e,?_,rfl⟩;refine beq_eq_false_iff_ne.mpr λq=>?_;subst q;rw[hP.2.2]at e;cases e
  have EL:∀ρ,aQ env ρ 483=none:=λρ=>by
   refine eV.mpr ⟨?_,gN λp hp q=>?_⟩
   ·erw[e1];exact beq_eq_false_iff_ne.mpr (bd l0)
   ·have:=(s9 p hp).2.2;rw[q]at this;exact gj _ (bK this l0)
  haveI R:bS Γ (full env (mR ["script"] [.lst (xs.map V.int)]) (λa=>a==483) (λ_=>none)) {heap:=h1,gens:=s1.gens,drawn:=s1.drawn,toks:=tk,os:=s1.os}:=by
   refine⟨λa mo e=>?_,λb o e=>F.keep b o e,λa mo e=>?_,hg,rfl⟩
   ·cases q:aQ env (mR ["script"] [.lst (xs.map V.int)]) a with
    |none=>
     unfold full at e;rw[q]at e;unfold Mine.hide at e;by_cases hq:a=483
     ·subst hq;cases e;exact⟨_,hP.1⟩
     ·haveI PF:(a==483)=false:=beq_eq_false_iff_ne.mpr hq;dsimp only at e;rw[if_neg (by erw[PF];exact bU)]at e;cases e
    |some mf=>
     rw[hH q]at e;cases e;unfold aQ at q;split at q
     ·rename_i r6;cases q;refine⟨_,by erw[r6,e1];exact F.ns,λx d hx=>?_⟩;dsimp only at hx;split at hx
      ·unfold mR at hx;rw[ma,List.zip_nil_left,gv]at hx;split at hx
       ·rename_i heq;have:x="script":=beq_iff_eq.mp heq;subst this;cases hx;exact⟨_,hm,.lst hsa (f0 Tz) (MG hw)⟩
       ·cases hx
      ·cases hx
     ·split at q
      ·rename_i x XC;cases q;have AP:=fm XC;refine bz (s9 _ AP).1 λcv V9=>?_;refine⟨cv,V9,λd hx=>?_⟩;unfold mR at hx;rw[ma,List.zip_nil_left,gv]at hx;split at hx
       ·rename_i heq;haveI IY:x="script":=beq_iff_eq.mp heq;rw[IY]at AP;rw[e2]at AP;have h2:=jI FA.nodup (TY _ AP);rcases FA.pk "script" (.head _) with h |h
        ·rw[h]at h2;cases h2
        ·rw[<-e2,OD]at AP;have:∀p∈([("rest",s1.heap.objs.size+1+1+1+1+1),("lists",s1.heap.objs.size+1+1+1+1),("goal",s1.heap.objs.size+1+1+1),("costs",s1.heap.objs.size+1+1),("feed",s1.heap.objs.size+1)]:List (Str×ax)),p.1≠("script":Str):=by simp only[cO,bx,false_imp_iff,implies_true,and_true,ne_eq,nM];decide
         exact absurd rfl (this _ AP)
       ·cases hx
      ·cases q
   ·cases q:(kE s1.heap [(485,483)]).get? a with
    |none=>rfl
    |some o=>rw[f0 q]at e;cases e
  haveI dM:(3:ax)≠483:=by decide
  refine aS (B (A:=callerA.deeper env) ⟨rfl,by show callerA.depth+1+199+1<1000;decide,by show callerA.units+3+12*199+200<=9900;decide⟩ S FR R (by lia) (P:=483) (c:=485) (mg:=mg) rfl EL e7 C hP.1 (λh k=>T.g.keeps k) (by decide) (λh k=>?_)) (λf s' q=>?_) λ_ _ e=>e
  ·refine S4 T.bmain λbm ob b1 b2 b3 b4 b5 b6=>?_;refine⟨bm,ob,b1,b2,λq=>?_,λq=>?_,k _ _ b3,b4,b5,b6⟩
   ·refine yW T.g λog es ep g1 g2 _=>?_;rw[q,g1]at b3;cases b3;rw[b6]at g2;cases g2
   ·subst q;rw[hP.2.2]at b3;cases b3
  ·refine ez q λhf aT il=>?_;clear q;refine qv aT λρ' N' R'=>?_;clear aT;refine bz il λAm CK=>?_;clear il;exact⟨hf,λb o e=>R'.base b o e,R'.gens,R'.os,Am,CK⟩
end
section
open PySem.Spec
set_option Elab.async true
set_option tactic.hygienic true
theorem Wy{P:List al->Prop}(h:∀a,P [a])(vs:List al)(e:vs.length=1):P vs:=(oO.mp e).elim λa e=>e▸h a
theorem YN{P:List al->Prop}(h:∀a b,P [a,b])(vs:List al)(e:vs.length=2):P vs:=by
 cases vs with
 |nil=>cases e
 |cons a vs=>exact Wy (P:=λl=>P (a::l)) (h a) vs (cU e)
theorem la3{P:List al->Prop}(h:∀a b c,P [a,b,c])(vs:List al)(e:vs.length=3):P vs:=by
 cases vs with
 |nil=>cases e
 |cons a vs=>exact YN (P:=λl=>P (a::l)) (h a) vs (cU e)
theorem la4{P:List al->Prop}(h:∀a b c d,P [a,b,c,d])(vs:List al)(e:vs.length=4):P vs:=by
 cases vs with
 |nil=>cases e
 |cons a vs=>exact la3 (P:=λl=>P (a::l)) (h a) vs (cU e)
namespace top
theorem tw17306192480908493798:0=0:=rfl
theorem tw16541100652227675460:0=0:=rfl
theorem tw7378373657476664316:0=0:=rfl
theorem tw11466823199061654653:0=0:=rfl
theorem tw11769345161549703396:0=0:=rfl
theorem tw9596592803005072652:0=0:=rfl
theorem tw18064794426631996164:0=0:=rfl
theorem tw15623792648095043764:0=0:=rfl
theorem tw4985394167854707873:0=0:=rfl
theorem tw4199510409282951887:0=0:=rfl
theorem tw1839743145517114636:0=0:=rfl
theorem tw5434309568573575005:0=0:=rfl
theorem tw14871320189489406401:0=0:=rfl
theorem tw7853026024644422306:0=0:=rfl
theorem tw2685012915969955173:0=0:=rfl
theorem tw6189019428745762675:0=0:=rfl
theorem tw1394568958698188020:0=0:=rfl
theorem tw12904532413392791838:0=0:=rfl
theorem tw4951766788466123468:0=0:=rfl
theorem tw8147595930496242885:0=0:=rfl
theorem tw609860122456452193:0=0:=rfl
theorem tw7389250965806765224:0=0:=rfl
theorem tw7033079012710635876:0=0:=rfl
theorem tw9685713192446186341:0=0:=rfl
theorem tw1483126911874232274:0=0:=rfl
theorem tw13975414291046593716:0=0:=rfl
theorem tw12535971307161669396:0=0:=rfl
theorem tw2568384757666718300:0=0:=rfl
theorem tw2596539476470345881:0=0:=rfl
theorem tw1734106126877513090:0=0:=rfl
theorem tw8679839319945467846:0=0:=rfl
theorem tw15286249088069653756:0=0:=rfl
theorem tw7913636548009798097:0=0:=rfl
theorem tw3002795768020413707:0=0:=rfl
theorem tw8523463495250067690:0=0:=rfl
theorem tw11133666699803404755:0=0:=rfl
theorem tw12209182163369298222:0=0:=rfl
theorem tw8321918168302905379:0=0:=rfl
theorem tw10694878333477680388:0=0:=rfl
theorem tw13177472732611162249:0=0:=rfl
theorem tw4392038535549328194:0=0:=rfl
theorem tw8139039716903228087:0=0:=rfl
theorem tw17474498911051797155:0=0:=rfl
theorem tw10783980745131425670:0=0:=rfl
theorem tw3855276242980373810:0=0:=rfl
theorem tw8107780213005350392:0=0:=rfl
theorem tw6430265229019958763:0=0:=rfl
theorem tw3120133295221510679:0=0:=rfl
theorem tw3584897518013459382:0=0:=rfl
theorem tw15095372191486117680:0=0:=rfl
theorem tw17046948494117081484:0=0:=rfl
theorem tw4940147422707163885:0=0:=rfl
theorem tw16174758807025615021:0=0:=rfl
theorem tw12545222027267286695:0=0:=rfl
theorem tw1732150942055357024:0=0:=rfl
theorem tw8689318265317240412:0=0:=rfl
theorem tw11546936639936008217:0=0:=rfl
theorem tw2878843996050045342:0=0:=rfl
theorem tw10773188271377071773:0=0:=rfl
theorem tw17177869089781658578:0=0:=rfl
theorem tw2835187731363253809:0=0:=rfl
theorem tw16719718919923625709:0=0:=rfl
theorem tw9739860059890490050:0=0:=rfl
theorem tw72247145696351765:0=0:=rfl
theorem tw15740088241188596515:0=0:=rfl
theorem tw2686433634493928565:0=0:=rfl
theorem tw5245862010334584759:0=0:=rfl
theorem tw13120753694373217308:0=0:=rfl
theorem tw14537839394382259888:0=0:=rfl
theorem tw8640399195822439974:0=0:=rfl
theorem tw3712731000106771831:0=0:=rfl
theorem tw3995942328266245912:0=0:=rfl
theorem tw17469865338272021226:0=0:=rfl
theorem tw5868845118606482295:0=0:=rfl
theorem tw3337584539547039419:0=0:=rfl
theorem tw681777741448182936:0=0:=rfl
theorem tw84136930442132756:0=0:=rfl
theorem tw18008055252877512497:0=0:=rfl
theorem tw3820434133910038737:0=0:=rfl
theorem tw427420600052151026:0=0:=rfl
theorem tw1297684725254868899:0=0:=rfl
theorem tw6624316729101989866:0=0:=rfl
theorem tw15542334942015070624:0=0:=rfl
theorem tw13091174067606910046:0=0:=rfl
theorem tw10187264123177260123:0=0:=rfl
theorem tw12117888159696746259:0=0:=rfl
theorem tw12094960947251128927:0=0:=rfl
theorem tw146815374380898660:0=0:=rfl
theorem tw18237780215024852062:0=0:=rfl
theorem tw6883741973766446791:0=0:=rfl
theorem tw18186074749648716422:0=0:=rfl
theorem tw7671549972530922468:0=0:=rfl
theorem tw2847958352784047137:0=0:=rfl
theorem tw6520327441239513222:0=0:=rfl
theorem tw7325726471975496349:0=0:=rfl
theorem tw14632489290957082403:0=0:=rfl
theorem tw6859976401760118174:0=0:=rfl
theorem tw9961057766049560675:0=0:=rfl
theorem tw1486479319815781832:0=0:=rfl
theorem tw2029088862249889922:0=0:=rfl
theorem tw11423202765487971197:0=0:=rfl
theorem tw18164388396756303480:0=0:=rfl
theorem tw11199532085631943738:0=0:=rfl
theorem tw14371913498598963198:0=0:=rfl
theorem tw6906291655842520137:0=0:=rfl
theorem tw3874152929960365753:0=0:=rfl
theorem tw13889309363888878346:0=0:=rfl
theorem tw6761616313442571491:0=0:=rfl
theorem tw13799840507378627052:0=0:=rfl
theorem tw8140125068956082859:0=0:=rfl
theorem tw10008474027749305400:0=0:=rfl
theorem tw10567129059001840431:0=0:=rfl
theorem tw4331257952254489624:0=0:=rfl
theorem tw9272544492142499777:0=0:=rfl
theorem tw13994475860397038760:0=0:=rfl
theorem tw1068965626710143233:0=0:=rfl
theorem tw2665807947273092163:0=0:=rfl
theorem tw517144808224063464:0=0:=rfl
theorem tw1284575025550258836:0=0:=rfl
theorem tw9951221954081769418:0=0:=rfl
theorem tw16713831800681072344:0=0:=rfl
theorem tw3796891538752321733:0=0:=rfl
theorem tw8443935842833279946:0=0:=rfl
theorem tw1869187583165140508:0=0:=rfl
theorem tw16900427199656544559:0=0:=rfl
theorem tw2369445192022557226:0=0:=rfl
theorem tw8598144960395782539:0=0:=rfl
theorem tw501154541418245514:0=0:=rfl
theorem tw5648408011753718230:0=0:=rfl
theorem tw6124053682588569230:0=0:=rfl
theorem tw8892184565913893157:0=0:=rfl
theorem tw10195997230039290492:0=0:=rfl
theorem tw4186445540838780016:0=0:=rfl
theorem tw17486766287000646611:0=0:=rfl
theorem tw2405475915293451298:0=0:=rfl
theorem tw4699463449715708850:0=0:=rfl
theorem tw4526881389914513428:0=0:=rfl
theorem tw13272337422414781067:0=0:=rfl
theorem tw8212240652046128837:0=0:=rfl
theorem tw16759092144687519636:0=0:=rfl
theorem tw11279390925490393535:0=0:=rfl
theorem tw1676862907878916244:0=0:=rfl
theorem tw5667650583090716360:0=0:=rfl
theorem tw9614876229902214918:0=0:=rfl
theorem tw8729362747519067210:0=0:=rfl
theorem tw4551080515912023512:0=0:=rfl
theorem tw1601500998369573665:0=0:=rfl
theorem tw5983031951866500094:0=0:=rfl
theorem tw1321871150748368714:0=0:=rfl
theorem tw15976228082101565994:0=0:=rfl
theorem tw14789260269991461300:0=0:=rfl
theorem tw4655869559712951663:0=0:=rfl
theorem tw12012865196380796599:0=0:=rfl
theorem tw13012589842206080548:0=0:=rfl
theorem tw1123975283337734383:0=0:=rfl
theorem tw16104615914030681952:0=0:=rfl
theorem tw2287823674025257028:0=0:=rfl
theorem tw5860347150701562758:0=0:=rfl
theorem tw4555866861457887817:0=0:=rfl
theorem tw13068111086705522682:0=0:=rfl
theorem tw2377541652452675900:0=0:=rfl
theorem tw7297446738713254254:0=0:=rfl
theorem tw6042063481754889096:0=0:=rfl
theorem tw5398424786039705171:0=0:=rfl
theorem tw9378254376102152143:0=0:=rfl
theorem tw14611434983143301774:0=0:=rfl
theorem tw12256363837256957063:0=0:=rfl
theorem tw11141966352661209427:0=0:=rfl
theorem tw10657950659306570408:0=0:=rfl
theorem tw908825868028484722:0=0:=rfl
theorem tw9953747333497923681:0=0:=rfl
theorem tw7204493036743257322:0=0:=rfl
theorem tw987869383939708018:0=0:=rfl
theorem tw17492772389151264855:0=0:=rfl
theorem tw2220570432770164149:0=0:=rfl
theorem tw18085771088847121727:0=0:=rfl
theorem tw17620759639134147866:0=0:=rfl
theorem tw4773702212245658779:0=0:=rfl
theorem tw11613256710310857696:0=0:=rfl
theorem tw1112988674713690477:0=0:=rfl
theorem tw7600245330811189008:0=0:=rfl
theorem tw17176029603704830031:0=0:=rfl
theorem tw5225153198818245361:0=0:=rfl
theorem tw16550210197400561554:0=0:=rfl
theorem tw13896958669275611876:0=0:=rfl
theorem tw6572447435987645144:0=0:=rfl
theorem tw15874363893724204672:0=0:=rfl
theorem tw3254097082911018636:0=0:=rfl
theorem tw10987319290404115282:0=0:=rfl
theorem tw5155950481276406077:0=0:=rfl
theorem tw2057334267981633021:0=0:=rfl
theorem tw16885616592811714743:0=0:=rfl
theorem tw2007660962349395123:0=0:=rfl
theorem tw12718909917080609646:0=0:=rfl
theorem tw2126296398998916975:0=0:=rfl
theorem tw16597617366809209970:0=0:=rfl
theorem tw7681529838311687354:0=0:=rfl
theorem tw13303987763403120937:0=0:=rfl
theorem tw8043003576528973991:0=0:=rfl
theorem tw2249405535684624136:0=0:=rfl
theorem tw9768079942903668216:0=0:=rfl
theorem tw4840481374290595910:0=0:=rfl
theorem tw16821654228018055803:0=0:=rfl
theorem tw13968125046926948103:0=0:=rfl
theorem tw10548783162686979305:0=0:=rfl
theorem tw11203750815551599093:0=0:=rfl
theorem tw1585457916280141200:0=0:=rfl
theorem tw8369368087495890639:0=0:=rfl
theorem tw16352630495959832749:0=0:=rfl
theorem tw3739144386018749749:0=0:=rfl
theorem tw7847650389618582240:0=0:=rfl
theorem tw3767615275625035234:0=0:=rfl
theorem tw7204998973626084599:0=0:=rfl
theorem tw13001836021917841797:0=0:=rfl
theorem tw427269002284569659:0=0:=rfl
theorem tw13290321428070320777:0=0:=rfl
theorem tw297971269722091814:0=0:=rfl
theorem tw877433047237710547:0=0:=rfl
theorem tw4076138812419527698:0=0:=rfl
theorem tw1988063486488863061:0=0:=rfl
theorem tw17346259052997144950:0=0:=rfl
theorem tw18367679650794681301:0=0:=rfl
theorem tw7855079511596107753:0=0:=rfl
theorem tw12958664272152378060:0=0:=rfl
theorem tw13090165191389475591:0=0:=rfl
theorem tw4656485037274611717:0=0:=rfl
theorem tw5889316905344633881:0=0:=rfl
theorem tw6664487174759623829:0=0:=rfl
theorem tw352232786441526191:0=0:=rfl
theorem tw12425085872883035938:0=0:=rfl
theorem tw15985961358823992270:0=0:=rfl
theorem tw2464713573024523455:0=0:=rfl
theorem tw17565814175750979855:0=0:=rfl
theorem tw10864713392326063847:0=0:=rfl
theorem tw7743179893348639699:0=0:=rfl
theorem tw795583310449317561:0=0:=rfl
theorem tw9229161468869434483:0=0:=rfl
theorem tw17542608870123051758:0=0:=rfl
theorem tw13987285891283452908:0=0:=rfl
theorem tw5839659824258004927:0=0:=rfl
theorem tw15299407806266782574:0=0:=rfl
theorem tw10341860258655708415:0=0:=rfl
theorem tw2581206410525282061:0=0:=rfl
theorem tw661290744650703789:0=0:=rfl
theorem tw14450715343900746980:0=0:=rfl
theorem tw8281120267493503204:0=0:=rfl
theorem tw8237333600419904120:0=0:=rfl
theorem tw864819663365544661:0=0:=rfl
theorem tw2782073688633401757:0=0:=rfl
theorem tw15646934709686841381:0=0:=rfl
theorem tw2145171640123136144:0=0:=rfl
theorem tw13261893007816960818:0=0:=rfl
theorem tw14671331368771545958:0=0:=rfl
theorem tw9149571693438533347:0=0:=rfl
theorem tw2601905985415302144:0=0:=rfl
theorem tw13359135706311490777:0=0:=rfl
theorem tw5303079699428457377:0=0:=rfl
theorem tw9800703332001039478:0=0:=rfl
theorem tw16439428074185983240:0=0:=rfl
theorem tw12415523145999629524:0=0:=rfl
theorem tw7990429038631628895:0=0:=rfl
theorem tw13369591340354186047:0=0:=rfl
theorem tw14823308797102314842:0=0:=rfl
theorem tw9197102845130685215:0=0:=rfl
theorem tw7444641836354208208:0=0:=rfl
theorem tw12622177474791663080:0=0:=rfl
theorem tw4859757453598101857:0=0:=rfl
theorem tw17103585973383926153:0=0:=rfl
theorem tw4498253355057717688:0=0:=rfl
theorem tw12105128591322288922:0=0:=rfl
theorem tw4916261283513009128:0=0:=rfl
theorem tw5597187220613765494:0=0:=rfl
theorem tw7381879191629600215:0=0:=rfl
theorem tw9059832203979395877:0=0:=rfl
theorem tw9059672392935016618:0=0:=rfl
theorem tw12643491718579748851:0=0:=rfl
theorem tw775762912060472103:0=0:=rfl
theorem tw14142502885225118848:0=0:=rfl
theorem tw11520865232209809239:0=0:=rfl
theorem tw12342655685612074800:0=0:=rfl
theorem tw2267912224990424062:0=0:=rfl
theorem tw8184561461823581802:0=0:=rfl
theorem tw13370750898655102155:0=0:=rfl
theorem tw4134505453457115739:0=0:=rfl
theorem tw13326734554550294991:0=0:=rfl
theorem tw7458633546980236471:0=0:=rfl
theorem tw9305691244287143441:0=0:=rfl
theorem tw1617357707322924660:0=0:=rfl
theorem tw3696473221133414273:0=0:=rfl
theorem tw9601329371697537090:0=0:=rfl
theorem tw10005945817407372193:0=0:=rfl
theorem tw17112888915822525495:0=0:=rfl
theorem tw15569959144833144457:0=0:=rfl
theorem tw14747140909534839006:0=0:=rfl
theorem tw5766051744304087583:0=0:=rfl
theorem tw3217022616335106338:0=0:=rfl
theorem tw11760055953109336660:0=0:=rfl
theorem tw2617719716777270872:0=0:=rfl
theorem tw8973803690348224638:0=0:=rfl
theorem tw13710211086531791108:0=0:=rfl
theorem tw10617020205504526918:0=0:=rfl
theorem tw11466170419677230873:0=0:=rfl
theorem tw14399976873020721970:0=0:=rfl
theorem tw9589608677651300831:0=0:=rfl
theorem tw12080426169559351053:0=0:=rfl
theorem tw9361663168868926718:0=0:=rfl
theorem tw14372152842798730730:0=0:=rfl
theorem tw8813761850579938390:0=0:=rfl
theorem tw11459358961799972967:0=0:=rfl
theorem tw2732273902793177162:0=0:=rfl
theorem tw6176384092110617959:0=0:=rfl
theorem tw17428532607074087071:0=0:=rfl
theorem tw18086089286151905521:0=0:=rfl
theorem tw5225916559131626549:0=0:=rfl
theorem tw10797620697341660853:0=0:=rfl
theorem tw8735323631387419056:0=0:=rfl
theorem tw16204670001084760307:0=0:=rfl
theorem tw1245559373397905713:0=0:=rfl
theorem tw1139600151236580504:0=0:=rfl
theorem tw14901070454687303710:0=0:=rfl
theorem tw8265311939077410998:0=0:=rfl
theorem tw8507776931139520737:0=0:=rfl
theorem tw8204474986945543665:0=0:=rfl
theorem tw10648311167861321448:0=0:=rfl
theorem tw16878204669230926818:0=0:=rfl
theorem tw9631074621892390191:0=0:=rfl
theorem tw14597223018079223185:0=0:=rfl
theorem tw15169761463676818070:0=0:=rfl
theorem tw16054190913257422852:0=0:=rfl
theorem tw11457754044182789617:0=0:=rfl
theorem tw14724332232928298890:0=0:=rfl
theorem tw10915162052029792233:0=0:=rfl
theorem tw705360758644809490:0=0:=rfl
theorem tw8327351992414209593:0=0:=rfl
theorem tw9919435345466941130:0=0:=rfl
theorem tw17219337458794519322:0=0:=rfl
theorem tw8148004212497801138:0=0:=rfl
theorem tw10079171474624433434:0=0:=rfl
theorem tw4828031223510198475:0=0:=rfl
theorem tw9590735534726013551:0=0:=rfl
theorem tw15245507539482535896:0=0:=rfl
theorem tw3479634599624807885:0=0:=rfl
theorem tw2544169868661182894:0=0:=rfl
theorem tw3969286963782609292:0=0:=rfl
theorem tw16273406610938067001:0=0:=rfl
theorem tw7386116660499605909:0=0:=rfl
theorem tw1638113669730673903:0=0:=rfl
theorem tw2758071753971750899:0=0:=rfl
theorem tw5915399644114372684:0=0:=rfl
theorem tw1124271682379634556:0=0:=rfl
theorem tw81815255157605957:0=0:=rfl
theorem tw4796303294375832693:0=0:=rfl
theorem tw12166907935582030026:0=0:=rfl
theorem tw12385144161495827662:0=0:=rfl
theorem tw14502225709538309166:0=0:=rfl
theorem tw17981982808018919739:0=0:=rfl
theorem tw3776753064480771068:0=0:=rfl
theorem tw9165953624949470791:0=0:=rfl
theorem tw8622502720953521162:0=0:=rfl
theorem tw8410488445778877200:0=0:=rfl
theorem tw4177254973167742082:0=0:=rfl
theorem tw15878805988109762761:0=0:=rfl
theorem tw9442318146202087700:0=0:=rfl
theorem tw8345894832289464959:0=0:=rfl
theorem tw6662652255960138227:0=0:=rfl
theorem tw14145802354927516647:0=0:=rfl
theorem tw9227057690007400460:0=0:=rfl
theorem tw13318506193475082254:0=0:=rfl
theorem tw13307591127769906961:0=0:=rfl
theorem tw2985252069258134486:0=0:=rfl
theorem tw17342085116792181814:0=0:=rfl
theorem tw16736118626332596326:0=0:=rfl
theorem tw17089494485692210459:0=0:=rfl
theorem tw15361541807878343388:0=0:=rfl
theorem tw12783364522390391256:0=0:=rfl
theorem tw668136137496459709:0=0:=rfl
theorem tw6265701101103706036:0=0:=rfl
theorem tw13223034962123697568:0=0:=rfl
theorem tw2822501910515967889:0=0:=rfl
theorem tw3871027444623705763:0=0:=rfl
theorem tw17030962893124633753:0=0:=rfl
theorem tw5523086135645875356:0=0:=rfl
theorem tw18034075008235765660:0=0:=rfl
theorem tw6505410396798821541:0=0:=rfl
theorem tw1971433849790844608:0=0:=rfl
theorem tw12764151676501842404:0=0:=rfl
theorem tw1088946173253831356:0=0:=rfl
theorem tw14608685727046917156:0=0:=rfl
theorem tw1212798325632107971:0=0:=rfl
theorem tw9233335307524088747:0=0:=rfl
theorem tw11858546649754279707:0=0:=rfl
theorem tw17781115878593249900:0=0:=rfl
theorem tw11994683656316670133:0=0:=rfl
theorem tw2506305409684761478:0=0:=rfl
theorem tw13160728816969591200:0=0:=rfl
theorem tw17953984050398360512:0=0:=rfl
theorem tw9227541089923242437:0=0:=rfl
theorem tw105208000716104510:0=0:=rfl
theorem tw2924597203103170677:0=0:=rfl
theorem tw11199710921928265848:0=0:=rfl
theorem tw15362295582089109014:0=0:=rfl
theorem tw16453443671601555132:0=0:=rfl
theorem tw11334203419191126389:0=0:=rfl
theorem tw453181688931711583:0=0:=rfl
theorem tw3976154599441133093:0=0:=rfl
theorem tw17022078359063049780:0=0:=rfl
theorem tw4597200072644226624:0=0:=rfl
theorem tw10574840078274726829:0=0:=rfl
theorem tw9366391650621772374:0=0:=rfl
theorem tw1754339480302792767:0=0:=rfl
theorem tw15349318334595610263:0=0:=rfl
theorem tw4784893810139332661:0=0:=rfl
theorem tw4671429814451907529:0=0:=rfl
theorem tw15918733279669447828:0=0:=rfl
theorem tw13706816188851595723:0=0:=rfl
theorem tw104434173382791472:0=0:=rfl
theorem tw708234853630380328:0=0:=rfl
theorem tw1516213087968936877:0=0:=rfl
theorem tw1195175773429642966:0=0:=rfl
theorem tw6196800358849779857:0=0:=rfl
theorem tw17470836177267949868:0=0:=rfl
theorem tw16004416686337608138:0=0:=rfl
theorem tw6487610083215253720:0=0:=rfl
theorem tw3669314199184481253:0=0:=rfl
theorem tw6286779285267259847:0=0:=rfl
theorem tw7429413206186439793:0=0:=rfl
theorem tw9759319705405543751:0=0:=rfl
theorem tw11116745826364501430:0=0:=rfl
theorem tw10562855833978642645:0=0:=rfl
theorem tw5088376156974544275:0=0:=rfl
theorem tw3140898538269762758:0=0:=rfl
theorem tw14796646475526232899:0=0:=rfl
theorem tw14459580976405569124:0=0:=rfl
theorem tw1843344800811705456:0=0:=rfl
theorem tw13044034144603486326:0=0:=rfl
theorem tw8810280945414196856:0=0:=rfl
theorem tw17795014544551873601:0=0:=rfl
theorem tw12819366960792805191:0=0:=rfl
theorem tw594810645892935528:0=0:=rfl
theorem tw18063644159110109576:0=0:=rfl
theorem tw1142415686869020238:0=0:=rfl
theorem tw3207569582813703071:0=0:=rfl
theorem tw15451780782824253742:0=0:=rfl
theorem tw6749217079512962374:0=0:=rfl
theorem tw14826035006057030972:0=0:=rfl
theorem tw11240886729373846589:0=0:=rfl
theorem tw17355269125676882429:0=0:=rfl
theorem tw6674990990233134667:0=0:=rfl
theorem tw9166809390415177425:0=0:=rfl
theorem tw1291508964198565346:0=0:=rfl
theorem tw9233715247699887402:0=0:=rfl
theorem tw3484022092364678248:0=0:=rfl
theorem tw6431110157172167083:0=0:=rfl
theorem tw7715697345341360870:0=0:=rfl
theorem tw14657780768301432306:0=0:=rfl
theorem tw2731995056826638727:0=0:=rfl
theorem tw6659320528611288953:0=0:=rfl
theorem tw6756868429301003459:0=0:=rfl
theorem tw3195968871104189447:0=0:=rfl
theorem tw1294077662247117797:0=0:=rfl
theorem tw2417791160451022400:0=0:=rfl
theorem tw10001883323181062329:0=0:=rfl
theorem tw11542710104232473196:0=0:=rfl
theorem tw6292954644110606532:0=0:=rfl
theorem tw12540527436937284434:0=0:=rfl
theorem tw17103177528636943170:0=0:=rfl
theorem tw1149218181149386328:0=0:=rfl
theorem tw14615657086365298920:0=0:=rfl
theorem tw10361075674979980167:0=0:=rfl
theorem tw8560541052185303311:0=0:=rfl
theorem tw5507162329139097715:0=0:=rfl
theorem tw788273225186049534:0=0:=rfl
theorem tw6746510453823603384:0=0:=rfl
theorem tw10194810499950245846:0=0:=rfl
theorem tw9152664641465651067:0=0:=rfl
theorem tw7250933059871147345:0=0:=rfl
theorem tw9743097575036673082:0=0:=rfl
theorem tw1655259298481077034:0=0:=rfl
theorem tw6908635100366463001:0=0:=rfl
theorem tw14762295962024373759:0=0:=rfl
theorem tw5938664839603501006:0=0:=rfl
theorem tw13928562000808390012:0=0:=rfl
theorem tw12787338502077490372:0=0:=rfl
theorem tw13889484949932952446:0=0:=rfl
theorem tw2770239361232196585:0=0:=rfl
theorem tw9195894827357321740:0=0:=rfl
theorem tw342308947776675178:0=0:=rfl
theorem tw8694864300669457046:0=0:=rfl
theorem tw6211089042160764376:0=0:=rfl
theorem tw10774637447528242797:0=0:=rfl
theorem tw1016984595167383106:0=0:=rfl
theorem tw2727672472851901052:0=0:=rfl
theorem tw2867133514656366558:0=0:=rfl
theorem tw15240379268576122478:0=0:=rfl
theorem tw2312856594315299383:0=0:=rfl
theorem tw16420938139371093754:0=0:=rfl
theorem tw13822267516522204269:0=0:=rfl
theorem tw995497684801637723:0=0:=rfl
theorem tw6187478851450931391:0=0:=rfl
theorem tw14349089067433371257:0=0:=rfl
theorem tw2907113945770861938:0=0:=rfl
theorem tw16800595933775061595:0=0:=rfl
theorem tw9851269098105209369:0=0:=rfl
theorem tw4835499133494076262:0=0:=rfl
theorem tw10017263926548143515:0=0:=rfl
theorem tw8311017846404947139:0=0:=rfl
theorem tw1108800333578037850:0=0:=rfl
theorem tw1492452104121835379:0=0:=rfl
theorem tw3378803678994701225:0=0:=rfl
theorem tw10801874191123338550:0=0:=rfl
theorem tw283044589724301:0=0:=rfl
theorem tw602653604445443664:0=0:=rfl
theorem tw956089473029861405:0=0:=rfl
theorem tw9178861053002065721:0=0:=rfl
theorem tw16795567611416646642:0=0:=rfl
theorem tw18245740138792012028:0=0:=rfl
theorem tw2741389259953327712:0=0:=rfl
theorem tw15092371282622821202:0=0:=rfl
theorem tw13264354339760550358:0=0:=rfl
theorem tw9962302188120564619:0=0:=rfl
theorem tw18177719399980262173:0=0:=rfl
theorem tw3261557481417251176:0=0:=rfl
theorem tw4547018644641229820:0=0:=rfl
theorem tw6930518751129746686:0=0:=rfl
theorem tw17555251805378815213:0=0:=rfl
theorem tw7160873610591055699:0=0:=rfl
theorem tw6127594578889010139:0=0:=rfl
theorem tw728428047077509346:0=0:=rfl
theorem tw14282377253939248939:0=0:=rfl
theorem tw12958502747184954254:0=0:=rfl
theorem tw4159251561096739476:0=0:=rfl
theorem tw14987219478266130788:0=0:=rfl
theorem tw11334350811105764591:0=0:=rfl
theorem tw13345470168829271861:0=0:=rfl
theorem tw10448899703829047738:0=0:=rfl
theorem tw15503665604740900718:0=0:=rfl
theorem tw16044733080236030384:0=0:=rfl
theorem tw814325599930780420:0=0:=rfl
theorem tw16325430554902658873:0=0:=rfl
theorem tw216529984938456764:0=0:=rfl
theorem tw16580785732701462914:0=0:=rfl
theorem tw4299629679881509495:0=0:=rfl
theorem tw7527032243904285869:0=0:=rfl
theorem tw8645369167282567922:0=0:=rfl
theorem tw12483720753089274532:0=0:=rfl
theorem tw370947364307004932:0=0:=rfl
theorem tw17886615442053742456:0=0:=rfl
theorem tw12392516345856041104:0=0:=rfl
theorem tw5244899138074338376:0=0:=rfl
theorem tw5581607755468803823:0=0:=rfl
theorem tw620129878449983639:0=0:=rfl
theorem tw3561193834555079511:0=0:=rfl
theorem tw9108098604805947806:0=0:=rfl
theorem tw4205137553216949640:0=0:=rfl
theorem tw9259421805112917234:0=0:=rfl
theorem tw11762496359356365647:0=0:=rfl
theorem tw10006222313960134694:0=0:=rfl
theorem tw6919701780365589675:0=0:=rfl
theorem tw10090393231696489298:0=0:=rfl
theorem tw9382581127745807760:0=0:=rfl
theorem tw16196420915677631385:0=0:=rfl
theorem tw8265191368974092141:0=0:=rfl
theorem tw5969682004907312646:0=0:=rfl
theorem tw11960245374511038805:0=0:=rfl
theorem tw12318557346453588183:0=0:=rfl
theorem tw6438537300738474071:0=0:=rfl
theorem tw6370870915552960936:0=0:=rfl
theorem tw6333448901615975916:0=0:=rfl
theorem tw17315540178315561739:0=0:=rfl
theorem tw11430207588045935325:0=0:=rfl
theorem tw9503340733035011235:0=0:=rfl
theorem tw4321519831107876412:0=0:=rfl
theorem tw16058212318047004132:0=0:=rfl
theorem tw4713442408853163898:0=0:=rfl
theorem tw1736530178072539846:0=0:=rfl
theorem tw8143265674769528471:0=0:=rfl
theorem tw15058813355848621054:0=0:=rfl
theorem tw4166218997396506358:0=0:=rfl
theorem tw7673058066778466091:0=0:=rfl
theorem tw8435561252592420358:0=0:=rfl
theorem tw11334415319851112604:0=0:=rfl
end top
set_option maxRecDepth 100000 in
set_option maxHeartbeats 16000000 in
theorem top:qD.Holds:=by
 (w_on;o_law;k_head;(case hw=>w_witness2);w_strict (k_go0;(
  refine aS (join ?hF (by assumption) (by assumption) (by decide+kernel) (by assumption) (by assumption) (by assumption) (by assumption) ?hm (by assumption) (by assumption) (by assumption) (by assumption) (by assumption) (by assumption) (by assumption) (by assumption) (by assumption) (by assumption) rfl rfl (cL.U4 ?hF)) ?hQ (λ_ _ e=>e.elim)
  case hF=>
   constructor
   all_goals first
    |exact Ws rfl rfl rfl rfl rfl rfl rfl rfl rfl rfl rfl rfl rfl rfl (Wy λ_=>rfl) rfl (by decide+kernel)
    |exact Ws rfl rfl rfl rfl rfl rfl rfl rfl rfl rfl rfl rfl rfl rfl (YN λ_ _=>rfl) rfl (by decide+kernel)
    |exact Ws rfl rfl rfl rfl rfl rfl rfl rfl rfl rfl rfl rfl rfl rfl (la3 λ_ _ _=>rfl) rfl (by decide+kernel)
    |exact Ws rfl rfl rfl rfl rfl rfl rfl rfl rfl rfl rfl rfl rfl rfl (la4 λ_ _ _ _=>rfl) rfl (by decide+kernel)
    |exact⟨rfl,rfl⟩
    |exact⟨rfl,rfl,rfl,rfl,rfl⟩
    |rfl
  case hm=>rfl
  case hQ=>
   intro f s' q;obtain⟨rfl,hk,hgn,Qm,ps,CK⟩:=q;refine⟨⟨.inl ⟨_,.bool true,[],rfl,λ_=>rfl,.bool true,?hp,λ_=>⟨.nil,λ_ h=>by cases h⟩⟩,hk,Qm,hgn⟩,⟨ps,CK⟩,trivial⟩
   first |wrow_close |with_unfolding_all rfl |decide+kernel)))
end
end Mine
theorem PySem.Challenge.cw_pq0058_01_holds : PySem.Challenge.rw_pq0058_01.Holds :=
  Mine.top
