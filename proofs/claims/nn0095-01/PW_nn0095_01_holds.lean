import PyProof.Rows.All
import Wide.All
import OpenK.AllK
import Wide.FinOn
import Open.Tops
import KE.KSortTup
import KE.KBits
import Lean
import PySem.Challenge.RW_nn0095_01
set_option Elab.async false
set_option maxRecDepth 100000
set_option maxHeartbeats 0
set_option linter.all false
set_option tactic.hygienic false
set_option bootstrap.genMatcherCode false
set_option genSizeOf false
set_option genSizeOfSpec false
set_option genInjectivity false
set_option compiler.extract_closed false
set_option backward.match.sparseCases false
open Option renaming none→uZ,casesOn→vN,map→wK,map_some→aj,none_or→bk,bind_some→nf
open Nat renaming le_trans→u5,le_of_eq→vH,le_refl→vJ,ne_of_lt→vR,lt_of_lt_of_le→vS,lt_of_le_of_lt→vY,succ_le_succ→wH,lt_succ_self→wL,le_add_right→wM,lt_of_succ_lt_succ→wQ,eq_of_beq_eq_true→wU,zero_le→w3,le_of_lt_succ→w6,le_succ→w9,add_le_add_right→xB,not_lt_zero→xN,beq→x9,le_of_lt→yD,lt_succ_of_lt→yL,le_succ_of_le→yM,le_add_left→yW,ne_of_gt→y6,lt_of_succ_lt→y8,add_assoc→zC,lt_trans→zG,le_antisymm→zN,le_of_ble_eq_true→zQ,lt_or_eq_of_le→au,succ_pos→bh,succ_add→bi,lt_succ_of_le→bn,succ_ne_self→bw,lt_irrefl→cj,sub_lt_sub_left→cw,mul_le_mul_left→cx,add_le_add_left→cz,zero_add→dc,add_comm→de,add_le_add→dp,sub_add_cancel→dt,casesOn→eh,succ_add_eq_add_succ→ew,lt_add_of_pos_right→gh,pow_le_pow_right→jo,eq_zero_or_pos→kv,add_right_comm→kx,lt_or_ge→lu,lt_trichotomy→mh,le_of_succ_le→mi,sub_sub_self→ng,log2_lt→nv,blt→oy,mul_succ→rq,beq_refl→rt,sub_le→th
open List renaming casesOn→u6,length_map→vB,size_toArray→vV,append_nil→vX,mem_append_left→v5,map_cons→v8,replicate→v9,range→wD,mem_of_getElem?→wG,reverse_cons→wP,getElem?_eq_getElem→wT,length_append→wY,zip_cons_cons→xA,length_cons→xD,getElem?_set→xI,getElem?_map→xJ,append_assoc→xK,mem_cons_self→xQ,lookup_append→xR,length_range→xW,length_filter_le→yA,flatten→yE,mem_map_of_mem→yN,map_nil→yO,mem_append_right→yU,forIn_cons→yX,mem_cons_of_mem→zA,toArray→zH,take_append_drop→zR,ext_getElem?→zT,getElem?_range→ae,of_mem_zip→ak,map_append→al,length_set→am,mem_singleton→aw,map_map→bj,length_take_of_le→bq,lookup_cons→bx,getElem?_concat_length→dh,nodup_nil→dq,getD_eq_getElem?_getD→dy,getElem?_append_left→ea,lookup→ei,noConfusion→fu,map_fst_zip→fv,getElem_map→fw,filter_cons→fx,cons_append→fy,pairwise_singleton→gi,filter_cons_of_pos→gj,filter_cons_of_neg→gk,range_succ_eq_map→ia,getElem?_set_self→ib,find?_cons_of_pos→ie,find?_cons_of_neg→ig,drop_of_length_le→ih,nil_append→il,getElem?_of_mem→jp,map_congr_left→jz,length_reverse→kb,filterMap_cons→kc,append_toArray→kd,any_cons→kn,foldl→ku,zip_nil_right→ky,getElem_range→kz,findIdx?_cons→lb,filter_filter→lc,getElem?_inj→mj,not_mem_nil→ni,length_drop→nj,isEmpty_nil→nk,getElem_inj→np,length→nw,filter→ny,zip_append→om,length_nil→oo,drop_drop→qc,reverse→ru,any_map→rx,map→sj,cons→ub
open Option.some renaming inj→u7,sizeOf_spec→re
open Int renaming le_trans→u9,lt_of_le_of_lt→vL,lt_of_lt_of_le→vQ,le_of_lt→vU,add_le_add_right→vW,sub_nonneg_of_le→v6,toNat_of_nonneg→wA,mul_le_mul_of_nonneg_left→wW,mul_nonneg→wZ,lt_trans→w5,mul_le_mul_of_nonneg_right→xG,add_zero→xM,add_nonneg→xU,fdiv_eq_ediv_of_nonneg→x7,ediv_lt_of_lt_mul→yB,natCast_nonneg→yC,one_mul→yJ,sub_le_self→yY,le_refl→y5,mul_ediv_add_emod→zS,pow_pos→zU,le_of_lt_add_one→zX,add_one_le_of_lt→zY,fmod_eq_emod_of_nonneg→zZ,add_le_add→bl,emod_eq_of_lt→bo,emod_nonneg→cu,toNat_lt→df,add_comm→dg,mul_emod_right→du,emod_lt_of_pos→dv,le_add_of_nonneg_right→dz,le_natAbs→et,mul_ediv_cancel_left→ey,eq_ofNat_of_zero_le→gl,sub_zero→gw,lt_add_of_pos_left→ii,fmod_nonneg_of_pos→ij,le_antisymm→im,ediv_nonneg→io,mul_one→jh,natAbs_neg→jl,mul_le_mul→jm,natAbs_of_nonneg→jq,add_lt_add_right→jr,add_lt_add_left→ke,lt_irrefl→kp,fmod_lt_of_pos→lg,add_sub_cancel→lh,zero_mul→lv,zero_add→lx,ne_of_gt→ly,toNat_natCast→ml,sub_neg_of_lt→mn,add_mul→oa,natCast_pow→oq,min_eq_left→ot,fdiv_nonneg→ou,neg_lt_neg→qd,neg_le_neg→qe,ofNat→ra,pow_succ→ry,le_of_eq→rz
open Bool renaming false_ne_true→vF,false_eq_true→vM,not_eq_true'→v4,and_eq_true→v7,casesOn→wX,noConfusion→xE,true_and→xL,or_eq_true→xP,false_and→yK,false_or→yQ,not_false→bm,not_true→eu,and_self→ev,true_or→gx,or_false→qq
open Exists renaming intro→vK
open List.cons renaming inj→wF,sizeOf_spec→bu
open ForInStep renaming yield→xO
open Eq renaming trans→y3
open Ne renaming symm→z4
open Nat.succ renaming inj→z6
open Iff renaming rfl→cb
open Array renaming getD_eq_getD_getElem?→di,toList_append→kh,any_toList→nq
open Prod.mk renaming injEq→el
open Prod renaming ext→ll,fst→pd,snd→si
open PySem renaming wpAny_bind→u0,wpAny_pure→u8,wpAny_standAt→vT,wpAny_holding→wE,Params→wR,assignEach→wS,wpAny_mono→w7,call→w8,wpAny_loadName_local→xT,assignInOrder→yG,wpAny_field→yI,sizeLine→yR,methodCall→yS,holding→yZ,execs→y4,wpAny_newObj_type→y7,exec→zB,wpAny_setField→zF,evalEach→zM,wpAny_loadPart→zV,standAt→z3,wpAny_loadPart'→ah,assignAll→ai,wpAny_call→an,markedEach→aq,treeTable→ay,seqIndex?→az,eval_Name→ba,notedBy→bg,rawInt→bv,codeAny→ca,wpAny_newList→ce,swappedStores→cg,methodCallPos→ci,callEnvC→ck,interactive→cm,importedModules→cr,arm_exec_Assign→ct,isTrue→dj,clipAt→dk,Reads→ed,evalThenUse→ef,wpAny_release→ej,comprehension→ek,Flow→fc,Model→fg,ReadsAll→fh,setFlight→fj,wpAny_call_entry→fk,opaqueClassAbove→fq,checkBuiltinCall→ft,wpAny_callSpecial?_slot→gb,Result→gm,valueAt→gn,typeIs_str→gp,call_meets→gq,wpAny_mkText→gr,wpAny_dropValue→ik,typeOf→iu,PyData→iy,intItems→ja,bindName→jb,binaryOp→jc,wpAny_of_eq→je,wpAny_seqItems→ji,eval_Subscript→jj,codeAny_call_builtin→jn,raiseStmt→js,cellsFrom→jt,Ctx→jv,wpAt_of_wpAny→jx,attributeBase→kj,arm_exec_Expr→kl,newList→li,loadName→lj,FuncData→lm,compareChain→ln,Within→lq,wpAny_truthy_bool→lz,wpAny_loadPart_at→ma,foldedSetIterable→md,truthy→mr,compareOp→mu,wpAny_lookBehind→mw,wpAny_getItem_of→mx,wpAny_eqBool_int→my,wpAny_Try_except→mz,pastItsLine_dict→nc,valueOrNone→nr,sizeLine_eq→nt,arm_exec_Return→oi,wpAt_bind→oj,setAttr→ow,compPost→pa,constValue→pg,closureFor→pj,wpAny_newTuple→pp,refuseLoop_ref→pu,methodCallForm→pv,markedBehindIn→pw,letTemporaryGo→pz,firstArgMember→qa,constantsAlone→qb,wpAny_handled→qm,foldedForSure→qo,wordsOf→qp,testChain→qv,seqItems?→qx,noteFrame→qy,getMethod→qz,isType→rg,release→rh,callType_new→rn,newTuple→se,calleeOf→sg,callWith→sh,wpAny_throw→sn,wpAny_mkInt→so,wpAny_alloc→sq,cellOf→td,boolOp→tf,cLine→tj,Drawn→tm,setItem→tp,relabel→tq,operate→tr,getAttr→tu,evalOpt→tv,allTrue→tw,field→uc
open PySem.Expr renaming casesOn→vA,Name→rb
open PySem.Heap renaming get?_push_of_some→vE,lt_size→vI,get?_push_size→vO,size_push→wO,get?_update_self→w4,SameBut→xC,size_after_update→xF,get?_update_other→x6,get?_push_ne→y9,size_update→z7,get?_update_ne→af,ExtBut→sv
open PySem.Builtin renaming bitOr→vG,bitAnd→vP,bitNot→xV,bitXor→qf,iter→ql
open PySem.W.Fast renaming te14364793385576792824→vZ,te10110043849684766642→v3
open PySem.Txt renaming words→wC,slice→bb,startswith→jk,split→ju
open PySem.PyData renaming keyHash→wI,canLayAll0→wV,eqv→yT,canLay0→zW,list→cn,tuple→gu,depth→lr,depthAll→ol,int→tg
open PySem.Value renaming none→wJ,ref→xS,casesOn→jy,type→kt
open PySem.SeqAt renaming shaped→wN,canLay_of_shaped→zK,notIn_tuple_reads→og,notIn_list_reads→ov,in_tuple_reads→qg,in_list_reads→qi
open PyProof.Rows renaming bitAnd_range→xH,bitOr_and→xY,bitAnd_m1→xZ,subscriptTail→yF,seqObj→ab,unpackItems_tuple→bz,tail_any→dm,bitAnd_not→gg,bitAnd_pp→gz,listUpdate_at→ki,iter_tuple→kq,seqEpoch_at→nu,nat_or_add_and→oz,size_push'→pf,wpAny_operate'→pk,room_in_shaped→pq,getItem_tuple→qh,eval_UnaryOp→qj,assign_Tuple→qk,sortedAll_old→qn,getItem_str→qr,bitAnd_zero→qt,IsTup→qu,eval_IfExp→rc,IntsAre→rk,sortedAll_at→rl,bitAnd_m6→sb,bitAnd_m5→sd,len_str→sy,bubble→te,StrsAre→tz
open PySem.Operator renaming casesOn→xX
open PySem.F renaming slot_tuple_iterator_next→x8,slot_str_split→zL,excBase_Exception→aa,args_tuple_iterator_next_1→ax,entry_tuple_iterator_next→bf,args_object_init_2→dw,slot_list_index→gc,entry_str_split→gf,type_str_split→gy,slot_int_rmul→ip,slot_dict_get→iq
open PySem.Obj renaming mapFields→yH,data_mapFields→zJ,isFreed_of_fields→zP,mapSeq→ar,putName→cp,cls_mapFields→mf,data→ud
open PySem.Builtin.Str renaming spaceWords→yP,occurrences→bc,partsBetween→ez,strKind→kf
open PySem.Builtin.SmallTypes renaming nextOf→yV
open PySem.Const renaming casesOn→zD
open PySem.Heap.SameBut renaming update→zE
open PySem.Stmt renaming casesOn→zI
open PySem.W renaming boot_heap→zO,emptyDict→z5,looks_findIn→gt,topFrame→iz,looks_clsIn→jf,callWith_of→jg,boot_drawn→kr,putL→mq,boot_toks→mv,wellAll_cons_inv→na,getL→oh,set_plain→qw,kas_rev→ri,kas_ask→rj,looks_instIn→rm,kbt_halves→ro,kas_sort→sf,looks_mroIn→sr,topRun→sz,looseW→ta,lookIn→tc,clsIn→ti,KasT→ua
open PySem.W.Looks renaming of_pure→ag,ld→jd
open PySem.Builtin.Range renaming rangeSize→be
open PySem.NameKind renaming casesOn→bp,free→eo,cell→km,casesOn→nh
open PySem.UnaryOp renaming casesOn→br
open PySem.Builtin.Int renaming intBits→da
open PySem.Flow renaming next→jw,ret→pe
namespace Mine.Internal
universe u v w
@[elab_as_elim] theorem rr {α : Sort u} {a : α} {p : α → Prop} {b : α} (h : a = b) (x : p b) : p a := h ▸ x
theorem e1 {α : Sort u} {p : α → Prop} {G : Prop} (h : ∃ a, p a) (k : ∀ a, p a → G) : G := Exists.elim h k
theorem e2 {α : Sort u} {β : α → Sort v} {p : (a : α) → β a → Prop} {G : Prop} (h : ∃ a b, p a b) (k : ∀ a b, p a b → G) : G := e1 h fun a h => e1 h (k a)
theorem e3 {α : Sort u} {β : α → Sort v} {γ : (a : α) → β a → Sort w} {p : (a : α) → (b : β a) → γ a b → Prop} {G : Prop} (h : ∃ a b c, p a b c) (k : ∀ a b c, p a b c → G) : G := e1 h fun a h => e2 h (k a)
theorem n2 {a b G : Prop} (h : a ∧ b) (k : a → b → G) : G := k h.1 h.2
theorem n3 {a b c G : Prop} (h : a ∧ b ∧ c) (k : a → b → c → G) : G := k h.1 h.2.1 h.2.2
theorem n4 {a b c d G : Prop} (h : a ∧ b ∧ c ∧ d) (k : a → b → c → d → G) : G := k h.1 h.2.1 h.2.2.1 h.2.2.2
end Mine.Internal
namespace Mine.Internal
open Lean in
def rd (hs : List (Array Syntax)) (s : String) : Syntax :=
  let add (st : List (Name × Array Syntax)) (b : Array Syntax) := match st with
    | (k, a) :: st => (k, a ++ b) :: st
    | [] => []
  let pop (st : List (Name × Array Syntax)) := match st with
    | (k, a) :: st => add st #[.node .none k a]
    | [] => []
  let st := (s.splitOn " ").foldl (fun st t =>
    let d := (t.drop 1).toString
    let c := t.front
    if c == '[' then (.str `Lean.Parser.Tactic d, #[]) :: st
    else if c == '<' then (.str `Lean.Parser.Term d, #[]) :: st
    else if c == '(' then (d.toName, #[]) :: st
    else if c == '|' then (`null, #[]) :: st
    else if c == '{' then (`null, #[]) :: (`Lean.Parser.Tactic.tacticSeq1Indented, #[]) :: (`Lean.Parser.Tactic.tacticSeq, #[]) :: st
    else if c == ')' then pop st
    else if c == '}' then pop (pop (pop st))
    else if c == '\'' then add st #[.atom .none d]
    else if c == '%' then add st (hs.getD d.toNat! #[])
    else add st #[mkIdent (if c == '`' then .anonymous else t.toName)]) [(`null, #[])]
  match st with
  | (_, a) :: _ => a.getD 0 .missing
  | [] => .missing
def ws (s : String) : Array Lean.Syntax := (s.splitOn " ").toArray.map fun t => Lean.mkIdent t.toName
def mp (s : String) (a : Array Lean.Syntax) : Array Lean.Syntax := a.map fun t => rd [#[t]] s
open Lean in
def tn (k : String) (a : Array Syntax) : Syntax := .node .none (.str `Lean.Parser.Tactic k) a
open Lean in
def alt (a : Array Syntax) : Array Syntax := a.map fun t => .node .none `group #[.atom .none "|", t]
open Lean in
def fsx (a : Array Syntax) : Syntax := tn "first" #[.atom .none "first", .node .none `null (alt a)]
open Lean in
def rfs (a : Array Syntax) : Syntax := tn "withReducible" #[.atom .none "with_reducible", fsx a]
open Lean in
def exs (a : Array Syntax) : Array Syntax := a.map fun t => tn "exact" #[.atom .none "exact", t]
open Lean in
def aps (S : Syntax) (a : Array Syntax) : Array Syntax := a.map fun t => .node .none `null #[tn "apply" #[.atom .none "apply", t], tn "allGoals" #[.atom .none "all_goals", S]]
open Lean in
def app (a : Array Syntax) (x : Array Syntax) : Array Syntax := a.map fun t => .node .none `Lean.Parser.Term.app #[t, .node .none `null x]
end Mine.Internal
local macro_rules (kind := Lean.Parser.Tactic.simpArith)
  | x => pure <|
    let r := Mine.Internal.rd
    let w := Mine.Internal.ws
    let p := Mine.Internal.app
    let A := r [] "<byTactic 'by { [withReducible 'with_reducible { [assumption 'assumption ) } ) } )"
    let U := r [] "<byTactic 'by { [assumption 'assumption ) } )"
    let z := r [] "[assumption 'assumption )"
    let by1 (t : Lean.Syntax) := r [#[t]] "<byTactic 'by { %0 } )"
    let B := by1 (Mine.Internal.rfs (#[z] ++ Mine.Internal.exs (p (w "a_12 s_1") #[U])))
    let d := p (w "n_64 n_64' n_1") #[A, A]
    let i := r [] "<dotIdent '. inl )"
    let g (t : Lean.Syntax) := p (w "n_up" ++ #[i, r [] "<dotIdent '. inr )"]) #[t]
    let S := Mine.Internal.fsx #[Mine.Internal.rfs #[z], r [] "[decide 'decide [optConfig | ) ) )", Mine.Internal.rfs (Mine.Internal.exs (p (w "a_01 a_02 a_12 a_k a_c a_k1 a_k2 a_p1 a_p2 a_p3 a_d1 a_d2 a_d3 a_z1 a_z2 s_1 s_0 s_z s_c d_1 d_k") #[A] ++ d ++ d.flatMap g ++ g A ++ p #[i] #[r [] "<byTactic 'by { [decide 'decide [optConfig | ) ) ) } )"] ++ p (w "f_0 f_1") #[B] ++ w "len1 len2 len3")),
      r [#[Mine.Internal.rfs (#[z] ++ (w "sok_fset sok_fl").map fun t => Mine.Internal.tn "apply" #[.atom .none "apply", t])]] "| [tacticRepeat_ 'repeat { %0 } ) [done 'done ) )", r [] "[lia 'lia [optConfig | ) ) )"]
    let fst (a : Array Lean.Syntax) := by1 (Mine.Internal.rfs a)
    let hs := Mine.Internal.aps S (x[4][1].getSepArgs.map (fun t => t[2]))
    let hy := hs ++ Mine.Internal.aps S (w "wrap_s signed_s extended_s bit_s masked_s read_e count_e get_e get_g count_s lay_s lent0 isstr_s stem_s cond_s ad_s own_s osz_s get_s put_s putlow_s octet_s setoct_s memread_s memwrite_s size_of_s clear_s read_s write_s place_s list_t tuple_s int_s intB_s lent1 lent2 lent3 len_t len_l")
    let ho := hs ++ Mine.Internal.aps S (w "kind_s it_range enu0 enu1 enu2 enu3 rng3 it_plain it_plainT")
    let gs := w "FLAG_NAMES ONLY_READS FRESH FRESH_LANES LOW_PARTS HALF_MOVES HALVES STACK_NAMES SHIFT_NAMES NAMES_8 NAMES_16 NAMES_32 NAMES_64 HIGH_NAMES SHIFTS ROTATES THROUGHS DOUBLES BITS SCANS WIDENINGS CONVERSIONS SPREADS"
    let pr (s : String) := gs.map fun t => Lean.mkIdent (t.getId.appendBefore s)
    let lf := Mine.Internal.exs (w "rg_kind rg_num rg_size or_kind or_reg oi_kind oi_worth oi_name om_kind om_base om_index om_scale om_worth om_size om_seg in_name in_ops in_pre st_regs st_xmm st_flags st_mem st_rip st_halt st_segs me_held g_CF g_PF g_AF g_ZF g_SF g_DF g_OF" ++ p (w "at_cf at_pf at_af at_zf at_sf at_of at_df sa_cf sa_pf sa_af sa_zf sa_sf sa_of sa_df") #[U] ++ pr "g_" ++ pr "sp_") ++ Mine.Internal.aps S (w "sub_reg put_reg md_set")
    let ms := ((w "ms_get ms_put ms_put_low ms_offset ms_place ms_size_of ms_read ms_write ms_told mm_octet mm_set mm_read mm_write mm_told mm_written mi_mem mo_regs" ++ p (w "mf_told mf_pack mf_unpack mf_get mf_put") #[U]).map fun t => r [#[t]] "[refine 'refine <app %0 | <syntheticHole '? '_ ) ) ) )")
    let h := fst hy
    let hl := fst (ho ++ lf)
    let hc := by1 (Mine.Internal.fsx #[Mine.Internal.rfs (hs ++ Mine.Internal.exs (p (w "c_eqSF c_eqST c_neSF c_inSF c_inST c_ninSF c_ninST") #[U])), r [] "| [show 'show («term_=_» <app cmpA | <hole '_ ) <hole '_ ) <hole '_ ) ) ) '= <app some | <hole '_ ) ) ) ) ) (PyProof.Rows.tacticKernel_rfl! 'kernel_rfl! ) )"])
    let hm := r [#[Mine.Internal.rfs ms], #[Mine.Internal.rfs hy]] "<byTactic 'by { %0 '; %1 } )"
    let hg := fst (Mine.Internal.exs (p (w "md_get") #[U]) ++ hs ++ Mine.Internal.aps S (w "idx_s sw_f"))
    let q := fst (#[z] ++ Mine.Internal.exs (p (w "Int.not_lt.mp Int.not_le.mp") #[U]))
    let S := by1 S
    let D (s : String) := r [] ("<dotIdent '. " ++ s ++ " )")
    let o := r [] "<hole '_ )"
    let k (a : Array Lean.Syntax) := r [a] "(group '| | [refine 'refine <fun 'fun <basicFun | k ) | ) '=> <app <typeAscription <hygienicLParen '( (hygieneInfo ` ) ) <syntheticHole '? '_ ) ': | <arrow <hole '_ ) '→ <hole '_ ) ) ) ') ) | <app k | %0 ) ) ) ) ) ) ) [clear 'clear | k ) ) ) )"
    let tt := D "tt"
    let ff := D "ff"
    r [#[k #[D "call", o, o, h], k #[o, o, hm], k #[tt, q], k #[ff, q], k #[tt, hc], k #[ff, hc], k #[o, hl], k #[D "dem", o, hl], k #[D "dem", A], k #[D "exc", o, o, h], k #[o, o, hg],
      k #[r [#[S]] "<show 'show <typeAscription <hygienicLParen '( (hygieneInfo ` ) ) <hole '_ ) ': | <prop 'Prop ) ) ') ) <fromTerm 'from %0 ) )"], k #[tt, S], k #[ff, S], k #[D "at"]]]
      "[repeat' 'repeat' { [first 'first | (group '| { [exact 'exact <fun 'fun <basicFun | k ) | ) '=> k ) ) ) } ) %0 ) ) } )"
local macro_rules (kind := Lean.Parser.Tactic.rwSeq)
  | x => if x[3].getNumArgs != 0 then Lean.Macro.throwUnsupported else pure <|
    let r := Mine.Internal.rd
    r [x[2][1].getSepArgs.flatMap fun u =>
      let t := u[1]
      let e := #[t, r [#[t]] "<app %0 | <hole '_ ) ) )", r [#[t]] "<app %0 | <hole '_ ) <hole '_ ) ) )"]
      let e := if u[0].getNumArgs == 0 then e else Mine.Internal.mp "<app Eq.symm | %0 ) )" e
      #[r [Mine.Internal.mp "(group '| { [refine 'refine <app Mine.Internal.rr | %0 <syntheticHole '? '_ ) ) ) ) } )" e, #[u]] "[first 'first | %0 (group '| { [rewriteSeq 'rewrite [optConfig | ) ) [rwRuleSeq '[ | %1 ) '] ) | ) ) } ) ) )", r [] "';"]]
      "[paren '( { %0 [tacticTry_ 'try { [withReducible 'with_reducible { [tacticRfl 'rfl ) } ) } ) } ') )"
namespace Mine.Internal
open PySem PySem.W PyProof.Rows
noncomputable abbrev I2:Program:=PySem.Challenge.pw_nn0095_01
noncomputable def Jx:List Stmt:=behindTheImports I2
noncomputable abbrev lt(t:Nat):Nat:=Nat.rec 0 (λm _=>m.succ) t
noncomputable def Z7(l:List Value):Obj:=⟨.type "tuple",none,.seq l.toArray,#[]⟩
noncomputable def Y4(c:Value)(l:List Value):Obj:=⟨c,none,.fields l.toArray,#[]⟩
noncomputable abbrev sB(t:Nat):Value:=.str "/claim/cut.py" (lt t)
noncomputable def pR(n q:Str)(t k:Nat)(p:Pos)(a f:Nat)(b:Addr)(z:Bool)(l:List Value):Obj:=
 Y4 (.type "code") ([.str n (lt t),.str q (lt (t+1)),sB (t+2),.int p.line 0,.int a 0,.int 0 0,.int 0 0,.int f 0,.ref b,.bool z,.int 181 0,.ref (b+1),.none]++l++[.int (lt k) 0,.int p.line 0,sB (k+1)])
noncomputable def pZ:List Expr→Nat→List Value
 |.Constant (.str s) _ _::l,t=>.str s (lt t)::pZ l (t+1)
 |.Constant (.int i) _ _::l,t=>.int i (lt t)::pZ l (t+1)
 |.Constant _ _ _::l,t=>.none::pZ l t
 |_,_=>[]
noncomputable def uB:Value→Bool
 |.none=>false
 |_=>true
noncomputable def qT(l:List Str)(t:Nat):List Value:=match l with
 | []=>[]
 |s::l=>.str s (lt t)::qT l (t+1)
noncomputable def qP:Str×NameKind→Bool
 |(_,.local)=>true
 |_=>false
noncomputable def tD(m:Value)(b t:Nat)(n:Str)(a:Arguments)(body:List Stmt)(sc:Scope)(q:Str)(p:Pos):List Obj×Addr×Nat:=
 let d:=pZ a.defaults t
 let u:=t+(d.filter uB).length
 let ns:=(sc.names.filter qP).map (·.1)
 let fd (g:Addr) (d m c:Value):Obj:=⟨bif x9 g 0 then .none else .type "function",none,.func ⟨n,q,a,.stmts body,sc,g,[],d,.none,.none,m,none,c,.none,0⟩,#[]⟩
 let rest (b:Nat) (D:Value):List Obj×Addr×Nat:=match sc.more with
  | []=>([Z7 [],Y4 .none [],Z7 (qT ns (u+3)),Z7 [],fd 0 .none .none .none,pR n q u (u+3+ns.length) p a.args.length 3 b true [.ref (b+2),.ref (b+3),.ref (b+4)],fd 3 D m (.ref (b+5))],b+6,u+5+ns.length)
  |_=>([Z7 [],Y4 .none [],fd 0 .none .none .none,pR n q u (u+3) p a.args.length 3 b true [.none,.none,.ref (b+2)],fd 3 D m (.ref (b+3))],b+4,u+5)
 match d with
 | []=>rest b .none
 |_=>match rest (b+1) (.ref b)with
  |(l,r)=>(Z7 d::l,r)
noncomputable abbrev En:=Str×Nat×Value
noncomputable abbrev KX(s:Str)(t:Nat)(v:Value):En:=(s,t,v)
noncomputable def pQ(P:wR)(l:List En)(n:Nat):Obj:=⟨.type "dict",none,.dict (l.map λ(s,t,v)=>⟨wI P s,.str s (lt t),v⟩).toArray n,#[]⟩
noncomputable abbrev Ob:=wR→Obj
noncomputable abbrev kH(o:Obj):Ob:=λ_=>o
noncomputable def s9(m:Value)(c:Str):List Stmt→Nat→Nat→List Ob×List En×List Value×Nat×Nat
 |.FunctionDef n a body _ _ _ sc _ _ p::l,b,t=>match tD m b t n a body sc ⟨c.cps++ #[46]++n.cps⟩ p with
  |(os,r,k)=>match s9 m c l (r+1) (k+1)with
   |(o,e,x,y)=>(os.map kH++o,KX n k (.ref r)::e,.int p.line 0:: .int p.col 0:: .ref (r-1)::x,y)
 |_,b,t=>([],[],[],b,t)
noncomputable def uN(m:Value)(b t:Nat)(w:Nat)(su:List Value)(n:Str)(body:List Stmt)(at_:List Str)(p:Pos):List Ob×Addr×Nat:=
 match s9 m n body (b+7) (t+12)with
 |(mo,me,Q,b2,t2)=>
  let bs:List Value:=match w with
   |0=>[]
   |1=>[.type "Exception"]
   |w=>[.ref w]
  let C:=b2+2
  let e:=t2+at_.length
  let sa:=KX "__static_attributes__" e (.ref b2)
  let u:=KX "__module__" (t+7) m
  let fl:=KX "__firstlineno__" (t+11) (.int p.line (lt (t+10)))
  let D:List En:=match w with|0=>[KX "__dict__" (e+2) (.ref (C+1))]|_=>[]
  let O:List En:=match w with|0=>[KX "__weakref__" (e+4) (.ref (C+2))]|1=>[KX "__weakref__" (e+2) (.ref (C+1))]|_=>[]
  let S:List Obj:=match w with|0=>[Y4 (.type "getset_descriptor") [.str "__dict__" (lt (e+1)),.ref C,.builtin "function.__dict__",.builtin "function.__dict__#set"]]|_=>[]
  let B (t:Nat):Obj:=Y4 (.type "getset_descriptor") [.str "__weakref__" (lt t),.ref C,.builtin "ExceptionGroup.__weakref__",.none]
  let B:List Obj:=match w with|0=>[B (e+3)]|1=>[B (e+1)]|_=>[]
  let g:=D.length+O.length
  let J:=e+2*g+1
  let I:=(u::KX "__qualname__" (t+9) (.str n (lt (t+8)))::fl::me)++[sa]
  let U:=(u::fl::me)++(sa::D)++O++[KX "__doc__" J .none]
  let mro:List Value:=match w with
   |0=>[.type "object"]
   |1=>[.type "Exception",.type "BaseException",.type "object"]
   |46=>[.ref 46,.type "Exception",.type "BaseException",.type "object"]
   |w=>[.ref w,.type "object"]
  let Y:Str:=match w with|0=>"object.__new__"|336=>"object.__new__"|_=>"Exception.__new__"
  ((kH (Z7 bs)::kH (Y4 (.type "builtin_function_or_method") [.builtin "type.__prepare__",.type "type"])::(pQ · I I.length)::([Z7 [],Y4 .none Q,
   pR n n (t+2) (t+5) p 0 0 (b+3) false [.none,.none,.none],⟨.type "frame",none,.plain,#[some (.ref (b+5)),some (.ref 3),some (.ref (b+2)),none,some m,none,some (.ref 0)]⟩]:List Obj).map kH)++mo++
   kH (Z7 (qT at_ t2))::(pQ · U (2+g))::(([⟨.type "type",none,.cls ⟨n,match w with|0=>[.type "object"]|_=>bs,.ref C::mro,C-1,n,true,[],su,false,none,false⟩,#[match w with|0=>none|_=>some (.ref b),none,some (.str n (lt t)),some (.str n (lt (t+8))),some (.builtin (match w with|0=>"object.__new__"|336=>"object.__new__"|_=>"Exception.__new__")),some (.bool true)]⟩]:List Obj)++S++B++[Y4 (.type "super") [.ref C,.ref C,.ref C],Y4 (.type "builtin_function_or_method") [.builtin "object.__init_subclass__",.ref C]]).map kH,C,J+(match w with|1=>4|_=>2))
noncomputable def sS:Nat→Nat×List Value
 |5=>(1,[.ref 59,.ref 71])
 |16=>(46,[])
 |18=>(46,[])
 |195=>(0,[.ref 371,.ref 405,.ref 458])
 |208=>(336,[])
 |219=>(336,[])
 |231=>(336,[])
 |_=>(0,[])
structure r0 where
 os:List Ob
 es:List En
 ls:List Value
 m:Value
noncomputable def pT:List Stmt→Nat→Value→r0
 |s::l,N,m=>
  let b:=N % 2048
  let t:=N/2048 % 2048
  let u (n:Str) (p:Pos) (c:Addr) (r:List Ob×Addr×Nat):r0:=match pT l (N/4194304) m with
   |⟨o,e,x,y⟩=>⟨r.1++o,KX n r.2.2 (.ref r.2.1)::e,.int p.line 0:: .int 0 0:: .ref c::x,y⟩
  match s with
  |.FunctionDef n a body _ _ _ sc _ _ p=>match tD m b t n a body sc n p with
   |(os,r,k)=>u n p (r-1) (os.map kH,r,k)
  |.ClassDef n _ _ body _ _ _ _ _ at_ p=>u n p (b+5) (uN m b t (sS p.line).1 (sS p.line).2 n body at_ p)
  |.Assign [.Name n _] (.Constant c _ _) _=>
   let v:Value:=match c with
    |.str s=>.str s (lt t)
    |.int i=>.int i (lt t)
    |_=>.none
   match x9 (n.cps.toList.headD 0) 95 with
   |true=>pT l (N/4194304) v
   |false=>match pT l (N/4194304) m with
    |⟨o,e,x,y⟩=>⟨o,KX n (t+1) v::e,x,y⟩
  |_=>⟨[],[],[],m⟩
 | [],_,m=>⟨[],[],[],m⟩
noncomputable def uS:Nat:=18065489121841930404923759171237524746579619018189899675969604660919978194320357611289022830181181715759735349791519800451467545959175026335127040972128642766557789681406974011900855805628865631412097226182860486691991404669162540271217130835018914652087793103445522202304715792955528338136491184128934210976254538637709991231309001490609300947713770898827509542106197618176869968930738808400918638508849942737161575463662371240908617385215193377497509496485974885223151189796173437327258937180583450755258659806329179701381152520192658918781800305306658987581932316998000713932551731179643613345551666735530264705980032711757914855279668195634901799669142826341837887334631797123899021274894360420013449838417108730250878754124857642231350999166221731465084482709600014933123764198851495494471780555908460305473745589445158049423930442902064245518929634145898426345112596955824804615964898463869138645669903
noncomputable def pX:List Obj→List Obj
 |x::_::l=>x::pX l
 |l=>l
noncomputable def pS:List Obj→List Obj
 |_::y::l=>y::pS l
 |_=>[]
noncomputable def qD:Nat→List Obj→BT
 |f+1,o::l=>.node o (qD f (pX l)) (qD f (pS l))
 |_,_=>.nil
noncomputable def lI:Nat→List Obj→BT
 |f+1,o::l=>.node o (lI f (pX l)) (lI f (pS l))
 |_,_=>.nil
theorem U9: ∀f l,lI f l=qD f l
 |0,_=>rfl
 |f+1,[]=>rfl
 |f+1,o::l=>by
  show BT.node o (lI f (pX l)) (lI f (pS l))=_
  rw[U9 f,U9 f]
  rfl
noncomputable def mI(k:Nat):r0:=pT (Jx.take k) uS (.str "__main__" 164)
noncomputable def uV(m:Value):List En:=[KX "__name__" 165 m,KX "__doc__" 166 .none,KX "__package__" 167 .none,KX "__loader__" 168 (.builtin "__main__.__loader__#opaque"),KX "__spec__" 169 .none,
 KX "__annotations__" 170 (.ref 6),KX "__builtins__" 171 (.ref 4),KX "__file__" 173 (sB 172),KX "__cached__" 174 .none]
noncomputable def sA(P:wR)(k:Nat):List Obj:=
 let x:=mI k
 let es:=uV x.m++x.es
 [boot_o_0 P,boot_o_1 P,match k with|0=>boot_o_2 P|_=>⟨.none,none,(pQ P [KX "type.__subclasses__.Exception.0" 230 (.int 46 0),KX "type.__subclasses__.Exception.n" 231 (.int 1 0)] 2).data,#[]⟩,pQ P es es.length,
  boot_o_4 P,boot_o_5 P,boot_o_6 P,boot_o_7 P,boot_o_8 P,boot_o_9 P,boot_o_10 P,Z7 [],Y4 .none x.ls,pR "<module>" "<module>" 182 185 ⟨1,0,0,0⟩ 0 0 11 false [.none,.none,.none],
  ⟨.type "frame",none,.plain,#[some (.ref 13),some (.ref 3),some (.ref 3),none,some (.str "__main__" 164),none,some (.ref 0)]⟩]++x.os.map (· P)
noncomputable def Rm(P:wR)(k:Nat):BT:=qD 11 (sA P k)
noncomputable abbrev MS:Option Value:=some (xS 6)
noncomputable abbrev Hx:Pos:=⟨0,0,0,0⟩
noncomputable abbrev WX:Env:=.mk I2.main.scope mainNs mainNs [] Str.empty none (.ref 13) (some 14) 0
noncomputable abbrev HM:Code:=.body Jx WX
noncomputable def Wx(w:World)(os:OsState)(k n t:Nat):SharedT:=⟨Rm w.params k,n,{},#[],{},t,os⟩
noncomputable abbrev Pc(w:World)(os:OsState)(N k n t:Nat)(q:Pos)(j u e t':Nat)(B:Pos):Prop:=
 segRunT ay I2 w 11 MS 1 N (Wx w os k n t) (piecesOf ((Jx.drop k).take j) WX HM q [iz Hx])=some (.next,Wx w os u e t',HM,B)
theorem tJ(w:World)(os:OsState):Pc w os 920 0 15 187 ⟨0,0,0,0⟩ 11 11 116 316 ⟨34,0,35,25⟩:=by
 unfold Pc
 rw[v3,vZ]
 kernel_rfl
theorem tU(w:World)(os:OsState):Pc w os 1060 11 116 316 ⟨34,0,35,25⟩ 28 39 299 564 ⟨188,0,193,29⟩:=by
 unfold Pc
 rw[v3,vZ]
 kernel_rfl
theorem uK(w:World)(os:OsState):Pc w os 1380 39 299 564 ⟨188,0,193,29⟩ 5 44 461 773 ⟨231,0,258,16⟩:=by
 unfold Pc
 rw[v3,vZ]
 kernel_rfl
theorem uM(w:World)(os:OsState):Pc w os 1380 44 461 773 ⟨231,0,258,16⟩ 32 76 675 1077 ⟨433,0,454,24⟩:=by
 unfold Pc
 rw[v3,vZ]
 kernel_rfl
theorem tY(w:World)(os:OsState):Pc w os 730 76 675 1077 ⟨433,0,454,24⟩ 7 83 797 1231 ⟨486,0,529,36⟩:=by
 unfold Pc
 rw[v3,vZ]
 kernel_rfl
theorem t8(w:World)(os:OsState):Pc w os 1090 83 797 1231 ⟨486,0,529,36⟩ 21 104 977 1518 ⟨705,0,714,46⟩:=by
 unfold Pc
 rw[v3,vZ]
 kernel_rfl
theorem uP(w:World)(os:OsState):Pc w os 1000 104 977 1518 ⟨705,0,714,46⟩ 32 136 1182 1835 ⟨1018,0,1045,15⟩:=by
 unfold Pc
 rw[v3,vZ]
 kernel_rfl
theorem iR: ∀w:World,(fencedOpening ay I2 w 15042).map (λs=>(s.heap,s.gens,s.drawn,s.toks))=some (zO w.params,Array.mk [],kr,mv):=
 boot_open (p:=I2) (N:=15042) (by kernel_rfl) (by decide) (λs=>by kernel_rfl)
theorem jZ: ∀w:World,((zO w.params).isNs mainGlobals&& (Array.mk []:Array GenState).size==0,(zO w.params).objs.size,(zO w.params).nsMap mainGlobals "__annotations__")=(true,11,MS):=λw=>by kernel_rfl
theorem oB(w:World)(os:OsState):topGo ay I2 w 11 MS 12 ⟨zO w.params,Array.mk [],kr,mv,os⟩ (topStub I2)=some ((Wx w os 0 15 187).abs,⟨denote ay HM,HM,Hx,[iz Hx]⟩):=by kernel_rfl
theorem bA(w:World)(os:OsState):segRun ay I2 w 11 MS 1 1 (Wx w os 0 15 187).abs (blockOf Jx WX HM Hx [iz Hx])=some (.next,(Wx w os 0 15 187).abs,HM,Hx):=by kernel_rfl
theorem fL:Jx.drop 136=[]:=by kernel_rfl
theorem GD{w:World}{os:OsState}{N k n t:Nat}{q:Pos}{j u B t':Nat}{D:Pos}(h:Pc w os N k n t q j u B t' D)(e:k+j=u){M:Nat}{r:Shared}
  (x:sz ay I2 w 11 MS M (Wx w os u B t').abs (restOf (Jx.drop u) WX HM D [iz Hx])=some r):
  sz ay I2 w 11 MS (N+M) (Wx w os k n t).abs (restOf (Jx.drop k) WX HM q [iz Hx])=some r:=by
 have y:=piece_app (segRun_of h) x
 rw[←e,←qc,zR] at y
 exact y
theorem nQ(w:World)(os:OsState):sz ay I2 w 11 MS 2 (Wx w os 136 1182 1835).abs ⟨doneF .next,HM,⟨1018,0,1045,15⟩,[iz Hx]⟩=some (Wx w os 136 1182 1835).abs:=by kernel_rfl
theorem nO(w:World)(os:OsState):sz ay I2 w 11 MS (12+(1+(920+(1060+(1380+(1380+(730+(1090+(1000+(2)))))))))) ⟨zO w.params,Array.mk [],kr,mv,os⟩ (topStub I2)=some (Wx w os 136 1182 1835).abs:=
 go_top (oB w os) (piece_block (bA w os) (GD (tJ w os) rfl (GD (tU w os) rfl (GD (uK w os) rfl (GD (uM w os) rfl (GD (tY w os) rfl (GD (t8 w os) rfl (GD (uP w os) rfl (fL▸piece_nil (nQ w os))))))))))
noncomputable def hZ(P:wR):Heap:=absHeap (Rm P 136) 1182 {}
noncomputable def qL:Program:={I2 with main:={I2.main with body:=I2.main.body.drop 135}}
noncomputable def lsL:List Str:=(mI 135).es.map (·.1)
noncomputable def N3(w:World)(os:OsState):Shared:=⟨hZ w.params,#[],{},1835,os⟩
theorem sJ(w:World)(os:OsState):(Wx w os 136 1182 1835).abs=N3 w os:=rfl
theorem rO(w:World):staticsOk (cr I2.main.body) (zO w.params) (hZ w.params)=true:=by kernel_rfl
theorem iP(w:World):laidKept (zO w.params) (hZ w.params)=true:=by kernel_rfl
theorem jW(w:World)(os:OsState):gensDone (N3 w os)=true:=by kernel_rfl
theorem Zk(w:World):namesBound I2 (hZ w.params)=true:=by kernel_rfl
theorem uD(w:World)(os:OsState):seen ((recsOf qL).map (·.name)) (ownsOf qL) [] {N3 w os with gens:= #[]}=expectedOf qL:=by kernel_rfl
theorem uQ(w:World)(os:OsState):(N3 w os).heap.bltView=bltViewBooted:=by kernel_rfl
theorem rP(w:World)(os:OsState):(N3 w os).heap.keysOk (ta qL lsL) ((recsOf qL).map (·.name)) ((litsOf qL).map (·.1)) ((clssOf qL (ta qL lsL)).map (·.name))=true:=by kernel_rfl
theorem rM(w:World)(os:OsState):(N3 w os).heap.accountedOkI (cr I2.main.body)=true:=by kernel_rfl
theorem rW(w:World)(os:OsState):((N3 w os).heap.isNs mainGlobals&& (N3 w os).heap.isNs builtinsNs)=true:=by kernel_rfl
theorem rF(w:World)(os:OsState):tablesOk qL (N3 w os).heap=true:=by kernel_rfl
theorem uX(w:World)(os:OsState):tabsOk qL (N3 w os)=true:=by kernel_rfl
theorem uH(w:World)(os:OsState):pinSeenD qL (drecsOf qL) (N3 w os)=pinGoodD (drecsOf qL):=by kernel_rfl
theorem t5(w:World)(os:OsState):plainSeenE qL (ta qL lsL) (N3 w os)=plainGoodE qL (ta qL lsL):=by kernel_rfl
theorem tF(w:World)(os:OsState):plainSeenD qL lsL (N3 w os)=plainGoodD qL lsL:=by kernel_rfl
theorem tI(w:World)(os:OsState):wideSeen qL (N3 w os)=wideGood qL:=by kernel_rfl
theorem uG(w:World)(os:OsState):clsSeenW qL lsL (N3 w os)=clsGoodW qL lsL:=by kernel_rfl
theorem leftL:LeftO I2 qL lsL (λ_=>true) (λs=>s.heap) (λw=>hZ w.params) 15042 true:=
 LeftO.of_pieces (H₀:=zO) (H₁:=hZ) (gs₀:=Array.mk []) (gs₁:= #[]) (d₀:=kr) (d₁:={}) (k₀:=mv) (k₁:=1835) (m₀:=11) (ann:=MS)
  iR jZ (λw os=>nO w os) (by decide) (λw=>by
   funext os
   refine ll ?_ (ll ?_ rfl)
   ·show(staticsOk (cr I2.main.body) (zO w.params) (hZ w.params)&&namesBound I2 (hZ w.params)&&gensDone (N3 w os)&&laidKept (zO w.params) (hZ w.params))=true
    rw[rO,Zk,jW,iP]
    rfl
   ·show openSeen qL lsL (cr I2.main.body) (λ_=>true) true (N3 w os)=openGood qL lsL
    unfold openSeen openGood
    have h3:=Bool.and_eq_true_iff.mp (rW w os)
    rw[uD w os,uQ w os,rP w os,rM w os,h3.1,h3.2,rF w os,uX w os,uH w os,t5 w os,tF w os,tI w os,uG w os]
    rfl)
end Mine.Internal
namespace Mine.Internal
open PySem PySem.W PyProof.Rows
open PySem.W.Fast in
theorem said:PySem.Challenge.rw_nn0095_01.wellSaid=true:=by
 unfold OpenLaw.wellSaid OpenRow.wellSaid OpenRow.partSaid looksOpen
 repeat' (with_reducible refine look_both ?_ ?_)
 all_goals(try simp only[te2368527892694137696,te17119622794617984870,te8326940854005059898,te3471404346716756564,te18344453789297297638,te9807087744658564304,te12862048085361865435,te8377067652309620493,te4857012375875476094,te5318747976498570220,te13582783067957832011,te10501279942588096481,te8179353310426384613,te16286561074155671207,te797321630700447069,te10792542408131684335,te7723801398212525404,te9558739934217749035,te17095254045102204799,te12879404354523853263,te6984425678791042302,te11788848310118352699,te5923862056798008813,te12749700546528644094,te17691160309236699985,te13343964577679436407,PySem.W.R.filterR_eq,PySem.W.R.allR_eq,PySem.W.R.mapR_eq])
 all_goals as_aux_lemma=>kernel_rfl
end Mine.Internal
namespace Mine.Internal
open PySem
noncomputable abbrev nm(s:String):Str:=Str.ofString s
inductive AV where
 |none
 |bool (b:Bool)
 |int (i:Int)
 |str (s:Str)
 |tuple (l:List AV)
 |list (l:List AV)
 |obj (c:Str) (ks:List Str) (vs:List AV)
 |dict (ks:List Str) (vs:List AV)
 |ref (i:Nat)
 |mobj (c:Str) (i:Nat)
 |idict (ks:List Int) (vs:List AV)
set_option genCtorIdx false in
inductive AO where
 |list (l:List AV)
 |dict (es:List (Int×AV))
 |inst (c:Str) (ks:List Str) (vs:List AV)
noncomputable abbrev AH:=List AO
noncomputable abbrev AE:=List (Str×AV)
inductive I5 (α:Type) where
 |ok (a:α) (H:AH)
 |exc (c:Str) (H:AH)
noncomputable abbrev R(α:Type):=Option (I5 α)
noncomputable def R.bind{α β:Type}(x:R α)(f:α→AH→R β):R β:=match x with
 |some (.ok a H)=>f a H
 |some (.exc c H)=>some (.exc c H)
 |uZ=>uZ
noncomputable def R.bindN{α β:Type}(x:R α)(f:α→AH→R β):R β:=match x with
 |some (.ok a H)=>f a H
 |_=>uZ
noncomputable def rok{α:Type}(a:α)(H:AH):R α:=some (.ok a H)
noncomputable def rof{α:Type}(x:Option α)(H:AH):R α:=match x with
 |some a=>some (.ok a H)
 |uZ=>uZ
set_option genCtorIdx false in
inductive QR (V:Type) where
 |name (x:V)
 |names (xs:List V)
 |bad
noncomputable abbrev TN:=QR Str
inductive IK where
 |plain|range|enum
set_option genCtorIdx false in
inductive Bp (V:Type) where
 |stuck
 |lit (v:AV)
 |var (x:V)
 |glob (x:Str)
 |bin (op:Operator) (l r:Bp V)
 |un (op:UnaryOp) (x:Bp V)
 |bool (op:BoolOp) (vs:List (Bp V))
 |cmp (l:Bp V) (ops:List CmpOp) (rs:List (Bp V))
 |ite (t a b:Bp V)
 |call (f:Str) (as:List (Bp V))
 |meth (o:Bp V) (m:Str) (as:List (Bp V))
 |attr (o:Bp V) (a:Str)
 |sub (o i:Bp V)
 |slice (o lo hi:Bp V)
 |tuple (es:List (Bp V))
 |list (es:List (Bp V))
 |dict (ks:List Str) (vs:List Int)
 |comp (elt:Bp V) (t:QR V) (k:IK) (src:List (Bp V)) (ifs:List (Bp V)) (ls:List V)
noncomputable abbrev CE:=Bp Str
set_option genCtorIdx false in
inductive U3 (V:Type) where
 |name (x:V)
 |attr (o:Bp V) (a:Str)
 |sub (o i:Bp V)
 |bad
noncomputable abbrev AT:=U3 Str
set_option genCtorIdx false in
inductive ES (V:Type) where
 |stuck
 |pass
 |expr (e:Bp V)
 |ret (e:Bp V)
 |retnew (es:List (Bp V))
 |assign (t:U3 V) (e:Bp V)
 |assignT (ts:List (U3 V)) (e:Bp V)
 |assignR (ts:List (U3 V)) (e:Bp V)
 |ite (t:Bp V) (a b:List (ES V))
 |loop (t:QR V) (k:IK) (src:List (Bp V)) (body:List (ES V))
 |while (t:Bp V) (body:List (ES V))
 |raise (c s:Str)
 |tryRet (e:Bp V) (c:Str) (h:Bp V)
noncomputable abbrev CS:=ES Str
set_option genCtorIdx false in
inductive IS where
 |set (x:Str) (e:CE)
 |newlist (x:Str) (e:CE)
 |newdict (x:Str)
 |base (c:Str) (as:List CE)
 |stuck
mutual
noncomputable def DE:AV→Option iy
 |.none=>some .none
 |.bool b=>some (.bool b)
 |.int i=>some (.int i)
 |.str s=>some (.str s)
 |.tuple l=>(BA l).map .tuple
 |.list l=>(BA l).map .list
 |_=>uZ
noncomputable def BA:List AV→Option (List iy)
 | []=>some []
 |x::r=>match DE x,BA r with
  |some d,some ds=>some (d::ds)
  |_,_=>uZ
end
noncomputable def Ec(a b:AV):Option Bool:=match DE a,DE b with
 |some d,some e=>if wN d&&wN e then some (yT d e)else uZ
 |_,_=>uZ
noncomputable def PP(x:AV)(l:List AV):Option Bool:=match DE x,BA l with
 |some d,some ds=>if wN d&&wV ds then some (ds.any λy=>yT y d)else uZ
 |_,_=>uZ
noncomputable def ED:List AV→Option (List Str)
 | []=>some []
 |.str s::r=>(ED r).map (s:: ·)
 |_::_=>uZ
noncomputable def B6:List AV→Option (List Int)
 | []=>some []
 |.int s::r=>(B6 r).map (s:: ·)
 |_::_=>uZ
noncomputable def AQ:AV→Option Bool
 |.bool b=>some b
 |_=>uZ
noncomputable def DF(op:Operator)(a b:AV):Option AV:=match a,b with
 |.int x,.int y=>match op with
  |.Add=>some (.int (x+y))
  |.Sub=>some (.int (x-y))
  |.Mult=>if x.natAbs<2^64∨y.natAbs<2^64 then some (.int (x*y))else uZ
  |.FloorDiv=>if y≠0∧y.natAbs<2^300 then some (.int (x.fdiv y))else uZ
  |.Mod=>if y=0 then uZ else some (.int (x.fmod y))
  |.Pow=>if 0≤y∧y≤1000∧x.natAbs<2^64 then some (.int (x^y.toNat))else uZ
  |.LShift=>if 0≤y∧y≤1000∧x.natAbs<2^300 then some (.int (x*2^y.toNat))else uZ
  |.RShift=>if 0≤y then some (.int (x.fdiv (2^y.toNat)))else uZ
  |.BitAnd=>some (.int (vP x y))
  |.BitOr=>some (.int (vG x y))
  |.BitXor=>some (.int (qf x y))
  |_=>uZ
 |.str x,.str y=>match op with
  |.Add=>if x.length+y.length≤1000 then some (.str (x++y))else uZ
  |_=>uZ
 |.list x,.list y=>match op with
  |.Add=>if x.length+y.length≤1000000 then some (.list (x++y))else uZ
  |_=>uZ
 |.list x,.int n=>match op with
  |.Mult=>if x.length≤1∧0≤n∧n≤1000 then some (.list (yE (v9 n.toNat x)))else uZ
  |_=>uZ
 |_,_=>uZ
noncomputable def rT(op:UnaryOp)(a:AV):Option AV:=match op,a with
 |.USub,.int x=>some (.int (-x))
 |.Invert,.int x=>some (.int (xV x))
 |.Not,a=>(AQ a).map λb=>.bool !b
 |_,_=>uZ
noncomputable def Mh:AV→Bool
 |.none=>true
 |_=>false
noncomputable def YB(p:Int→Int→Bool)(a b:AV):Option Bool:=match a,b with
 |.int x,.int y=>some (p x y)
 |_,_=>uZ
noncomputable def rY(a b:AV):Option Bool:=match b with
 |.none=>some (Mh a)
 |_=>uZ
noncomputable def I8(a b:AV):Option Bool:=match b with
 |.list l=>PP a l
 |.tuple l=>PP a l
 |_=>uZ
noncomputable def cmpA(op:CmpOp)(a b:AV):Option Bool:=match op with
 |.Eq=>Ec a b
 |.NotEq=>(Ec a b).map (!·)
 |.Lt=>YB (λx y=>decide (x<y)) a b
 |.LtE=>YB (λx y=>decide (x≤y)) a b
 |.Gt=>YB (λx y=>decide (x>y)) a b
 |.GtE=>YB (λx y=>decide (x≥y)) a b
 |.Is=>rY a b
 |.IsNot=>(rY a b).map (!·)
 |.In=>I8 a b
 |.NotIn=>(I8 a b).map (!·)
noncomputable def C4(ks:List Str)(vs:List AV)(x:Str):Option AV:=(ks.zip vs).lookup x
noncomputable def Jc:List Str→List AV→Str→AV→Option (List AV)
 |k::ks,v::vs,x,w=>if k=x then some (w::vs)else(Jc ks vs x w).map (v:: ·)
 |_,_,_,_=>uZ
noncomputable def Ah(es:List (Int×AV))(k:Int):Option AV:=(es.find? λp=>p.1=k).map (·.2)
noncomputable def BN(es:List (Int×AV))(k:Int)(v:AV):List (Int×AV):=if es.any (λp=>p.1=k)then es.map (λp=>if p.1=k then(p.1,v)else p)else es++[(k,v)]
noncomputable def Bb(o i:AV)(H:AH):Option AV:=match o,i with
 |.list l,.int i=>if 0≤i∧i<2^60 then l[i.toNat]? else uZ
 |.tuple l,.int i=>if-(2^60)<i∧i<2^60 then(az i l.length).bind λj=>l[j]? else uZ
 |.str s,.int i=>if 0≤i∧i<2^60 then(s.cps[i.toNat]?).map λc=>.str ⟨#[c]⟩ else uZ
 |.dict ks vs,.str s=>C4 ks vs s
 |.idict ks vs,.int k=>Ah (ks.zip vs) k
 |.ref a,.int i=>match H[a]? with
  |some (.list l)=>if 0≤i∧i<2^60 then l[i.toNat]? else uZ
  |some (.dict es)=>Ah es i
  |_=>uZ
 |_,_=>uZ
noncomputable def XQ:AV→Option (Option Int)
 |.none=>some uZ
 |.int i=>some (some i)
 |_=>uZ
noncomputable def bT(l:List AV)(a b:Option Int):List AV:=(l.drop (a.elim 0 (dk l.length))).take (b.elim l.length (dk l.length)-a.elim 0 (dk l.length))
noncomputable def B9(o lo hi:AV):Option AV:=match XQ lo,XQ hi with
 |some a,some b=>match o with
  |.list l=>if l.length≤1000000 then some (.list (bT l a b))else uZ
  |.tuple l=>match a,b with
   |some i,uZ=>if 1≤i∧i≤l.length∧l.length≤1000000 then some (.tuple (l.drop i.toNat))else uZ
   |_,_=>uZ
  |.str s=>if s.length≤1000000 then some (.str (bb s a b))else uZ
  |_=>uZ
 |_,_=>uZ
noncomputable def Aj(o:AV)(x:Str)(H:AH):Option AV:=match o with
 |.obj _ ks vs=>C4 ks vs x
 |.mobj c i=>match H[i]? with
  |some (.inst e ks vs)=>if e=c then C4 ks vs x else uZ
  |_=>uZ
 |_=>uZ
noncomputable def BH(o:AV)(x:Str)(v:AV)(H:AH):Option AH:=match o with
 |.mobj c i=>match H[i]? with
  |some (.inst e ks vs)=>if e=c∧ks.length≤1000 then(Jc ks vs x v).map λvs'=>H.set i (.inst e ks vs')else uZ
  |_=>uZ
 |_=>uZ
noncomputable def A0(o i v:AV)(H:AH):Option AH:=match o,i with
 |.ref a,.int k=>match H[a]? with
  |some (.list l)=>if 0≤k∧k<l.length∧l.length≤1000000 then some (H.set a (.list (l.set k.toNat v)))else uZ
  |some (.dict es)=>if es.length≤1000000 then some (H.set a (.dict (BN es k v)))else uZ
  |_=>uZ
 |_,_=>uZ
noncomputable def BF(k:IK)(vs:List AV)(H:AH):Option (List AV):=match k,vs with
 |.range,[.int n]=>if 0≤n∧n≤1000000 then some ((wD n.toNat).map λ(i:Nat)=>.int (i:Int))else uZ
 |.range,[.int a,.int b]=>if a.natAbs≤1000000∧b.natAbs≤1000000 then some ((wD (b-a).toNat).map λ(i:Nat)=>.int (a+(i:Int)))else uZ
 |.enum,[.list l]=>if l.length≤1000000 then some (l.zipIdx.map λp=>.tuple [.int (p.2:Int),p.1])else uZ
 |.enum,[.tuple l]=>if l.length≤1000000 then some (l.zipIdx.map λp=>.tuple [.int (p.2:Int),p.1])else uZ
 |.plain,[.list l]=>if l.length≤1000000 then some l else uZ
 |.plain,[.tuple l]=>if l.length≤1000000 then some l else uZ
 |.plain,[.idict ks _]=>if ks.length≤1000000 then some (ks.map .int)else uZ
 |_,_=>uZ
noncomputable def BL(t:TN)(v:AV)(ρ:AE):Option AE:=match t,v with
 |.name x,v=>some ((x,v)::ρ)
 |.names xs,.tuple l=>if xs.length=l.length then some ((xs.zip l).reverse++ρ)else uZ
 |_,_=>uZ
structure Ctx where
 glob:Str→Option AV
 meth:Str→Str→Option Str
 call:Str→List AV→AH→R AV
noncomputable def E8(o:AV)(H:AH):Bool:=match o with
 |.mobj c i=>match H[i]? with
  |some (.inst e _ _)=>e==c
  |_=>false
 |.ref i=>match H[i]? with
  |some (.dict _)=>true
  |_=>false
 |_=>true
noncomputable def Gb(Γ:Ctx)(o:AV)(m:Str)(as:List AV)(H:AH):R AV:=match o with
 |.obj c _ _=>match Γ.meth c m with
  |some f=>Γ.call f (o::as) H
  |uZ=>uZ
 |.mobj c _=>match Γ.meth c m with
  |some f=>Γ.call f (o::as) H
  |uZ=>uZ
 |.str s=>match as with
  | []=>if m=nm "split" then(if s.length≤1000∧(yP s (s.length+1)).length≤1000 then rok (.list ((wC s).map .str)) H else uZ)else uZ
  | [.str t]=>
   if m=nm "split" then(if s.length≤1000∧t.length≠0∧(ez s (bc s t 0 s.length (s.length+1)) t.length).length≤1000 then rok (.list ((ju s t).map .str)) H else uZ)
   else if m=nm "startswith" then rok (.bool (jk s t)) H
   else if m=nm "find" then(if s.length≤1000 then rok (.int (Txt.find s t)) H else uZ)else uZ
  |_=>uZ
 |.list l=>match as with
  | [.str k]=>if m=nm "index" then(match ED l with
   |some ss=>if l.length≤1000∧k∈ss then rok (.int (ss.idxOf k:Nat)) H else uZ
   |uZ=>uZ)else uZ
  |_=>uZ
 |.ref a=>match H[a]?,as with
  |some (.dict es),[.int k,d]=>if m=nm "get" then rok ((Ah es k).getD d) H else uZ
  |_,_=>uZ
 |_=>uZ
noncomputable def Cs(ls:List Str)(ρ:AE):AE:=ρ.filter λp=>!ls.contains p.1
noncomputable def compLoop(e:AE→AH→R Bool)(elt:AE→AH→R AV)(t:TN)(ρ:AE):List AV→AH→R (List AV)
 | [],H=>rok [] H
 |x::xs,H=>match BL t x ρ with
  |uZ=>uZ
  |some ρ'=>(e ρ' H).bindN λb H=>match b with
   |true=>(elt ρ' H).bindN λv H=>(compLoop e elt t ρ xs H).bindN λvs H=>rok (v::vs) H
   |false=>compLoop e elt t ρ xs H
mutual
noncomputable def AF(Γ:Ctx):CE→AE→AH→R AV
 |.stuck,_,_=>uZ
 |.lit v,_,H=>rok v H
 |.var x,ρ,H=>rof (ρ.lookup x) H
 |.glob x,_,H=>rof (Γ.glob x) H
 |.bin op l r,ρ,H=>(AF Γ l ρ H).bind λa H=>(AF Γ r ρ H).bind λb H=>rof (DF op a b) H
 |.un op x,ρ,H=>(AF Γ x ρ H).bind λa H=>rof (rT op a) H
 |.bool op vs,ρ,H=>Gl Γ op vs ρ H
 |.cmp l ops rs,ρ,H=>(AF Γ l ρ H).bind λa H=>EX Γ a ops rs ρ H
 |.ite t a b,ρ,H=>(AF Γ t ρ H).bind λv H=>match AQ v with
  |some true=>AF Γ a ρ H
  |some false=>AF Γ b ρ H
  |uZ=>uZ
 |.call f as,ρ,H=>(A1 Γ as ρ H).bindN λvs H=>Γ.call f vs H
 |.meth o m as,ρ,H=>(AF Γ o ρ H).bindN λe H=>if E8 e H then(A1 Γ as ρ H).bindN λvs H=>Gb Γ e m vs H else uZ
 |.attr o x,ρ,H=>(AF Γ o ρ H).bind λe H=>rof (Aj e x H) H
 |.sub o i,ρ,H=>(AF Γ o ρ H).bind λe H=>(AF Γ i ρ H).bind λiv H=>rof (Bb e iv H) H
 |.slice o lo hi,ρ,H=>(AF Γ o ρ H).bind λe H=>(AF Γ lo ρ H).bind λl H=>(AF Γ hi ρ H).bind λh H=>rof (B9 e l h) H
 |.tuple es,ρ,H=>(A1 Γ es ρ H).bind λvs H=>rok (.tuple vs) H
 |.list es,ρ,H=>(A1 Γ es ρ H).bind λvs H=>rok (.list vs) H
 |.dict ks vs,_,H=>rok (.dict ks (vs.map .int)) H
 |.comp elt t k src ifs ls,ρ,H=>(A1 Γ src ρ H).bindN λvs H=>match BF k vs H with
  |uZ=>uZ
  |some items=>(compLoop (λρ H=>DI Γ ifs ρ H) (λρ H=>AF Γ elt ρ H) t (Cs ls ρ) items H).bindN λl H=>if l.length≤1000000 then rok (.list l) H else uZ
noncomputable def A1(Γ:Ctx):List CE→AE→AH→R (List AV)
 | [],_,H=>rok [] H
 |e::r,ρ,H=>(AF Γ e ρ H).bind λv H=>(A1 Γ r ρ H).bind λvs H=>rok (v::vs) H
noncomputable def Gl(Γ:Ctx)(op:BoolOp):List CE→AE→AH→R AV
 | [],_,_=>uZ
 |e::r,ρ,H=>(AF Γ e ρ H).bind λv H=>match r with
  | []=>rok v H
  |_::_=>match op,AQ v with
   |.And,some false=>rok v H
   |.Or,some true=>rok v H
   |_,some _=>Gl Γ op r ρ H
   |_,uZ=>uZ
noncomputable def EX(Γ:Ctx)(a:AV):List CmpOp→List CE→AE→AH→R AV
 |op::ops,e::r,ρ,H=>(AF Γ e ρ H).bind λb H=>match cmpA op a b with
  |uZ=>uZ
  |some c=>match ops,r,c with
   | [],[],c=>rok (.bool c) H
   |_::_,_::_,false=>rok (.bool false) H
   |_::_,_::_,true=>EX Γ b ops r ρ H
   |_,_,_=>uZ
 |_,_,_,_=>uZ
noncomputable def DI(Γ:Ctx):List CE→AE→AH→R Bool
 | [],_,H=>rok true H
 |e::r,ρ,H=>(AF Γ e ρ H).bind λv H=>match AQ v with
  |some true=>DI Γ r ρ H
  |some false=>rok false H
  |uZ=>uZ
end
inductive Fl where
 |next
 |ret (v:AV)
noncomputable def Ct(body:AE→AH→R (Fl×AE))(t:TN):List AV→AE→AH→R (Fl×AE)
 | [],ρ,H=>rok (.next,ρ) H
 |x::xs,ρ,H=>match BL t x ρ with
  |uZ=>uZ
  |some ρ'=>(body ρ' H).bindN λp H=>match p.1 with
   |.next=>Ct body t xs p.2 H
   |.ret v=>rok (.ret v,p.2) H
noncomputable def DV(e:AE→AH→R AV)(body:AE→AH→R (Fl×AE)):Nat→AE→AH→R (Fl×AE)
 |0,_,_=>uZ
 |n+1,ρ,H=>(e ρ H).bindN λv H=>match AQ v with
  |some true=>(body ρ H).bindN λp H=>match p.1 with
   |.next=>DV e body n p.2 H
   |.ret v=>rok (.ret v,p.2) H
  |some false=>rok (.next,ρ) H
  |uZ=>uZ
noncomputable def EJ(Γ:Ctx)(t:AT)(v:AV)(ρ:AE)(H:AH):R AE:=match t with
 |.name x=>rok ((x,v)::ρ) H
 |.attr o x=>(AF Γ o ρ H).bind λe H=>match BH e x v H with
  |some H'=>rok ρ H'
  |uZ=>uZ
 |.sub o i=>(AF Γ o ρ H).bind λe H=>(AF Γ i ρ H).bind λiv H=>match A0 e iv v H with
  |some H'=>rok ρ H'
  |uZ=>uZ
 |.bad=>uZ
noncomputable def assignAll(Γ:Ctx):List AT→List AV→AE→AH→R AE
 | [],[],ρ,H=>rok ρ H
 |t::ts,v::vs,ρ,H=>(EJ Γ t v ρ H).bind λρ H=>assignAll Γ ts vs ρ H
 |_,_,_,_=>uZ
mutual
noncomputable def Di(Γ:Ctx):CS→AE→AH→R (Fl×AE)
 |.stuck,_,_=>uZ
 |.pass,ρ,H=>rok (.next,ρ) H
 |.expr e,ρ,H=>(AF Γ e ρ H).bind λ_ H=>rok (.next,ρ) H
 |.ret e,ρ,H=>(AF Γ e ρ H).bind λv H=>rok (.ret v,ρ) H
 |.retnew es,ρ,H=>(A1 Γ es ρ H).bind λvs H=>rok (.ret (.ref H.length),ρ) (H++[.list vs])
 |.assign t e,ρ,H=>(AF Γ e ρ H).bind λv H=>(EJ Γ t v ρ H).bind λρ H=>rok (.next,ρ) H
 |.assignT ts e,ρ,H=>(AF Γ e ρ H).bind λv H=>match v with
  |.tuple vs=>if ts.length=vs.length then(assignAll Γ ts vs ρ H).bind λρ H=>rok (.next,ρ) H else uZ
  |_=>uZ
 |.assignR ts e,ρ,H=>(AF Γ e ρ H).bind λv H=>match v with
  |.tuple vs=>if ts.length=vs.length then(assignAll Γ ts.reverse vs.reverse ρ H).bind λρ H=>rok (.next,ρ) H else uZ
  |_=>uZ
 |.ite t a b,ρ,H=>(AF Γ t ρ H).bind λv H=>match AQ v with
  |some true=>execs Γ a ρ H
  |some false=>execs Γ b ρ H
  |uZ=>uZ
 |.loop t k src body,ρ,H=>(A1 Γ src ρ H).bindN λvs H=>match BF k vs H with
  |uZ=>uZ
  |some items=>Ct (λρ H=>execs Γ body ρ H) t items ρ H
 |.while t body,ρ,H=>DV (λρ H=>AF Γ t ρ H) (λρ H=>execs Γ body ρ H) 200 ρ H
 |.raise c _,_,H=>some (.exc c H)
 |.tryRet e c h,ρ,H=>match AF Γ e ρ H with
  |some (.ok v H)=>rok (.ret v,ρ) H
  |some (.exc u H)=>if u=c then(AF Γ h ρ H).bind λv H=>rok (.ret v,ρ) H else uZ
  |uZ=>uZ
noncomputable def execs(Γ:Ctx):List CS→AE→AH→R (Fl×AE)
 | [],ρ,H=>rok (.next,ρ) H
 |s::r,ρ,H=>(Di Γ s ρ H).bind λp H=>match p.1 with
  |.next=>execs Γ r p.2 H
  |.ret v=>rok (.ret v,p.2) H
end
structure FD where
 ps:List Str
 ds:List AV
 body:List CS
structure CD where
 ps:List Str
 ds:List AV
 body:List IS
 keeps:Bool
 flds:List Str
noncomputable def Bf(ps:List Str)(ds:List AV)(vs:List AV):Option AE:=
 if vs.length≤ps.length∧ps.length≤vs.length+ds.length then some ((ps.zip (vs++ds.drop (vs.length+ds.length-ps.length))).reverse)else uZ
noncomputable def GY(Γ:Ctx)(d:FD)(vs:List AV)(H:AH):R AV:=match Bf d.ps d.ds vs with
 |uZ=>uZ
 |some ρ=>(execs Γ d.body ρ H).bind λp H=>match p.1 with
  |.next=>rok .none H
  |.ret v=>rok v H
noncomputable abbrev BC:=List Str×List AV
noncomputable def Ih(f:BC)(x:Str)(v:AV):Option BC:=if x∈f.1∨900<f.1.length then uZ else some (f.1++[x],f.2++[v])
noncomputable def CR(Γ:Ctx)(sup:Str→List AV→BC→AH→R BC):List IS→AE→BC→AH→R BC
 | [],_,f,H=>rok f H
 |s::r,ρ,f,H=>R.bindN (match s with
  |.set x e=>(AF Γ e ρ H).bindN λv H=>rof (Ih f x v) H
  |.newlist x e=>(AF Γ e ρ H).bindN λv H=>match v with
   |.list l=>rof (Ih f x (.ref H.length)) (H++[.list l])
   |_=>uZ
  |.newdict x=>rof (Ih f x (.ref H.length)) (H++[.dict []])
  |.base c as=>(A1 Γ as ρ H).bindN λvs H=>sup c vs f H
  |.stuck=>uZ) λf H=>CR Γ sup r ρ f H
noncomputable def B7(f:Str)(vs:List AV)(H:AH):R AV:=match vs with
 | [.int i]=>
  if f=nm "int" then rok (.int i) H
  else if f=nm "abs" then rok (.int (if i<0 then-i else i)) H
  else if f=nm "str" then(if i.natAbs<2^64 then rok (.str (nm (toString i))) H else uZ)
  else uZ
 | [.bool b]=>if f=nm "int" then rok (.int (if b then 1 else 0)) H else uZ
 | [.str s]=>if f=nm "len" then(if s.length≤1000000 then rok (.int s.length) H else uZ)else uZ
 | [.list l]=>
  if f=nm "len" then(if l.length≤1000000 then rok (.int l.length) H else uZ)
  else if f=nm "tuple" then(if l.length≤1000000 then rok (.tuple l) H else uZ)
  else if f=nm "list" then(if l.length≤1000000 then rok (.list l) H else uZ)
  else if f=nm "sum" then(match l with
   | []=>rok (.int 0) H
   | [.int i]=>rok (.int i) H
   |_=>uZ)
  else uZ
 | [.tuple l]=>
  if f=nm "len" then(if l.length≤1000000 then rok (.int l.length) H else uZ)
  else if f=nm "list" then(if l.length≤1000000 then rok (.list l) H else uZ)
  else uZ
 | [.ref a]=>match H[a]? with
  |some (.list l)=>if f=nm "tuple" then(if l.length≤1000000 then rok (.tuple l) H else uZ)else uZ
  |_=>uZ
 |_=>uZ
noncomputable def J2(sc:Scope)(x:Str):Bool:=match sc.names.lookup x with
 |some .local=>true
 |some .cell=>true
 |some .free=>true
 |_=>false
noncomputable def Ak(sc:Scope)(x:Str):Bool:=match sc.names.lookup x with
 |some .globalImplicit=>true
 |_=>false
noncomputable def o4:Const→CE
 |.none=>.lit .none
 |.bool b=>.lit (.bool b)
 |.int i=>.lit (.int i)
 |.str s=>.lit (.str s)
 |_=>.stuck
noncomputable def Av:Str:=nm "MachineError"
noncomputable def EM(sc:Scope)(x:Str):Bool:=match sc.names.lookup x with
 |some .local=>true
 |some .cell=>x !=nm "__classdict__"
 |_=>false
noncomputable def BX(ok:Str→Bool):List Expr→Option (List Str)
 | []=>some []
 |.Name x _::r=>if ok x then(BX ok r).map (x:: ·)else uZ
 |_::_=>uZ
noncomputable def DG(ok:Str→Bool):Expr→TN
 |.Name x _=>if ok x then .name x else .bad
 |.Tuple es _ _=>match BX ok es with
  |some xs=>.names xs
  |uZ=>.bad
 |_=>.bad
noncomputable def B3(sc:Scope)(x:Str):Bool:=sc.names.lookup x==some .local
noncomputable def D6(sc:Scope):List Str:=(sc.names.filter λp=>p.2== .local).map (·.1)
noncomputable def RP(sc sc':Scope):Bool:=sc'.kind== .function&&sc'.names.all λp=>p.2 !=.cell&& (p.2 !=.local||sc'.names.lookup p.1==some .local)&& (p.2 !=.free||(sc.names.lookup p.1==some .cell&&p.1 !=nm "__classdict__"))
noncomputable def FA:List Expr→Option (List Int)
 | []=>some []
 |.Constant (.int i) _ _::r=>(FA r).map (i:: ·)
 |_::_=>uZ
noncomputable def Bm:List (Option Expr)→Option (List Str)
 | []=>some []
 |some (.Constant (.str s) _ _)::r=>(Bm r).map (s:: ·)
 |_::_=>uZ
noncomputable def mK(ks:List (Option Expr))(vs:List Expr):CE:=match Bm ks,FA vs with
 |some ks,some is=>if ks≠[]∧ks.Nodup∧ks.length=is.length∧ks.length≤15 then .dict ks is else .stuck
 |_,_=>.stuck
noncomputable def GR:Expr→Bool
 |.Call (.Name id _) [] [] _=>id !=nm "super"
 |_=>true
noncomputable def B1(sc:Scope):Expr→IK
 |.Call (.Name f _) _ [] _=>if Ak sc f&&f==nm "range" then .range else if Ak sc f&&f==nm "enumerate" then .enum else .plain
 |_=>.plain
noncomputable def NW(f:Str):Bool:=f.cps.toList.all λc=>c !=46
noncomputable def N0(ok:Str→Bool)(t:Expr)(k:IK):Bool:=match t,k with
 |.Name x _,.plain=>ok x
 |.Name x _,.range=>ok x
 |.Tuple ..,.enum=>true
 |_,_=>false
noncomputable def lV(sc:Scope)(e:Expr)(c:CE)(as:List CE):List CE:=match e with
 |.Call (.Name f p) as' [] q=>match B1 sc (.Call (.Name f p) as' [] q)with
  |.plain=>[c]
  |_=>as
 |_=>[c]
mutual
noncomputable def cE(sc:Scope):Expr→CE
 |.Constant c _ _=>o4 c
 |.Name x _=>if x==nm "__debug__" then .stuck else if J2 sc x then .var x else if Ak sc x then .glob x else .stuck
 |.BinOp l op r _=>.bin op (cE sc l) (cE sc r)
 |.UnaryOp op x _=>.un op (cE sc x)
 |.BoolOp op vs _=>.bool op (DB sc vs)
 |.Compare l ops rs _=>if ops.length==rs.length then .cmp (cE sc l) ops (DB sc rs)else .stuck
 |.IfExp t a b _=>.ite (cE sc t) (cE sc a) (cE sc b)
 |.Call (.Name f _) as [] _=>if f==nm "__debug__" then .stuck else if Ak sc f&&NW f&&as.length<20 then .call f (DB sc as)else .stuck
 |.Call (.Attribute o m ap) as [] q=>if GR o&&decide (as.length<20)&&ap.endLine==q.line then .meth (cE sc o) m (DB sc as)else .stuck
 |.Attribute o a _=>if GR o then .attr (cE sc o) a else .stuck
 |.Subscript o (.Slice lo hi uZ _) _=>.slice (cE sc o) (cO sc lo) (cO sc hi)
 |.Subscript o i _=>.sub (cE sc o) (cE sc i)
 |.Tuple es _ _=>if es.length≤1000 then .tuple (DB sc es)else .stuck
 |.List es _=>if es.length≤1000 then .list (DB sc es)else .stuck
 |.Dict ks vs _=>mK ks vs
 |.ListComp elt [⟨t,it,ifs,a⟩] sc' _=>if a==0&&RP sc sc'&&N0 (B3 sc') t (B1 sc it)then .comp (cE sc' elt) (DG (B3 sc') t) (B1 sc it) (lV sc it (cE sc it) (cA sc it)) (DB sc' ifs) (D6 sc')else .stuck
 |_=>.stuck
noncomputable def cA(sc:Scope):Expr→List CE
 |.Call (.Name _ _) as [] _=>DB sc as
 |_=>[]
noncomputable def cO(sc:Scope):Option Expr→CE
 |uZ=>.lit .none
 |some e=>cE sc e
noncomputable def DB(sc:Scope):List Expr→List CE
 | []=>[]
 |e::r=>cE sc e::DB sc r
end
noncomputable def cI(sc:Scope)(e:Expr):List CE:=lV sc e (cE sc e) (cA sc e)
noncomputable def FX(sc:Scope):Expr→AT
 |.Name x _=>if EM sc x then .name x else .bad
 |.Attribute o a _=>if GR o then .attr (cE sc o) a else .bad
 |.Subscript o i _=>match i with
  |.Slice .. =>.bad
  |i=>.sub (cE sc o) (cE sc i)
 |_=>.bad
set_option backward.match.sparseCases true in
noncomputable def Xy(sc:Scope)(ts vs:List Expr):Option Bool:=
 if !(ts.length==2||ts.length==3)||vs.length !=ts.length then some false
 else if vs.any (λ |.Starred .. =>true|_=>false)then uZ
 else
  let line:=(ts.head?.map (·.pos.line)).getD 0
  let names:=ts.filterMap λ
   |.Name id pos=>if sc.names.lookup id==some .local&&pos.line==line then some id else uZ
   |_=>uZ
  if names.length !=ts.length||names.eraseDups.length !=names.length then some false
  else if vs.all (qo 8)then some false
  else if vs.all (qb 8)then uZ
  else some true
set_option backward.match.sparseCases true in
noncomputable def SA(sc:Scope)(ts:List Expr):Expr→Option Bool
 |.Tuple vs _ _=>Xy sc ts vs
 |_=>some false
noncomputable def noStar:Expr→Bool
 |.Starred .. =>false
 |_=>true
noncomputable def mP(o:Option Bool)(ts:List AT)(e:CE):CS:=match o with
 |some false=>.assignT ts e
 |some true=>.assignR ts e
 |uZ=>.stuck
mutual
noncomputable def cS(sc:Scope)(newlist:Bool):Stmt→CS
 |.Pass _=>.pass
 |.Expr e _=>match e with
  |.ListComp .. =>.stuck
  |.SetComp .. =>.stuck
  |.DictComp .. =>.stuck
  |e=>.expr (cE sc e)
 |.Return (some (.List es p)) _=>if newlist then(if es.length≤1000 then .retnew (DB sc es)else .stuck)else .ret (cE sc (.List es p))
 |.Return (some e) _=>.ret (cE sc e)
 |.Return uZ _=>.ret (.lit .none)
 |.Assign [.Tuple ts _ _] e _=>if ts.all noStar then mP (SA sc ts e) (ts.map (FX sc)) (cE sc e)else .stuck
 |.Assign [t] e _=>.assign (FX sc t) (cE sc e)
 |.If t a b _=>.ite (cE sc t) (LZ sc newlist a) (LZ sc newlist b)
 |.For t u body [] _=>if N0 (EM sc) t (B1 sc u)==false then .stuck else .loop (DG (EM sc) t) (B1 sc u) (cI sc u) (LZ sc newlist body)
 |.While t body [] _=>.while (cE sc t) (LZ sc newlist body)
 |.Raise (some (.Call (.Name c _) [.Constant (.str s) _ _] [] _)) uZ _=>if Ak sc c&&c==Av then .raise c s else .stuck
 |_=>.stuck
noncomputable def LZ(sc:Scope)(newlist:Bool):List Stmt→List CS
 | []=>[]
 |s::r=>cS sc newlist s::LZ sc newlist r
end
noncomputable def cB(sc:Scope)(newlist:Bool):List Stmt→List CS
 | [.Try [.Return (some e) _] [.ExceptHandler (some (.Name c _)) uZ [.Return (some (.Constant (.str h) _ _)) _] _] [] [] _]=>if Ak sc c&&c==Av then [.tryRet (cE sc e) c (.lit (.str h))] else [.stuck]
 |b=>LZ sc newlist b
noncomputable def AD:Str:=nm "self"
noncomputable def gL(sc:Scope)(x:Str):Expr→IS
 |.BinOp (.List es p) .Mult r q=>.newlist x (.bin .Mult (cE sc (.List es p)) (cE sc r))
 |.Dict [] [] _=>.newdict x
 |.ListComp .. =>.stuck
 |.SetComp .. =>.stuck
 |.DictComp .. =>.stuck
 |e=>.set x (cE sc e)
noncomputable def WU(sc:Scope):Stmt→IS
 |.Assign [.Attribute (.Name s _) x _] e _=>if s==AD&&B3 sc s then gL sc x e else .stuck
 |.Expr (.Call (.Attribute (.Name c _) i ap) (.Name s _::as) [] q) _=>if s==AD&&B3 sc s&&i==nm "__init__"&&Ak sc c&&!(c==nm "__debug__")&&as.length<18&&ap.endLine==q.line then .base c (DB sc as)else .stuck
 |_=>.stuck
noncomputable def RJ(x:Int):List Int→List Int
 | []=>[x]
 |y::r=>if x≤y then x::y::r else y::RJ x r
noncomputable def Fi:List Int→List Int
 | []=>[]
 |x::r=>RJ x (Fi r)
noncomputable def KV(x y:Int×Int):Bool:=x.1<y.1||(x.1==y.1&&x.2≤y.2)
noncomputable def It(x:Int×Int):List (Int×Int)→List (Int×Int)
 | []=>[x]
 |y::r=>if KV x y then x::y::r else y::It x r
noncomputable def A3:List (Int×Int)→List (Int×Int)
 | []=>[]
 |x::r=>It x (A3 r)
noncomputable def D8:List AV→Option (List (Int×Int))
 | []=>some []
 |.tuple [.int a,.int b]::r=>(D8 r).map ((a,b):: ·)
 |_::_=>uZ
noncomputable def Sh(l:List AV):Option (List AV):=if l.length<64 then match B6 l with
  |some xs=>some ((Fi xs).map .int)
  |uZ=>uZ
 else uZ
noncomputable def CT(es:List (Int×AV)):Option (List (Int×Int)):=match B6 (es.map (·.2))with
 |some vs=>
  let ps:=((es.map (·.1)).zip vs).filter λp=>p.2≠0
  if ps.length<64∧es.length≤1000000 then some ps else uZ
 |uZ=>uZ
noncomputable def Ef:Str:=nm "held"
noncomputable def JD(vs:List AV)(H:AH):R AV:=match vs with
 | [.obj _ [k] [.ref a]]=>if k=Ef then(match H[a]? with
   |some (.dict es)=>rof ((CT es).map λps=>.list ((A3 ps).map λp=>.tuple [.int p.1,.int p.2])) H
   |_=>uZ)else uZ
 |_=>uZ
structure Pr where
 fn:Str→Option FD
 cls:Str→Option CD
 sup:Str→Option CD
 glob:Str→Option AV
 meth:Str→Str→Option Str
noncomputable def fQ(T:Pr):Ctx:=⟨T.glob,λ_ _=>uZ,λ_ _ _=>uZ⟩
noncomputable def Mj(T:Pr)(c:Str)(vs:List AV)(f:BC)(H:AH):R BC:=match T.sup c with
 |some d=>match Bf d.ps d.ds vs with
  |some ρ=>CR (fQ T) (λ_ _ _ _=>uZ) d.body ρ f H
  |uZ=>uZ
 |uZ=>uZ
noncomputable def Ej(T:Pr)(Γ:Ctx)(c:Str)(d:CD)(vs:List AV)(H:AH):R AV:=match Bf d.ps d.ds vs with
 |uZ=>uZ
 |some ρ=>(CR Γ (Mj T) d.body ρ ([],[]) H).bindN λf H=>
  if f.1=d.flds then(if d.keeps then rok (.mobj c H.length) (H++[.inst c f.1 f.2])else rok (.obj c f.1 f.2) H)else uZ
noncomputable def AB(T:Pr):Nat→Str→List AV→AH→R AV
 |0,_,_,_=>uZ
 |n+1,f,vs,H=>if f=nm "Memory.written" then JD vs H else match T.fn f with
  |some d=>GY ⟨T.glob,T.meth,AB T n⟩ d vs H
  |uZ=>match T.cls f with
   |some d=>Ej T ⟨T.glob,T.meth,AB T n⟩ f d vs H
   |uZ=>if f=nm "sorted" then(match vs with
     | [.list l]=>rof ((Sh l).map .list) H
     |_=>uZ)else B7 f vs H
noncomputable def I7(c m:Str):Str:=c++nm "."++m
open PySem
theorem Dw{x y:Int×Int}{r:List (Int×Int)}:It x (y::r)=if KV x y then x::y::r else y::It x r:=rfl
theorem Lw(x:Int×Int)(l:List (Int×Int)):(It x l).Perm (x::l):=by
 induction l with
 |nil=>exact .refl _
 |cons y r e=>
  rw[Dw]
  by_cases h:KV x y=true
  ·rw[if_pos h]
  ·rw[if_neg h];exact(e.cons y).trans (.swap x y r)
theorem P1(l:List (Int×Int)):(A3 l).Perm l:=by
 induction l with
 |nil=>exact .refl _
 |cons x r e=>exact(Lw x _).trans (e.cons x)
theorem JA{x y:Int×Int}:KV x y=true↔x.1<y.1∨(x.1=y.1∧x.2≤y.2):=by
 show(decide (x.1<y.1)||(x.1==y.1&&decide (x.2≤y.2)))=true↔_
 rw[xP,v7,decide_eq_true_eq,beq_iff_eq,decide_eq_true_eq]
theorem UR{x y:Int×Int}(h: ¬KV x y=true):KV y x=true:=by
 rw[JA] at h⊢
 rcases Int.lt_trichotomy x.1 y.1 with q|q|q
 ·exact absurd (.inl q) h
 ·exact .inr ⟨q.symm,vU (Int.not_le.mp λz=>h (.inr ⟨q,z⟩))⟩
 ·exact .inl q
theorem LU{x y z:Int×Int}(h:KV x y=true)(h':KV y z=true):KV x z=true:=by
 rw[JA] at h h'⊢
 rcases h with h|⟨h,k⟩
 ·exact .inl (h'.elim (w5 h) λq=>q.1▸h)
 ·exact h'.imp (λq=>h▸q) λq=>⟨h.trans q.1,u9 k q.2⟩
theorem OO(x:Int×Int){l:List (Int×Int)}(h:l.Pairwise (λa b=>KV a b=true)):(It x l).Pairwise (λa b=>KV a b=true):=by
 induction l with
 |nil=>exact gi _ _
 |cons y r D=>
  have h':=List.pairwise_cons.mp h
  rw[Dw]
  by_cases u:KV x y=true
  ·rw[if_pos u]
   exact List.pairwise_cons.mpr ⟨λz B=>(List.mem_cons.mp B).elim (λe=>e▸u) λB=>LU u (h'.1 z B),h⟩
  ·rw[if_neg u]
   exact List.pairwise_cons.mpr ⟨λz B=>(List.mem_cons.mp ((Lw x r).mem_iff.mp B)).elim (λe=>e▸UR u) (h'.1 z),D h'.2⟩
theorem HR(l:List (Int×Int)):(A3 l).Pairwise (λa b=>KV a b=true):=by
 induction l with
 |nil=>exact .nil
 |cons x r e=>exact OO x e
end Mine.Internal
namespace Mine.Internal
open PySem PySem.W PyProof.Rows
structure Wd where
 s:Shared
 N:Addr→Prop
 β:List Addr
noncomputable def Wd.h(W:Wd):Heap:=W.s.heap
noncomputable def Wd.fz(W:Wd)(a:Addr)(o:Obj):Prop:=W.h.get? a=some o∧¬W.N a
structure Cx where
 prog:Program
 w:World
 base:Heap
 gens:Array GenState
 os:OsState
 cls:Str→Option Addr
 exc:Str→Option Addr
 K:Frag
 mg:Str→Option Value
 mb:Str→Option Value
noncomputable def An(P:wR):List Str→List Value→List DictEntry→Prop
 | [],[],[]=>True
 |k::ks,v::vs,e::es=>(∃t,e.key=.str k t)∧e.hash=wI P k∧e.val=v∧An P ks vs es
 |_,_,_=>False
noncomputable abbrev CK(es:List DictEntry)(n:Nat)(sl:Array (Option Value)):Obj:={cls:=.type "dict",data:=.dict es.toArray n,slots:=sl}
noncomputable abbrev A7(t:String)(vs:List Value)(n:Nat):Obj:=⟨.type t,none,.seq vs.toArray n,#[]⟩
mutual
inductive VR (X:Cx) (W:Wd):AV→Value→Prop
 |none:VR X W .none .none
 |bool (b:Bool):VR X W (.bool b) (.bool b)
 |int (i:Int) (t:Tok):VR X W (.int i) (.int i t)
 |str (x:Str) (t:Tok):VR X W (.str x) (.str x t)
 |tuple {l:List AV} {a:Addr} {vs:List Value} {n:Nat}:W.fz a (A7 "tuple" vs n)→AN X W l vs→VR X W (.tuple l) (.ref a)
 |list {l:List AV} {a:Addr} {vs:List Value} {n:Nat}:W.fz a (A7 "list" vs n)→AN X W l vs→VR X W (.list l) (.ref a)
 |obj {c:Str} {ks:List Str} {l:List AV} {a C dx:Addr} {es:List DictEntry} {n:Nat} {sl:Array (Option Value)} {vs:List Value}:X.cls c=some C→(∀k∈ks,findIn X.K (.ref C) k=some none)→W.fz a (instObj C dx)→W.fz dx (CK es n sl)→
   An X.w.params ks vs es→AN X W l vs→VR X W (.obj c ks l) (.ref a)
 |dict {ks:List Str} {l:List AV} {a:Addr} {o:Obj} {kvs:List (Str×Value)}:W.fz a o→o.IsDictOf (strKind X.prog X.w) kvs→kvs.map (·.1)=ks→AN X W l (kvs.map (·.2))→VR X W (.dict ks l) (.ref a)
 |ref {i:Nat} {a:Addr}:W.β[i]?=some a→VR X W (.ref i) (.ref a)
 |mobj {c:Str} {i:Nat} {a C dx:Addr}:X.cls c=some C→W.fz a (instObj C dx)→W.β[i]?=some dx→VR X W (.mobj c i) (.ref a)
 |idict {ks:List Int} {l:List AV} {a:Addr} {o:Obj} {kvs:List (Int×Value)}:(a==sysModules)=false→W.fz a o→o.IsDictOf (intKind X.prog X.w) kvs→kvs.map (·.1)=ks→AN X W l (kvs.map (·.2))→VR X W (.idict ks l) (.ref a)
inductive AN (X:Cx) (W:Wd):List AV→List Value→Prop
 |nil:AN X W [] []
 |cons {v:AV} {l:List AV} {c:Value} {cs:List Value}:VR X W v c→AN X W l cs→AN X W (v::l) (c::cs)
end
structure A5 (W W':Wd):Prop where
 fz: ∀a o,W.fz a o→W'.fz a o
 β: ∃t,W'.β=W.β++t
theorem A5.at{W W':Wd}(m:A5 W W'){i:Nat}{a:Addr}(h:W.β[i]?=some a):W'.β[i]?=some a:=by
 obtain⟨t,e⟩:=m.β
 rw[e,ea (by rw[List.getElem?_eq_some_iff] at h;exact h.1)]
 exact h
theorem AN.ind{X:Cx}{W:Wd}{P:List AV→List Value→Prop}(e:P [] [])(p1: ∀{v l c cs},VR X W v c→AN X W l cs→P l cs→P (v::l) (c::cs)){l:List AV}{cs:List Value}(h:AN X W l cs):P l cs:=
 AN.rec (motive_1:=λ_ _ _=>True) (motive_2:=λl cs _=>P l cs) trivial (λ_=>trivial) (λ_ _=>trivial) (λ_ _=>trivial) (λ_ _ _=>trivial) (λ_ _ _=>trivial) (λ_ _ _ _ _ _ _=>trivial)
  (λ_ _ _ _ _=>trivial) (λ_=>trivial) (λ_ _ _=>trivial) (λ_ _ _ _ _ _=>trivial) e (λh r _ i=>p1 h r i) h
theorem VR.more{X:Cx}{W W':Wd}(m:A5 W W'){v:AV}{c:Value}(h:VR X W v c):VR X W' v c:=
 VR.rec (motive_1:=λv c _=>VR X W' v c) (motive_2:=λl cs _=>AN X W' l cs) .none .bool .int .str
  (λh _=>.tuple (m.fz _ _ h)) (λh _=>.list (m.fz _ _ h)) (λh1 B e h3 u _=>.obj h1 B (m.fz _ _ e) (m.fz _ _ h3) u) (λh3 u B _=>.dict (m.fz _ _ h3) u B)
  (λh=>.ref (m.at h)) (λh1 e h3=>.mobj h1 (m.fz _ _ e) (m.at h3)) (λe h3 u B _=>.idict e (m.fz _ _ h3) u B) .nil (λ_ _ h r=>.cons h r) h
theorem AN.more{X:Cx}{W W':Wd}(m:A5 W W'){l:List AV}{cs:List Value}(h:AN X W l cs):AN X W' l cs:=
 AN.ind (P:=AN X W') .nil (λh _ r=>.cons (h.more m) r) h
inductive IntV (i:Int):Value→Prop
 |mk (t:Tok):IntV i (.int i t)
inductive StrV (x:Str):Value→Prop
 |mk (t:Tok):StrV x (.str x t)
inductive SeqV (X:Cx) (W:Wd) (t:String) (l:List AV):Value→Prop
 |mk {a:Addr} {vs:List Value} {n:Nat}:W.fz a (A7 t vs n)→AN X W l vs→SeqV X W t l (.ref a)
inductive ObjV (X:Cx) (W:Wd) (k:Str) (ks:List Str) (l:List AV):Value→Prop
 |mk {a C dx:Addr} {es:List DictEntry} {n:Nat} {sl:Array (Option Value)} {vs:List Value}:X.cls k=some C→(∀k∈ks,findIn X.K (.ref C) k=some none)→W.fz a (instObj C dx)→W.fz dx (CK es n sl)→An X.w.params ks vs es→AN X W l vs→ObjV X W k ks l (.ref a)
inductive DictV (X:Cx) (W:Wd) (ks:List Str) (l:List AV):Value→Prop
 |mk {a:Addr} {o:Obj} {kvs:List (Str×Value)}:W.fz a o→o.IsDictOf (strKind X.prog X.w) kvs→kvs.map (·.1)=ks→AN X W l (kvs.map (·.2))→DictV X W ks l (.ref a)
inductive RefV (W:Wd) (i:Nat):Value→Prop
 |mk {a:Addr}:W.β[i]?=some a→RefV W i (.ref a)
inductive MobjV (X:Cx) (W:Wd) (k:Str) (i:Nat):Value→Prop
 |mk {a C dx:Addr}:X.cls k=some C→W.fz a (instObj C dx)→W.β[i]?=some dx→MobjV X W k i (.ref a)
inductive IdictV (X:Cx) (W:Wd) (ks:List Int) (l:List AV):Value→Prop
 |mk {a:Addr} {o:Obj} {kvs:List (Int×Value)}:(a==sysModules)=false→W.fz a o→o.IsDictOf (intKind X.prog X.w) kvs→kvs.map (·.1)=ks→AN X W l (kvs.map (·.2))→IdictV X W ks l (.ref a)
noncomputable def sY(X:Cx)(W:Wd)(v:AV)(c:Value):Prop:=match v with
 |.none=>c=.none
 |.bool b=>c=.bool b
 |.int i=>IntV i c
 |.str x=>StrV x c
 |.tuple l=>SeqV X W "tuple" l c
 |.list l=>SeqV X W "list" l c
 |.obj k ks l=>ObjV X W k ks l c
 |.dict ks l=>DictV X W ks l c
 |.ref i=>RefV W i c
 |.mobj k i=>MobjV X W k i c
 |.idict ks l=>IdictV X W ks l c
theorem VR.out{X:Cx}{W:Wd}{v:AV}{c:Value}(h:VR X W v c):sY X W v c:=
 VR.casesOn (motive_1:=λv c _=>sY X W v c) h rfl (λ_=>rfl) (λ_=>.mk) (λ_=>.mk) .mk .mk .mk .mk .mk .mk .mk
theorem Ar{α:Type}{v:α}{p:Prop}(h:none=some v):p:=nomatch h
noncomputable def nJ(X:Cx)(W:Wd)(l:List AV)(cs:List Value):Prop:=match l with
 | []=>cs=[]
 |v::l=>∃c r,cs=c::r∧VR X W v c∧AN X W l r
theorem AN.out{X:Cx}{W:Wd}{l:List AV}{cs:List Value}(h:AN X W l cs):nJ X W l cs:=
 AN.ind (P:=nJ X W) rfl (λh r _=>⟨_,_,rfl,h,r⟩) h
theorem AN.o1{X:Cx}{W:Wd}{v:AV}{cs:List Value}(h:AN X W [v] cs): ∃c,cs=[c]∧VR X W v c:=
 let⟨c,_,e,q,r⟩:=h.out
 ⟨c,e.trans (congrArg (c:: ·) r.out),q⟩
theorem AN.o2{X:Cx}{W:Wd}{v w:AV}{cs:List Value}(h:AN X W [v,w] cs): ∃c d,cs=[c,d]∧VR X W v c∧VR X W w d:=
 let⟨c,_,e,q,r⟩:=h.out
 let⟨d,e',q'⟩:=r.o1
 ⟨c,d,e.trans (congrArg (c:: ·) e'),q,q'⟩
theorem CW{α:Type}{a b:α}{H H':AH}(h:(some (.ok a H):R α)=some (.ok b H')):a=b∧H=H':=by cases h;exact⟨rfl,rfl⟩
theorem AN.length{X:Cx}{W:Wd}{l:List AV}{vs:List Value}(h:AN X W l vs):vs.length=l.length:=
 AN.ind (P:=λl vs=>vs.length=l.length) rfl (λ_ _ i=>congrArg (· +1) i) h
theorem AN.get{X:Cx}{W:Wd}{l:List AV}{vs:List Value}(h:AN X W l vs){i:Nat}{v:AV}(e:l[i]?=some v): ∃c,vs[i]?=some c∧VR X W v c:=
 AN.ind (P:=λl vs=>∀i,l[i]?=some v→∃c,vs[i]?=some c∧VR X W v c) (λi e=>nomatch (show none=some v from e))
  (λ{_ l c cs} h _ u i=>eh i (λe=>⟨c,rfl,u7 e▸h⟩) u) h i e
theorem AN.append{X:Cx}{W:Wd}{l e:List AV}{vs vs':List Value}(h:AN X W l vs)(r:AN X W e vs'):AN X W (l++e) (vs++vs'):=
 AN.ind (P:=λl vs=>AN X W (l++e) (vs++vs')) r (λh _ i=>.cons h i) h
theorem AN.take{X:Cx}{W:Wd}{l:List AV}{vs:List Value}(n:Nat)(h:AN X W l vs):AN X W (l.take n) (vs.take n):=
 AN.ind (P:=λl vs=>∀n,AN X W (l.take n) (vs.take n)) (λn=>Nat.rec .nil (λ_ _=>.nil) n) (λh _ i n=>Nat.rec (motive:=λn=>AN X W ((_::_).take n) ((_::_).take n)) .nil (λn _=>.cons h (i n)) n) h n
theorem AN.drop{X:Cx}{W:Wd}{l:List AV}{vs:List Value}(n:Nat)(h:AN X W l vs):AN X W (l.drop n) (vs.drop n):=
 AN.ind (P:=λl vs=>∀n,AN X W (l.drop n) (vs.drop n)) (λn=>Nat.rec .nil (λ_ _=>.nil) n) (λh r i n=>Nat.rec (motive:=λn=>AN X W ((_::_).drop n) ((_::_).drop n)) (.cons h r) (λn _=>i n) n) h n
theorem AN.set{X:Cx}{W:Wd}{l:List AV}{vs:List Value}(n:Nat){v:AV}{c:Value}(h:AN X W l vs)(q:VR X W v c):AN X W (l.set n v) (vs.set n c):=
 AN.ind (P:=λl vs=>∀n,AN X W (l.set n v) (vs.set n c)) (λ_=>.nil) (λh r i n=>Nat.rec (motive:=λn=>AN X W ((_::_).set n v) ((_::_).set n c)) (.cons q r) (λn _=>.cons h (i n)) n) h n
inductive OR (X:Cx) (W:Wd):AO→Addr→Prop
 |list {l:List AV} {a:Addr} {vs:List Value}:W.h.IsList a vs.toArray→AN X W l vs→OR X W (.list l) a
 |dict {es:List (Int×AV)} {a:Addr} {kvs:List (Int×Value)}:W.h.DictOf (intKind X.prog X.w) a kvs→kvs.map (·.1)=es.map (·.1)→AN X W (es.map (·.2)) (kvs.map (·.2))→OR X W (.dict es) a
 |inst {c:Str} {ks:List Str} {l:List AV} {a:Addr} {es:List DictEntry} {n:Nat} {sl:Array (Option Value)} {vs:List Value}:(∀C,X.cls c=some C→∀k∈ks,findIn X.K (.ref C) k=some none)→W.h.get? a=some (CK es n sl)→An X.w.params ks vs es→AN X W l vs→OR X W (.inst c ks l) a
inductive dQ (X:Cx) (W:Wd) (l:List AV) (a:Addr):Prop
 |mk {vs:List Value}:W.h.IsList a vs.toArray→AN X W l vs→dQ X W l a
inductive cR (X:Cx) (W:Wd) (es:List (Int×AV)) (a:Addr):Prop
 |mk {kvs:List (Int×Value)}:W.h.DictOf (intKind X.prog X.w) a kvs→kvs.map (·.1)=es.map (·.1)→AN X W (es.map (·.2)) (kvs.map (·.2))→cR X W es a
inductive cQ (X:Cx) (W:Wd) (c:Str) (ks:List Str) (l:List AV) (a:Addr):Prop
 |mk {es:List DictEntry} {n:Nat} {sl:Array (Option Value)} {vs:List Value}:(∀C,X.cls c=some C→∀k∈ks,findIn X.K (.ref C) k=some none)→W.h.get? a=some (CK es n sl)→An X.w.params ks vs es→AN X W l vs→cQ X W c ks l a
noncomputable def sU(X:Cx)(W:Wd)(o:AO)(a:Addr):Prop:=match o with
 |.list l=>dQ X W l a
 |.dict es=>cR X W es a
 |.inst c ks l=>cQ X W c ks l a
theorem OR.out{X:Cx}{W:Wd}{o:AO}{a:Addr}(h:OR X W o a):sU X W o a:=
 OR.casesOn (motive:=λo a _=>sU X W o a) h .mk .mk .mk
structure Gd (X:Cx) (W:Wd) (H:AH):Prop where
 gens:W.s.gens=X.gens
 os:W.s.os=X.os
 base: ∀a o,X.base.get? a=some o→W.h.get? a=some o∧¬W.N a
 nodup:W.β.Nodup
 len:W.β.length=H.length
 isN: ∀a∈W.β,W.N a
 objs: ∀(i:Nat) (ao:AO) (a:Addr),H[i]?=some ao→W.β[i]?=some a→OR X W ao a
noncomputable def MJ(o:Obj):Prop:=∃es n,o.data=.dict es n
noncomputable def JH(X:Cx)(W W':Wd)(a:Addr)(o:Obj):Prop:=
 W'.h.get? a=some o∨(MJ o∧W.N a∧X.base.get? a=none∧∃sl,W'.h.get? a=some {o with slots:=sl})
structure AS (X:Cx) (F:Addr→Prop) (W W':Wd):Prop where
 keep: ∀a o,W.h.get? a=some o→a∉W.β→¬F a→JH X W W' a o
 dicts: ∀a o,W.h.get? a=some o→a∉W.β→MJ o→∃o',W'.h.get? a=some o'∧MJ o'
 β: ∃t,W'.β=W.β++t
 new: ∀a,a∈W'.β→a∈W.β∨W.h.objs.size≤a
 N: ∀a,a<W.h.objs.size→(W'.N a↔W.N a)
 size:W.h.objs.size≤W'.h.objs.size
theorem AS.refl(X:Cx)(F:Addr→Prop)(W:Wd):AS X F W W:=
 ⟨λ_ _ h _ _=>.inl h,λ_ o h _ d=>⟨o,h,d⟩,⟨[],by simp⟩,λ_ h=>.inl h,λ_ _=>cb,vJ _⟩
theorem JH.trans{X:Cx}{F:Addr→Prop}{W W' e:Wd}{a:Addr}{o:Obj}(x:JH X W W' a o)(D:W'.N a↔W.N a)(y:AS X F W' e)(hb:a∉W'.β)(B: ¬F a):JH X W e a o:=by
 rcases x with h|⟨u,h1,h2,sl,h3⟩
 ·rcases y.keep a o h hb B with h|⟨u,h1,h⟩
  ·exact .inl h
  ·exact .inr ⟨u,D.mp h1,h⟩
 ·rcases y.keep a _ h3 hb B with h|⟨_,_,_,sl',h⟩
  ·exact .inr ⟨u,h1,h2,sl,h⟩
  ·exact .inr ⟨u,h1,h2,sl',h⟩
theorem AS.nb{X:Cx}{F:Addr→Prop}{W W':Wd}(x:AS X F W W'){a:Addr}(e:a<W.h.objs.size)(hb:a∉W.β):a∉W'.β:=
 λq=>(x.new a q).elim hb λz=>absurd e (Nat.not_lt.mpr z)
theorem AS.trans{X:Cx}{F:Addr→Prop}{W W' u:Wd}(x:AS X F W W')(y:AS X F W' u):AS X F W u:=by
 refine⟨λa o h hb I=>(x.keep a o h hb I).trans (x.N a (vI h)) y (x.nb (vI h) hb) I,λa o h hb d=>?_,?_,?_,λa B=>(y.N a (vS B x.size)).trans (x.N a B),u5 x.size y.size⟩
 ·obtain⟨o',h',d'⟩:=x.dicts a o h hb d
  obtain⟨D,h'',d''⟩:=y.dicts a o' h' (x.nb (vI h) hb) d'
  exact⟨D,h'',d''⟩
 ·obtain⟨t,e⟩:=x.β
  obtain⟨t',e'⟩:=y.β
  exact⟨t++t',by rw[e',e,xK]⟩
 ·intro a B
  rcases y.new a B with h|h
  ·exact x.new a h
  ·exact .inr (u5 x.size h)
theorem AS.mono{X:Cx}{F u:Addr→Prop}{W W':Wd}(x:AS X F W W')(h: ∀a,a<W.h.objs.size→F a→u a):AS X u W W':=
 ⟨λa o e hb B=>x.keep a o e hb λq=>B (h a (vI e) q),x.dicts,x.β,x.new,x.N,x.size⟩
theorem AS.more{X:Cx}{F:Addr→Prop}{W W':Wd}{H:AH}(x:AS X F W W')(g:Gd X W H)(e: ∀a,a<W.h.objs.size→F a→W.N a):A5 W W':=by
 refine⟨λa o h=>?_,x.β⟩
 have hb:a∉W.β:=λq=>h.2 (g.isN a q)
 rcases x.keep a o h.1 hb (λq=>h.2 (e a (vI h.1) q))with q|⟨_,q,_⟩
 ·exact⟨q,λn=>h.2 ((x.N a (vI h.1)).mp n)⟩
 ·exact absurd q h.2
noncomputable abbrev Ab:Addr→Prop:=λ_=>False
theorem AS.more0{X:Cx}{W W':Wd}{H:AH}(x:AS X Ab W W')(g:Gd X W H):A5 W W':=x.more g λ_ _ h=>h.elim
theorem AS.of0{X:Cx}{F:Addr→Prop}{W W':Wd}(x:AS X Ab W W'):AS X F W W':=x.mono λ_ _ h=>h.elim
theorem AS.keeps{X:Cx}{F:Addr→Prop}{W W':Wd}(e: ∀a o,W.h.get? a=some o→W'.h.get? a=some o)(hβ:W'.β=W.β)(u: ∀a,a<W.h.objs.size→(W'.N a↔W.N a))(hs:W.h.objs.size≤W'.h.objs.size):AS X F W W':=
 ⟨λa o h _ _=>.inl (e a o h),λa o h _ d=>⟨o,e a o h,d⟩,⟨[],by simp[hβ]⟩,λa h=>.inl (hβ▸h),u,hs⟩
theorem OR.more{X:Cx}{W W':Wd}(m:A5 W W'){ao:AO}{a:Addr}(h:OR X W ao a)(u: ∀o,W.h.get? a=some o→W'.h.get? a=some o):OR X W' ao a:=by
 cases h with
 |list h r=>
  obtain⟨o,ho,r'⟩:=h
  exact .list ⟨o,u _ ho,r'⟩ (AN.more m r)
 |dict h e r=>
  obtain⟨o,es,ep,ho,r'⟩:=h
  exact .dict ⟨o,es,ep,u _ ho,r'⟩ e (AN.more m r)
 |inst q h f r=>exact .inst q (u _ h) f (AN.more m r)
theorem OR.lt{X:Cx}{W:Wd}{ao:AO}{a:Addr}(h:OR X W ao a):a<W.h.objs.size:=by
 cases h with
 |list h _=>exact vI h.choose_spec.1
 |dict h _ _=>obtain⟨_,_,_,h,_⟩:=h;exact vI h
 |inst _ h _ _=>exact vI h
theorem β_lt{X:Cx}{W:Wd}{H:AH}(g:Gd X W H){a:Addr}(e:a∈W.β):a<W.h.objs.size:=
 let⟨i,hi⟩:=jp e
 (g.objs i _ a (wT (g.len▸(List.getElem?_eq_some_iff.mp hi).1)) hi).lt
theorem Gd.keeps{X:Cx}{W W':Wd}{H:AH}(g:Gd X W H)(e: ∀a o,W.h.get? a=some o→W'.h.get? a=some o)(hβ:W'.β=W.β)(u: ∀a,a<W.h.objs.size→(W'.N a↔W.N a))(hs:W.h.objs.size≤W'.h.objs.size)
  (hg:W'.s.gens=W.s.gens) (ho:W'.s.os=W.s.os):Gd X W' H:=
 have x:AS X Ab W W':=.keeps e hβ u hs
 ⟨hg.trans g.gens,ho.trans g.os,λa o h=>
  have z:=g.base a o h
  ⟨e a o z.1,λn=>z.2 ((u a (vI z.1)).mp n)⟩,hβ.symm▸g.nodup,(congrArg nw hβ).trans g.len,λa h=>
  have h:=hβ▸h
  (u a (β_lt g h)).mpr (g.isN a h),λi ao a h1 B=>(g.objs i ao a h1 (hβ▸B)).more (x.more0 g) λo=>e a o⟩
noncomputable def GH(X:Cx)(W:Wd)(l:List Env):Prop:=∀env∈l,env.scope.kind≠.module∧∃L o,env.frame=some L∧X.base.get? L=none∧W.h.get? L=some o∧MJ o∧L∉W.β∧W.N L
theorem GH.ext{X:Cx}{F:Addr→Prop}{W W':Wd}{l:List Env}(f:GH X W l)(x:AS X F W W'):GH X W' l:=λenv B=>by
 obtain⟨h1,L,o,h2,h3,e,h6,u,h8⟩:=f env B
 obtain⟨o',a,c⟩:=x.dicts L o e u h6
 exact⟨h1,L,o',h2,h3,a,c,x.nb (vI e) u,(x.N L (vI e)).mpr h8⟩
theorem GH.fun{X:Cx}{W:Wd}: ∀{l:List Env},GH X W l→W.h.FunFrames X.base l
 | [],_=>trivial
 |env::l,f=>by
  obtain⟨h1,L,o,h2,h3,h4,⟨es,n,h6⟩,h7,h8⟩:=f env (.head _)
  exact⟨h1,⟨L,o,h2,h3,h4,λvs q=>by rw[h6] at q;cases q⟩,GH.fun λe u=>f e (.tail _ u)⟩
structure A9 (X:Cx) (W:Wd) (A:Around) (n:Nat):Prop where
 handled:A.handled=none
 depth:A.depth+2*n≤900
 units:A.units+100*n≤9000
 frames: ∃l,A.frames=some l∧GH X W l
theorem A9.ext{X:Cx}{F:Addr→Prop}{W W':Wd}{A:Around}{n:Nat}(a:A9 X W A n)(x:AS X F W W'):A9 X W' A n:=
 ⟨a.handled,a.depth,a.units,let⟨l,h,f⟩:=a.frames;⟨l,h,f.ext x⟩⟩
theorem A9.room{X:Cx}{W:Wd}{A:Around}{n:Nat}(a:A9 X W A n):A.depth<recursionLimit:=vY (u5 (wM _ _) a.depth) (by decide)
theorem A9.u64{X:Cx}{W:Wd}{A:Around}{n:Nat}(a:A9 X W A n):A.units+64<tj:=by have:=a.units;unfold tj;omega
theorem A9.u{X:Cx}{W:Wd}{A:Around}{n:Nat}(a:A9 X W A n):A.units<tj:=by have:=a.units;unfold tj;omega
structure Gu (X:Cx) (W₀ W:Wd) (a:Addr):Prop where
 ge:W₀.h.objs.size≤a
 nb:a∉W.β
 base:X.base.get? a=none
 isN:W.N a
inductive iU (X:Cx) (W₀ W:Wd) (e:Addr):Value→Prop
 |none:iU X W₀ W e .none
 |tb {T:Addr} {oT:Obj} {ts:Array Value}:Gu X W₀ W T→T≠e→W.h.get? T=some oT→oT.data=.fields ts→ts[3]?=some .none→iU X W₀ W e (.ref T)
inductive VD (X:Cx) (W₀ W:Wd) (c:Str):Value→Prop
 |mk {e C:Addr} {oe:Obj} {vs:Array Value} {v:Value}:Gu X W₀ W e→X.exc c=some C→W.h.get? e=some oe→oe.cls=.ref C→oe.data=.fields vs→vs[1]?=some v→iU X W₀ W e v→VD X W₀ W c (.ref e)
theorem Gu.le{X:Cx}{W₀ W₁ W:Wd}{a:Addr}(n:Gu X W₁ W a)(h:W₀.h.objs.size≤W₁.h.objs.size):Gu X W₀ W a:=⟨u5 h n.ge,n.nb,n.base,n.isN⟩
theorem VD.le{X:Cx}{W₀ W₁ W:Wd}{c:Str}{x:Value}(f:VD X W₁ W c x)(h:W₀.h.objs.size≤W₁.h.objs.size):VD X W₀ W c x:=by
 cases f with
 |mk n e h3 u D B t=>
  refine .mk (n.le h) e h3 u D B ?_
  cases t with
  |none=>exact .none
  |tb n a b c d=>exact .tb (n.le h) a b c d
noncomputable def AC{α γ:Type}(X:Cx)(A:Around)(F:Addr→Prop)(W:Wd)(r:R α)(rel:Wd→α→γ→Prop)(t:Sem γ):Prop:=match r with
 |none=>True
 |some (.ok a H)=>∀(Q:γ→Shared→Prop) (E:Value→Shared→Prop),(∀c W',AS X F W W'→Gd X W' H→rel W' a c→Q c W'.s)→wpAny (model X.prog X.w) A t Q E W.s
 |some (.exc k H)=>∀(Q:γ→Shared→Prop) (E:Value→Shared→Prop),(∀x W',AS X F W W'→Gd X W' H→VD X W W' k x→E x W'.s)→wpAny (model X.prog X.w) A t Q E W.s
section
variable{α β γ δ:Type}{X:Cx}{A:Around}{F:Addr→Prop}{W:Wd}{H:AH}{rel:Wd→α→γ→Prop}{rel':Wd→β→δ→Prop}
theorem AC.none{t:Sem γ}:AC X A F W (none:R α) rel t:=trivial
theorem AC.pure{a:α}{c:γ}(g:Gd X W H)(h:rel W a c):AC X A F W (rok a H) rel (pure c):=λ_ _ e=>u8 (e c W (AS.refl ..) g h)
theorem AC.ok{a:α}{t:Sem γ}(h: ∀(Q:γ→Shared→Prop) (E:Value→Shared→Prop),(∀c W',AS X F W W'→Gd X W' H→rel W' a c→Q c W'.s)→wpAny (model X.prog X.w) A t Q E W.s):AC X A F W (rok a H) rel t:=h
theorem AC.bind{r:R α}{t:Sem γ}{f:α→AH→R β}{k:γ→Sem δ}(h:AC X A F W r rel t)
  (S: ∀a H c W',AS X F W W'→Gd X W' H→rel W' a c→AC X A F W' (f a H) rel' (k c)):AC X A F W (r.bind f) rel' (t>>=k):=by
 match r,h with
 |uZ,_=>trivial
 |some (.exc e H),h=>exactλQ E I=>u0 (h _ _ I)
 |some (.ok a H),h=>
  show AC X A F W (f a H) rel' (t>>=k)
  match hf:f a H with
  |uZ=>trivial
  |some (.ok b H')=>
   intro Q E hQ
   refine u0 (h _ _ λc W' x g D=>?_)
   have:=S a H c W' x g D
   rw[hf] at this
   exact this Q E λU B J O u=>hQ U B (x.trans J) O u
  |some (.exc e H')=>
   intro Q E I
   refine u0 (h _ _ λc W' x g D=>?_)
   have:=S a H c W' x g D
   rw[hf] at this
   exact this Q E λv B J O u=>I v B (x.trans J) O (u.le x.size)
theorem AC.bindN{r:R α}{t:Sem γ}{f:α→AH→R β}{k:γ→Sem δ}(h:AC X A F W r rel t)
  (u: ∀a H c W',AS X F W W'→Gd X W' H→rel W' a c→AC X A F W' (f a H) rel' (k c)):AC X A F W (r.bindN f) rel' (t>>=k):=by
 match r,h with
 |uZ,_=>trivial
 |some (.exc e H),_=>trivial
 |some (.ok a H),h=>exact AC.bind (r:=some (.ok a H)) h u
theorem AC.of_wp{r:R α}{t t':Sem γ}(h:AC X A F W r rel t)(u: ∀Q E,wpAny (model X.prog X.w) A t Q E W.s→wpAny (model X.prog X.w) A t' Q E W.s):AC X A F W r rel t':=by
 match r,h with
 |uZ,_=>trivial
 |some (.exc e H),h=>exactλQ E B=>u _ _ (h Q E B)
 |some (.ok a H),h=>exactλQ E D=>u _ _ (h Q E D)
theorem AC.map{r:R α}{t:Sem γ}{rel₂:Wd→α→γ→Prop}(h:AC X A F W r rel t)(u: ∀a H c W',AS X F W W'→Gd X W' H→rel W' a c→rel₂ W' a c):AC X A F W r rel₂ t:=by
 match r,h with
 |uZ,_=>trivial
 |some (.exc e H),h=>exact h
 |some (.ok a H),h=>exactλQ E B=>h Q E λc W' x g q=>B c W' x g (u a H c W' x g q)
theorem AC.mono{r:R α}{t:Sem γ}{B:Addr→Prop}(h:AC X A F W r rel t)(u: ∀a,a<W.h.objs.size→F a→B a):AC X A B W r rel t:=by
 match r,h with
 |uZ,_=>trivial
 |some (.exc e H),h=>exactλQ E D=>h Q E λx W' e g f=>D x W' (e.mono u) g f
 |some (.ok a H),h=>exactλQ E I=>h Q E λc W' x g q=>I c W' (x.mono u) g q
theorem AC.rof{o:Option α}{t:Sem γ}(h: ∀a,o=some a→AC X A F W (rok a H) rel t):AC X A F W (rof o H) rel t:=by
 induction o using vN with
 |none=>trivial
 |some a=>exact h a rfl
end
theorem Bw(h:Heap)(o:Obj):h.objs.size≤(h.push o).objs.size:=wO h o▸w9 _
noncomputable def Wd.tok(W:Wd)(k:Nat):Wd:={W with s:={W.s with toks:=k}}
noncomputable def Wd.put(W:Wd)(h:Heap)(k:Nat):Wd:={W with s:={W.s with heap:=h,toks:=k}}
noncomputable def Wd.putN(W:Wd)(h:Heap)(k:Nat)(N:Addr→Prop):Wd:={W with s:={W.s with heap:=h,toks:=k},N:=N}
section
variable{α γ:Type}{X:Cx}{A:Around}{F:Addr→Prop}{W:Wd}{H:AH}{rel:Wd→α→γ→Prop}
theorem AC.guard{c:Prop} [d:Decidable c]{o:Option α}{t:Sem γ}(h:c→AC X A F W (Mine.Internal.rof o H) rel t):AC X A F W (Mine.Internal.rof (if c then o else uZ) H) rel t:=
 match d with
 |.isTrue q=>h q
 |.isFalse _=>AC.none
theorem AC.guardN{c:Prop} [d:Decidable c]{o:Option α}{t:Sem γ}(h: ¬c→AC X A F W (Mine.Internal.rof o H) rel t):AC X A F W (Mine.Internal.rof (if c then uZ else o) H) rel t:=
 match d with
 |.isTrue _=>AC.none
 |.isFalse q=>h q
theorem AC.guardR{c:Prop} [d:Decidable c]{r:R α}{t:Sem γ}(h:c→AC X A F W r rel t):AC X A F W (if c then r else uZ) rel t:=
 match d with
 |.isTrue q=>h q
 |.isFalse _=>AC.none
theorem AC.iteR{c:Prop} [d:Decidable c]{r e:R α}{t:Sem γ}(h:c→AC X A F W r rel t)(h': ¬c→AC X A F W e rel t):AC X A F W (if c then r else e) rel t:=
 match d with
 |.isTrue q=>h q
 |.isFalse q=>h' q
theorem AC.caseN{β:Type}{r:R β}{f:β→AH→R α}{t:Sem γ}(h: ∀b H,r=some (.ok b H)→AC X A F W (f b H) rel t):AC X A F W (r.bindN f) rel t:=
 match r,h with
 |some (.ok b H),h=>h b H rfl
 |some (.exc _ _),_=>AC.none
 |uZ,_=>AC.none
theorem AC.oth{β:Type}{o:Option α}{f:α→R β}{rel':Wd→β→γ→Prop}{t:Sem γ}(h: ∀a,o=some a→AC X A F W (f a) rel' t):AC X A F W (match o with|some a=>f a|uZ=>uZ) rel' t:=
 match o,h with
 |some a,h=>h a rfl
 |uZ,_=>AC.none
theorem AS.tok(k:Nat):AS X F W (W.tok k):=.keeps (λ_ _ h=>h) rfl (λ_ _=>cb) (vJ _)
theorem Gd.tok(g:Gd X W H)(k:Nat):Gd X (W.tok k) H:=g.keeps (λ_ _ h=>h) rfl (λ_ _=>cb) (vJ _) rfl rfl
theorem AC.tok{a:α}{c:γ}{t:Sem γ}(g:Gd X W H)(k:Nat)(e:rel (W.tok k) a c)(h: ∀Q E,Q c (W.tok k).s→wpAny (model X.prog X.w) A t Q E W.s):AC X A F W (rok a H) rel t:=
 λQ E u=>h Q E (u c (W.tok k) (AS.tok k) (g.tok k) e)
theorem AC.toks{a:α}{f:Nat→γ}{t:Sem γ}(g:Gd X W H)(e: ∀t k,rel (W.tok k) a (f t))(h: ∀Q E,(∀t k,Q (f t) (W.tok k).s)→wpAny (model X.prog X.w) A t Q E W.s):AC X A F W (rok a H) rel t:=
 λQ E u=>h Q E λt k=>u (f t) (W.tok k) (AS.tok k) (g.tok k) (e t k)
theorem AC.same{a:α}{c:γ}{t:Sem γ}(g:Gd X W H)(e:rel W a c)(h: ∀Q E,Q c W.s→wpAny (model X.prog X.w) A t Q E W.s):AC X A F W (rok a H) rel t:=
 λQ E u=>h Q E (u c W (AS.refl ..) g e)
theorem AS.push{o:Obj}{k:Nat}:AS X F W (W.put (W.h.push o) k):=
 .keeps (λ_ _ h=>vE _ h) rfl (λ_ _=>cb) (Bw _ _)
theorem Gd.push(g:Gd X W H){o:Obj}{k:Nat}:Gd X (W.put (W.h.push o) k) H:=
 g.keeps (λ_ _ h=>vE _ h) rfl (λ_ _=>cb) (Bw _ _) rfl rfl
noncomputable def Wd.low(W:Wd):Wd:={W with N:=λa=>a<W.h.objs.size∧W.N a}
theorem AS.low:AS X F W W.low:=.keeps (λ_ _ h=>h) rfl (λa h=>⟨λx=>x.2,λx=>⟨h,x⟩⟩) (vJ _)
theorem Gd.low(g:Gd X W H):Gd X W.low H:=g.keeps (λ_ _ h=>h) rfl (λa h=>⟨λx=>x.2,λx=>⟨h,x⟩⟩) (vJ _) rfl rfl
theorem Wd.low_new(W:Wd){k:Nat}{h:Heap}(i:Nat)(hi:W.h.objs.size≤i): ¬(W.low.put h k).N i:=λx=>absurd x.1 (Nat.not_lt.mpr hi)
theorem Hh{o:Obj}{k:Nat}(hf:o.isFreed=false:=by rfl):(W.low.put (W.h.push o) k).fz W.h.objs.size o:=⟨vO _ hf,Wd.low_new W _ (vJ _)⟩
theorem AC.new{a:α}{c:γ}{o:Obj}{t:Sem γ}(g:Gd X W H)(e: ∀k W',AS X Ab W W'→W'=W.low.put (W.h.push o) k→rel W' a c)(h: ∀Q E,(∀k,Q c {W.s with heap:=W.h.push o,toks:=k})→wpAny (model X.prog X.w) A t Q E W.s):AC X A F W (rok a H) rel t:=
 λQ E u=>h Q E λk=>by
  have x:AS X Ab W (W.low.put (W.low.h.push o) k):=AS.low.trans AS.push
  exact u c (W.low.put (W.h.push o) k) x.of0 g.low.push (e k _ x rfl)
end
section
variable{X:Cx}{A:Around}{F:Addr→Prop}{W:Wd}{H:AH}
theorem MZ{a:Int}{n:Nat}(h:a.natAbs<2^n):da a≤n:=by
 unfold da
 by_cases e:(a==0)=true
 ·rw[if_pos e];exact w3 _
 ·rw[if_neg e]
  exact(nv λq=>e (by rw[Int.natAbs_eq_zero.mp q];rfl)).mpr h
theorem Ph{a:Int}{n:Nat}(h:a.natAbs<2^n):(da a:Int)≤n:=Int.ofNat_le.mpr (MZ h)
theorem WE{x y:Int}(h:y.natAbs<2^300):Builtin.divisionGoesByPylong x y=false:=PyProof.noPylong_of_log2 (by
 rcases kv y.natAbs with e|hp
 ·rw[e];decide
 ·exact vS ((nv (y6 hp)).mpr h) (by decide))
noncomputable abbrev A8(X:Cx):Wd→AV→Value→Prop:=λW v c=>VR X W v c
theorem BB{t:Sem Value}{i:Int}(g:Gd X W H)(h: ∀Q E,Q (.int i W.s.toks) {W.s with toks:=W.s.toks+1}→wpAny (model X.prog X.w) A t Q E W.s):AC X A F W (rok (.int i) H) (A8 X) t:=
 AC.tok g (W.s.toks+1) (.int _ _) h
theorem Qq(g:Gd X W H){x y:Int}{t u:Tok}(op:Operator):AC X A F W (rof (DF op (.int x) (.int y)) H) (A8 X) (jc op (.int x t) (.int y u)):=by
 induction op using xX with
 |Add=>exact BB g λQ E h=>add_int h
 |Sub=>exact BB g λQ E h=>sub_int h
 |Mult=>exact AC.guard λhb=>BB g λQ E h=>mul_int h (hb.elim (λhb=>IntMulOk.of_left (MZ hb)) λhb=>IntMulOk.of_right (MZ hb))
 |Mod=>exact AC.guardN λhb=>BB g λQ E h=>mod_int' hb h
 |Pow=>exact AC.guard λhb=>BB g λQ E h=>pow_int hb.1 (u9 (jm (Ph hb.2.2) hb.2.1 hb.1 (by decide)) (by decide)) h
 |LShift=>exact AC.guard λhb=>BB g λQ E h=>lshift_int hb.1 (u9 (bl (Ph hb.2.2) hb.2.1) (by decide)) h
 |RShift=>exact AC.guard λhb=>BB g λQ E h=>rshift_int hb h
 |BitOr=>exact BB g λQ E h=>or_int h
 |BitXor=>exact BB g λQ E h=>xor_int h
 |BitAnd=>exact BB g λQ E h=>and_int h
 |FloorDiv=>exact AC.guard λhb=>BB g λQ E h=>floordiv_int hb.1 h (.inl (WE hb.2))
 |_=>exact AC.none
theorem Y1(l:List Value)(n:Nat):(ku (λe u=>e++u) #[] (v9 n l.toArray))=(yE (v9 n l)).toArray:=by
 have key: ∀(n:Nat) (acc:List Value),ku (λe u=>e++u) acc.toArray (v9 n l.toArray)=(acc++yE (v9 n l)).toArray:=λn=>
  Nat.rec (λacc=>congrArg zH (vX acc).symm) (λn B acc=>(congrArg (λz=>ku _ z (v9 n l.toArray)) (kd acc l)).trans ((B _).trans (congrArg zH (xK acc l _)))) n
 exact key n []
theorem US(vs:List Value)(n:Nat):(ku (λe u=>e++u) #[] (v9 (if vs.toArray.isEmpty=true then 0 else n) vs.toArray))=(yE (v9 n vs)).toArray:=by
 induction vs using u6 with
 |nil=>
  have key: ∀n:Nat,(yE (v9 n ([]:List Value)))=[]:=λn=>Nat.rec rfl (λ_ h=>h) n
  exact congrArg zH (key n).symm
 |cons v r=>exact Y1 (v::r) n
theorem AN.rep{l:List AV}{vs:List Value}(h:AN X W l vs)(n:Nat):AN X W (yE (v9 n l)) (yE (v9 n vs)):=
 Nat.rec .nil (λ_ i=>h.append i) n
theorem Da{n m:Nat}(h:n≤m)(k:m≤16777216:=by decide):n≤yR:=nt▸u5 h k
theorem toNat_le{i:Int}{n:Nat}(h:i≤n):i.toNat≤n:=Int.toNat_le.mpr h
theorem Xa{i:Int}(e:0≤i)(h:i≤1000):Builtin.List.listFitsIndex i=true:=by
 show(decide (-(2^63:Int)≤i)&&decide (i<2^63))=true
 rw[decide_eq_true (u9 (by decide) e: -(2^63:Int)≤i),decide_eq_true (vL h (by decide):i<2^63)];rfl
theorem kK{b:Bool}(h:b=true): ¬(!b)=true:=λq=>vF ((congrArg (!·) h).symm.trans q)
theorem mL{b:Bool}(h:b=false): ¬b=true:=λq=>vF (h.symm.trans q)
theorem Vs{n:Nat}(h:n≤yR):Builtin.List.listTooLong n=false:=decide_eq_false (Nat.not_lt.mpr h)
theorem Vx{l:List AV}{vs:List Value}{a:Addr}{k:Nat}{i:Int}{t:Tok}(hl:W.h.get? a=some (A7 "list" vs k))(e:AN X W l vs)(hc:l.length≤1∧0≤i∧i≤1000){Q:Value→Shared→Prop}{E:Value→Shared→Prop}
  (h:Q (.ref W.h.objs.size) {W.s with heap:=W.h.push (A7 "list" (yE (v9 i.toNat vs)) 0)}):wpAny (model X.prog X.w) A (jc .Mult (.ref a) (.int i t)) Q E W.s:=by
 have hsz:vs.toArray.size*i.toNat≤1*1000:=by
  rw[vV,e.length]
  exact Nat.mul_le_mul hc.1 (toNat_le hc.2.2)
 refine wpAny_binaryOp_repeat_ref (T:="list") (U:="int") (by decide) ⟨_,hl,rfl⟩ (λs'=>typeIs_int s' i t) noFill_list_mul PySem.F.fills_int_mul ip repeat_list PySem.F.slot_int_index.lookup
  (gq ip (typeIs_int W.s i t) PySem.F.entry_int_rmul (PySem.F.args_int_rmul_2 _ _) (lm_int_rmul_list_any i t a vs.toArray k none #[])
   ⟨hl,rfl,⟨_,hl,rfl⟩,gq PySem.F.slot_list_mul ⟨_,hl,rfl⟩ PySem.F.entry_list_mul (PySem.F.args_list_mul_2 _ _)
    (lm_list_mul_any a vs.toArray k none #[] i t (kK (Xa hc.2.1 hc.2.2)) (Nat.not_lt.mpr (u5 hsz (by decide))) (mL (Vs (Da hsz))))
    ⟨hl,?_⟩⟩)
 rw[US]
 exact h
theorem Pq(g:Gd X W H){l D:List AV}{c d:Value}(O:VR X W (.list l) c)(hb:VR X W (.list D) d):AC X A F W (rof (DF .Add (.list l) (.list D)) H) (A8 X) (jc .Add c d):=by
 refine Mine.Internal.SeqV.casesOn O.out λ{a vs n} hl B=>?_
 refine Mine.Internal.SeqV.casesOn hb.out λ{I vs' J} hl' u=>?_
 refine AC.guard λhc=>AC.new (c:=.ref W.h.objs.size) (o:=A7 "list" (vs++vs') 0) g (λk W' x e=>?_) λQ E h=>?_
 ·subst e
  exact .list (Hh (o:=A7 "list" (vs++vs') 0)) (AN.more (x.more0 g) (B.append u))
 ·exact concat_meets ⟨_,hl.1,rfl⟩ ⟨_,hl'.1,rfl⟩ noFill_list_add seq_list_add PySem.F.slot_list_add PySem.F.entry_list_add (PySem.F.args_list_add_2 _ _)
   (list_addW a I vs.toArray vs'.toArray n J none none #[] #[] (Da (by rw[vV,vV,B.length,u.length];exact hc))) ⟨hl.1,hl'.1,kd vs vs'▸h W.s.toks⟩
theorem PI(g:Gd X W H){l:List AV}{i:Int}{c d:Value}(B:VR X W (.list l) c)(hb:VR X W (.int i) d):AC X A F W (rof (DF .Mult (.list l) (.int i)) H) (A8 X) (jc .Mult c d):=by
 refine Mine.Internal.SeqV.casesOn B.out λ{a vs n} hl u=>?_
 refine Mine.Internal.IntV.casesOn hb.out λt=>?_
 refine AC.guard λhc=>AC.new (c:=.ref W.h.objs.size) (o:=A7 "list" (yE (v9 i.toNat vs)) 0) g (λk W' x e=>?_) λQ E h=>Vx hl.1 u hc (h W.s.toks)
 subst e
 exact .list (Hh (o:=A7 "list" (yE (v9 i.toNat vs)) 0)) (AN.more (x.more0 g) (u.rep _))
theorem Qc(g:Gd X W H){x y:Str}{c d:Value}(e:VR X W (.str x) c)(hb:VR X W (.str y) d):AC X A F W (rof (DF .Add (.str x) (.str y)) H) (A8 X) (jc .Add c d):=by
 refine Mine.Internal.StrV.casesOn e.out λt=>?_
 refine Mine.Internal.StrV.casesOn hb.out λu=>?_
 exact AC.guard λhc=>AC.toks g (λt k=>.str _ t) λQ E h=>add_str (λt' tk=>h t' tk) (Da hc)
theorem Ql(g:Gd X W H){a b:AV}{c d:Value}(op:Operator)(e:VR X W a c)(hb:VR X W b d):AC X A F W (rof (DF op a b) H) (A8 X) (jc op c d):=by
 induction a using AV.casesOn with
 |int x=>induction b using AV.casesOn with
  |int y=>
   refine Mine.Internal.IntV.casesOn e.out λt=>?_
   refine Mine.Internal.IntV.casesOn hb.out λu=>?_
   exact Qq g op
  |_=>exact AC.none
 |str x=>induction b using AV.casesOn with
  |str y=>induction op using xX with
   |Add=>exact Qc g e hb
   |_=>exact AC.none
  |_=>exact AC.none
 |list l=>induction b using AV.casesOn with
  |int y=>induction op using xX with
   |Mult=>exact PI g e hb
   |_=>exact AC.none
  |list y=>induction op using xX with
   |Add=>exact Pq g e hb
   |_=>exact AC.none
  |_=>exact AC.none
 |_=>exact AC.none
theorem IG{t:Sem Value}{r:R AV}{ops:List Value}(h:AC X A F W r (A8 X) t):AC X A F W r (A8 X) (tr ops t):=h.of_wp λQ E h=>pk h
theorem AL{α γ:Type}{rel:Wd→α→γ→Prop}{t:Sem γ}{r:R α}{ops:List Value}(h:AC X A F W r rel t):AC X A F W r rel (yZ ops t):=h.of_wp λQ E h=>wE h
theorem GB(g:Gd X W H){a:AV}{c:Value}(e:VR X W a c):AC X A F W (rof (AQ a) H) (λ_ b c=>b=c) (mr c):=by
 induction a using AV.casesOn with
 |bool b=>rw[show c=.bool b from e.out];exact AC.same g rfl λQ E h=>lz h
 |_=>exact AC.none
theorem Um(g:Gd X W H){a:AV}{c:Value}(op:UnaryOp)(e:VR X W a c):AC X A F W (rof (rT op a) H) (A8 X) (unaryOp op c):=by
 induction op using br with
 |Invert=>induction a using AV.casesOn with
  |int x=>obtain⟨t⟩:=e.out;exact BB g λQ E h=>invert_int h
  |_=>exact AC.none
 |USub=>induction a using AV.casesOn with
  |int x=>obtain⟨t⟩:=e.out;exact BB g λQ E h=>neg_int h
  |_=>exact AC.none
 |Not=>induction a using AV.casesOn with
  |bool b=>
   rw[show c=.bool b from e.out]
   exact AC.same g (.bool _) λQ E h=>wE (u0 (lz (u8 h)))
  |_=>exact AC.none
 |_=>exact AC.none
theorem j9{α β γ:Type}{a:Option α}{b:Option β}{f:α→β→Option γ}{v:γ}(h:(a.bind λx=>b.bind λy=>f x y)=some v): ∃x y,a=some x∧b=some y∧f x y=some v:=
 match a,b,h with
 |some x,some y,h=>⟨x,y,rfl,rfl,h⟩
theorem At{γ:Type}{c:Prop} [d:Decidable c]{a v:γ}(h:(if c then some a else uZ)=some v):c∧a=v:=
 match d,h with
 |.isTrue q,h=>⟨q,u7 h⟩
theorem DN{γ:Type}{c:Prop} [d:Decidable c]{a:Option γ}{v:γ}(h:(if c then a else uZ)=some v):c∧a=some v:=
 match d,h with
 |.isTrue q,h=>⟨q,h⟩
theorem QQ{v:AV}{l:List AV}{ds:List iy}(e:BA (v::l)=some ds): ∃d r,DE v=some d∧BA l=some r∧ds=d::r:=
 let⟨d,r,h1,h2,e⟩:=j9 ((by show(match DE v,BA l with|some d,some ds=>some (d::ds)|_,_=>uZ)=_;cases DE v<;>cases BA l<;>rfl:BA (v::l)=(DE v).bind λd=>(BA l).bind λds=>some (d::ds)).symm.trans e)
 ⟨d,r,h1,h2,(u7 e).symm⟩
theorem RS:(∀{a:AV} {c:Value},VR X W a c→∀{d:iy},DE a=some d→∃as,ed W.h c d as)∧∀{l:List AV} {cs:List Value},AN X W l cs→∀{ds:List iy},BA l=some ds→∃as,fh W.h cs ds as:=by
 have k1: ∀{l:List AV} {a:Addr} {vs:List Value} {n:Nat},W.fz a (A7 "tuple" vs n)→AN X W l vs→(∀ds,BA l=some ds→∃as,fh W.h vs ds as)→∀d,DE (.tuple l)=some d→∃as,ed W.h (.ref a) d as:=λhz r u d e=>by
  obtain⟨ds,h1,rfl⟩:=Option.map_eq_some_iff.mp (show(BA _).map gu=some d from e)
  obtain⟨as,h2⟩:=u ds h1
  exact⟨_,.tuple hz.1 rfl rfl h2⟩
 have k2: ∀{l:List AV} {a:Addr} {vs:List Value} {n:Nat},W.fz a (A7 "list" vs n)→AN X W l vs→(∀ds,BA l=some ds→∃as,fh W.h vs ds as)→∀d,DE (.list l)=some d→∃as,ed W.h (.ref a) d as:=λhz r u d e=>by
  obtain⟨ds,h1,rfl⟩:=Option.map_eq_some_iff.mp (show(BA _).map cn=some d from e)
  obtain⟨as,h2⟩:=u ds h1
  exact⟨_,.list hz.1 rfl rfl h2⟩
 have k3: ∀{v:AV} {l:List AV} {c:Value} {cs:List Value},VR X W v c→AN X W l cs→(∀d,DE v=some d→∃as,ed W.h c d as)→(∀ds,BA l=some ds→∃as,fh W.h cs ds as)→∀ds,BA (v::l)=some ds→∃as,fh W.h (c::cs) ds as:=λ_ _ i j ds e=>by
  obtain⟨d,r,h1,h2,rfl⟩:=QQ e
  obtain⟨as,q⟩:=i d h1
  obtain⟨bs,q'⟩:=j r h2
  exact⟨_,.cons q q'⟩
 have R:=λ{a:AV} {c:Value} (h:VR X W a c)=>VR.rec (motive_1:=λa c _=>∀d,DE a=some d→∃as,ed W.h c d as) (motive_2:=λl cs _=>∀ds,BA l=some ds→∃as,fh W.h cs ds as)
  (λd e=>u7 e▸⟨_,.none⟩) (λb d e=>u7 e▸⟨_,.bool b⟩) (λi t d e=>u7 e▸⟨_,.int i t⟩) (λi t d e=>u7 e▸⟨_,.str i t⟩) k1 k2
  (λ_ _ _ _ _ _ _ d e=>nomatch e) (λ_ _ _ _ _ d e=>nomatch e) (λ_ d e=>nomatch e) (λ_ _ _ d e=>nomatch e) (λ_ _ _ _ _ _ d e=>nomatch e) (λds e=>u7 e▸⟨_,.nil⟩) k3 h
 exact⟨λh _ e=>R h _ e,λh=>AN.ind (P:=λl cs=>∀{ds:List iy},BA l=some ds→∃as,fh W.h cs ds as) (λe=>u7 e▸⟨_,.nil⟩) (λh r u=>k3 h r (R h) (λ_ e=>u e) _) h⟩
theorem Eg{a:AV}{c:Value}{d:iy}(h:VR X W a c)(e:DE a=some d): ∃as,ed W.h c d as:=RS.1 h e
theorem Dl{t:Sem Value}{b:Bool}(g:Gd X W H)(h: ∀Q E,Q (.bool b) W.s→wpAny (model X.prog X.w) A t Q E W.s):AC X A F W (rok b H) (λW b c=>VR X W (.bool b) c) t:=
 AC.same g (.bool b) h
noncomputable def sP(h:Heap)(c d:Value)(v:Bool):Prop:=∃d₁ d₂ as bs,ed h c d₁ as∧ed h d d₂ bs∧wN d₁=true∧wN d₂=true∧yT d₁ d₂=v
theorem T4{a b:AV}{c d:Value}{v:Bool}(u:VR X W a c)(hb:VR X W b d)(B:Ec a b=some v):sP W.h c d v:=
 let⟨d₁,d₂,h1,h2,h⟩:=j9 ((by unfold Ec;cases DE a<;>cases DE b<;>rfl:Ec a b=(DE a).bind λd=>(DE b).bind λe=>if wN d&&wN e then some (yT d e)else uZ).symm.trans B)
 let⟨hs,e⟩:=At h
 let⟨as,r1⟩:=Eg u h1
 let⟨bs,r2⟩:=Eg hb h2
 ⟨d₁,d₂,as,bs,r1,r2,(Bool.and_eq_true_iff.mp hs).1,(Bool.and_eq_true_iff.mp hs).2,e⟩
noncomputable def sL(h:Heap)(c d:Value)(v:Bool):Prop:=∃d₁ ds as bs,ed h c d₁ as∧wN d₁=true∧wV ds=true∧(ds.any λy=>yT y d₁)=v∧(ed h d (.list ds) bs∨ed h d (.tuple ds) bs)
theorem P6{a:AV}{l:List AV}{c d:Value}{v:Bool}(u:VR X W a c)(hd: ∀ds,BA l=some ds→∃bs,ed W.h d (.list ds) bs∨ed W.h d (.tuple ds) bs)(B:PP a l=some v):sL W.h c d v:=
 let⟨d₁,ds,h1,h2,h⟩:=j9 ((by unfold PP;cases DE a<;>cases BA l<;>rfl:PP a l=(DE a).bind λd=>(BA l).bind λds=>if wN d&&wV ds then some (ds.any λy=>yT y d)else uZ).symm.trans B)
 let⟨hs,e⟩:=At h
 let⟨as,r1⟩:=Eg u h1
 let⟨bs,r2⟩:=hd ds h2
 ⟨d₁,ds,as,bs,r1,(Bool.and_eq_true_iff.mp hs).1,(Bool.and_eq_true_iff.mp hs).2,e,r2⟩
theorem S0{a b:AV}{c d:Value}{f:Bool→Bool}{t:Sem Value}(u:VR X W a c)(hb:VR X W b d)(h: ∀v,sL W.h c d v→AC X A F W (rok (f v) H) (λW b c=>VR X W (.bool b) c) t):AC X A F W (rof ((I8 a b).map f) H) (λW b c=>VR X W (.bool b) c) t:=by
 have k: ∀l:List AV,(∀ds,BA l=some ds→∃bs,ed W.h d (.list ds) bs∨ed W.h d (.tuple ds) bs)→AC X A F W (rof ((PP a l).map f) H) (λW b c=>VR X W (.bool b) c) t:=λl hd=>
  match e:PP a l with
  |uZ=>AC.none
  |some v=>h v (P6 u hd e)
 induction b using AV.casesOn with
 |list l=>exact k l λds e=>(Eg hb (congrArg (wK cn) e)).imp λ_=>.inl
 |tuple l=>exact k l λds e=>(Eg hb (congrArg (wK gu) e)).imp λ_=>.inr
 |_=>exact AC.none
theorem Gc{p:Int→Int→Bool}{a b:AV}{c d:Value}{t:Value→Value→Sem Value}(g:Gd X W H)(e:VR X W a c)(hb:VR X W b d)(h: ∀x y k l Q E,Q (.bool (p x y)) W.s→wpAny (model X.prog X.w) A (t (.int x k) (.int y l)) Q E W.s):AC X A F W (rof (YB p a b) H) (λW b c=>VR X W (.bool b) c) (t c d):=by
 induction a using AV.casesOn with
 |int x=>induction b using AV.casesOn with
  |int y=>
   refine Mine.Internal.IntV.casesOn e.out λt=>?_
   refine Mine.Internal.IntV.casesOn hb.out λu=>?_
   exact Dl g (h x y t u)
  |_=>exact AC.none
 |_=>exact AC.none
theorem TZ{a:AV}{c:Value}(e:VR X W a c):Mh a=(c==wJ)∧plainIs c .none=true:=by
 exact VR.casesOn (motive_1:=λa c _=>Mh a=(c==wJ)∧plainIs c .none=true) e ⟨rfl,rfl⟩ (λ_=>⟨rfl,rfl⟩) (λ_ _=>⟨rfl,rfl⟩) (λ_ _=>⟨rfl,rfl⟩) (λ_ _=>⟨rfl,rfl⟩) (λ_ _=>⟨rfl,rfl⟩) (λ_ _ _ _ _ _=>⟨rfl,rfl⟩) (λ_ _ _ _=>⟨rfl,rfl⟩) (λ_=>⟨rfl,rfl⟩) (λ_ _ _=>⟨rfl,rfl⟩) (λ_ _ _ _ _=>⟨rfl,rfl⟩)
theorem SN{f:Bool→Bool}{a b:AV}{c d:Value}{t:Value→Sem Value}(g:Gd X W H)(e:VR X W a c)(hb:VR X W b d)(h:plainIs c .none=true→∀Q E,Q (.bool (f (c==wJ))) W.s→wpAny (model X.prog X.w) A (t .none) Q E W.s):AC X A F W (rof ((rY a b).map f) H) (λW b c=>VR X W (.bool b) c) (t d):=by
 induction b using AV.casesOn with
 |none=>
  rw[show d=.none from hb.out]
  have q:=TZ e
  exact Dl g (q.1.symm▸h q.2)
 |_=>exact AC.none
theorem NQ{γ:Type}(o:Option γ):o.map (λx=>x)=o:=by cases o<;>rfl
theorem Rw{f:Bool→Bool}{a b:AV}{c d:Value}{t:Sem Value}(g:Gd X W H)(u:VR X W a c)(hb:VR X W b d)(h: ∀v,sP W.h c d v→∀Q E,Q (.bool (f v)) W.s→wpAny (model X.prog X.w) A t Q E W.s):AC X A F W (rof ((Ec a b).map f) H) (λW b c=>VR X W (.bool b) c) t:=
 match e:Ec a b with
 |uZ=>AC.none
 |some v=>Dl g (h v (T4 u hb e))
theorem IN{ds:List iy}(h:wV ds=true):(cn ds).canLay0=true:=by unfold zW;exact h
theorem HO{ds:List iy}(h:wV ds=true):(gu ds).canLay0=true:=by unfold zW;exact h
theorem A9.u65{n:Nat}(k:A9 X W A n):A.units+65<tj:=vY (xB (u5 (wM _ _) k.units) 65) (by decide)
theorem Nw{n:Nat}(g:Gd X W H)(k:A9 X W A n){a b:AV}{c d:Value}(op:CmpOp)(D:VR X W a c)(hb:VR X W b d):AC X A F W (rof (cmpA op a b) H) (λW b c=>VR X W (.bool b) c) (mu op c d):=by
 induction op using PySem.CmpOp.casesOn with
 |Eq=>
  rw[←NQ (cmpA .Eq a b)]
  exact Rw g D hb λv ⟨_,_,_,_,I,B,s1,s2,e⟩ Q E h=>eq_dataH I B s1 s2 k.u64 (e.symm▸h)
 |NotEq=>exact Rw g D hb λv ⟨_,_,_,_,I,B,s1,s2,e⟩ Q E h=>ne_dataH I B s1 s2 k.u64 (e.symm▸h)
 |Lt=>exact Gc g D hb λx y t u Q E h=>lt_int h
 |LtE=>exact Gc g D hb λx y t u Q E h=>le_int h
 |Gt=>exact Gc g D hb λx y t u Q E h=>gt_int h
 |GtE=>exact Gc g D hb λx y t u Q E h=>ge_int h
 |Is=>
  rw[←NQ (cmpA .Is a b)]
  exact SN g D hb λhp Q E h=>wpAny_is_plain hp h
 |IsNot=>exact SN g D hb λhp Q E h=>wpAny_isNot_plain hp h
 |In=>
  rw[←NQ (cmpA .In a b)]
  exact S0 D hb λv ⟨_,ds,_,_,I,s1,s2,e,B⟩=>Dl g λQ E h=>
   have J:=pq s1 k.u65
   B.elim (λB=>qi B I (IN s2) (zK s1) J (e.symm▸h)) λB=>qg B I (HO s2) (zK s1) J (e.symm▸h)
 |NotIn=>
  exact S0 D hb λv ⟨_,ds,_,_,I,s1,s2,e,B⟩=>Dl g λQ E h=>
   have J:=pq s1 k.u65
   B.elim (λB=>ov B I (IN s2) (zK s1) J (e.symm▸h)) λB=>og B I (HO s2) (zK s1) J (e.symm▸h)
end
structure NE (K:Frag) (C:Addr):Prop where
 ga:findIn K (.ref C) "__getattribute__"=some (some (.builtin "object.__getattribute__"))
 gat:findIn K (.ref C) "__getattr__"=some none
 hd:hasDictIn K C=true
 sa:findIn K (.ref C) "__setattr__"=some (some (.builtin "object.__setattr__"))
 po:plainOver K C=true
structure AX (X:Cx):Prop where
 kin:X.K.In X.base
 mg:X.base.Ns mainGlobals X.mg
 mb:X.base.Ns builtinsNs X.mb
 nolim:X.base.NoLimit
 sysm: ∃o,X.base.get? sysModules=some o
 cls: ∀c C,X.cls c=some C→NE X.K C
section
variable{X:Cx}{A:Around}{F:Addr→Prop}{W:Wd}{H:AH}
theorem AX.here(ok:AX X)(g:Gd X W H):X.K.In W.h:=λa o e=>(g.base a o (ok.kin a o e)).1
theorem Hp{k x:Str}{t:Tok}:(Value.str k t).isStr x=decide (x=k):=by
 show(k==x)=_
 by_cases h:x=k
 ·rw[decide_eq_true h,h];exact beq_self_eq_true k
 ·rw[decide_eq_false h];exact beq_eq_false_iff_ne.mpr (z4 h)
theorem An.ind{P:wR}{Q:List Str→List Value→List DictEntry→Prop}(u:Q [] [] [])(q1: ∀{k v e ks vs es t},e.key=.str k t→e.hash=wI P k→e.val=v→An P ks vs es→Q ks vs es→Q (k::ks) (v::vs) (e::es)){ks:List Str}: ∀{vs:List Value} {es:List DictEntry},An P ks vs es→Q ks vs es:=by
 induction ks with
 |nil=>intro vs es f;induction vs using u6 with
  |nil=>induction es using u6 with
   |nil=>exact u
   |cons _ _=>exact f.elim
  |cons _ _=>exact f.elim
 |cons k ks B=>intro vs es f;induction vs using u6 with
  |nil=>exact f.elim
  |cons v vs=>induction es using u6 with
   |nil=>exact f.elim
   |cons e es=>exact q1 f.1.choose_spec f.2.1 f.2.2.1 f.2.2.2 (B f.2.2.2)
theorem Ha{k x:Str}{t:Tok}{e:DictEntry}(h:e.key=.str k t)(es:List DictEntry):oh x (e::es)=if x=k then some (some e.val)else oh x es:=by
 unfold oh
 rw[List.find?_cons,kn,show DictEntry.refKey e=false by unfold DictEntry.refKey;rw[h],yQ,h,Hp]
 by_cases u:x=k
 ·rw[decide_eq_true u,if_pos u]
 ·rw[decide_eq_false u,if_neg u]
theorem GF{k x:Str}{v:AV}{ks:List Str}{l:List AV}:C4 (k::ks) (v::l) x=if x=k then some v else C4 ks l x:=by
 show(match x==k with|true=>some v|false=>(ks.zip l).lookup x)=_
 by_cases e:x=k
 ·rw[if_pos e,beq_iff_eq.mpr e]
 ·rw[if_neg e,beq_eq_false_iff_ne.mpr e];rfl
theorem Ve{P:wR}{ks:List Str}{l:List AV}{cs:List Value}{es:List DictEntry}{x:Str}{v:AV}(f:An P ks cs es):AN X W l cs→C4 ks l x=some v→∃c,oh x es=some (some c)∧VR X W v c:=
 An.ind (Q:=λks cs es=>∀l,AN X W l cs→C4 ks l x=some v→∃c,oh x es=some (some c)∧VR X W v c) (λ_ _ e=>Ar e) (λ{k c e ks cs es _} h1 I h3 _ D l=>by
  induction l using u6 with
  |nil=>exactλ_ e=>Ar e
  |cons w l=>
   intro r q
   obtain⟨_,_,hc,r1,B⟩:=r.out
   cases hc
   rw[GF] at q
   rw[Ha h1,h3]
   by_cases u:x=k
   ·rw[if_pos u] at q⊢
    exact⟨c,rfl,u7 q▸r1⟩
   ·rw[if_neg u] at q⊢
    exact D l B q) f l
theorem LW{P:wR}{ks:List Str}{cs:List Value}{es:List DictEntry}{x:Str}(f:An P ks cs es):x∉ks→oh x es=some none:=
 An.ind (Q:=λks _ es=>x∉ks→oh x es=some none) (λ_=>rfl) (λh1 _ _ _ u e=>(Ha h1 _).trans ((if_neg λq=>e (List.mem_cons.mpr (.inl q))).trans (u λq=>e (.tail _ q)))) f
theorem Ti{P:wR}{ks:List Str}: ∀{l:List AV} {x:Str} {v:AV},C4 ks l x=some v→x∈ks:=by
 induction ks with
 |nil=>exactλe=>Ar e
 |cons k ks B=>intro l x v e;induction l using u6 with
  |nil=>exact Ar e
  |cons w l=>
   rw[GF] at e
   by_cases u:x=k
   ·exact u▸ .head _
   ·rw[if_neg u] at e;exact .tail _ (B e)
theorem S2{a C dx:Addr}{od:Obj}(h1:W.h.get? a=some (instObj C dx))(e:W.h.get? dx=some od):InstAt W.h a (instObj C dx) C (some od):=⟨h1,rfl,rfl,e⟩
theorem TJ{v:AV}{c:Value}(h:VR X W v c):handedIn c=true:=
 VR.casesOn (motive_1:=λ_ c _=>handedIn c=true) h rfl (λ_=>rfl) (λ_ _=>rfl) (λ_ _=>rfl) (λ_ _=>rfl) (λ_ _=>rfl) (λ_ _ _ _ _ _=>rfl) (λ_ _ _ _=>rfl) (λ_=>rfl) (λ_ _ _=>rfl) (λ_ _ _ _ _=>rfl)
theorem Gx{x:Str}{es:List DictEntry}{n:Nat}{sl:Array (Option Value)}:tc x (CK es n sl)=oh x es:=(show tc x (CK es n sl)=tc x (dictOf es n)from rfl).trans (lookIn_dict ..)
theorem DY(name:Str)(hsh:Int)(key v:Value)(es:List DictEntry)(n:Nat)(sl:Array (Option Value)):cp name hsh key v (CK es n sl)=CK (mq name hsh key v es) (putN name es n) sl:=by
 have:=congrArg (λo:Obj=>{o with slots:=sl}) (putName_dict name hsh key v es n)
 rw[Obj.putName_eq] at this⊢
 refine y3 ?_ this
 unfold Obj.putNameByArray
 dsimp only
 split<;>rfl
theorem LF(ok:AX X)(g:Gd X W H){v:AV}{x c:Str}{C a dx:Addr}{ks:List Str}{l:List AV}{es:List DictEntry}{n:Nat}{sl:Array (Option Value)}{cs:List Value}(hc:X.cls c=some C)(u: ∀k∈ks,findIn X.K (.ref C) k=some none)(h1:W.h.get? a=some (instObj C dx))(e:W.h.get? dx=some (CK es n sl))
  (f:An X.w.params ks cs es) (r:AN X W l cs) (q:C4 ks l x=some v):AC X A F W (rok v H) (A8 X) (tu (.ref a) x true):=by
 obtain⟨B,e1,e2⟩:=Ve f r q
 have cf:=ok.cls c C hc
 have e3:findObj X.K C (some (CK es n sl)) x=some (.value B):=findObj_own (attr:=none) cf.hd (u x (Ti (P:=X.w.params) q)) rfl (by rw[Gx];exact e1)
 exact AC.tok g (W.s.toks+1) (VR.more ((AS.tok (X:=X) (F:=Ab) _).more0 g) e2) λQ E h=>get_value (ok.here g) (S2 h1 e) cf.ga e3 (TJ e2) h
theorem RH{c:Str}{i:Nat}{α:Type}{f:Str→List Str→List AV→Option α}{v:α}(e:(match H[i]? with|some (.inst u ks vs)=>if u=c then f u ks vs else uZ|_=>uZ)=some v): ∃ks vs,H[i]?=some (.inst c ks vs)∧f c ks vs=some v:=by
 revert e
 generalize H[i]?=z
 intro e
 induction z using vN with
 |none=>exact Ar e
 |some z=>induction z using AO.casesOn with
  |inst u ks vs=>
   obtain⟨rfl,h⟩:=DN e
   exact⟨ks,vs,rfl,h⟩
  |_=>exact Ar e
theorem O6(ok:AX X)(g:Gd X W H){o:AV}{co:Value}{x:Str}(ho:VR X W o co):AC X A F W (rof (Aj o x H) H) (A8 X) (tu co x true):=by
 refine AC.rof λv B=>?_
 induction o using AV.casesOn with
 |obj c ks l=>
  refine Mine.Internal.ObjV.casesOn ho.out λhc u h1 e f r=>?_
  exact LF ok g hc u h1.1 e.1 f r B
 |mobj c i=>
  refine Mine.Internal.MobjV.casesOn ho.out λ{a C dx} hc h1 e=>?_
  obtain⟨ks,vs,D,hl⟩:=RH (f:=λ_ ks vs=>C4 ks vs x) B
  obtain @⟨es,n,sl,cs,u,h3,f,r⟩:=(g.objs _ _ _ D e).out
  exact LF ok g hc (u C hc) h1.1 h3 f r hl
 |_=>exact Ar B
theorem LI{k x:Str}{t:Tok}{hsh:Int}{key c:Value}{e:DictEntry}{es:List DictEntry}(h:e.key=.str k t):mq x hsh key c (e::es)=if x=k then⟨e.hash,e.key,c⟩::es else e::mq x hsh key c es:=by
 show(if e.key.isStr x then(⟨e.hash,e.key,c⟩:DictEntry)::es else e::mq x hsh key c es)=_
 rw[show e.key.isStr x=decide (x=k)by rw[h,Hp]]
 by_cases u:x=k
 ·rw[decide_eq_true u,if_pos u];rfl
 ·rw[decide_eq_false u,if_neg u];rfl
theorem Uu{P:wR}{hsh:Int}{key:Value}{ks:List Str}{l B:List AV}{cs:List Value}{es:List DictEntry}{x:Str}{w:AV}{c:Value}(f:An P ks cs es)(r:AN X W l cs)(e:Jc ks l x w=some B)(hw:VR X W w c):
  ∃u,An P ks u (mq x hsh key c es)∧AN X W B u∧(mq x hsh key c es).length=es.length:=
 An.ind (Q:=λks cs es=>∀l B,AN X W l cs→Jc ks l x w=some B→∃u,An P ks u (mq x hsh key c es)∧AN X W B u∧(mq x hsh key c es).length=es.length) (λ_ _ _ e=>Ar e) (λ{k U e ks cs es t} h1 J h3 O S l B=>by
  induction l using u6 with
  |nil=>exactλ_ e=>Ar e
  |cons v l=>
   intro r q
   obtain⟨_,_,hc,Y,I⟩:=r.out
   cases hc
   rw[LI h1]
   replace q:(if k=x then some (w::l)else(Jc ks l x w).map (v:: ·))=some B:=q
   by_cases D:k=x
   ·rw[if_pos D] at q
    rw[if_pos D.symm]
    exact⟨c::cs,⟨⟨t,h1⟩,J,rfl,O⟩,u7 q▸ .cons hw I,rfl⟩
   ·rw[if_neg D] at q
    obtain⟨l1,h,rfl⟩:=Option.map_eq_some_iff.mp q
    obtain⟨u,a,b,d⟩:=S l l1 I h
    rw[if_neg (z4 D)]
    exact⟨U::u,⟨⟨t,h1⟩,J,h3,a⟩,.cons Y b,congrArg (· +1) d⟩) f l B r e
theorem XL{ks:List Str}: ∀{l u:List AV} {x:Str} {w:AV},Jc ks l x w=some u→x∈ks:=by
 induction ks with
 |nil=>exactλe=>Ar e
 |cons k ks D=>intro l u x w e;induction l using u6 with
  |nil=>exact Ar e
  |cons v l=>
   replace e:(if k=x then some (w::l)else(Jc ks l x w).map (v:: ·))=some u:=e
   by_cases B:k=x
   ·exact B▸ .head _
   ·rw[if_neg B] at e
    obtain⟨l1,h,_⟩:=Option.map_eq_some_iff.mp e
    exact .tail _ (D h)
theorem Xf{P:wR}{ks:List Str}{cs:List Value}{es:List DictEntry}{x:Str}(f:An P ks cs es):x∈ks→(oh x es).isSome=true∧es.any (λd=>d.key.isStr x)=true:=
 An.ind (Q:=λks _ es=>x∈ks→(oh x es).isSome=true∧es.any (λd=>d.key.isStr x)=true) (λh=>(nomatch h)) (λ{k _ e _ _ es _} h1 _ _ _ B u=>by
  rw[Ha h1,kn,h1,Hp]
  by_cases h:x=k
  ·rw[if_pos h,decide_eq_true h];exact⟨rfl,rfl⟩
  ·rw[if_neg h,decide_eq_false h];exact B ((List.mem_cons.mp u).resolve_left h)) f
theorem Ou{P:wR}{ks:List Str}{cs:List Value}{es:List DictEntry}(f:An P ks cs es):es.length=ks.length:=
 An.ind (Q:=λks _ es=>es.length=ks.length) rfl (λ_ _ _ _ e=>congrArg (· +1) e) f
theorem WI{name:Str}{hsh:Int}{key v:Value}(l:List DictEntry):(mq name hsh key v l).length≤l.length+1:=by
 induction l with
 |nil=>exact vJ _
 |cons d r e=>
  show(if d.key.isStr name then(⟨d.hash,d.key,v⟩:DictEntry)::r else d::mq name hsh key v r).length≤_
  by_cases h:d.key.isStr name=true
  ·rw[if_pos h];exact w9 _
  ·rw[if_neg h];exact wH e
theorem YE{x:Str}{es:List DictEntry}(hl:(oh x es).isSome=true):(!es.toArray.any (·.key.isStr x)&&es.toArray.any (·.refKey))=false:=by
 rw[←nq,←nq]
 cases h:es.any (·.key.isStr x)with
 |true=>rfl
 |false=>
  have e:es.find? (·.key.isStr x)=none:=List.find?_eq_none.mpr λd hd q=>by rw[List.any_eq_true.mpr ⟨d,hd,q⟩] at h;cases h
  revert hl
  unfold oh
  rw[e]
  dsimp only
  cases es.any (·.refKey)with
  |true=>exactλq=>nomatch q
  |false=>exactλ_=>rfl
theorem LG{prog:Program}{w:World}{E:Value→Shared→Prop}{s:Shared}{K:Frag}{x C dx:Addr}{es:List DictEntry}{n:Nat}{sl:Array (Option Value)}{name:Str}{v:Value}{Q:Unit→Shared→Prop}(X₀:K.In s.heap)
  (h1:s.heap.get? x=some (instObj C dx)) (u:s.heap.get? dx=some (CK es n sl)) (cf:NE K C) (O:findIn K (.ref C) name=some none) (hl:(oh name es).isSome=true) (J:es.length+1≤1002)
  (D:Q () {s with heap:=s.heap.update dx (cp name (wI w.params name) (.str name (s.toks+1)) v),toks:=s.toks+2}):wpAny (model prog w) A (ow (.ref x) name v) Q E s:=by
 obtain⟨B,g,dr,tk,os⟩:=s
 dsimp only at X₀ h1 u D
 have I:InstAt B x (instObj C dx) C (some (CK es n sl)):=⟨h1,rfl,rfl,u⟩
 refine qw X₀ I cf.sa ?_
 refine osa_open (s:=⟨B,g,dr,tk+1,os⟩) X₀ I cf.po (r:=none) (by unfold takerIn;rw[O];rfl) λb=>?_
 obtain⟨cd,hc,hd'⟩:=any_some cf.hd
 refine u0 (u8 (u0 (u0 (zV h1 (u0 ((jf X₀ hc) _ _ _ _ (λ_ _ e=>e) ?_))))))
 rw[hd']
 refine u8 (a:=some dx) (u0 (u8 (u0 ?_)))
 unfold nsSet
 refine u0 (u0 (wpAny_askSetting (u8 (u0 (gr (u0 (zV u ?_)))))))
 dsimp only
 rw[aRefKeyMayBeTheName_at,YE hl]
 refine wpAny_updatePart u ?_
 have e:=DY name (wI w.params name) (.str name (tk+1)) v es n sl
 have S:(B.update dx (cp name (wI w.params name) (.str name (tk+1)) v)).get? dx=some (CK (mq name (wI w.params name) (.str name (tk+1)) v es) (putN name es n) sl):=by
  rw[←e]
  exact w4 _ u (by rw[e];rfl)
 refine u0 (mw S (nc ?_) ?_)
 ·rw[vV]
  exact yM (Da (u5 (WI es) J))
 ·exact u8 D
theorem LM{α:Type}{l:List α}{i j:Nat}{a:α}(n:l.Nodup)(h1:l[i]?=some a)(e:l[j]?=some a):i=j:=mj (List.getElem?_eq_some_iff.mp h1).1 n|>.mp (h1.trans e.symm)
theorem C3{h':Heap}{i:Nat}{a:Addr}{k:Nat}(g:Gd X W H)(hi:W.β[i]?=some a)(hs:xC a W.h h'):AS X F W (W.put h' k):=by
 have e:a∈W.β:=wG hi
 refine⟨λb o h hb _=>.inl ?_,λb o h hb d=>⟨o,?_,d⟩,⟨[],(vX _).symm⟩,λb h=>.inl h,λ_ _=>cb,?_⟩
 ·exact(hs.2 b λq=>hb (q▸e)).trans h
 ·exact(hs.2 b λq=>hb (q▸e)).trans h
 ·show _≤h'.objs.size
  rw[hs.1];exact vJ _
theorem M8{h':Heap}{i:Nat}{a:Addr}{k:Nat}{ao:AO}(g:Gd X W H)(hi:W.β[i]?=some a)(hs:xC a W.h h')(ho:OR X (W.put h' k) ao a):Gd X (W.put h' k) (H.set i ao):=by
 have x:AS X Ab W (W.put h' k):=C3 g hi hs
 have m:=x.more0 g
 have I:a∈W.β:=wG hi
 refine⟨g.gens,g.os,λb o h=>?_,g.nodup,by rw[am];exact g.len,g.isN,λj D b h1 u=>?_⟩
 ·have z:=g.base b o h
  exact⟨(hs.2 b λq=>z.2 (q▸g.isN a I)).trans z.1,z.2⟩
 ·replace u:W.β[j]?=some b:=u
  by_cases B:j=i
  ·subst B
   rw[hi] at u;cases u
   have hl:j<H.length:=by rw[←g.len];exact(List.getElem?_eq_some_iff.mp hi).1
   rw[ib hl] at h1
   cases h1
   exact ho
  ·rw[List.getElem?_set_ne (z4 B)] at h1
   have hb:b≠a:=by
    rintro rfl
    exact B (LM g.nodup u hi)
   exact(g.objs j D b h1 u).more m λo e=>(hs.2 b hb).trans e
theorem Oo{o v:AV}{x:Str}{H':AH}(e:BH o x v H=some H'): ∃c i ks vs vs',o=.mobj c i∧H[i]?=some (.inst c ks vs)∧ks.length≤1000∧Jc ks vs x v=some vs'∧H.set i (.inst c ks vs')=H':=by
 induction o using AV.casesOn with
 |mobj c i=>
  revert e
  show(match H[i]? with|some (.inst u ks vs)=>if u=c∧ks.length≤1000 then(Jc ks vs x v).map λvs'=>H.set i (.inst u ks vs')else uZ|_=>uZ)=some H'→_
  cases B:H[i]? with
  |none=>exactλe=>Ar e
  |some z=>induction z using AO.casesOn with
   |inst u ks vs=>
    intro e
    obtain⟨⟨rfl,hl⟩,h⟩:=DN e
    obtain⟨vs',hp,h⟩:=Option.map_eq_some_iff.mp h
    exact⟨u,i,ks,vs,vs',rfl,B,hl,hp,h⟩
   |_=>exactλe=>Ar e
 |_=>exact Ar e
theorem PY(ok:AX X)(g:Gd X W H){o v:AV}{co u:Value}{x:Str}(ho:VR X W o co)(J:VR X W v u):
  AC X A F W (match BH o x v H with|some H'=>rok () H'|uZ=>uZ) (λ_ _ _=>True) (ow co x u):=by
 match e:BH o x v H with
 |uZ=>exact AC.none
 |some H'=>
  obtain⟨c,i,ks,vs,vs',rfl,O,hlen,hp,rfl⟩:=Oo e
  refine Mine.Internal.MobjV.casesOn ho.out λ{a C dx} hc h1 B=>?_
  obtain @⟨es,n,sl,cs,hk,h3,f,r⟩:=(g.objs _ _ _ O B).out
  have I:=XL hp
  intro Q E hQ
  refine LG (ok.here g) h1.1 h3 (ok.cls _ C hc) (hk C hc x I) (Xf f I).1 (Ou f▸u5 (wH hlen) (by decide)) ?_
  have ee:=DY x (wI X.w.params x) (.str x (W.s.toks+1)) u es n sl
  have D:=zE (h:=W.h) (a:=dx) (f:=cp x (wI X.w.params x) (.str x (W.s.toks+1)) u)
  have U:AS X F W (W.put _ (W.s.toks+2)):=C3 g B D
  obtain⟨S,a1,a2,a3⟩:=Uu (hsh:=wI X.w.params x) (key:=.str x (W.s.toks+1)) f r hp J
  refine hQ () _ U (M8 g B D (.inst (es:=mq x (wI X.w.params x) (.str x (W.s.toks+1)) u es) (n:=putN x es n) (sl:=sl) hk ?_ a1 (AN.more ((C3 (F:=Ab) g B D).more0 g) a2))) trivial
  rw[←ee]
  exact w4 _ h3 (by rw[ee];rfl)
end
theorem QX(prog:Program)(w:World)(k:Int)(t:Tok):(intKind prog w).is k (.int k t)=true:=by simp[intKind,Value.isInt]
theorem Dr{α κ:Type} [DecidableEq κ]{k j:κ}{v:α}{l:List (κ×α)}:((((j,v)::l).find? λp=>p.1=k).map (·.2))=if j=k then some v else(l.find? λp=>p.1=k).map (·.2):=by
 by_cases h:j=k
 ·rw[if_pos h,ie (p:=λp:κ×α=>decide (p.1=k)) (decide_eq_true h)];rfl
 ·rw[if_neg h,ig (p:=λp:κ×α=>decide (p.1=k)) (mL (decide_eq_false h))]
theorem Ni{X:Cx}{W:Wd}{P:List (Int×AV)→List (Int×Value)→Prop}(u:P [] [])(p1: ∀{k v c es kvs},VR X W v c→kvs.map (·.1)=es.map (·.1)→AN X W (es.map (·.2)) (kvs.map (·.2))→P es kvs→P ((k,v)::es) ((k,c)::kvs)){es:List (Int×AV)}: ∀{kvs:List (Int×Value)},kvs.map (·.1)=es.map (·.1)→AN X W (es.map (·.2)) (kvs.map (·.2))→P es kvs:=by
 induction es with
 |nil=>intro kvs h _;induction kvs using u6 with
  |nil=>exact u
  |cons _ _=>exact fu rfl (heq_of_eq h)
 |cons p es B=>intro kvs h r;induction kvs using u6 with
  |nil=>exact fu rfl (heq_of_eq h)
  |cons q kvs=>
   obtain⟨k,v⟩:=p
   obtain⟨j,c⟩:=q
   obtain⟨h1,e⟩:=wF h
   obtain⟨_,_,hc,D,r2⟩:=r.out
   obtain⟨rfl,rfl⟩:=wF hc
   cases(show j=k from h1)
   exact p1 D e r2 (B e r2)
section
variable{X:Cx}{A:Around}{W:Wd}{H:AH}
theorem JQ{es:List (Int×AV)}{kvs:List (Int×Value)}{k:Int}{v:AV}(h1:kvs.map (·.1)=es.map (·.1))(B:AN X W (es.map (·.2)) (kvs.map (·.2))):Ah es k=some v→∃c,gn kvs k=some c∧VR X W v c:=
 Ni (P:=λes kvs=>Ah es k=some v→∃c,gn kvs k=some c∧VR X W v c) Ar (λ{j w c es kvs} r _ _ D e=>by
  rw[Ah,Dr] at e
  rw[gn,Dr]
  by_cases u:j=k
  ·rw[if_pos u] at e⊢
   exact⟨c,rfl,u7 e▸r⟩
  ·rw[if_neg u] at e⊢
   exact D e) h1 B
theorem L7{es:List (Int×AV)}: ∀{kvs:List (Int×Value)} {k:Int},kvs.map (·.1)=es.map (·.1)→Ah es k=none→gn kvs k=none:=by
 induction es with
 |nil=>intro kvs k h _;induction kvs using u6 with
  |nil=>rfl
  |cons _ _=>exact fu rfl (heq_of_eq h)
 |cons p es D=>intro kvs k h e;induction kvs using u6 with
  |nil=>rfl
  |cons q kvs=>
   obtain⟨j,v⟩:=p
   obtain⟨i,c⟩:=q
   obtain⟨h1,B⟩:=wF h
   replace h1:i=j:=h1
   subst h1
   rw[Ah,Dr] at e
   rw[gn,Dr]
   by_cases u:i=k
   ·rw[if_pos u] at e;exact Ar e.symm
   ·rw[if_neg u] at e⊢;exact D B e
theorem Qd{es:List (Int×AV)}{kvs:List (Int×Value)}{k:Int}{v:AV}{c:Value}(h1:kvs.map (·.1)=es.map (·.1))(B:AN X W (es.map (·.2)) (kvs.map (·.2)))(h3:VR X W v c):
  (kvs.map λp=>if p.1=k then(p.1,c)else p).map (·.1)=(es.map λp=>if p.1=k then(p.1,v)else p).map (·.1)∧
  AN X W ((es.map λp=>if p.1=k then(p.1,v)else p).map (·.2)) ((kvs.map λp=>if p.1=k then(p.1,c)else p).map (·.2)):=
 Ni (P:=λes kvs=>(kvs.map λp=>if p.1=k then(p.1,c)else p).map (·.1)=(es.map λp=>if p.1=k then(p.1,v)else p).map (·.1)∧
  AN X W ((es.map λp=>if p.1=k then(p.1,v)else p).map (·.2)) ((kvs.map λp=>if p.1=k then(p.1,c)else p).map (·.2))) ⟨rfl,.nil⟩ (λ{j w d es kvs} r _ _ u=>by
  simp only[v8]
  by_cases e:j=k
  ·rw[if_pos e,if_pos e]
   exact⟨congrArg (j:: ·) u.1,.cons h3 u.2⟩
  ·rw[if_neg e,if_neg e]
   exact⟨congrArg (j:: ·) u.1,.cons r u.2⟩) h1 B
theorem any_map{α:Type}{k:Int}{l:List (Int×α)}:(l.any λp=>p.1=k)=(l.map (·.1)).any λi=>decide (i=k):=(rx (l:=l) (f:=λx:Int×α=>x.1) (p:=λi=>decide (i=k))).symm
theorem VZ{es:List (Int×AV)}{kvs:List (Int×Value)}{k:Int}(h:kvs.map (·.1)=es.map (·.1)):(kvs.any λp=>p.1=k)=(es.any λp=>p.1=k):=any_map.trans ((congrArg (List.any · _) h).trans any_map.symm)
theorem UQ{es:List (Int×AV)}{kvs:List (Int×Value)}{k:Int}{v:AV}{c:Value}(h1:kvs.map (·.1)=es.map (·.1))(e:AN X W (es.map (·.2)) (kvs.map (·.2)))(h3:VR X W v c):
  (stored kvs k c).map (·.1)=(BN es k v).map (·.1)∧AN X W ((BN es k v).map (·.2)) ((stored kvs k c).map (·.2)):=by
 unfold stored BN
 rw[VZ h1]
 by_cases h:(es.any λp=>p.1=k)=true
 ·rw[if_pos h,if_pos h]
  exact Qd h1 e h3
 ·rw[if_neg h,if_neg h,al,al,al,al,h1]
  exact⟨rfl,e.append (.cons h3 .nil)⟩
theorem Yf{kvs:List (Str×Value)}{x:Str}{v:AV}: ∀{l:List AV},AN X W l (kvs.map (·.2))→C4 (kvs.map (·.1)) l x=some v→∃c,gn kvs x=some c∧VR X W v c:=by
 induction kvs with
 |nil=>intro l _ e;exact Ar e
 |cons p kvs D=>intro l r e;induction l using u6 with
  |nil=>exact Ar e
  |cons w l=>
   obtain⟨_,_,hc,r1,B⟩:=r.out
   obtain⟨rfl,rfl⟩:=wF hc
   replace e:C4 (p.1::kvs.map (·.1)) (w::l) x=some v:=e
   rw[GF] at e
   obtain⟨j,c⟩:=p
   rw[gn,Dr]
   by_cases u:x=j
   ·rw[if_pos u] at e
    rw[if_pos u.symm]
    exact⟨_,rfl,u7 e▸r1⟩
   ·rw[if_neg u] at e
    rw[if_neg (z4 u)]
    exact D B e
theorem G4{slice:Expr}(hs: ∀a b c p,slice≠.Slice a b c p){o i:Value}:subscripted slice false o i=tr [o,i] (getItem o i):=by
 cases slice<;>first|rfl|exact absurd rfl (hs _ _ _ _)
theorem NU{k:Int}{n:Nat}(e:0≤k)(u:k.toNat<n):az k n=some k.toNat:=by
 unfold az
 rw[if_neg (Int.not_lt.mpr e)]
 exact if_pos (by rw[decide_eq_true e,decide_eq_true ((df e).mp u)];rfl)
theorem fB{k:Int}(h:0≤k∧k<2^60):(decide (k< -(2^63:Int))||decide (k≥2^63))=false:=by
 rw[decide_eq_false (Int.not_lt.mpr (u9 (by decide) h.1)),decide_eq_false (Int.not_le.mpr (w5 h.2 (by decide)))];rfl
theorem o5{k:Int}(h:k<2^60):k<2^63:=w5 h (by decide)
end
section
variable{X:Cx}{A:Around}{F:Addr→Prop}{W:Wd}{H:AH}
theorem Ny{k:Nat}(g:Gd X W H){v:AV}{c:Value}(h:VR X W v c):VR X (W.tok k) v c:=VR.more ((AS.tok (X:=X) (F:=Ab) _).more0 g) h
theorem Pa(g:Gd X W H){value slice:Expr}(hs: ∀a b c p,slice≠.Slice a b c p){v:AV}{l:List AV}{a:Addr}{vs:List Value}{k:Int}{c:Value}(hl:W.h.IsList a vs.toArray)(r:AN X W l vs)(hi:VR X W (.int k) c)(e:(if 0≤k∧k<2^60 then l[k.toNat]? else uZ)=some v):
  AC X A F W (rok v H) (A8 X) (yF value slice (.ref a) c):=by
 refine Mine.Internal.IntV.casesOn hi.out λt=>?_
 obtain⟨u,e⟩:=DN e
 obtain⟨c,e1,e2⟩:=r.get e
 exact AC.same g e2 λQ E h=>dm hl.typeIs PySem.F.slot_list_getitem.lookup (wpAny_getItem_list hl u.1 (o5 u.2) (List.getElem?_toArray.trans e1) h) (G4 hs)
theorem UY(g:Gd X W H){value slice:Expr}(hs: ∀a b c p,slice≠.Slice a b c p){v:AV}{l:List AV}{k:Int}{co D:Value}(ho:VR X W (.tuple l) co)(hi:VR X W (.int k) D)(e:Bb (.tuple l) (.int k) H=some v):
  AC X A F W (rok v H) (A8 X) (yF value slice co D):=by
 refine Mine.Internal.SeqV.casesOn ho.out λ{a vs n} hl r=>?_
 refine Mine.Internal.IntV.casesOn hi.out λt=>?_
 obtain⟨u,e⟩:=DN e
 obtain⟨j,h1,h2⟩:=Option.bind_eq_some_iff.mp e
 obtain⟨c,e1,e2⟩:=r.get h2
 have B:qu W.s.heap a vs.toArray:=⟨_,hl.1,rfl,n,rfl⟩
 exact AC.same g e2 λQ E h=>dm B.typeIs PySem.F.slot_tuple_getitem.lookup (qh B (vU (w5 (by decide) u.1)) (o5 u.2) (by rw[vV,r.length];exact h1) (List.getElem?_toArray.trans e1) h) (G4 hs)
theorem ZW(g:Gd X W H){value slice:Expr}(hs: ∀a b c p,slice≠.Slice a b c p){v:AV}{x:Str}{k:Int}{co D:Value}(ho:VR X W (.str x) co)(hi:VR X W (.int k) D)(e:Bb (.str x) (.int k) H=some v):
  AC X A F W (rok v H) (A8 X) (yF value slice co D):=by
 refine Mine.Internal.StrV.casesOn ho.out λt=>?_
 refine Mine.Internal.IntV.casesOn hi.out λu=>?_
 obtain⟨B,e⟩:=DN e
 obtain⟨c,h1,rfl⟩:=Option.map_eq_some_iff.mp e
 have I:k.toNat<x.cps.size:=(Array.getElem?_eq_some_iff.mp h1).1
 exact AC.tok g (W.s.toks+1) (VR.str _ _) λQ E h=>dm (gp W.s x t) PySem.F.slot_str_getitem.lookup (qr (fB B) ((congrArg (Option.bind · (x.cps[·]?)) (NU (n:=x.length) B.1 I)).trans h1) h) (G4 hs)
theorem XO(g:Gd X W H){value slice:Expr}(hs: ∀a b c p,slice≠.Slice a b c p){v:AV}{ks:List Str}{l:List AV}{x:Str}{co u:Value}(ho:VR X W (.dict ks l) co)(hi:VR X W (.str x) u)(e:C4 ks l x=some v):
  AC X A F W (rok v H) (A8 X) (yF value slice co u):=by
 refine Mine.Internal.DictV.casesOn ho.out λhd f B r=>?_
 refine Mine.Internal.StrV.casesOn hi.out λt=>?_
 obtain⟨c,e1,e2⟩:=Yf r (B.symm▸e)
 have hm:=(Heap.dictOf_iff.mpr ⟨_,hd.1,f⟩).mapOf
 exact AC.tok g (W.s.toks+1) (Ny g e2) λQ E h=>dm hm.typeIs PySem.F.slot_dict_getitem.lookup (mx (strKind_is _ _ x t) hm e1 h) (G4 hs)
theorem Ox(g:Gd X W H){value slice:Expr}(hs: ∀a b c p,slice≠.Slice a b c p){v:AV}{es:List (Int×AV)}{a:Addr}{kvs:List (Int×Value)}{k:Int}{u:Value}(hd:W.h.DictOf (intKind X.prog X.w) a kvs)(h1:kvs.map (·.1)=es.map (·.1))(r:AN X W (es.map (·.2)) (kvs.map (·.2)))(hi:VR X W (.int k) u)(e:Ah es k=some v):
  AC X A F W (rok v H) (A8 X) (yF value slice (.ref a) u):=by
 refine Mine.Internal.IntV.casesOn hi.out λt=>?_
 obtain⟨c,e1,e2⟩:=JQ h1 r e
 have hm:=hd.mapOf
 exact AC.tok g (W.s.toks+1) (Ny g e2) λQ E h=>dm hm.typeIs PySem.F.slot_dict_getitem.lookup (mx (QX _ _ k t) hm e1 h) (G4 hs)
theorem R3{α β:Type}{l:List α}{m:List β}(h:l.length=m.length):(l.zip m).map (·.1)=l:=fv (vH h)
theorem Rt{α β:Type}{l:List α}{m:List β}(h:l.length=m.length):(l.zip m).map (·.2)=m:=List.map_snd_zip (vH h.symm)
theorem b9(g:Gd X W H){o i:AV}{co J:Value}(value slice:Expr)(hs: ∀a b c p,slice≠.Slice a b c p)(ho:VR X W o co)(hi:VR X W i J):
  AC X A F W (rof (Bb o i H) H) (A8 X) (yF value slice co J):=by
 refine AC.rof λv u=>?_
 induction o using AV.casesOn with
 |list l=>induction i using AV.casesOn with
  |int k=>
   refine Mine.Internal.SeqV.casesOn ho.out λ{a vs n} hl r=>?_
   exact Pa g hs ⟨_,hl.1,rfl,_,rfl⟩ r hi u
  |_=>exact Ar u
 |tuple l=>induction i using AV.casesOn with
  |int k=>exact UY g hs ho hi u
  |_=>exact Ar u
 |str x=>induction i using AV.casesOn with
  |int k=>exact ZW g hs ho hi u
  |_=>exact Ar u
 |dict ks l=>induction i using AV.casesOn with
  |str x=>exact XO g hs ho hi u
  |_=>exact Ar u
 |idict ks l=>induction i using AV.casesOn with
  |int k=>
   refine Mine.Internal.IdictV.casesOn ho.out λ{a o kvs} hsy hd f e r=>?_
   have B:ks.length=l.length:=by rw[←e,vB,←r.length,vB]
   exact Ox g hs (Heap.dictOf_iff.mpr ⟨_,hd.1,f⟩) (e.trans (R3 B).symm) ((Rt B).symm▸r) hi u
  |_=>exact Ar u
 |ref a=>induction i using AV.casesOn with
  |int k=>
   refine Mine.Internal.RefV.casesOn ho.out λD=>?_
   revert u
   show(match H[a]? with|some (.list l)=>if 0≤k∧k<2^60 then l[k.toNat]? else uZ|some (.dict es)=>Ah es k|_=>uZ)=some v→_
   cases I:H[a]? with
   |none=>exact Ar
   |some z=>induction z using AO.casesOn with
    |list l=>
     obtain⟨hl,r⟩:=(g.objs _ _ _ I D).out
     exact Pa g hs hl r hi
    |dict es=>
     obtain⟨hd,h1,r⟩:=(g.objs _ _ _ I D).out
     exact Ox g hs hd h1 r hi
    |_=>exact Ar
  |_=>exact Ar u
 |_=>exact Ar u
theorem OG{o i v:AV}{H':AH}(e:A0 o i v H=some H'): ∃a k,o=.ref a∧i=.int k∧((∃l,H[a]?=some (.list l)∧(0≤k∧k<l.length∧l.length≤1000000)∧H.set a (.list (l.set k.toNat v))=H')∨∃es,H[a]?=some (.dict es)∧es.length≤1000000∧H.set a (.dict (BN es k v))=H'):=by
 induction o using AV.casesOn with
 |ref a=>induction i using AV.casesOn with
  |int k=>
   refine⟨a,k,rfl,rfl,?_⟩
   revert e
   show(match H[a]? with|some (.list l)=>if 0≤k∧k<l.length∧l.length≤1000000 then some (H.set a (.list (l.set k.toNat v)))else uZ|some (.dict es)=>if es.length≤1000000 then some (H.set a (.dict (BN es k v)))else uZ|_=>uZ)=some H'→_
   cases H[a]? with
   |none=>exact Ar
   |some z=>induction z using AO.casesOn with
    |list l=>exactλe=>.inl ⟨l,rfl,At e⟩
    |dict es=>exactλe=>.inr ⟨es,rfl,At e⟩
    |_=>exact Ar
  |_=>exact Ar e
 |_=>exact Ar e
theorem XA(g:Gd X W H){a:Nat}{k:Int}{v:AV}{co J B:Value}(ho:VR X W (.ref a) co)(hi:VR X W (.int k) J)(S:VR X W v B){l:List AV}(O:H[a]?=some (.list l))(u:0≤k∧k<l.length∧l.length≤1000000):
  AC X A F W (rok () (H.set a (.list (l.set k.toNat v)))) (λ_ _ _=>True) (tp co J B):=by
 refine Mine.Internal.RefV.casesOn ho.out λe=>?_
 refine Mine.Internal.IntV.casesOn hi.out λt=>?_
 obtain @⟨vs,hl,r⟩:=(g.objs _ _ _ O e).out
 have I:k<2^63:=vQ u.2.1 (u9 (Int.ofNat_le.mpr u.2.2) (by decide))
 intro Q E hQ
 refine wpAny_setItem_list hl u.1 I (by rw[vV,r.length];exact u.2.1) λh' h1 D=>?_
 refine hQ () (W.put h' W.s.toks) (C3 g e D) (M8 g e D (.list (vs:=vs.set k.toNat B) ?_ (AN.more ((C3 (X:=X) (F:=Ab) (k:=W.s.toks) g e D).more0 g) (r.set k.toNat S)))) trivial
 exact List.setIfInBounds_toArray vs k.toNat B▸h1
theorem Ws(g:Gd X W H){a:Nat}{k:Int}{v:AV}{co D I:Value}(ho:VR X W (.ref a) co)(hi:VR X W (.int k) D)(S:VR X W v I){es:List (Int×AV)}(J:H[a]?=some (.dict es))(O:es.length≤1000000):
  AC X A F W (rok () (H.set a (.dict (BN es k v)))) (λ_ _ _=>True) (tp co D I):=by
 refine Mine.Internal.RefV.casesOn ho.out λu=>?_
 refine Mine.Internal.IntV.casesOn hi.out λt=>?_
 obtain @⟨kvs,hd,e1,r⟩:=(g.objs _ _ _ J u).out
 have e:kvs.length=es.length:=(vB _).symm.trans ((congrArg nw e1).trans (vB _))
 intro Q E hQ
 refine wpAny_setItem_pairs (QX _ _ k t) hd (hsz:=e▸Da O) λh' h1 B=>?_
 have m:=(C3 (X:=X) (F:=Ab) (k:=W.s.toks+1) g u B).more0 g
 obtain⟨a1,a2⟩:=UQ (k:=k) e1 (AN.more m r) (VR.more m S)
 exact hQ () (W.put h' (W.s.toks+1)) (C3 g u B) (M8 g u B (.dict h1 a1 a2)) trivial
theorem Nq(g:Gd X W H){o i v:AV}{co D I:Value}(ho:VR X W o co)(hi:VR X W i D)(B:VR X W v I):
  AC X A F W (match A0 o i v H with|some H'=>rok () H'|uZ=>uZ) (λ_ _ _=>True) (tp co D I):=by
 match e:A0 o i v H with
 |uZ=>exact AC.none
 |some H'=>
  obtain⟨a,k,rfl,rfl,⟨l,u,hk,rfl⟩|⟨es,u,hk,rfl⟩⟩:=OG e
  ·exact XA g ho hi B u hk
  ·exact Ws g ho hi B u hk
end
noncomputable def gv(X:Cx)(x:Str):Option Value:=match X.mg x with
 |some v=>some v
 |none=>X.mb x
inductive Cu (W:Wd) (env:Env) (m:Str→Option Value) (x:Str) (c:Value):Prop
 |loc:env.kindOf x=some .local→m x=some c→Cu W env m x c
 |cell {a:Addr}:env.kindOf x=some .cell∨env.kindOf x=some .free→(x==("__classdict__":Str))=false→env.cells.lookup x=some a→W.h.IsCell a (some c)→Cu W env m x c
theorem Cu.imp{W W':Wd}{env:Env}{m e:Str→Option Value}{x:Str}{c:Value}(h:Cu W env m x c)(h1:m x=some c→e x=some c)(u: ∀a,env.cells.lookup x=some a→W.h.IsCell a (some c)→W'.h.IsCell a (some c)):Cu W' env e x c:=
 Cu.casesOn (motive:=λ_=>Cu W' env e x c) h (λk q=>.loc k (h1 q)) λk d l q=>.cell k d l (u _ l q)
theorem C8{x:Str}{a:Addr}{l:List (Str×Addr)}(h:l.lookup x=some a):(x,a)∈l:=mem_of_lookup h
structure AW (X:Cx) (W:Wd) (sc:Scope) (env:Env) (ρ:AE):Prop where
 kind:env.scope.kind=.function
 globals:env.globals=mainGlobals
 builtins:env.builtins=builtinsNs
 glob: ∀x,Ak sc x=true→env.kindOf x=some .globalImplicit
 cel: ∀x,sc.names.lookup x=some .cell→env.kindOf x=some .cell∧(env.cells.lookup x).isSome=true
 lo:env.locals∉W.β
 loN:W.N env.locals
 cl: ∀x a,(x,a)∈env.cells→a∉W.β∧a≠env.locals∧W.N a∧∃v,W.h.IsCell a v
 vars: ∃m,W.h.Ns env.locals m∧∀x v,J2 sc x=true→ρ.lookup x=some v→∃c,VR X W v c∧Cu W env m x c
section
variable{X:Cx}{A:Around}{F:Addr→Prop}{W W':Wd}{H:AH}{sc:Scope}{env:Env}{ρ:AE}
theorem JH.data{a:Addr}{o:Obj}(h:JH X W W' a o): ∃o',W'.h.get? a=some o'∧o'.data=o.data:=
 h.elim (λh=>⟨o,h,rfl⟩) λh=>⟨_,h.2.2.2.choose_spec,rfl⟩
theorem AS.ns{a:Addr}{m:Str→Option Value}(x:AS X F W W')(h:W.h.Ns a m)(hb:a∉W.β)(u: ¬F a):W'.h.Ns a m:=by
 obtain⟨o,es,ep,ho,hd,r⟩:=h
 obtain⟨o',ho',e⟩:=(x.keep a o ho hb u).data
 exact⟨o',es,ep,ho',e.trans hd,r⟩
theorem AS.cell{a:Addr}{v:Option Value}(x:AS X F W W')(h:W.h.IsCell a v)(hb:a∉W.β)(u: ¬F a):W'.h.IsCell a v:=by
 obtain⟨o,ho,hd⟩:=h
 obtain⟨o',ho',e⟩:=(x.keep a o ho hb u).data
 exact⟨o',ho',e.trans hd⟩
theorem AW.ext(e:AW X W sc env ρ)(x:AS X F W W')(g:Gd X W H)(Q: ¬F env.locals)(D: ∀x a,(x,a)∈env.cells→¬F a)(m:A5 W W'):AW X W' sc env ρ:=
 let⟨J,u,hv⟩:=e.vars
 ⟨e.kind,e.globals,e.builtins,e.glob,e.cel,x.nb u.lt e.lo,(x.N _ u.lt).mpr e.loN,λy a B=>
  let⟨h1,h2,O,v,h3⟩:=e.cl y a B
  ⟨x.nb h3.lt h1,h2,(x.N _ h3.lt).mpr O,v,x.cell h3 h1 (D y a B)⟩,J,x.ns u e.lo Q,λy v hy I=>
  let⟨c,h1,h2⟩:=hv y v hy I
  ⟨c,VR.more m h1,h2.imp id λa l q=>x.cell q (e.cl y a (C8 l)).1 (D y a (C8 l))⟩⟩
theorem AW.ext0(e:AW X W sc env ρ)(x:AS X Ab W W')(g:Gd X W H):AW X W' sc env ρ:=e.ext x g (λh=>h) (λ_ _ _ h=>h) (x.more0 g)
theorem Zz(g:Gd X W H)(e:AW X W sc env ρ){x:Str}(D:J2 sc x=true):AC X A F W (rof (ρ.lookup x) H) (A8 X) (lj env x):=by
 refine AC.rof λv I=>?_
 obtain⟨m,B,hvs⟩:=e.vars
 obtain⟨c,h1,u⟩:=hvs x v D I
 refine AC.same g h1 λQ E h=>?_
 induction u using Cu.casesOn with
 |loc k q=>exact xT e.kind k B q h
 |cell k d l q=>
  rcases k with k|k
  ·exact wpAny_loadName_cell e.kind k l q h
  ·exact wpAny_loadName_free e.kind k l q h d
theorem Sr{a:Addr}{m:Str→Option Value}(g:Gd X W H)(h:X.base.Ns a m):W.h.Ns a m:=by
 obtain⟨o,es,ep,ho,r⟩:=h
 exact⟨o,es,ep,(g.base a o ho).1,r⟩
theorem IV(e:env.scope.kind=.function){y:Str}(hy:env.kindOf y=some .globalImplicit):lj env y=loadGlobal env y:=by
 have hb:env.blockKind=.function:=by unfold Env.blockKind;rw[e];rfl
 unfold lj
 rw[hb,hy,e];rfl
theorem d7{X:Cx}{A:Around}{s:Shared}(h1:s.heap.Ns mainGlobals X.mg)(u:s.heap.Ns builtinsNs X.mb){env:Env}(e1:env.globals=mainGlobals)(e2:env.builtins=builtinsNs){x:Str}{c:Value}(e:gv X x=some c){Q:Value→Shared→Prop}{E:Value→Shared→Prop}(h:Q c s):
  wpAny (model X.prog X.w) A (loadGlobal env x) Q E s:=by
 revert e
 show(match X.mg x with|some v=>some v|none=>X.mb x)=some c→_
 cases hm:X.mg x with
 |some v=>exactλe=>Calls.loadGlobal_global (e1▸h1) hm (u7 e▸h)
 |none=>exactλe=>Calls.loadGlobal_builtin (e1▸h1) hm (e2▸u) e h
theorem SR(ok:AX X)(g:Gd X W H)(e:AW X W sc env ρ){x:Str}{c:Value}(u:Ak sc x=true)(B:gv X x=some c){Q:Value→Shared→Prop}{E:Value→Shared→Prop}(h:Q c W.s):
  wpAny (model X.prog X.w) A (lj env x) Q E W.s:=
 (IV e.kind (e.glob x u))▸d7 (Sr g ok.mg) (Sr g ok.mb) e.globals e.builtins B h
theorem Gs{h':Heap}{a:Addr}{k:Nat}(hs:xC a W.h h')(hd: ∀o,W.h.get? a=some o→MJ o→∃o',h'.get? a=some o'∧MJ o'):AS X (λb=>b=a) W (W.put h' k):=
 ⟨λb o h hb u=>.inl ((hs.2 b u).trans h),λb o h hb d=>(Decidable.em (b=a)).elim (λe=>e▸hd o (e▸h) d) λe=>⟨o,(hs.2 b e).trans h,d⟩,
  ⟨[],(vX _).symm⟩,λb h=>.inl h,λ_ _=>cb,vH hs.1.symm⟩
theorem Bj{h':Heap}{a:Addr}{k:Nat}(hs:xC a W.h h')(u:W.N a):A5 W (W.put h' k):=
 ⟨λb o h=>⟨(hs.2 b λe=>h.2 (e▸u)).trans h.1,h.2⟩,[],(vX _).symm⟩
theorem D1{h':Heap}{a:Addr}{k:Nat}(g:Gd X W H)(hs:xC a W.h h')(B:W.N a)(hb:a∉W.β):Gd X (W.put h' k) H:=
 ⟨g.gens,g.os,λb o h=>
  have z:=g.base b o h
  ⟨(hs.2 b λq=>z.2 (q▸B)).trans z.1,z.2⟩,g.nodup,g.len,g.isN,λj ao b h1 u=>
  (g.objs j ao b h1 u).more (Bj hs B) λo e=>(hs.2 b λq=>hb (q▸wG u)).trans e⟩
theorem lookup_cons{ρ:AE}{x y:Str}{v:AV}:ei y ((x,v)::ρ)=if y=x then some v else ρ.lookup y:=by
 show(match y==x with|true=>some v|false=>ρ.lookup y)=_
 by_cases h:y=x
 ·rw[if_pos h,beq_iff_eq.mpr h]
 ·rw[if_neg h,beq_eq_false_iff_ne.mpr h]
theorem IO{x:Str}{v:AV}{c:Value}(g:Gd X W H)(e:AW X W sc env ρ)(I:env.kindOf x=some .local)(O:VR X W v c){Q:Unit→Shared→Prop}{E:Value→Shared→Prop}
  (h: ∀h',xC env.locals W.h h'→AS X (λb=>b=env.locals) W (W.put h' (W.s.toks+1))→Gd X (W.put h' (W.s.toks+1)) H→AW X (W.put h' (W.s.toks+1)) sc env ((x,v)::ρ)→Q () (W.put h' (W.s.toks+1)).s):
  wpAny (model X.prog X.w) A (storeName env x c) Q E W.s:=by
 obtain⟨m,hn,hvs⟩:=e.vars
 refine wpAny_storeName_local I hn (λh' D hs=>?_) (e.kind▸rfl)
 refine h h' hs (Gs hs λo _ _=>?_) (D1 g hs e.loN e.lo) ⟨e.kind,e.globals,e.builtins,e.glob,e.cel,e.lo,e.loN,λy a J=>?_,_,D,λy w hy B=>?_⟩
 ·obtain⟨o',es,ep,ho',hd,_⟩:=D
  exact⟨o',ho',es,ep,hd⟩
 ·obtain⟨h1,h2,h4,v,h3⟩:=e.cl y a J
  exact⟨h1,h2,h4,v,h3.sameBut hs h2⟩
 ·rw[lookup_cons] at B
  by_cases u:y=x
  ·rw[if_pos u] at B
   exact⟨c,u7 B▸VR.more (Bj hs e.loN) O,.loc (u▸I) (if_pos u)⟩
  ·rw[if_neg u] at B
   obtain⟨d,h1,h2⟩:=hvs y w hy B
   exact⟨d,VR.more (Bj hs e.loN) h1,h2.imp (λq=>(if_neg u).trans q) λa l q=>q.sameBut hs (e.cl y a (C8 l)).2.1⟩
structure WC (X:Cx) (W:Wd) (sc:Scope) (env:Env):Prop where
 scope:env.scope=sc
 frame:env.frame=some env.locals
 base:X.base.get? env.locals=none
 fr: ∃o,W.h.get? env.locals=some o∧MJ o
 apart:env.cells.Pairwise λx y=>x.2≠y.2
noncomputable def FE(env:Env)(a:Addr):Prop:=a=env.locals∨∃x,(x,a)∈env.cells
theorem WC.ext(e:WC X W sc env)(x:AS X F W W')(g:AW X W sc env ρ):WC X W' sc env:=
 let⟨o,ho,d⟩:=e.fr
 ⟨e.scope,e.frame,e.base,x.dicts _ o ho g.lo d,e.apart⟩
theorem AW.vol(e:AW X W sc env ρ){a:Addr}(h:FE env a):W.N a:=
 h.elim (λh=>h▸e.loN) λ⟨y,h⟩=>(e.cl y a h).2.2.1
theorem AW.moreE(e:AW X W sc env ρ)(x:AS X (FE env) W W')(g:Gd X W H):A5 W W':=x.more g λa _ h=>e.vol h
theorem aM{x:Str}:EM sc x=true→sc.names.lookup x=some .local∨(sc.names.lookup x=some .cell∧(x==("__classdict__":Str))=false):=by
 show(match sc.names.lookup x with|some .local=>true|some .cell=>x !=nm "__classdict__"|_=>false)=true→_
 cases sc.names.lookup x with
 |none=>exactλh=>(vF h).elim
 |some k=>induction k using bp with
  | «local» =>exactλ_=>.inl rfl
  |cell=>exactλh=>.inr ⟨rfl,(v4 _).mp h⟩
  |_=>exactλh=>(vF h).elim
theorem Qt{x:Str}{v:AV}{c:Value}{a:Addr}(g:Gd X W H)(e:AW X W sc env ρ)(o:WC X W sc env)(O:env.kindOf x=some .cell)(hd:(x==("__classdict__":Str))=false)(I:env.cells.lookup x=some a)(Q:VR X W v c){h':Heap}(D:h'.IsCell a (some c))(hs:xC a W.h h'):
  AW X (W.put h' W.s.toks) sc env ((x,v)::ρ):=by
 have hm:=C8 I
 have J:A5 W (W.put h' W.s.toks):=Bj hs (e.cl x a hm).2.2.1
 obtain⟨m,hn,hvs⟩:=e.vars
 refine⟨e.kind,e.globals,e.builtins,e.glob,e.cel,e.lo,e.loN,λy b hb=>?_,m,hn.sameBut hs (z4 (e.cl x a hm).2.1),λy w hy B=>?_⟩
 ·obtain⟨q1,q2,q4,v,q3⟩:=e.cl y b hb
  refine⟨q1,q2,q4,?_⟩
  by_cases eb:b=a
  ·exact⟨_,eb▸D⟩
  ·exact⟨v,q3.sameBut hs eb⟩
 ·rw[lookup_cons] at B
  by_cases u:y=x
  ·rw[if_pos u] at B
   exact⟨c,u7 B▸VR.more J Q,.cell (.inl (u▸O)) (u▸hd) (u▸I) D⟩
  ·rw[if_neg u] at B
   obtain⟨d,q1,q2⟩:=hvs y w hy B
   exact⟨d,VR.more J q1,q2.imp id λb l q=>q.sameBut hs λq=>u (name_of_addr o.apart (C8 l) (q▸hm))⟩
theorem X8{a:Addr}{v:Option Value}{h':Heap}{k:Nat}(hs:xC a W.h h')(h3:W.h.IsCell a v):AS X (λb=>b=a) W (W.put h' k):=
 Gs hs λo ho hd=>by
  obtain⟨o',ho',hd'⟩:=h3
  obtain⟨es,n,hd⟩:=hd
  exact nomatch hd.symm.trans ((congrArg ud (u7 (ho.symm.trans ho'))).trans hd')
theorem Tp{x:Str}{v:AV}{c:Value}(g:Gd X W H)(e:AW X W sc env ρ)(o:WC X W sc env)(u:EM sc x=true)(I:VR X W v c):
  AC X A (FE env) W (rok ((x,v)::ρ) H) (λW' ρ' _=>AW X W' sc env ρ'∧WC X W' sc env) (storeName env x c):=λQ E O=>by
 rcases aM u with q|⟨q,hd⟩
 ·refine IO g e (show env.scope.names.lookup x=_ from o.scope▸q) I λh' hs S Z U=>?_
  exact O () _ (S.mono λa _ q=>.inl q) Z ⟨U,o.ext S e⟩
 ·have u:=(e.cel x q).1
  obtain⟨a,B⟩:=Option.isSome_iff_exists.mp (e.cel x q).2
  have hm:=C8 B
  obtain⟨h1,h2,Y,v0,h3⟩:=e.cl x a hm
  refine wpAny_storeName_cell e.kind u B h3 λh' D hs=>?_
  have J:AS X (λb=>b=a) W (W.put h' W.s.toks):=X8 hs h3
  exact O () (W.put h' W.s.toks) (J.mono λb _ q=>.inr ⟨x,q▸hm⟩) (D1 g hs Y h1) ⟨Qt g e o u hd B I D hs,o.ext J e⟩
end
section
variable{α γ:Type}{X:Cx}{A:Around}{F:Addr→Prop}{W W':Wd}{H:AH}{rel:Wd→α→γ→Prop}{r:R α}
theorem AR{t:Sem γ}{pos:Pos}(h:AC X A F W r rel t):AC X A F W r rel (z3 pos>>= λ_=>t):=h.of_wp λQ E h=>u0 (vT h)
theorem Z9{t:Sem γ}{vs ks:List Value}(h:AC X A F W r rel t):AC X A F W r rel (rh vs ks>>= λ_=>t):=h.of_wp λQ E h=>u0 (ej h)
end
section
variable{X:Cx}{A:Around}{F:Addr→Prop}{W W':Wd}{H:AH}
theorem OC{l:List AV}{cs:List Value}(g:Gd X W H)(h:AN X W l cs){t:Sem Value}(u: ∀Q E,Q (.ref W.h.objs.size) {W.s with heap:=W.h.push (A7 "list" cs 0)}→wpAny (model X.prog X.w) A t Q E W.s):
  AC X A F W (rok (.list l) H) (A8 X) t:=by
 refine AC.new (c:=.ref W.h.objs.size) (o:=A7 "list" cs 0) g (λk W' x e=>?_) λQ E h=>u Q E (h W.s.toks)
 subst e
 exact .list (Hh (o:=A7 "list" cs 0)) (AN.more (x.more0 g) h)
theorem PJ{l:List AV}{cs:List Value}(g:Gd X W H)(h:AN X W l cs)(e:cs.length≤yR):AC X A F W (rok (.list l) H) (A8 X) (li cs):=
 OC g h λQ E h=>ce h e
theorem Ml{l:List AV}{cs:List Value}(g:Gd X W H)(h:AN X W l cs)(u:cs.length≤yR):AC X A F W (rok (.tuple l) H) (A8 X) (se cs):=by
 refine AC.new (c:=.ref W.h.objs.size) (o:=A7 "tuple" cs 0) g (λk W' x e=>?_) λQ E h=>pp (h W.s.toks) u
 subst e
 exact .tuple (Hh (o:=A7 "tuple" cs 0)) (AN.more (x.more0 g) h)
inductive Ic (a:Option Int):Value→Prop
 |mk (p:Option (Int×Tok)):p.map (·.1)=a→IsPart (partValue p) a→Ic a (partValue p)
theorem Pk{v:AV}{c:Value}{a:Option Int}(h:VR X W v c)(e:XQ v=some a):Ic a c:=by
 induction v using AV.casesOn with
 |none=>
  rw[show c=.none from h.out]
  exact u7 e▸ .mk uZ rfl .none
 |int i=>
  obtain⟨t⟩:=h.out
  exact u7 e▸ .mk (some (i,t)) rfl (.int _ _)
 |_=>exact Ar e
noncomputable abbrev TF(cl ch:Value):Obj:=⟨.type "slice",none,.fields #[cl,ch,.none],#[]⟩
theorem Ye(g:Gd X W H){l:List AV}{co cl ch:Value}{sl:Addr}{a b:Option Int}(value:Expr)(I u:Option Expr)(p:Pos)(ho:VR X W (.list l) co)(hl:Ic a cl)(J:Ic b ch)(hs:W.s.heap.get? sl=some (TF cl ch))(D:l.length≤1000000):
  AC X A F W (rok (.list (bT l a b)) H) (A8 X) (yF value (.Slice I u none p) co (.ref sl)):=by
 refine Mine.Internal.SeqV.casesOn ho.out λ{O vs n} hf r=>?_
 obtain⟨p1,e1,q1⟩:=hl
 obtain⟨p2,e2,q2⟩:=J
 have B:W.s.heap.IsList O vs.toArray:=⟨_,hf.1,rfl,_,rfl⟩
 have e:slicePick vs.toArray a b none=((vs.drop (a.elim 0 (dk l.length))).take (b.elim l.length (dk l.length)-a.elim 0 (dk l.length))).toArray:=by
  rw[←r.length];exact slicePick_plain _ _ _
 refine OC g ((r.drop _).take _) λQ E h=>
  dm B.typeIs PySem.F.slot_list_getitem.lookup (wpAny_getItem_list_slice B ⟨_,hs,rfl,rfl⟩ q1 q2 .none nofun (e▸h) (Da (by rw[vV,r.length];exact D))) rfl
theorem TI(g:Gd X W H){l:List AV}{co cl ch:Value}{sl:Addr}{i:Int}(value:Expr)(D u:Option Expr)(p:Pos)(ho:VR X W (.tuple l) co)(hl:Ic (some i) cl)(I:Ic none ch)(hs:W.s.heap.get? sl=some (TF cl ch))(hc:1≤i∧i≤l.length∧l.length≤1000000):
  AC X A F W (rok (.tuple (l.drop i.toNat)) H) (A8 X) (yF value (.Slice D u none p) co (.ref sl)):=by
 refine Mine.Internal.SeqV.casesOn ho.out λ{O vs n} hf r=>?_
 obtain⟨p1,e1,q1⟩:=hl
 obtain⟨p2,e2,q2⟩:=I
 induction p1 using vN with
 |none=>exact nomatch e1
 |some p1=>induction p2 using vN with
  |some _=>exact nomatch e2
  |none=>
   have B:qu W.s.heap O vs.toArray:=⟨_,hf.1,rfl,_,rfl⟩
   have e3:p1=(((i.toNat:Nat):Int),p1.2):=ll ((u7 e1).trans (wA (u9 (by decide) hc.1)).symm) rfl
   rw[e3] at hs
   have J:i.toNat≤l.length:=Int.toNat_le.mpr hc.2.1
   refine AC.new (c:=.ref W.h.objs.size) (o:=A7 "tuple" (vs.drop i.toNat) 0) g (λk W' x e=>?_) λQ E h=>
    dm B.typeIs PySem.F.slot_tuple_getitem.lookup (getItem_tuple_from (a:=i.toNat) B ⟨_,hs,rfl,rfl⟩ (Nat.pos_of_ne_zero λq=>absurd hc.1 (Int.not_le.mpr (vL (Int.toNat_eq_zero.mp q) (by decide)))) (by rw[vV,r.length];exact J) (h W.s.toks) (Da (by rw[vV,r.length];exact hc.2.2))) rfl
   subst e
   exact .tuple (Hh (o:=A7 "tuple" _ 0)) (AN.more (x.more0 g) (r.drop _))
theorem Zx(g:Gd X W H){x:Str}{co cl ch:Value}{sl:Addr}{a b:Option Int}(value:Expr)(B u:Option Expr)(p:Pos)(ho:VR X W (.str x) co)(hl:Ic a cl)(D:Ic b ch)(hs:W.s.heap.get? sl=some (TF cl ch))(e:x.length≤1000000):
  AC X A F W (rok (.str (bb x a b)) H) (A8 X) (yF value (.Slice B u none p) co (.ref sl)):=by
 refine Mine.Internal.StrV.casesOn ho.out λt=>?_
 obtain⟨p1,e1,_⟩:=hl
 obtain⟨p2,e2,_⟩:=D
 subst e1;subst e2
 exact AC.toks g (λt' k=>.str _ t') λQ E h=>
  dm (gp W.s x t) PySem.F.slot_str_getitem.lookup (wpAny_getItem_str_slice (l:=p1) (u:=p2) (st:=none) ⟨_,hs,rfl,rfl⟩ rfl (post_val_or_str ⟨u5 (Txt.slice_le x _ _) (Da e),λt' k=>h t' k⟩)) rfl
theorem O7(g:Gd X W H){o lo hi:AV}{co cl ch:Value}{sl:Addr}(value:Expr)(l u:Option Expr)(p:Pos)(ho:VR X W o co)(hl:VR X W lo cl)(B:VR X W hi ch)
  (hs:W.s.heap.get? sl=some (TF cl ch)):
  AC X A F W (rof (B9 o lo hi) H) (A8 X) (yF value (.Slice l u none p) co (.ref sl)):=by
 unfold B9
 cases D:XQ lo with
 |none=>exact AC.none
 |some a=>
 cases hb:XQ hi with
 |none=>exact AC.none
 |some b=>
 replace hl:=Pk hl D
 replace B:=Pk B hb
 induction o using AV.casesOn with
 |list l=>exact AC.guard λe=>Ye g _ _ _ _ ho hl B hs e
 |str x=>exact AC.guard λe=>Zx g _ _ _ _ ho hl B hs e
 |tuple l=>induction a using vN with
  |none=>cases b<;>exact AC.none
  |some i=>induction b using vN with
   |none=>exact AC.guard λe=>TI g _ _ _ _ ho hl B hs e
   |some _=>exact AC.none
 |_=>exact AC.none
end
end Mine.Internal
namespace Mine.Internal
open PySem
noncomputable abbrev HW(s:Shared):Nat:=s.heap.objs.size
theorem LX{M:fg}{Γ:jv}{p:Pos}{t:Sem Fin}{u:List Frame}{s s':Shared}{e:End}(h:Runs M Γ p t u s e s'):HW s≤HW s':=by
 unfold HW
 induction h<;>(try simp only[Shared.setGen,wO,xF] at*)<;>omega
theorem MA{M:fg}{Γ:jv}{p:Pos}{s s':Shared}{r:gm}(h:Returns M Γ p s r s'):HW s≤HW s':=LX h
theorem J3{M:fg}{Γ:jv}{p:Pos}{g:Nat}{t:Sem Fin}{B:List Frame}{s s':Shared}{e:GenResult}
  (h: ∃e₁ s₁,Runs M Γ p t B (s.setGen g GenState.running) e₁ s₁∧e₁.quiet=true∧e=e₁.result∧s'=s₁.setGen g e₁.genState):HW s≤HW s':=by
 obtain⟨_,s₁,u,_,_,rfl⟩:=h
 exact(LX u:HW (s.setGen g .running)≤HW s₁)
theorem Hj{p:Prop}{s s':Shared}(h:p∧s'=s):HW s≤HW s':=h.2▸vJ _
theorem WK{p:Prop}{g:Nat}{x:GenState}{s s':Shared}(h:p∧s'=s.setGen g x):HW s≤HW s':=h.2▸vJ (HW s)
theorem Rd{M:fg}{Γ:jv}{p:Pos}{g:Nat}{r:Resume}{s s':Shared}{e:GenResult}:Wakes M Γ p g r s e s'→HW s≤HW s':=by
 unfold Wakes
 cases s.gens[g]? with
 |none=>exact False.elim
 |some x=>induction x using PySem.GenState.casesOn with
  |fresh c=>induction r using PySem.Resume.casesOn with
   |send v=>induction v using jy with
    |none=>exact J3
    |_=>exact Hj
   |throw x=>exact WK
  |suspended=>exact J3
  |running=>exact Hj
  |finished=>exact Hj
theorem bY{α:Type}(M:fg)(Γ:jv)(n:Nat)(t:Sem α): ∀(Q:α→Pos→Shared→Prop) (E:Value→Pos→Shared→Prop) (p:Pos) (s:Shared),n≤HW s→Sem.wp M Γ t Q E p s→
  Sem.wp M Γ t (λa p' s'=>n≤HW s'∧Q a p' s') (λe p' s'=>n≤HW s'∧E e p' s') p s:=by
 induction t with
 |pure a=>intro Q E p s u h;exact⟨u,h⟩
 |raise e=>intro Q E p s u h;exact⟨u,h⟩
 |unsupported _=>intro Q E p s _ h;exact h
 |finish _=>intro Q E p s _ h;exact h
 |rule _ k B=>intro Q E p s u h;exact B () Q E p s u h
 | «at»p' k B=>intro Q E p s u h;exact B () Q E p' s u h
 |load a _ k B=>intro Q E p s u h;obtain⟨o,ho,h⟩:=h;exact⟨o,ho,B o Q E p s u h⟩
 |update a _ f k B=>intro Q E p s u h;exact⟨h.1,B () Q E p _ (by show n≤(s.heap.update a f).objs.size;rw[xF];exact u) h.2⟩
 |loadIfAlive a k B=>intro Q E p s u h;exact B _ Q E p s u h
 |point _ k B=>intro Q E p s u h;exact B () Q E p s u h
 |register _ _=>intro Q E p s _ h;exact h
 |alloc o k B=>intro Q E p s u h;exact B _ Q E p _ (by show n≤(s.heap.push o).objs.size;rw[wO];exact yM u) h
 |fresh k B=>intro Q E p s u h;exact B _ Q E p _ u h
 |ask k B=>intro Q E p s u h;exact B _ Q E p s u h
 |choose src m k B=>intro Q E p s u h;exact⟨h.1,B _ Q E p _ u h.2⟩
 |os q _ k B=>intro Q E p s u h;exact B _ Q E p _ u h
 |call c hd _ _ k B=>intro Q E p s u h;obtain⟨r,s',hr,h⟩:=h;exact⟨r,s',hr,B r Q E p s' (u5 u (MA hr)) h⟩
 |handled own k B=>intro Q E p s u h;exact B _ Q E p s u h
 |genState g k B=>intro Q E p s u h;obtain⟨st,hs,h⟩:=h;exact⟨st,hs,B _ Q E p s u h⟩
 |newGen c k B=>intro Q E p s u h;exact B _ Q E p _ u h
 |resume g r _ k B=>intro Q E p s u h;obtain⟨D,s',hw,h⟩:=h;exact⟨D,s',hw,B D Q E p s' (u5 u (Rd hw)) h⟩
 |yield _ _ _ _=>intro Q E p s _ h;exact h
 |stack k B=>intro Q E p s u h;exact B _ Q E p s u h
 |fork _ _=>intro Q E p s _ h;exact h
 |thread k B=>intro Q E p s u h;exact B _ Q E p s u h
 |await _ _ _ _ _=>intro Q E p s _ h;exact h
theorem Xl{α:Type}{M:fg}{A:Around}{s:Shared}{t:Sem α}{Q:α→Shared→Prop}{E:Value→Shared→Prop}(h:wpAny M A t Q E s):
  wpAny M A t (λa s'=>HW s≤HW s'∧Q a s') (λe s'=>HW s≤HW s'∧E e s') s:=λΓ p hΓ=>bY M Γ (HW s) t _ _ p s (vJ _) (h Γ p hΓ)
theorem BD{α:Type}{M:fg}{A:Around}{s:Shared}{t:Sem α}{Q:α→Shared→Prop}{E:Value→Shared→Prop}
  (h:wpAny M A t (λa s'=>HW s≤HW s'→Q a s') (λe s'=>HW s≤HW s'→E e s') s):wpAny M A t Q E s:=
 w7 (Xl h) (λ_ _ x=>x.2 x.1) (λ_ _ x=>x.2 x.1)
end Mine.Internal
namespace Mine.Internal
open PySem PySem.W PyProof.Rows
section
variable{α β γ δ:Type}{X:Cx}{A:Around}{F:Addr→Prop}{W W':Wd}{H:AH}{rel:Wd→α→γ→Prop}{rel':Wd→β→δ→Prop}
theorem AS.grow{h':Heap}{k:Nat}(e: ∀b o,W.h.get? b=some o→h'.get? b=some o)(hs:W.h.objs.size≤h'.objs.size):AS X F W (W.low.put h' k):=
 .keeps e rfl (λa h=>⟨λx=>x.2,λx=>⟨h,x⟩⟩) hs
theorem Gd.grow(g:Gd X W H){h':Heap}{k:Nat}(e: ∀b o,W.h.get? b=some o→h'.get? b=some o)(hs:W.h.objs.size≤h'.objs.size):Gd X (W.low.put h' k) H:=
 g.keeps e rfl (λa h=>⟨λx=>x.2,λx=>⟨h,x⟩⟩) hs rfl rfl
theorem Ju{h':Heap}{k:Nat}{a:Addr}{o:Obj}(h:h'.get? a=some o)(e:W.h.objs.size≤a):(W.low.put h' k).fz a o:=⟨h,Wd.low_new W _ e⟩
theorem AC.grow{a:α}{t:Sem γ}(g:Gd X W H)(Good:Heap→γ→Prop)(u: ∀h' k c,AS X Ab W (W.low.put h' k)→Good h' c→rel (W.low.put h' k) a c)
  (h: ∀Q E,(∀h' k c,(∀b o,W.h.get? b=some o→h'.get? b=some o)→Good h' c→Q c {W.s with heap:=h',toks:=k})→wpAny (model X.prog X.w) A t Q E W.s):AC X A F W (rok a H) rel t:=by
 intro Q E B
 refine BD (h _ _ λh' k c e hg hs=>?_)
 have x:AS X Ab W (W.low.put h' k):=.grow e hs
 exact B c (W.low.put h' k) x.of0 (g.grow e hs) (u h' k c x hg)
end
section
variable{X:Cx}{A:Around}{F:Addr→Prop}{W W':Wd}{H:AH}
theorem Oa(xs:List Str): ∀k:Nat,AN X W (xs.map .str) (strsFrom k xs):=by
 induction xs with
 |nil=>exactλ_=>.nil
 |cons x xs e=>exactλk=>.cons (.str _ _) (e _)
theorem Bv{l:List AV}{cs:List Value}(g:Gd X W H)(h:AN X W l cs){t:Sem Value}(u: ∀Q E,(∀k,Q (.ref W.h.objs.size) {W.s with heap:=W.h.push (A7 "list" cs 0),toks:=k})→wpAny (model X.prog X.w) A t Q E W.s):
  AC X A F W (rok (.list l) H) (A8 X) t:=by
 refine AC.new (c:=.ref W.h.objs.size) (o:=A7 "list" cs 0) g (λk W' x e=>?_) λQ E h=>u Q E λk=>h k
 subst e
 exact .list (Hh (o:=A7 "list" cs 0)) (AN.more (x.more0 g) h)
theorem Qb(g:Gd X W H){x:Str}{t:Tok}(h1:x.length≤1000)(e:(yP x (x.length+1)).length≤1000):
  AC X A F W (rok (.list ((wC x).map .str)) H) (A8 X) (call (.builtin "str.split") [.str x t]):=by
 have wp {Q E}:=gq (prog:=X.prog) (w:=X.w) (A:=A) (Q:=Q) (E:=E) zL (gp W.s x t) gf (PySem.F.args_str_split_1 _) (meets_str_split_space x t (Da h1) (Da e))
 cases hw:yP x (x.length+1)==[(0,x.length)]
 ·rw[show wC x=qp x from if_neg (ne_true_of_eq_false hw)]
  exact Bv g (Oa (qp x) W.s.toks) λQ E h=>wp (by rw[hw];exact h _)
 ·rw[show wC x=[x] from if_pos hw]
  exact Bv (cs:=[.str x t]) g (.cons (.str _ _) .nil) λQ E h=>wp (by rw[hw];exact h _)
theorem Qv(g:Gd X W H){x y:Str}{t u:Tok}(h1:x.length≤1000)(h3:y.length≠0)(B:(ez x (bc x y 0 x.length (x.length+1)) y.length).length≤1000):
  AC X A F W (rok (.list ((ju x y).map .str)) H) (A8 X) (call (.builtin "str.split") [.str x t,.str y u]):=by
 have hy:(y.length==0)=false:=beq_eq_false_iff_ne.mpr h3
 have wp {P:Around→(Except Value fc→Shared→Prop)→Shared→Prop} (m:Meets (Builtin.«str.split» ⟨[.str x t,.str y u],[]⟩) P) {Q:Value→Shared→Prop} {E} (h:P A _ W.s):wpAny (model X.prog X.w) A (call (.builtin "str.split") [.str x t,.str y u]) Q E W.s:=
  gq zL (gp W.s x t) gf (PySem.F.args_str_split_2 _ _) m h
 cases e:(decide (x.length<y.length)||decide (kf x<kf y))
 ·cases hf:(bc x y 0 x.length (x.length+1)).isEmpty
  ·rw[show ju x y=_ from(if_neg (ne_true_of_eq_false e)).trans (if_neg (ne_true_of_eq_false hf))]
   exact Bv g (Oa _ W.s.toks) λQ E h=>wp (meets_str_split_sep x y t u e hy hf (Da h1) (Da B)) (h _)
  ·rw[show ju x y=[x] from(if_neg (ne_true_of_eq_false e)).trans (if_pos hf)]
   exact Bv (cs:=[.str x t]) g (.cons (.str _ _) .nil) λQ E h=>wp (meets_str_split_not_found x y t u e hy hf) (h _)
 ·rw[show ju x y=[x] from if_pos e]
  exact Bv (cs:=[.str x t]) g (.cons (.str _ _) .nil) λQ E h=>wp (meets_str_split_cannot_occur x y t u e) (h _)
theorem RT{l:List AV}{cs:List Value}{ss:List Str}(h:AN X W l cs):ED l=some ss→tz cs ss:=
 AN.ind (P:=λl cs=>∀ss,ED l=some ss→tz cs ss) (λss e=>u7 e▸ .nil) (λ{v l c cs} h r B ss e=>by
  induction v using AV.casesOn with
  |str x=>
   refine Mine.Internal.StrV.casesOn h.out λt=>?_
   obtain⟨u,h1,rfl⟩:=Option.map_eq_some_iff.mp (show(ED l).map (x:: ·)=some ss from e)
   exact .cons x t (B _ h1)
  |_=>exact Ar e) h ss
theorem Jg(k:Str){vs:List Value}{ns:List Str}(h:tz vs ns): ∀(j:Nat) (h1:j<vs.length) (e:j<ns.length),isStrOf k vs[j]=(ns[j]==k):=by
 induction h with
 |nil=>exactλj h=>absurd h (xN j)
 |cons n t r u=>exactλj=>eh j (λ_ _=>rfl) λj h1 e=>u j (wQ h1) (wQ e)
theorem Mp{k:Str}{ns:List Str}: ∀{j:Nat},j<ns.idxOf k→∀(u:j<ns.length),(ns[j]==k)=false:=by
 induction ns with
 |nil=>exactλh u=>absurd u (xN _)
 |cons n r B=>
  intro j h u
  rw[List.idxOf_cons] at h
  cases e:n==k with
  |true=>rw[e] at h;exact absurd h (xN _)
  |false=>
   rw[e] at h
   induction j using eh with
   |zero=>exact e
   |succ j=>exact B (wQ h) (wQ u)
theorem UG(g:Gd X W H){l:List AV}{cl:Value}{ss:List Str}{k:Str}{t:Tok}(hl:VR X W (.list l) cl)(hs:ED l=some ss)(I:l.length≤1000)(J:k∈ss):
  AC X A F W (rok (.int (ss.idxOf k:Nat)) H) (A8 X) (call (.builtin "list.index") [cl,.str k t]):=by
 refine Mine.Internal.SeqV.casesOn hl.out λ{a vs n} D r=>?_
 have hi:=RT r hs
 have u:ss.idxOf k<ss.length:=List.idxOf_lt_length_iff.mpr J
 have e2:vs.length=ss.length:=hi.len_eq
 have hb:ss.length≤1000:=e2▸r.length▸I
 exact BB g λQ E h=>gq gc ⟨_,D.1,rfl⟩ PySem.F.entry_list_index (PySem.F.args_list_index_2 _ _)
   (SeqAt.list_indexAt a vs.toArray n none #[] (.str k t) (isStrOf k) (ss.idxOf k) (e2▸u:_<vs.length) (vL (Int.ofNat_le.mpr (u5 (yD u) hb)) (by decide))
    ((Jg k hi _ (e2▸u) u).trans (beq_iff_eq.mpr (List.getElem_idxOf u)))
    λj e B=>(Jg k hi j e (e2▸e:j<ss.length)).trans (Mp B _)) ⟨D.1,λy hy=>(eq_isStrOf k t hi y (List.mem_toArray.mp hy)).at _ _,h⟩
theorem Sf(ok:AX X)(g:Gd X W H){a:Addr}(h:a∈W.β):(a==sysModules)=false:=
 let⟨_,ho⟩:=ok.sysm
 beq_eq_false_iff_ne.mpr λe=>(g.base _ _ ho).2 (g.isN _ (e▸h))
theorem Zq(ok:AX X)(g:Gd X W H){i:Nat}{es:List (Int×AV)}{k:Int}{d:AV}{B cd:Value}{t:Tok}(D:VR X W (.ref i) B)(I:H[i]?=some (.dict es))(hd:VR X W d cd):
  AC X A F W (rok ((Ah es k).getD d) H) (A8 X) (call (.builtin "dict.get") [B,.int k t,cd]):=by
 refine Mine.Internal.RefV.casesOn D.out λ{a} u=>?_
 obtain @⟨kvs,hdo,e,r⟩:=(g.objs _ _ _ I u).out
 have hm:=hdo.mapOf
 have hc:VR X W ((Ah es k).getD d) ((gn kvs k).getD cd):=by
  cases hg:Ah es k with
  |none=>rw[L7 e hg];exact hd
  |some v=>
   obtain⟨c,e1,e2⟩:=JQ e r hg
   rw[e1];exact e2
 exact AC.tok g (W.s.toks+1) (VR.more ((AS.tok (X:=X) (F:=Ab) (W:=W) (W.s.toks+1)).more0 g) hc) λQ E h=>
  call_meetsIn iq hm.typeIs PySem.F.entry_dict_get (PySem.F.args_dict_get_3 _ _ _) (meets_dict_get_default (intKind X.prog X.w) a (QX _ _ k t) (Sf ok g (wG u)) cd) ⟨_,hm,h⟩
end
end Mine.Internal
namespace Mine.Internal
open PySem PySem.W PyProof.Rows
open PySem.AutoSeq1 (wpAny_loadPart')
section
variable{prog:Program}{w:World}{A:Around}{E:Value→Shared→Prop}{s:Shared}
theorem Kn{Q:List Value→Shared→Prop}(e:Addr){T:String}{o:Obj}{items:Array Value}{n:Nat}(D:T="list"∨T="tuple")
  (ho:s.heap.get? e=some o) (hc:o.cls=.type T) (hd:o.data=.seq items n) (hsz:items.size≤yR)
  (B: ∀h':Heap,(∀b o',s.heap.get? b=some o'→h'.get? b=some o')→s.heap.objs.size≤h'.objs.size→Q items.toList {s with heap:=h'}):
  wpAny (model prog w) A (collect (.ref e)) Q E s:=
 BD (wpAny_collect_seq (hsz:=hsz) e D ho hc hd λh' u hs=>B h' u hs)
theorem Kq(l:Addr)(o:Obj)(items:Array Value)(n:Nat)(hc:o.cls=.type "list")(hd:o.data=.seq items n)(hsz:items.size≤yR):
  Meets (Builtin.«tuple.__new__» ⟨[.type "tuple",.ref l],[]⟩)
   (λ_ R s=>s.heap.get? l=some o∧∀h':Heap,(∀b o',s.heap.get? b=some o'→h'.get? b=some o')→s.heap.objs.size≤h'.objs.size→R (.ok (.ret (.ref h'.objs.size))) {s with heap:=h'.push {cls:=.type "tuple",data:=.seq items}}):=
 .of_wp λprog w A R s h=>by
  obtain⟨hp,g,d,tk,os⟩:=s;obtain⟨e,h⟩:=h
  have B:=sub_tuple_self
  have u:=init_tuple_lookup
  have D:=madeHere_tuple
  have J:Shared.TypeIs ⟨hp,g,d,tk,os⟩ (.ref l) "list":=⟨o,e,hc⟩
  wp_walk using ah e,wpAny_typeOf J,Kn l (.inl rfl) e hc hd hsz
  intro h' I hs
  show wpAny _ _ (Builtin.Tuple.tupleExact items.toList.toArray>>= λv=>ret v) _ _ _
  unfold Builtin.Tuple.tupleExact
  refine u0 (y7 ?_ hsz)
  refine u8 ⟨_,rfl,?_⟩
  exact h h' I hs
theorem Qs{l:Addr}{items:Array Value}{Q:Value→Shared→Prop}(hl:s.heap.IsList l items)(hsz:items.size≤yR)
  (h: ∀h':Heap,(∀b o',s.heap.get? b=some o'→h'.get? b=some o')→s.heap.objs.size≤h'.objs.size→Q (.ref h'.objs.size) {s with heap:=h'.push {cls:=.type "tuple",data:=.seq items}}):
  wpAny (model prog w) A (call (.type "tuple") [.ref l]) Q E s:=by
 obtain⟨o,ho,hc,n,hd⟩:=hl
 exact rn PySem.F.called_tuple (by decide) (PySem.F.typeCall_tuple_1 _) (PySem.F.newCall_tuple_1 _) (λobj=>dw obj _) PySem.F.entry_tuple_new
  (Kq l o items n hc hd hsz) ⟨ho,λh' e hs=>⟨⟨_,vO _ rfl,rfl⟩,h h' e hs⟩⟩
end
noncomputable def bB(f:Str):Option Value:=
 if f=nm "len" then some (.builtin "len")else if f=nm "abs" then some (.builtin "abs")else if f=nm "sum" then some (.builtin "sum")else if f=nm "sorted" then some (.builtin "sorted")
 else if f=nm "int" then some (.type "int")else if f=nm "str" then some (.type "str")else if f=nm "tuple" then some (.type "tuple")else if f=nm "list" then some (.type "list")
 else if f=nm "range" then some (.type "range")else if f=nm "enumerate" then some (.type "enumerate")else none
noncomputable def Aa(X:Cx):Prop:=∀f v,bB f=some v→gv X f=some v
section
variable{X:Cx}{A:Around}{F:Addr→Prop}{W W':Wd}{H:AH}
theorem AC.blt(b:Aa X){f k:Str}{c v:Value}{cs:List Value}{r u:R AV}(hc:gv X f=some c)(B:bB k=some v)(h:AC X A F W r (A8 X) (call v cs))(h':AC X A F W u (A8 X) (call c cs)):AC X A F W (if f=k then r else u) (A8 X) (call c cs):=
 AC.iteR (λe=>u7 ((b k v B).symm.trans (e▸hc))▸h) λ_=>h'
theorem HT(g:Gd X W H){a:Addr}{l:List AV}{vs:List Value}(hl:W.h.IsList a vs.toArray)(r:AN X W l vs)(u:l.length≤1000000):AC X A F W (rok (.tuple l) H) (A8 X) (call (.type "tuple") [.ref a]):=by
 refine AC.grow g (λh' c=>∃b,c=.ref b∧W.h.objs.size≤b∧h'.get? b=some (A7 "tuple" vs 0)) (λh' k c x B=>?_) λQ E h=>?_
 ·obtain⟨b,rfl,hb,ho⟩:=B
  exact .tuple (Ju ho hb) (AN.more (x.more0 g) r)
 ·exact Qs hl (Da (by rw[vV,r.length];exact u)) λh' D hs=>h _ W.s.toks _ (λb o e=>vE _ (D b o e)) ⟨_,rfl,hs,vO _ rfl⟩
theorem IW(g:Gd X W H){a:Addr}{T:String}{l:List AV}{vs:List Value}{n:Nat}(J:T="list"∨T="tuple")(ho:W.h.get? a=some (A7 T vs n))(r:AN X W l vs)(u:l.length≤1000000):AC X A F W (rok (.list l) H) (A8 X) (call (.type "list") [.ref a]):=by
 refine AC.grow g (λh' c=>∃b n,c=.ref b∧W.h.objs.size≤b∧h'.get? b=some (A7 "list" vs n)) (λh' k c x B=>?_) λQ E h=>?_
 ·obtain⟨b,n,rfl,hb,ho⟩:=B
  exact .list (Ju ho hb) (AN.more (x.more0 g) r)
 ·exact call_list_seq a J ho rfl rfl (λh' I D e=>h h' W.s.toks _ D ⟨_,I,rfl,vJ _,e⟩) (Da (by rw[vV,r.length];exact u))
theorem PS(g:Gd X W H){a:Addr}(xs:Array (Int×Tok)){i:Int}(B:A.handled=none)(hl:W.h.IsList a (ja xs))(hi:preSum (numAt xs) xs.size=i):
  AC X A F W (rok (.int i) H) (A8 X) (call (.builtin "sum") [.ref a]):=by
 refine AC.grow g (λh' c=>∃t,c=.int i t) (λh' k c x e=>?_) λQ E h=>?_
 ·obtain⟨t,rfl⟩:=e;exact .int _ _
 ·exact sum_intListG B hl λh' tk t' u=>h h' tk _ u ⟨t',by rw[hi]⟩
theorem KO{l:List AV}{cs:List Value}{ns:List Int}(h:AN X W l cs):B6 l=some ns→rk cs ns:=
 AN.ind (P:=λl cs=>∀ns,B6 l=some ns→rk cs ns) (λns e=>u7 e▸ .nil) (λ{v l c cs} h r B ns e=>by
  induction v using AV.casesOn with
  |int x=>
   refine Mine.Internal.IntV.casesOn h.out λt=>?_
   obtain⟨u,h1,rfl⟩:=Option.map_eq_some_iff.mp (show(B6 l).map (x:: ·)=some ns from e)
   exact .cons x t (B _ h1)
  |_=>exact Ar e) h ns
theorem PX{cs:List Value}{ns:List Int}(h:rk cs ns):AN X W (ns.map .int) cs:=by
 induction h with
 |nil=>exact .nil
 |cons n t _ e=>exact .cons (.int n t) e
theorem Ll{x y:Int}{r:List Int}:RJ x (y::r)=if x≤y then x::y::r else y::RJ x r:=rfl
theorem Lm(x:Int)(l:List Int):(RJ x l).Perm (x::l):=by
 induction l with
 |nil=>exact .refl _
 |cons y r e=>
  rw[Ll]
  by_cases h:x≤y
  ·rw[if_pos h]
  ·rw[if_neg h];exact(e.cons y).trans (.swap x y r)
theorem RA(l:List Int):(Fi l).Perm l:=by
 induction l with
 |nil=>exact .refl _
 |cons x r e=>exact(Lm x _).trans (e.cons x)
theorem N7(x:Int){l:List Int}(h:l.Pairwise (· ≤ ·)):(RJ x l).Pairwise (· ≤ ·):=by
 induction l with
 |nil=>exact gi _ x
 |cons y r D=>
  have h':=List.pairwise_cons.mp h
  rw[Ll]
  by_cases u:x≤y
  ·rw[if_pos u]
   exact List.pairwise_cons.mpr ⟨λz B=>(List.mem_cons.mp B).elim (λe=>e▸u) λB=>u9 u (h'.1 z B),h⟩
  ·rw[if_neg u]
   exact List.pairwise_cons.mpr ⟨λz B=>(List.mem_cons.mp ((Lm x r).mem_iff.mp B)).elim (λe=>e▸vU (Int.not_le.mp u)) (h'.1 z),D h'.2⟩
theorem My(l:List Int):(Fi l).Pairwise (· ≤ ·):=by
 induction l with
 |nil=>exact .nil
 |cons x r e=>exact N7 x e
theorem Rc{l e:List Int}(hp:l.Perm e)(h:l.Pairwise (· ≤ ·))(h':e.Pairwise (· ≤ ·)):l=e:=
 hp.eq_of_pairwise (λa b _ _ h1 u=>im h1 u) h h'
theorem QW(g:Gd X W H){a:Addr}{l:List AV}{vs:List Value}{ns:List Int}(hl:W.h.IsList a vs.toArray)(r:AN X W l vs)(hi:B6 l=some ns)(B:l.length<64):
  AC X A F W (rok (.list ((Fi ns).map .int)) H) (A8 X) (call (.builtin "sorted") [.ref a]):=by
 have J:=KO r hi
 refine AC.grow g (λh' c=>∃out e,rk out (Fi ns)∧c=.ref (W.h.objs.size+1)∧h'.get? (W.h.objs.size+1)=some (A7 "list" out e)) (λh' k c x D=>?_) λQ E h=>?_
 ·obtain⟨out,e,h1,rfl,u⟩:=D
  exact .list (Ju u (w9 _)) (PX h1)
 ·refine sorted_ints hl J (by rw[r.length];exact B) λout I h1 u h3=>?_
  obtain⟨e,he⟩:=rl W.s.heap vs out
  refine h _ W.s.toks _ (λb o hb=>qn hb) ⟨out.toList,e,?_,rfl,?_⟩
  ·rw[←Rc (u.trans (RA ns).symm) h3 (My ns)];exact h1
  ·exact he
theorem MM{n:Nat}(h:n≤1000000):(n:Int)<2^63:=vL (Int.ofNat_le.mpr h) (by decide)
theorem mO{i:Int}(h:i.natAbs<2^64):i.natAbs.log2<1920:=(kv i.natAbs).elim (λe=>e▸(by decide:Nat.log2 0<1920)) λp=>zG ((nv (y6 p)).mpr h) (by decide)
theorem Ul(b:Aa X)(g:Gd X W H){f:Str}{i:Int}{t:Tok}{c:Value}(hc:gv X f=some c):AC X A F W (B7 f [.int i] H) (A8 X) (call c [.int i t]):=
 .blt b hc (v:=.type "int") rfl (AC.same g (.int _ _) λQ E h=>call_int_int h)<|
 .blt b hc (v:=.builtin "abs") rfl (AC.toks g (λt k=>.int _ t) λQ E h=>call_abs_int λu tk=>h u tk)<|
 .blt b hc (v:=.type "str") rfl (AC.guardR λe=>AC.tok g (W.s.toks+1) (.str _ _) λQ E h=>P.str_of_int (mO e) h) AC.none
theorem NA:ja #[]= #[]:=by simp[ja]
theorem Md{i:Int}{t:Tok}:ja #[(i,t)]= #[.int i t]:=by simp[ja]
theorem RX(b:Aa X)(g:Gd X W H)(B:A.handled=none){f:Str}{l:List AV}{a:Addr}{vs:List Value}{n:Nat}{c:Value}(u:W.h.get? a=some (A7 "list" vs n))(r:AN X W l vs)(hc:gv X f=some c):AC X A F W (B7 f [.list l] H) (A8 X) (call c [.ref a]):=
 have hl:W.h.IsList a vs.toArray:=⟨_,u,rfl,_,rfl⟩
 .blt b hc (v:=.builtin "len") rfl (AC.guardR λe=>AC.tok g (W.s.toks+1+1) (.int _ (W.s.toks+1)) λQ E h=>Calls.call_len_list hl (MM (r.length▸e:vs.length≤1000000)) (by rw[vV,r.length];exact h))<|
 .blt b hc (v:=.type "tuple") rfl (AC.guardR λe=>HT g hl r e)<|
 .blt b hc (v:=.type "list") rfl (AC.guardR λe=>IW g (.inl rfl) u r e)<|
 .blt b hc (v:=.builtin "sum") rfl (by
  induction l using u6 with
  |nil=>rw[show vs=[] from r.out] at hl;exact PS g #[] B (show W.h.IsList a (ja #[])from(NA▸hl)) rfl
  |cons v l=>induction l using u6 with
   |nil=>induction v using AV.casesOn with
    |int i=>
     obtain⟨_,rfl,h⟩:=r.o1
     obtain⟨t⟩:=h.out
     exact PS g #[(i,t)] B (Md▸hl) (lx i)
    |_=>exact AC.none
   |cons w l=>cases v<;>exact AC.none) AC.none
theorem Pf(b:Aa X)(g:Gd X W H){f:Str}{l:List AV}{a:Addr}{vs:List Value}{n:Nat}{c:Value}(u:W.h.get? a=some (A7 "tuple" vs n))(r:AN X W l vs)(hc:gv X f=some c):AC X A F W (B7 f [.tuple l] H) (A8 X) (call c [.ref a]):=
 .blt b hc (v:=.builtin "len") rfl (AC.guardR λe=>AC.tok g (W.s.toks+1+1) (.int _ (W.s.toks+1)) λQ E h=>len_tuple (show qu W.s.heap a vs.toArray from⟨_,u,rfl,_,rfl⟩) (MM (r.length▸e:vs.length≤1000000)) (by rw[vV,r.length];exact h))<|
 .blt b hc (v:=.type "list") rfl (AC.guardR λe=>IW g (.inr rfl) u r e) AC.none
theorem UL(b:Aa X)(g:Gd X W H){f:Str}{i:Nat}{a:Addr}{c:Value}(B:W.β[i]?=some a)(hc:gv X f=some c):AC X A F W (B7 f [.ref i] H) (A8 X) (call c [.ref a]):=by
 unfold B7
 dsimp only
 cases e:H[i]? with
 |none=>exact AC.none
 |some o=>induction o using AO.casesOn with
  |list l=>
   obtain⟨hl,r⟩:=(g.objs _ _ _ e B).out
   exact .blt b hc (v:=.type "tuple") rfl (AC.guardR λu=>HT g hl r u) AC.none
  |_=>exact AC.none
theorem UI(ok:AX X)(b:Aa X)(g:Gd X W H)(D:A.handled=none){f:Str}{vs:List AV}{cs:List Value}{c:Value}(B:AN X W vs cs)(hc:gv X f=some c):
  AC X A F W (B7 f vs H) (A8 X) (call c cs):=by
 induction vs using u6 with
 |nil=>exact AC.none
 |cons v l=>induction l using u6 with
  |cons w l=>cases v<;>exact AC.none
  |nil=>
   obtain⟨_,rfl,h⟩:=B.o1
   induction v using AV.casesOn with
   |int i=>obtain⟨t⟩:=h.out;exact Ul b g hc
   |bool q=>rw[show _=Value.bool q from h.out];exact .blt b hc (v:=.type "int") rfl (BB g λQ E h=>call_int_bool h) AC.none
   |str x=>obtain⟨t⟩:=h.out;exact .blt b hc (v:=.builtin "len") rfl (AC.guardR λI=>AC.tok g (W.s.toks+1+1) (.int _ _) λQ E h=>sy (Int.not_le.mpr (MM I)) h) AC.none
   |list l=>obtain⟨e,r⟩:=h.out;exact RX b g D e.1 r hc
   |tuple l=>obtain⟨e,r⟩:=h.out;exact Pf b g e.1 r hc
   |ref i=>obtain⟨u⟩:=h.out;exact UL b g u hc
   |_=>exact AC.none
end
end Mine.Internal
namespace Mine.Internal
open PySem PySem.W PyProof.Rows
section
variable{X:Cx}{A:Around}{F P:Addr→Prop}{W W₀ W':Wd}{H:AH}{h':Heap}{k:Nat}
theorem VM(u: ∀b o,¬P b→W.h.get? b=some o→h'.get? b=some o)(hs:W.h.objs.size≤h'.objs.size)(hd: ∀a o,P a→W.h.get? a=some o→¬MJ o):AS X P W (W.low.put h' k):=
 ⟨λb o e _ B=>.inl (u b o B e),λb o e _ d=>⟨o,u b o (λp=>hd b o p e d) e,d⟩,⟨[],(vX _).symm⟩,λb h=>.inl h,λa h=>⟨λx=>x.2,λx=>⟨h,x⟩⟩,hs⟩
theorem Lo(u: ∀b o,¬P b→W.h.get? b=some o→h'.get? b=some o)(e: ∀a,P a→W.N a):A5 W (W.low.put h' k):=
 ⟨λb o h=>⟨u b o (λp=>h.2 (e b p)) h.1,λn=>h.2 n.2⟩,[],(vX _).symm⟩
theorem bV(g:Gd X W H)(u: ∀b o,¬P b→W.h.get? b=some o→h'.get? b=some o)(B: ∀a,P a→W.N a∧a∉W.β):Gd X (W.low.put h' k) H:=
 have m:A5 W (W.low.put h' k):=Lo u λa p=>(B a p).1
 ⟨g.gens,g.os,λb o h=>
  have z:=g.base b o h
  ⟨u b o (λp=>z.2 (B b p).1) z.1,λn=>z.2 n.2⟩,g.nodup,g.len,λa I=>⟨β_lt g I,g.isN a I⟩,λj ao b h1 D=>
  (g.objs j ao b h1 D).more m λo e=>u b o (λp=>(B b p).2 (wG D)) e⟩
theorem A5.trans{u:Wd}(x:A5 W₀ W)(y:A5 W u):A5 W₀ u:=⟨λa o h=>y.fz a o (x.fz a o h),by
 obtain⟨t,e⟩:=x.β
 obtain⟨t',e'⟩:=y.β
 exact⟨t++t',e'.trans ((congrArg (· ++t') e).trans (xK ..))⟩⟩
theorem A5.refl:A5 W W:=⟨λ_ _ h=>h,[],(vX _).symm⟩
theorem AC.seq{α β γ δ:Type}{rel:Wd→α→γ→Prop}{rel':Wd→β→δ→Prop}{a:α}{r₂:R β}{t:Sem γ}{k:γ→Sem δ}(h:AC X A F W (rok a H) rel t)
  (D: ∀c W',AS X F W W'→Gd X W' H→rel W' a c→AC X A F W' r₂ rel' (k c)):AC X A F W r₂ rel' (t>>=k):=by
 match r₂,D with
 |uZ,_=>trivial
 |some (.ok b H'),D=>exactλQ E U=>u0 (h _ _ λc W' x g I=>D c W' x g I Q E λY B J O u=>U Y B (x.trans J) O u)
 |some (.exc e H'),D=>exactλQ E S=>u0 (h _ _ λc W' x g I=>D c W' x g I Q E λv B J O u=>S v B (x.trans J) O (u.le x.size))
structure CY (X:Cx) (A:Around) (env:Env) (F G:Addr→Prop) (Ai:Str→Bool) (Inv:Wd→AE→Prop):Prop where
 store: ∀{W:Wd} {H:AH} {ρ:AE} {x:Str} {v:AV} {c:Value},Gd X W H→Inv W ρ→Ai x=true→VR X W v c→AC X A F W (rok ((x,v)::ρ) H) (λW' ρ' _=>Inv W' ρ') (storeName env x c)
 keep: ∀{W W':Wd} {H:AH} {ρ:AE} {P:Addr→Prop},Inv W ρ→Gd X W H→AS X P W W'→A5 W W'→(∀a,P a→¬G a)→Inv W' ρ
 vol: ∀{W:Wd} {ρ:AE} {a:Addr},Inv W ρ→G a→W.N a
 sub: ∀a,F a→G a
theorem NG{env:Env}{Ai:Str→Bool}{G:Addr→Prop}{Inv:Wd→AE→Prop}{ρ:AE}{x:Str}{v:AV}{c:Value}(B:CY X A env F G Ai Inv)(g:Gd X W H)(i:Inv W ρ)(e:Ai x=true)(u:VR X W v c):
  AC X A F W (rok ((x,v)::ρ) H) (λW' ρ' _=>Inv W' ρ') (jb env x c):=(B.store g i e u).of_wp λQ E h=>wpAny_bindName h
theorem Br{env:Env}{Ai:Str→Bool}{G:Addr→Prop}{Inv:Wd→AE→Prop}{ρ:AE}{x:Str}{v:AV}{c:Value}{pos:Pos}(B:CY X A env F G Ai Inv)(g:Gd X W H)(i:Inv W ρ)(e:Ai x=true)(u:VR X W v c):
  AC X A F W (rok ((x,v)::ρ) H) (λW' ρ' _=>Inv W' ρ') (assign (.Name x pos) env c):=(B.store g i e u).of_wp λQ E h=>wpAny_assign_Name h
inductive HS (Ai:Str→Bool):List Expr→List Str→Prop
 |nil:HS Ai [] []
 |cons {x:Str} {p:Pos} {es:List Expr} {xs:List Str}:Ai x=true→HS Ai es xs→HS Ai (.Name x p::es) (x::xs)
theorem PN{Ai:Str→Bool}{es:List Expr}: ∀{xs:List Str},BX Ai es=some xs→HS Ai es xs:=by
 induction es with
 |nil=>exactλh=>u7 h▸ .nil
 |cons e es B=>
  intro xs h
  induction e using vA with
  |Name x p=>
   obtain⟨u,h⟩:=DN (show(if Ai x=true then(BX Ai es).map (x:: ·)else none)=some xs from h)
   obtain⟨ys,h1,rfl⟩:=Option.map_eq_some_iff.mp h
   exact .cons u (B h1)
  |_=>exact Ar h
theorem Iq{env:Env}{Ai:Str→Bool}{G:Addr→Prop}{Inv:Wd→AE→Prop}(B:CY X A env F G Ai Inv){es:List Expr}{xs:List Str}{l:List AV}{cs:List Value}{W:Wd}{ρ:AE}(e:BX Ai es=some xs)(hl:xs.length=l.length)(r:AN X W l cs)(g:Gd X W H)(i:Inv W ρ):
  AC X A F W (rok ((xs.zip l).reverse++ρ) H) (λW' ρ' _=>Inv W' ρ') (yG ((wS es env).map (·.2)) cs):=by
 replace e:=PN e
 induction e generalizing l cs W ρ with
 |nil=>
  rw[show l=[] from List.length_eq_zero_iff.mp hl.symm] at r⊢
  rw[show cs=[] from r.out]
  exact AC.pure g i
 | @cons x p es xs u e D=>
  induction l using u6 with
  |nil=>exact nomatch hl
  |cons v l=>
   obtain⟨c,cs,rfl,hv,q⟩:=r.out
   rw[show((x::xs).zip (v::l)).reverse++ρ=(xs.zip l).reverse++((x,v)::ρ)from(congrArg (· ++ρ) wP).trans (xK ..)]
   refine AC.seq (t:=yZ cs (assign (.Name x p) env c)) (k:=λ_=>yG ((wS es env).map (·.2)) cs) (AL (Br B g i u hv)) λ_ W' I O J=>?_
   exact D (z6 hl) (AN.more (I.more g λa _ q=>B.vol i (B.sub a q)) q) O J
end
structure Lp (X:Cx) (A:Around) (W₀:Wd) (I:Addr) (wr:List Addr) (Ai:Str→Bool) (target:Expr) (items:List AV) (St:Nat→Heap→Prop):Prop where
 frame: ∀{i:Nat} {W W':Wd} {P:Addr→Prop} {H:AH},St i W.h→AS X P W W'→Gd X W H→A5 W₀ W→(∀b o,W₀.fz b o→¬P b)→(∀b∈wr,b∉W.β∧¬P b)→St i W'.h
 turn: ∀{i:Nat} {a:AV} {env:Env} {F G:Addr→Prop} {Inv:Wd→AE→Prop} (B:CY X A env F G Ai Inv) {W:Wd} {H:AH} {ρ ρ':AE},items[i]?=some a→BL (DG Ai target) a ρ=some ρ'→St i W.h→Gd X W H→A5 W₀ W→Inv W ρ→
  (∀b∈wr,W.low.N b∧b∉W.β∧¬G b)→(∀b o,W₀.fz b o→¬F b)→∀(K:Shared→Prop) (E:Value→Shared→Prop),
  (∀W',AS X (λb=>F b∨b∈wr) W W'→Gd X W' H→Inv W' ρ'→St (i+1) W'.h→K W'.s)→
  wpAny (model X.prog X.w) A (pyNext (.ref I)) (λr s₁=>match r with
   |none=>False
   |some v=>wpAny (model X.prog X.w) A (letOwnedTupleGo target (.ref I) v) (λ_ s₁'=>wpAny (model X.prog X.w) A (assign target env v) (λ_ s₂=>K s₂) E s₁') E s₁) E W.s
 done: ∀{W:Wd} {H:AH},St items.length W.h→Gd X W H→(∀b∈wr,W.low.N b∧b∉W.β)→∀(K:Shared→Prop) (E:Value→Shared→Prop),
  (∀W',AS X (λb=>b∈wr) W W'→Gd X W' H→A5 W W'→K W'.s)→
  wpAny (model X.prog X.w) A (pyNext (.ref I)) (λr s₁=>match r with
   |none=>K s₁
   |some _=>False) E W.s
 self: ∀{i:Nat} (s:Shared) (Q:Value→Shared→Prop) (E:Value→Shared→Prop),St i s.heap→Q (.ref I) s→wpAny (model X.prog X.w) A (pyIter (.ref I)) Q E s
section
variable{X:Cx}{A:Around}{F P:Addr→Prop}{W W₀ W':Wd}{H:AH}{Ai:Str→Bool}
theorem AS.kept{a:Addr}{o:Obj}(x:AS X P W W')(h:W.h.get? a=some o)(hb:a∉W.β)(e: ¬P a)(hd: ¬MJ o):W'.h.get? a=some o:=(x.keep a o h hb e).elim id λq=>absurd q.1 hd
theorem Gp{W:Wd}{H:AH}{B wr:List Addr}{h:Heap}(u: ∀b∈B,b∈wr∨∃o,W₀.fz b o)(J: ∀b∈wr,∀o,W.h.get? b=some o→¬MJ o)(I:AS X P W W')(g:Gd X W H)(m:A5 W₀ W)(O: ∀b o,W₀.fz b o→¬P b)
  (hw: ∀b∈wr,b∉W.β∧¬P b): ∀b∈B,∀o,W.h.get? b=some o→W'.h.get? b=some o:=λb hb o e=>by
 rcases u b hb with h|⟨o',h⟩
 ·exact I.kept e (hw b h).1 (hw b h).2 (J b h o e)
 ·have D:=(m.fz _ _ h).1
  rw[e] at D;cases D
  rcases I.keep b o e (λq=>(m.fz _ _ h).2 (g.isN _ q)) (O b _ h)with q|⟨_,q,_⟩
  ·exact q
  ·exact absurd q (m.fz _ _ h).2
structure rD (X:Cx) (W W':Wd) (H:AH) (wr:List Addr):Prop where
 m:A5 W W'
 g:Gd X W' H
 x:AS X (λb=>b∈wr) W W'
theorem HK{wr:List Addr}{h':Heap}{tk:Nat}(g:Gd X W H)(u: ∀b o,b∉wr→W.h.get? b=some o→h'.get? b=some o)(hs:W.h.objs.size≤h'.objs.size)(B: ∀b∈wr,W.N b)(hb: ∀b∈wr,b∉W.β)(D: ∀b∈wr,∀o,W.h.get? b=some o→¬MJ o):rD X W (W.low.put h' tk) H wr:=
 ⟨Lo (P:=λb=>b∈wr) u B,bV (P:=λb=>b∈wr) g u λb q=>⟨B b q,hb b q⟩,VM u hs λb o q e=>D b q o e⟩
theorem jR{I:Addr}{fp wr:List Addr}{items:List AV}{x:Str}{px:Pos}{Pi:Nat→Value→Prop}{St:Nat→Heap→Prop}(u:Walks X.prog X.w A I fp wr items.length Pi St)(hx:Ai x=true)
  (J: ∀b∈fp,b∈wr∨∃o,W₀.fz b o) (U: ∀i h,St i h→∀b∈wr,∀o,h.get? b=some o→¬MJ o) (hP: ∀i v,Pi i v→∀a,items[i]?=some a→VR X W₀ a v):Lp X A W₀ I wr Ai (.Name x px) items St where
 frame:=λ{i W W' P H} st xx g m hz hw=>u.frame _ _ _ st (Gp (h:=W.h) J (U _ _ st) xx g m hz hw)
 turn:=λ{i a env F G Inv} B {W H ρ ρ'} hi hb st g m inv hw hzF K E hK=>by
  have hlt:i<items.length:=(List.getElem?_eq_some_iff.mp hi).1
  have Z:ρ'=(x,a)::ρ:=by
   rw[show DG Ai (.Name x px)=QR.name x from if_pos hx] at hb
   exact(u7 hb).symm
  subst Z
  refine BD (u.item i W.s _ _ hlt st λv h' tk hPv D hk hs=>?_)
  obtain⟨m1,Y,O⟩:=HK (tk:=tk) g (λb o hb e=>hk b o hb e) hs (λb q=>(hw b q).1.2) (λb q=>(hw b q).2.1) (U _ _ st)
  have i1:=B.keep inv g O m1 λb q=>(hw b q).2.2
  show wpAny _ A (pure ():Sem Unit) _ E _
  refine u8 ?_
  have S:=Br (A:=A) (pos:=px) B Y i1 hx (VR.more (m.trans m1) (hP i v hPv a hi))
  refine S (λ_ s₂=>K s₂) E λ_ W2 x2 g2 i2=>?_
  refine hK W2 ((O.mono λb _ q=>.inr q).trans (x2.mono λb _ q=>.inl q)) g2 i2 ?_
  exact u.frame _ _ _ D (Gp (W:=W.low.put h' tk) (h:=h') J (U _ _ D) x2 Y (m.trans m1) hzF λb hb=>⟨(hw b hb).2.1,λq=>(hw b hb).2.2 (B.sub b q)⟩)
 done:=λ{W H} st g hw K E hK=>by
  refine BD (u.done W.s _ _ st λh' tk hk hs=>?_)
  obtain⟨m1,Y,O⟩:=HK (tk:=tk) g (λb o hb e=>hk b o hb e) hs (λb q=>(hw b q).1.2) (λb q=>(hw b q).2) (U _ _ st)
  exact hK (W.low.put h' tk) O Y m1
 self:=λ{i} s Q E st h=>u.self i s Q E st h
theorem RW{Ai:Str→Bool}{e:Expr}{r:List Expr}{xs:List Str}(h:BX Ai (e::r)=some xs): ∃y p ys,e=.Name y p∧Ai y=true∧BX Ai r=some ys∧xs=y::ys:=by
 induction e using vA with
 |Name y p=>
  obtain⟨hy,h⟩:=DN h
  obtain⟨ys,h1,h2⟩:=Option.map_eq_some_iff.mp h
  exact⟨y,p,ys,rfl,hy,h1,h2.symm⟩
 |_=>exact Ar h
theorem WZ{Ai:Str→Bool}{env:Env}{es:List Expr}: ∀{xs:List Str},BX Ai es=some xs→(wS es env).length=xs.length∧(wS es env).findIdx? (·.1)=none:=by
 induction es with
 |nil=>intro xs h;cases u7 h;exact⟨rfl,rfl⟩
 |cons e r u=>
  intro xs h
  obtain⟨y,p,ys,rfl,_,h1,rfl⟩:=RW h
  refine⟨congrArg (· +1) (u h1).1,?_⟩
  show List.findIdx? _ ((false,_)::wS r env)=none
  rw[lb,(u h1).2]
  rfl
theorem MF{xs:List Str}{l:List AV}{ρ ρ':AE}(h:BL (.names xs) (.tuple l) ρ=some ρ'):xs.length=l.length∧(xs.zip l).reverse++ρ=ρ':=At h
theorem XR{Ai:Str→Bool}{es:List Expr}{k:Nat}{e:Pos}{a:AV}{ρ ρ':AE}(h:BL (DG Ai (.Tuple es k e)) a ρ=some ρ'): ∃xs,BX Ai es=some xs∧BL (.names xs) a ρ=some ρ':=by
 revert h
 show BL (match BX Ai es with|some xs=>.names xs|uZ=>.bad) a ρ=some ρ'→_
 cases BX Ai es with
 |none=>exactλh=>Ar h
 |some xs=>exactλh=>⟨xs,rfl,h⟩
theorem HG{h h':Heap}(e:sv h.objs.size h h'): ∀b o,h.get? b=some o→h'.get? b=some o:=λb o q=>e b o (vR (vI q)) q
theorem E3{T:Addr}{vals:Array Value}{es:List Expr}{k1:Nat}{O:Pos}{env:Env}{Q:Unit→Shared→Prop}{E:Value→Shared→Prop}(g:Gd X W H)(I:A.handled=none)(J:qu W.s.heap T vals)
  (B:(wS es env).length=vals.size) (e:(wS es env).findIdx? (·.1)=none)
  (h: ∀W',AS X Ab W W'→Gd X W' H→A5 W W'→wpAny (model X.prog X.w) A (yG ((wS es env).map (·.2)) vals.toList) Q E W'.s):wpAny (model X.prog X.w) A (assign (.Tuple es k1 O) env (.ref T)) Q E W.s:=by
 rw[qk]
 refine u0 (vT ?_)
 unfold unpack
 rw[B,e]
 refine u0 (wE (BD (bz I J λh' D hs=>?_)))
 have u:=HG (h:=W.h) D
 have x:AS X Ab W (W.low.put h' W.s.toks):=.grow u hs
 exact h (W.low.put h' W.s.toks) x (g.grow u hs) (x.more0 g)
theorem gA{I:Addr}{fp wr:List Addr}{items:List AV}{es:List Expr}{k1:Nat}{px:Pos}{Pi:Nat→Array Value→Prop}{St:Nat→Heap→Prop}{Y:Nat→Addr→Heap→Prop}(hh:A.handled=none)(J:WalksT X.prog X.w A I fp wr items.length Pi St Y)
  (O: ∀b∈fp,b∈wr∨∃o,W₀.fz b o) (Z: ∀i h,St i h→∀b∈wr,∀o,h.get? b=some o→¬MJ o) (nd': ∀i T h,Y i T h→∀b∈wr,∀o,h.get? b=some o→¬MJ o)
  (hP: ∀i vs,Pi i vs→∀a,items[i]?=some a→∃l,a=.tuple l∧AN X W₀ l vs.toList):Lp X A W₀ I wr Ai (.Tuple es k1 px) items St where
 frame:=λ{i W W' P H} st xx g m hz hw=>J.frame _ _ _ st (Gp (h:=W.h) O (Z _ _ st) xx g m hz hw)
 turn:=λ{i a env F G Inv} B {W H ρ ρ'} hi hb st g m inv hw hzF K E hK=>by
  have hlt:i<items.length:=(List.getElem?_eq_some_iff.mp hi).1
  obtain⟨xs,hn,hb⟩:=XR hb
  refine BD (J.item i W.s _ _ hlt st λT vals h' tk hPv hT htup u hk hs=>?_)
  obtain⟨l,rfl,r⟩:=hP i vals hPv a hi
  obtain⟨D,rfl⟩:=MF hb
  obtain⟨m1,g1,U⟩:=HK (tk:=tk) g (λb o hb e=>hk b o hb e) hs (λb q=>(hw b q).1.2) (λb q=>(hw b q).2.1) (Z _ _ st)
  have i1:=B.keep inv g U m1 λb q=>(hw b q).2.2
  have hN1: ∀b∈wr,(W.low.put h' tk).N b:=λb q=>(hw b q).1
  refine BD (J.go es k1 px i T _ _ _ u λh2 st2 hk2 hs2=>?_)
  obtain⟨m2,g2,x2⟩:=HK (tk:=tk) g1 (λb o hb e=>hk2 b o hb e) hs2 hN1 (λb q=>(hw b q).2.1) (nd' _ _ _ u)
  have i2:=B.keep i1 g1 x2 m2 λb q=>(hw b q).2.2
  obtain⟨oT,hoT,hcT,nT,hdT⟩:=htup
  have htu:qu ((W.low.put h' tk).low.put h2 tk).s.heap T vals:=⟨oT,hk2 T oT (J.apart _ _ _ u) hoT,hcT,nT,hdT⟩
  obtain⟨s1,s2⟩:=WZ (env:=env) hn
  have hvl:vals.size=xs.length:=by rw[D,←r.length];rfl
  refine E3 g2 hh htu (s1.trans hvl.symm) s2 λW3 x3 g3 m3=>?_
  have i3:=B.keep i2 g2 x3 m3 λ_ q=>q.elim
  have S:=Iq (A:=A) B hn D (AN.more (((m.trans m1).trans m2).trans m3) r) g3 i3
  refine S (λ_ s₂=>K s₂) E λ_ W4 x4 g4 i4=>?_
  have st3:St (i+1) W3.h:=J.frame _ _ _ st2 (Gp (W:=(W.low.put h' tk).low.put h2 tk) (h:=h2) O (Z _ _ st2) x3 g2 ((m.trans m1).trans m2) (λ_ _ _ q=>q) λb hb=>⟨(hw b hb).2.1,λq=>q⟩)
  refine hK W4 (((U.mono λb _ q=>.inr q).trans (x2.mono λb _ q=>.inr q)).trans ((x3.mono λ_ _ q=>q.elim).trans (x4.mono λb _ q=>.inl q))) g4 i4 ?_
  exact J.frame _ _ _ st3 (Gp (W:=W3) (h:=W3.h) O (Z _ _ st3) x4 g3 (((m.trans m1).trans m2).trans m3) hzF λb hb=>⟨x3.nb (vS (hw b hb).1.1 (u5 U.size x2.size)) (hw b hb).2.1,λq=>(hw b hb).2.2 (B.sub b q)⟩)
 done:=λ{W H} st g hw K E hK=>by
  refine BD (J.done W.s _ _ st λh' tk hk hs=>?_)
  obtain⟨m1,g1,U⟩:=HK (tk:=tk) g (λb o hb e=>hk b o hb e) hs (λb q=>(hw b q).1.2) (λb q=>(hw b q).2) (Z _ _ st)
  exact hK (W.low.put h' tk) U g1 m1
 self:=λ{i} s Q E st h=>J.self i s Q E st h
end
end Mine.Internal
namespace Mine.Internal
open PySem PySem.W PyProof.Rows
open PySem.AutoSeq1 (wpAny_loadPart')
section
variable{prog:Program}{w:World}{A:Around}{E:Value→Shared→Prop}{s:Shared}
theorem HD{u l:Addr}{i:Nat}{items:Array Value}{x:Value}{Q:Value→Shared→Prop}(e:s.heap.IsTupleIter u l i)(hl:s.heap.IsTuple l items)(I:items[i]?=some x)
  (J: ∀h',h'.IsTupleIter u l (i+1)→xC u s.heap h'→Q x {s with heap:=h'}):wpAny (model prog w) A (yV (.ref u)) Q E s:=by
 obtain⟨o,ho,hc,hd⟩:=id e
 obtain⟨O,D,_,nl,B⟩:=hl
 unfold yV
 refine u0 (gb (name:=Str.ofString "__next__") e.typeIs x8 (fk x8 e.typeIs bf ?_ (ax _)))
 show wpAny _ _ (uc (.ref u) 0>>=_) _ _ s
 refine u0 (yI ho hd (x:=.ref l) rfl ?_)
 show wpAny _ _ (if(xS l==wJ)=true then _ else _) _ _ s
 rw[if_neg (show¬((xS l==wJ)=true)from vF)]
 show wpAny _ _ (uc (.ref u) 1>>=_) _ _ s
 refine u0 (yI ho hd (x:=.int i 0) rfl ?_)
 show wpAny _ _ (qx (.ref l)>>=_) _ _ s
 refine u0 (ji D B ?_)
 simp only[ml,I]
 refine u0 (zF ho hd (by simp) (u8 ⟨x,rfl,u8 (J _ ?_ (zE ..))⟩))
 exact⟨_,w4 _ ho (zP (zJ hd _)),(mf ..).trans hc,by
  rw[zJ hd];simp[bv]⟩
theorem Hg{B t:Addr}{i:Nat}{items:Array Value}{Q:Value→Shared→Prop}(J:A.handled=none)(u:s.heap.IsTupleIter B t i)(U:s.heap.IsTuple t items)(O:items[i]?=none)
  (S: ∀h' e,sv B s.heap h'→(∃o,h'.get? e=some o∧o.cls=.type "StopIteration")→E (.ref e) {s with heap:=h'}):wpAny (model prog w) A (yV (.ref B)) Q E s:=by
 obtain⟨o,ho,hc,hd⟩:=id u
 obtain⟨Y,I,_,nl,D⟩:=U
 unfold yV
 refine u0 (gb (name:=Str.ofString "__next__") u.typeIs x8 (fk x8 u.typeIs bf ?_ (ax _)))
 show wpAny _ _ (uc (.ref B) 0>>=_) _ _ s
 refine u0 (yI ho hd (x:=.ref t) rfl ?_)
 show wpAny _ _ (if(xS t==wJ)=true then _ else _) _ _ s
 rw[if_neg (show¬((xS t==wJ)=true)from vF)]
 show wpAny _ _ (uc (.ref B) 1>>=_) _ _ s
 refine u0 (yI ho hd (x:=.int i 0) rfl ?_)
 show wpAny _ _ (qx (.ref t)>>=_) _ _ s
 refine u0 (ji I D ?_)
 simp only[ml,O]
 refine u0 (wpAny_rule (u0 (zF ho hd (by simp) ?_)))
 show wpAny _ _ (newExc (.type "StopIteration") []>>=_) _ _ _
 refine u0 ?_
 simp only[newExc,se]
 refine u0 (y7 ?_ (by size_fits))
 refine u0 (m:=qa _ _) (je (a:=wJ) (by first|rfl|(simp only[qa];rfl)) ?_)
 refine y7 ?_ (by size_fits)
 simp only[raiseNew]
 refine u0 (qm ?_)
 first|rw[show A.in1.handled=none from J]|rw[J]
 refine u0 (u8 (sn ?_))
 exact S _ _ (((zE ..).extBut.push _).push _) ⟨_,vO _ rfl,rfl⟩
theorem PF{A:Around}(O:A.handled=none)(u l:Addr)(D:l≠u)(items:Array Value):
  Draws prog w A u [u,l] items.size (λi v=>items[i]?=some v) (λi h=>h.IsTupleIter u l i∧h.IsTuple l items) where
 live:=λ_ _ st=>let⟨o,ho,_⟩:=st.1;⟨o,ho⟩
 frame:=λ_ _ _ st I=>⟨let⟨o,ho,r⟩:=st.1;⟨o,I u (by simp) o ho,r⟩,let⟨o,ho,r⟩:=st.2;⟨o,I l (by simp) o ho,r⟩⟩
 item:=λi s Q E hi st S=>by
  refine HD st.1 st.2 (x:=items[i]) (by simp[hi]) λh' e B=>?_
  exact S _ h' s.toks (by simp[hi]) ⟨e,let⟨o,ho,r⟩:=st.2;⟨o,B.extBut l o D ho,r⟩⟩ B
 done:=λs Q E st J=>Hg O st.1 st.2 (by simp) J
set_option tactic.hygienic true in
theorem KZ(l:Addr)(items:Array Value)(n:Nat):
  Meets (Builtin.«enumerate.__new__» ⟨[.type "enumerate",.ref l],[]⟩) (λ_ R s=>s.heap.get? l=some (A7 "tuple" items.toList n)∧
   R (.ok (.ret (.ref (s.heap.push {cls:=.type "tuple_iterator",data:=.fields #[.ref l,.int 0 0]}).objs.size)))
    {s with heap:=(s.heap.push {cls:=.type "tuple_iterator",data:=.fields #[.ref l,.int 0 0]}).push {cls:=.type "enumerate",data:=.fields #[.none,.bool false,.ref s.heap.objs.size,bv 0,.none,.none]}}):=
 .of_wp λprog w A R s h=>by
  obtain⟨hp,g,d,tk,os⟩:=s;obtain⟨hl,h⟩:=h
  have u:=sub_enumerate
  have e:qu (Shared.heap ⟨hp,g,d,tk,os⟩) l items:=⟨_,hl,rfl,n,rfl⟩
  wp_walk using ah hl
  refine wpAny_stack_any λst=>u8 ?_
  split
  ·rename_i c _ _ _ _ _
   cases(c==kt "enumerate")
   ·wp_walk using ah hl,kq e
    exact⟨_,rfl,h⟩
   ·wp_walk using ah hl,kq e
    exact⟨_,rfl,h⟩
  ·wp_walk using ah hl,kq e
   exact⟨_,rfl,h⟩
theorem Ig{l:Addr}{items:Array Value}{n:Nat}{Q:Value→Shared→Prop}(hl:s.heap.get? l=some (A7 "tuple" items.toList n))
  (h: ∀h',IsEnum h' (s.heap.objs.size+1) s.heap.objs.size 0 .none→h'.IsTupleIter s.heap.objs.size l 0→h'.objs.size=s.heap.objs.size+2→
   (∀b o,s.heap.get? b=some o→h'.get? b=some o)→Q (.ref (s.heap.objs.size+1)) {s with heap:=h'}):wpAny (model prog w) A (call (.type "enumerate") [.ref l]) Q E s:=by
 refine rn PySem.F.called_enumerate (by decide) (PySem.F.typeCall_enumerate_1 _) (PySem.F.newCall_enumerate_1 _) (λobj=>dw obj _) PySem.F.entry_enumerate_new (KZ l items n) ⟨hl,?_⟩
 have e:(s.heap.push {cls:=.type "tuple_iterator",data:=.fields #[.ref l,.int 0 0]}).objs.size=s.heap.objs.size+1:=wO ..
 show _∧_
 rw[e]
 have u:IsEnum ((s.heap.push {cls:=.type "tuple_iterator",data:=.fields #[.ref l,.int 0 0]}).push
   {cls:=.type "enumerate",data:=.fields #[.none,.bool false,.ref s.heap.objs.size,bv 0,.none,.none]}) (s.heap.objs.size+1) s.heap.objs.size 0 .none:=by
  have:=vO (s.heap.push {cls:=.type "tuple_iterator",data:=.fields #[.ref l,.int 0 0]})
   (o:={cls:=.type "enumerate",data:=.fields #[.none,.bool false,.ref s.heap.objs.size,bv 0,.none,.none]}) rfl
  rw[e] at this;exact this
 refine⟨⟨_,u,rfl⟩,h _ u ⟨_,vE _ (vO _ rfl),rfl,rfl⟩ (by rw[wO,e]) λb o x=>vE _ (vE _ x)⟩
end
section
variable{X:Cx}{A:Around}{F P:Addr→Prop}{W W₀ W':Wd}{H:AH}{Ai:Str→Bool}{h':Heap}{k:Nat}
noncomputable def Wd.vol(W:Wd)(h:Heap)(k:Nat)(wr:List Addr):Wd:=W.putN h k λa=>(a<W.h.objs.size∧W.N a)∨a∈wr
theorem dK{wr:List Addr}(hw: ∀b∈wr,W.h.objs.size≤b)(a:Addr)(h:a<W.h.objs.size):(W.vol h' k wr).N a↔W.N a:=⟨λx=>x.elim (λy=>y.2) λy=>absurd h (Nat.not_lt.mpr (hw a y)),λx=>.inl ⟨h,x⟩⟩
theorem HC{wr:List Addr}(e: ∀b o,W.h.get? b=some o→h'.get? b=some o)(hs:W.h.objs.size≤h'.objs.size)(hw: ∀b∈wr,W.h.objs.size≤b):AS X F W (W.vol h' k wr):=.keeps e rfl (dK hw) hs
theorem Jo{wr:List Addr}(g:Gd X W H)(e: ∀b o,W.h.get? b=some o→h'.get? b=some o)(hs:W.h.objs.size≤h'.objs.size)(hw: ∀b∈wr,W.h.objs.size≤b):Gd X (W.vol h' k wr) H:=g.keeps e rfl (dK hw) hs rfl rfl
theorem I6{wr:List Addr}{b:Addr}(g:Gd X W H)(h:b∈wr)(hb:b<h'.objs.size)(hw:W.h.objs.size≤b):(W.vol h' k wr).low.N b∧b∉(W.vol h' k wr).β∧W.h.objs.size≤b:=⟨⟨hb,.inr h⟩,λq=>absurd (β_lt g q) (Nat.not_lt.mpr hw),hw⟩
noncomputable def EC(X:Cx)(A:Around)(Ai:Str→Bool)(target:Expr)(lo:Nat)(W:Wd)(items:List AV)(c:Value):Prop:=
 ∀(H:AH),Gd X W H→∀(Q:Value→Shared→Prop) (E:Value→Shared→Prop),
  (∀W' I wr St,AS X Ab W W'→Gd X W' H→Lp X A W' I wr Ai target items St→St 0 W'.h→(∀b∈wr,W'.low.N b∧b∉W'.β∧lo≤b)→Q (.ref I) W'.s)→wpAny (model X.prog X.w) A (pyIter c) Q E W.s
theorem MH{t:String}{vs:List Value}{n:Nat}: ¬MJ (A7 t vs n):=λ⟨_,_,h⟩=>by cases h
theorem EY{o:Obj}{xs:Array Value}(h:o.data=.fields xs): ¬MJ o:=λ⟨_,_,q⟩=>by rw[h] at q;cases q
theorem I0{l:List AV}{c:Value}{x:Str}{px:Pos}{o:Obj}{O:List Addr}{D:Nat→Value→Prop}{St:Nat→Heap→Prop}{lo:Nat}(U:Ai x=true)(u:lo≤W.h.objs.size)(Z:Walks X.prog X.w A W.h.objs.size O [W.h.objs.size] l.length D St)
  (B: ∀b∈O,b=W.h.objs.size∨∃o,W.fz b o) (nd: ∀i h,St i h→∃o xs,h.get? W.h.objs.size=some o∧o.data=.fields xs) (hP: ∀i v,D i v→∀a,l[i]?=some a→VR X W a v) (h0:St 0 (W.h.push o))
  (it: ∀(Q:Value→Shared→Prop) (E:Value→Shared→Prop),Q (.ref W.h.objs.size) {W.s with heap:=W.h.push o}→wpAny (model X.prog X.w) A (pyIter c) Q E W.s):EC X A Ai (.Name x px) lo W l c:=by
 intro H g Q E hQ
 have hw: ∀b∈[W.h.objs.size],W.h.objs.size≤b:=λb hb=>vH (List.mem_singleton.mp hb).symm
 have J: ∀b p,W.h.get? b=some p→(W.h.push o).get? b=some p:=λ_ _ e=>vE _ e
 have I:AS X Ab W (W.vol (W.h.push o) W.s.toks [W.h.objs.size]):=HC J (Bw _ _) hw
 have m:=I.more0 g
 refine it Q E (hQ (W.vol (W.h.push o) W.s.toks [W.h.objs.size]) W.h.objs.size [W.h.objs.size] St I (Jo g J (Bw _ _) hw) (jR Z U (λb hb=>(B b hb).imp (λe=>List.mem_singleton.mpr e) λ⟨o,h⟩=>⟨o,m.fz _ _ h⟩) (λi h st b hb o e=>?_) λi v Y a S=>VR.more m (hP i v Y a S)) h0 λb hb=>?_)
 ·obtain⟨o',xs,e',hd⟩:=nd i h st
  cases u7 ((List.mem_singleton.mp hb▸e).symm.trans e')
  exact EY hd
 ·have q:=I6 (h':=W.h.push o) (k:=W.s.toks) g hb (by rw[List.mem_singleton.mp hb,wO];exact wL _) (hw b hb)
  exact⟨q.1,q.2.1,u5 u q.2.2⟩
theorem MR{l:List AV}{vs:List Value}(r:AN X W l vs):vs.toArray.size=l.length:=r.length
theorem KK{l:List AV}{vs:List Value}(r:AN X W l vs){i:Nat}{v:Value}(u:vs.toArray[i]?=some v){a:AV}(e:l[i]?=some a):VR X W a v:=by
 obtain⟨c,h1,h2⟩:=r.get e
 cases u7 ((List.getElem?_toArray.symm.trans u).symm.trans h1)
 exact h2
theorem Qx{a:Addr}{o:Obj}(e:W.fz a o): ∀b∈[W.h.objs.size,a],b=W.h.objs.size∨∃o,W.fz b o:=λb hb=>(List.mem_cons.mp hb).imp id λhb=>⟨o,(List.mem_singleton.mp hb:b=a)▸e⟩
theorem WS{l:List AV}{c:Value}{x:Str}{S:Pos}(O:A.handled=none)(J:Ai x=true){lo:Nat}(B:lo≤W.h.objs.size)(u:VR X W (.list l) c):EC X A Ai (.Name x S) lo W l c:=by
 refine Mine.Internal.SeqV.casesOn u.out λ{a vs n} hz r=>?_
 have hl:W.s.heap.IsList a vs.toArray:=⟨_,hz.1,rfl,_,rfl⟩
 have D:=Walks.list (prog:=X.prog) (w:=X.w) O W.h.objs.size a (vR (vI hz.1)) vs.toArray
 rw[MR r] at D
 exact I0 J B D (Qx hz) (λi h ⟨⟨o,e,_,hd⟩,_⟩=>⟨o,_,e,hd⟩) (λi v u a I=>KK r u I) ⟨⟨_,vO _ rfl,rfl,rfl⟩,hl.push _⟩ λQ E h=>wpAny_pyIter_list hl h
theorem Uo{l:List AV}{c:Value}{x:Str}{S:Pos}(O:A.handled=none)(J:Ai x=true){lo:Nat}(B:lo≤W.h.objs.size)(u:VR X W (.tuple l) c):EC X A Ai (.Name x S) lo W l c:=by
 refine Mine.Internal.SeqV.casesOn u.out λ{a vs n} hz r=>?_
 have hl:qu W.s.heap a vs.toArray:=⟨_,hz.1,rfl,_,rfl⟩
 have D:=Walks.tuple (prog:=X.prog) (w:=X.w) O W.h.objs.size a (vR (vI hz.1)) vs.toArray
 rw[MR r] at D
 exact I0 J B D (Qx hz) (λi h ⟨⟨o,e,_,hd⟩,_⟩=>⟨o,_,e,hd⟩) (λi v u a I=>KK r u I) ⟨⟨_,vO _ rfl,rfl,rfl⟩,let⟨o',ho,r'⟩:=hl;⟨o',vE _ ho,r'⟩⟩ λQ E h=>kq hl h
theorem cF{v:Value}{k:Int}(h:v.isInt k=true): ∃t,v=.int k t:=by
 induction v using jy with
 |int j t=>exact⟨t,by rw[eq_of_beq (show(j==k)=true from h)]⟩
 |_=>exact xE h
theorem To{ks:List Int}{l:List AV}{c:Value}{x:Str}{px:Pos}(Z:A.handled=none)(U:Ai x=true){lo:Nat}(I:lo≤W.h.objs.size)(Y:VR X W (.idict ks l) c):EC X A Ai (.Name x px) lo W (ks.map .int) c:=by
 refine Mine.Internal.IdictV.casesOn Y.out λ{a o kvs} J D f e r=>?_
 obtain⟨S,u⟩:=(show W.s.heap.DictOf (intKind X.prog X.w) a kvs from Heap.dictOf_iff.mpr ⟨o,D.1,f⟩).dictAt
 have O:=Walks.dictKeys (prog:=X.prog) (w:=X.w) (knd:=intKind X.prog X.w) Z W.h.objs.size a (vR (vI D.1)) kvs S
 have hl:kvs.length=(ks.map AV.int).length:=by rw[←e,vB,vB]
 rw[hl] at O
 refine I0 (o:={cls:=.type "dict_keyiterator",data:=.fields #[.ref a,.int 0 0,.int kvs.length 0,.int S 0]}) U I O (Qx D) (λi h ⟨⟨o,e,_,hd⟩,_⟩=>⟨o,_,e,hd⟩) (λi v ⟨k,y,h1,h2⟩ a' B=>?_) ⟨⟨_,vO _ rfl,rfl,by rw[hl];rfl⟩,u.push _⟩ λQ E h=>wpAny_pyIter_dict J u h
 rw[←e,bj,xJ,h1] at B
 obtain⟨t,rfl⟩:=cF h2
 exact u7 B▸ .int _ _
theorem W6(a b:Int):be a b 1=((b-a).toNat:Int):=by rw[rangeSize_one];split<;>omega
noncomputable abbrev Te(a b:Int):List AV:=(wD (b-a).toNat).map λ(i:Nat)=>AV.int (a+(i:Int))
theorem Tx{r:Addr}{a b:Int}{t u v:Tok}{x:Str}{S:Pos}(J:A.handled=none)(I:Ai x=true){lo:Nat}(B:lo≤W.h.objs.size)(U:IsRange W.h r a b 1 t u v)(h1: -(2^62)≤a)(Y:a<2^62)(h3: -(2^62)≤b)(D:b<2^62):
  EC X A Ai (.Name x S) lo W (Te a b) (.ref r):=by
 have O:=Walks.range (prog:=X.prog) (w:=X.w) J W.h.objs.size a 1 (Te a b).length
 refine I0 (o:={cls:=.type "range_iterator",data:=.fields #[bv a,bv (be a b 1),bv 1]}) I B O (λb hb=>.inl (List.mem_singleton.mp hb)) (λi h st=>⟨_,_,st,rfl⟩) (λi v ⟨t',hv⟩ a' e=>?_) ?_ λQ E h=>wpAny_pyIter_range (s:=W.s) U (small_one h1 Y h3 D) h
 ·subst hv
  rw[xJ] at e
  obtain⟨j,hj,rfl⟩:=Option.map_eq_some_iff.mp e
  obtain⟨Z,rfl⟩:=List.getElem?_eq_some_iff.mp hj
  rw[kz,jh]
  exact .int _ _
 ·show Heap.get? _ _=_
  rw[show(a+((0:Nat):Int)*1)=a by rw[jh];exact xM a,show(((Te a b).length:Int)-((0:Nat):Int))=be a b 1 by rw[W6,vB,xW];exact gw _]
  exact vO _ rfl
theorem Rl{a b:Int}{t u v:Tok}{D:Nat}{x:Str}{U:Pos}{cs:List Value}(g:Gd X W H)(O:A.handled=none)(J:Ai x=true){lo:Nat}(B:lo≤W.h.objs.size)(h1: -(2^62)≤a)(Y:a<2^62)(h3: -(2^62)≤b)(I:b<2^62)
  (hw: ∀Q E,Q (.ref W.h.objs.size) {W.s with heap:=W.h.push {cls:=.type "range",data:=.fields #[.int a t,.int b u,.int 1 v]},toks:=D}→wpAny (model X.prog X.w) A (call (.type "range") cs) Q E W.s):
  AC X A F W (rok (Te a b) H) (λW' is c=>EC X A Ai (.Name x U) lo W' is c) (call (.type "range") cs):=by
 refine AC.new g (λk W' S e=>?_) λQ E h=>hw Q E (h D)
 subst e
 exact Tx O J (u5 B S.size) (IsRange.new W.h a b 1 t u v) h1 Y h3 I
theorem S3{a:Int}(h:a.natAbs≤1000000): -(2^62)≤a∧a<2^62:=⟨Int.neg_le_of_neg_le (u9 et (u9 (Int.ofNat_le.mpr (jl a▸h)) (by decide))),vL (u9 et (Int.ofNat_le.mpr h)) (by decide)⟩
theorem UM{vs items:List AV}{cs:List Value}{x:Str}{S:Pos}(g:Gd X W H)(O:A.handled=none)(I:Ai x=true){lo:Nat}(D:lo≤W.h.objs.size)(J:AN X W vs cs)(hi:BF .range vs H=some items):
  AC X A F W (rok items H) (λW' is c=>EC X A Ai (.Name x S) lo W' is c) (call (.type "range") cs):=by
 induction vs using u6 with
 |nil=>exact Ar hi
 |cons a vs=>induction a using AV.casesOn with
  |int a=>induction vs using u6 with
   |nil=>
    obtain⟨B,rfl⟩:=At hi
    obtain⟨c,rfl,h1⟩:=J.o1
    refine Mine.Internal.IntV.casesOn h1.out λt=>?_
    have e:Te 0 a=(wD a.toNat).map λ(i:Nat)=>AV.int (i:Int):=by rw[Te,gw];exact congrArg (sj · _) (funext λi=>by rw[lx])
    exact e▸Rl (a:=0) (b:=a) (t:=W.s.toks) (u:=t) (v:=W.s.toks+1) g O I D (by decide) (by decide) (u9 (by decide) B.1) (vL B.2 (by decide)) λQ E h=>call_range_1 h
   |cons b vs=>induction b using AV.casesOn with
    |int b=>induction vs using u6 with
     |cons _ _=>exact Ar hi
     |nil=>
      obtain⟨B,rfl⟩:=At hi
      obtain⟨c,d,rfl,h1,h2⟩:=J.o2
      refine Mine.Internal.IntV.casesOn h1.out λt=>?_
      refine Mine.Internal.IntV.casesOn h2.out λu=>?_
      exact Rl (t:=t) (u:=u) (v:=W.s.toks) g O I D (S3 B.1).1 (S3 B.1).2 (S3 B.2).1 (S3 B.2).2 λQ E h=>call_range_2 h
    |_=>exact Ar hi
  |_=>cases vs<;>exact Ar hi
theorem Zg{l:List AV}{i:Nat}{a:AV}(h:(l.zipIdx.map λp=>AV.tuple [.int (p.2:Int),p.1])[i]?=some a): ∃v,l[i]?=some v∧.tuple [.int (i:Int),v]=a:=by
 rw[xJ] at h
 obtain⟨p,hp,rfl⟩:=Option.map_eq_some_iff.mp h
 rw[List.getElem?_zipIdx] at hp
 obtain⟨v,hv,rfl⟩:=Option.map_eq_some_iff.mp hp
 exact⟨v,hv,by rw[dc]⟩
theorem OE{l:List AV}{vs:List Value}{a:Addr}{o:Obj}{es:List Expr}{k1:Nat}{px:Pos}{St:Nat→Heap→Prop}{B:Nat→Addr→Heap→Prop}{t:Sem Value}(g:Gd X W H)(hh:A.handled=none){lo:Nat}(I:lo≤W.h.objs.size)(hz:W.fz a o)(r:AN X W l vs)
  (U:WalksT X.prog X.w A (W.h.objs.size+1) [W.h.objs.size+1,W.h.objs.size,a] [W.h.objs.size+1,W.h.objs.size] vs.toArray.size (λi vals=>∃t x,vs.toArray[i]?=some x∧vals= #[.int i t,x]) St B)
  (nd: ∀i h,St i h→∀b∈[W.h.objs.size+1,W.h.objs.size],∃o xs,h.get? b=some o∧o.data=.fields xs) (J: ∀i T h,B i T h→∀b∈[W.h.objs.size+1,W.h.objs.size],∃o xs,h.get? b=some o∧o.data=.fields xs)
  (u: ∀(Q:Value→Shared→Prop) (E:Value→Shared→Prop),(∀h',IsEnum h' (W.h.objs.size+1) W.h.objs.size 0 .none→St 0 h'→h'.objs.size=W.h.objs.size+2→(∀b o,W.h.get? b=some o→h'.get? b=some o)→Q (.ref (W.h.objs.size+1)) {W.s with heap:=h'})→wpAny (model X.prog X.w) A t Q E W.s):
  AC X A F W (rok (l.zipIdx.map λp=>AV.tuple [.int (p.2:Int),p.1]) H) (λW' is c=>EC X A Ai (.Tuple es k1 px) lo W' is c) t:=by
 have Y: ∀{h:Heap} {b:Addr} {o:Obj},(∃o xs,h.get? b=some o∧o.data=.fields xs)→h.get? b=some o→¬MJ o:=λ⟨o',xs,e',hd⟩ e=>by
  cases u7 (e.symm.trans e')
  exact EY hd
 rw[show vs.toArray.size=(l.zipIdx.map λp=>AV.tuple [.int (p.2:Int),p.1]).length by rw[vB,List.length_zipIdx];exact MR r] at U
 refineλQ E hQ=>u Q E λh' he RF hsz hk=>?_
 have hw: ∀b∈[W.h.objs.size+1,W.h.objs.size],W.h.objs.size≤b:=λb hb=>(List.mem_cons.mp hb).elim (λe=>e▸w9 _) λhb=>vH (List.mem_singleton.mp hb).symm
 have hs:W.h.objs.size≤h'.objs.size:=hsz▸wM _ _
 have Z:AS X Ab W (W.vol h' W.s.toks [W.h.objs.size+1,W.h.objs.size]):=HC hk hs hw
 have m:=Z.more0 g
 refine hQ (.ref (W.h.objs.size+1)) (W.vol h' W.s.toks [W.h.objs.size+1,W.h.objs.size]) Z.of0 (Jo g hk hs hw) λH' g' Q' E' O=>wpAny_pyIter_enum he ?_
 refine O (W.vol h' W.s.toks [W.h.objs.size+1,W.h.objs.size]) _ _ _ (AS.refl ..) g' (gA hh U (λb hb=>?_) (λi h st b hb o e=>Y (nd i h st b hb) e) (λi T h st b hb o e=>Y (J i T h st b hb) e) λi v D a' S=>?_) RF λb hb=>?_
 ·rcases List.mem_cons.mp hb with rfl|hb
  ·exact .inl (.head _)
  ·exact(List.mem_cons.mp hb).imp (λe:b=W.h.objs.size=>e▸ .tail _ (.head _)) λhb=>⟨_,m.fz _ _ ((List.mem_singleton.mp hb:b=a)▸hz)⟩
 ·obtain⟨t,y,hy,rfl⟩:=D
  obtain⟨v,h1,rfl⟩:=Zg S
  exact⟨_,rfl,.cons (.int _ _) (.cons (VR.more m (KK r hy h1)) .nil)⟩
 ·have q:=I6 (h':=h') (k:=W.s.toks) g hb (hsz.symm▸(List.mem_cons.mp hb).elim (λe=>e▸wL _) λhb=>List.mem_singleton.mp hb▸gh (by decide)) (hw b hb)
  exact⟨q.1,q.2.1,u5 I q.2.2⟩
theorem NS{h:Heap}{a b:Addr}(h1: ∃o xs,h.get? a=some o∧o.data=.fields xs)(u: ∃o xs,h.get? b=some o∧o.data=.fields xs): ∀c∈[a,b],∃o xs,h.get? c=some o∧o.data=.fields xs:=λc hc=>(List.mem_cons.mp hc).elim (λe=>e▸h1) λhc=>List.mem_singleton.mp hc▸u
theorem Ko{l:List AV}{c:Value}{es:List Expr}{k1:Nat}{Y:Pos}(g:Gd X W H)(I:A.handled=none){lo:Nat}(D:lo≤W.h.objs.size)(S:VR X W (.list l) c):
  AC X A F W (rok (l.zipIdx.map λp=>AV.tuple [.int (p.2:Int),p.1]) H) (λW' is c=>EC X A Ai (.Tuple es k1 Y) lo W' is c) (call (.type "enumerate") [c]):=by
 refine Mine.Internal.SeqV.casesOn S.out λ{a vs n} u r=>?_
 have hl:W.s.heap.IsList a vs.toArray:=⟨_,u.1,rfl,_,rfl⟩
 have e:a<W.s.heap.objs.size:=vI u.1
 exact OE g I D u r (WalksT.enumerate (prog:=X.prog) (w:=X.w) I (W.h.objs.size+1) W.h.objs.size a (bw _) (vR (yL e)) (vR e) vs.toArray)
  (λi h ⟨⟨U,e1⟩,⟨o',e2,_,hd⟩,_⟩=>NS ⟨_,_,e1,rfl⟩ ⟨_,_,e2,hd⟩) (λi T h ⟨⟨y,e1⟩,⟨o',e2,_,hd⟩,_⟩=>NS ⟨_,_,e1,rfl⟩ ⟨_,_,e2,hd⟩)
  λQ E h=>call_enumerate_list hl λh' J B hsz O=>h h' J ⟨⟨_,J⟩,B,let⟨o',ho,r'⟩:=hl;⟨o',O _ _ ho,r'⟩⟩ hsz O
theorem KB{l:List AV}{c:Value}{es:List Expr}{k1:Nat}{Z:Pos}(g:Gd X W H)(J:A.handled=none){lo:Nat}(D:lo≤W.h.objs.size)(U:VR X W (.tuple l) c):
  AC X A F W (rok (l.zipIdx.map λp=>AV.tuple [.int (p.2:Int),p.1]) H) (λW' is c=>EC X A Ai (.Tuple es k1 Z) lo W' is c) (call (.type "enumerate") [c]):=by
 refine Mine.Internal.SeqV.casesOn U.out λ{a vs n} u r=>?_
 have hl:W.s.heap.IsTuple a vs.toArray:=⟨_,u.1,rfl,_,rfl⟩
 have e:a<W.s.heap.objs.size:=vI u.1
 have I:W.h.objs.size+1∉[W.h.objs.size,a]:=λq=>(List.mem_cons.mp q).elim (bw _) λq=>y6 (yL e) (List.mem_singleton.mp q)
 exact OE g J D u r (WalksT.enumerateD (PF (prog:=X.prog) (w:=X.w) (A:=A.in1) J W.h.objs.size a (vR e) vs.toArray) (W.h.objs.size+1) (bw _) I (.head _))
  (λi h ⟨⟨Y,e1⟩,⟨o',e2,_,hd⟩,_⟩=>NS ⟨_,_,e1,rfl⟩ ⟨_,_,e2,hd⟩) (λi T h ⟨⟨y,e1⟩,⟨⟨o',e2,_,hd⟩,_⟩,_⟩=>NS ⟨_,_,e1,rfl⟩ ⟨_,_,e2,hd⟩)
  λQ E h=>Ig (items:=vs.toArray) u.1 λh' O B hsz S=>h h' O ⟨⟨_,O⟩,B,let⟨o',ho,r'⟩:=hl;⟨o',S _ _ ho,r'⟩⟩ hsz S
end
end Mine.Internal
namespace Mine.Internal
open PySem PySem.W PyProof.Rows
inductive qF (X:Cx) (W:Wd):Fl→fc→Prop
 |next:qF X W .next .next
 |ret {v:AV} {c:Value}:VR X W v c→qF X W (.ret v) (.ret c)
section
variable{X:Cx}{A:Around}{F G P:Addr→Prop}{W W₀ W':Wd}{H:AH}{Ai:Str→Bool}{env:Env}{Inv:Wd→AE→Prop}
noncomputable abbrev DP(X:Cx)(Inv:Wd→AE→Prop):Wd→Fl×AE→fc→Prop:=λW p f=>Inv W p.2∧qF X W p.1 f
theorem Ax{α β:Type}{r:R α}{f:α→AH→R β}{o:I5 β}{P:Prop}(h:r.bindN f=some o)(k: ∀a H1,r=some (.ok a H1)→f a H1=some o→P):P:=
 match r,h,k with
 |some (.ok a H1),h,k=>k a H1 rfl h
theorem AC.take{α β γ:Type}{rel:Wd→α→γ→Prop}{r:R α}{f:α→AH→R β}{o:I5 β}{t:Sem γ}{Q:γ→Shared→Prop}{E:Value→Shared→Prop}(S:AC X A F W r rel t)(h:r.bindN f=some o)(k: ∀a H1 c W',f a H1=some o→AS X F W W'→Gd X W' H1→rel W' a c→Q c W'.s):wpAny (model X.prog X.w) A t Q E W.s:=
 Ax h λa H1 e q=>(show AC X A F W (some (.ok a H1)) rel t from e▸S) Q E λc W'=>k a H1 c W' q
theorem LP{α:Type}{l:List α}{i:Nat}(h:i<l.length): ∃a,l[i]?=some a∧l.drop i=a::l.drop (i+1):=
 ⟨l[i],wT h,List.drop_eq_getElem_cons h⟩
noncomputable def Ap(wr:List Addr)(W:Wd):Prop:=∀b∈wr,W.low.N b∧b∉W.β
theorem Ap.ext{wr:List Addr}(h:Ap wr W)(x:AS X P W W'):Ap wr W':=λb q=>⟨⟨vS (h b q).1.1 x.size,(x.N b (h b q).1.1).mpr (h b q).1.2⟩,x.nb (h b q).1.1 (h b q).2⟩
structure Xe (X:Cx) (A:Around) (F:Addr→Prop) (W₀:Wd) (n:Nat) (St:Nat→Heap→Prop) (wr:List Addr) (i:Nat) (W:Wd) (H:AH):Prop where
 st:St i W.h
 g:Gd X W H
 ao:A9 X W A n
 x:AS X F W₀ W
 m:A5 W₀ W
 hw:Ap wr W
theorem Xe.step{H':AH}{wr:List Addr}{St:Nat→Heap→Prop}{n i e:Nat}(j:Xe X A F W₀ n St wr i W H)(x:AS X P W W')(g:Gd X W' H')(m:A5 W W')(u: ∀a,P a→F a)(st:St e W'.h):Xe X A F W₀ n St wr e W' H':=
 ⟨st,g,j.ao.ext x,j.x.trans (x.mono λa _=>u a),j.m.trans m,j.hw.ext x⟩
theorem Ts{e:AE→AH→R (Fl×AE)}{t:TN}{a:AV}{l:List AV}{ρ:AE}{o:I5 (Fl×AE)}{u:Prop}(h:Ct e t (a::l) ρ H=some o)(k: ∀ρ',BL t a ρ=some ρ'→((e ρ' H).bindN λp H=>match p.1 with
   |.next=>Ct e t l p.2 H
   |.ret v=>rok (.ret v,p.2) H)=some o→u):u:=by
 revert h
 show(match BL t a ρ with
  |uZ=>uZ
  |some ρ'=>(e ρ' H).bindN λp H=>match p.1 with
   |.next=>Ct e t l p.2 H
   |.ret v=>rok (.ret v,p.2) H)=some o→u
 cases hb:BL t a ρ with
 |none=>exact Ar
 |some ρ'=>exact k ρ' hb
theorem AC.body{r:R (Fl×AE)}{t:Sem fc}{Q:fc→Shared→Prop}{E:Value→Shared→Prop}{B:Fl×AE}{e:AH}{D:AE→AH→R (Fl×AE)}(S:AC X A F W r (DP X Inv) t)(u:(r.bindN λp H=>match p.1 with
   |.next=>D p.2 H
   |.ret v=>rok (.ret v,p.2) H)=some (.ok B e))
  (U: ∀ρ H W',D ρ H=some (.ok B e)→AS X F W W'→Gd X W' H→Inv W' ρ→Q .next W'.s) (J: ∀c W',AS X F W W'→Gd X W' e→DP X Inv W' B (.ret c)→Q (.ret c) W'.s):wpAny (model X.prog X.w) A t Q E W.s:=
 S.take u λp H1 f W' u x g r=>by
  obtain⟨fl,ρ⟩:=p
  obtain⟨I,O⟩:=r
  cases O with
  |next=>exact U ρ H1 W' u x g I
  |ret q=>exact J _ W' x ((CW u).2▸g) ((CW u).1▸⟨I,.ret q⟩)
inductive bU (X:Cx) (A:Around) (F:Addr→Prop) (W₀:Wd) (n:Nat) (St:Nat→Heap→Prop) (wr:List Addr) (N:Nat) (Inv:Wd→AE→Prop) (rest:Nat→AE→AH→Prop):Nat→Shared→Prop
 |mk {W:Wd} {H:AH} {i:Nat} {ρ:AE}:i≤N→Xe X A F W₀ n St wr i W H→Inv W ρ→rest i ρ H→bU X A F W₀ n St wr N Inv rest (N-i) W.s
theorem XN{I:Addr}{wr:List Addr}{target:Expr}{items:List AV}{St:Nat→Heap→Prop}{body:List Stmt}{u:AE→AH→R (Fl×AE)}{n:Nat}(B:CY X A env F G Ai Inv)(L:Lp X A W₀ I wr Ai target items St)
  (hz: ∀b o,W₀.fz b o→¬F b) (U: ∀b∈wr,¬G b)
  (Y: ∀{W:Wd} {ρ:AE} {H:AH},Gd X W H→A9 X W A n→Inv W ρ→AC X A F W (u ρ H) (DP X Inv) (y4 body env))
  (st:St 0 W₀.h) (g:Gd X W₀ H) (ao:A9 X W₀ A n) {ρ:AE} (inv:Inv W₀ ρ) (hw:Ap wr W₀) {O:Fl×AE} {D:AH} (J:Ct u (DG Ai target) items ρ H=some (.ok O D)) {Q:gm→Shared→Prop}
  (hR: ∀W' f,AS X (λb=>F b∨b∈wr) W₀ W'→Gd X W' D→DP X Inv W' O f→Q (.ok f) W'.s):ca (model X.prog X.w) A (.forLoop target (.ref I) body [] env) Q W₀.s:=by
 refine codeAny_forLoop_any (bU X A (λb=>F b∨b∈wr) W₀ n St wr items.length Inv λi ρ H=>Ct u (DG Ai target) (items.drop i) ρ H=some (.ok O D)) ?_ items.length (.mk (i:=0) (w3 _) ⟨st,g,ao,AS.refl ..,A5.refl,hw⟩ inv J)
 refineλk s' j=>bU.casesOn j λ{W H i ρ} hi j inv J=>?_
 rcases lu i items.length with S|hge
 ·obtain⟨a,ha,hd⟩:=LP S
  refine Ts (hd▸J) λρ' hb J=>w7 (L.turn B ha hb j.st j.g j.m inv (λb q=>⟨(j.hw b q).1,(j.hw b q).2,U b q⟩) hz (λs₂=>wpAny (model X.prog X.w) A (y4 body env) (λf s₃=>match f with
     |.next|.cont=>∃m,m<items.length-i∧bU X A (λb=>F b∨b∈wr) W₀ n St wr items.length Inv (λi ρ H=>Ct u (DG Ai target) (items.drop i) ρ H=some (.ok O D)) m s₃
     |.brk=>Q (.ok .next) s₃
     |.ret v=>Q (.ok (.ret v)) s₃) (bg (model X.prog X.w) A env λe s'=>Q (.error e) s') s₂) (bg (model X.prog X.w) A env λe s'=>Q (.error e) s') λW1 x1 Z i1 st1=>
    have j1:=j.step x1 Z (x1.more j.g λb _ q=>q.elim (λq=>B.vol inv (B.sub b q)) λq=>(j.hw b q).1.2) (λ_ q=>q) st1
    (Y Z j1.ao i1).body J (λρ2 H2 W2 J x2 g2 i2=>⟨items.length-(i+1),cw S (wL _),.mk S
      (j1.step x2 g2 (x2.more Z λb _ q=>B.vol i1 (B.sub b q)) (λ_=>.inl) (L.frame st1 x2 Z j1.m hz λb q=>⟨(j1.hw b q).2,λz=>U b q (B.sub b z)⟩)) i2 J⟩)
     λc W2 x2 g2 r2=>hR W2 (.ret c) (j1.x.trans (x2.mono λ_ _=>.inl)) g2 r2) (λr s₁ h=>?_) λ_ _ e=>e
  induction r using vN with
  |none=>exact h.elim
  |some v=>exact h
 ·have hin:i=items.length:=zN hi hge
  have e:=CW (a:=(Fl.next,ρ)) (H:=H) (show Ct u (DG Ai target) [] ρ H=some (.ok O D)from ih (l:=items) hge▸J)
  refine w7 (L.done (hin▸j.st) j.g j.hw (λs=>Q (.ok .next) s) _ λW1 x1 Z m1=>hR W1 .next (j.x.trans (x1.mono λb _ q=>.inr q)) (e.2▸Z) (e.1▸⟨B.keep inv j.g x1 m1 λb q=>U b q,.next⟩)) (λr s₁ h=>?_) λ_ _ e=>e
  induction r using vN with
  |none=>exact u8 h
  |some v=>exact h.elim
theorem m6{p:Prop}{q:Prop}(h:p):if true=true then p else q:=h
theorem mQ{p:Prop}{q:Prop}(h:q):if false=true then p else q:=h
theorem Q9{u:AE→AH→R AV}{e:AE→AH→R (Fl×AE)}{N:Nat}{ρ:AE}{o:I5 (Fl×AE)}(h:DV u e (N+1) ρ H=some o):(u ρ H).bindN (λv H=>match AQ v with
  |some true=>(e ρ H).bindN λp H=>match p.1 with
   |.next=>DV u e N p.2 H
   |.ret v=>rok (.ret v,p.2) H
  |some false=>rok (.next,ρ) H
  |uZ=>uZ)=some o:=h
theorem Tl{α:Type}{o:Option Bool}{r:R α}{a v:α}{H':AH}{P:Prop}(h:(match o with
  |some true=>r
  |some false=>rok a H
  |uZ=>uZ)=some (.ok v H')) (e:o=some true→r=some (.ok v H')→P) (hf:o=some false→a=v→H=H'→P):P:=by
 induction o using vN with
 |none=>exact Ar h
 |some b=>induction b using wX with
  |true=>exact e rfl h
  |false=>exact hf rfl (CW h).1 (CW h).2
inductive qO (X:Cx) (A:Around) (F:Addr→Prop) (W₀:Wd) (n:Nat) (Inv:Wd→AE→Prop) (rest:Nat→AE→AH→Prop):Nat→Shared→Prop
 |mk {W:Wd} {H:AH} {ρ:AE} {k:Nat}:Gd X W H→A9 X W A n→AS X F W₀ W→Inv W ρ→rest k ρ H→qO X A F W₀ n Inv rest k W.s
theorem QP{I:Expr}{body:List Stmt}{u:AE→AH→R AV}{J:AE→AH→R (Fl×AE)}{n:Nat}(B:CY X A env F G Ai Inv)
  (U: ∀{W:Wd} {ρ:AE} {H:AH},Gd X W H→A9 X W A n→Inv W ρ→AC X A Ab W ((u ρ H).bind λv H=>rof (AQ v) H) (λ_ b c=>b=c) (dj I env (eval I env)))
  (Z: ∀{W:Wd} {ρ:AE} {H:AH},Gd X W H→A9 X W A n→Inv W ρ→AC X A F W (J ρ H) (DP X Inv) (y4 body env))
  (g:Gd X W₀ H) (ao:A9 X W₀ A n) {ρ:AE} (inv:Inv W₀ ρ) {N:Nat} {Y:Fl×AE} {O:AH} (D:DV u J N ρ H=some (.ok Y O)) {Rr:gm→Shared→Prop}
  (hR: ∀W' f,AS X F W₀ W'→Gd X W' O→DP X Inv W' Y f→Rr (.ok f) W'.s):ca (model X.prog X.w) A (.whileLoop I body [] env) Rr W₀.s:=by
 have T {W:Wd} {ρ:AE} {H H1:AH} {v:AV} {b:Bool} (hp:u ρ H=some (.ok v H1)) (hv:AQ v=some b) (g:Gd X W H) (ao:A9 X W A n) (i:Inv W ρ) {Q:Bool→Shared→Prop} {E:Value→Shared→Prop} (h: ∀W',AS X Ab W W'→Gd X W' H1→Q b W'.s):wpAny (model X.prog X.w) A (dj I env (eval I env)) Q E W.s:=
  (show AC X A Ab W (rok b H1) (λ_ b c=>b=c) _ from(show((u ρ H).bind λv H=>rof (AQ v) H)=rok b H1 by rw[hp];show rof (AQ v) H1=_;rw[hv];rfl)▸U g ao i) Q E λc W' x g e=>e▸h W' x g
 refine codeAny_whileLoop (qO X A F W₀ n Inv λk ρ H=>DV u J k ρ H=some (.ok Y O)) ?_ N (.mk g ao (AS.refl ..) inv D)
 refineλk s' j=>qO.casesOn j λ{W H ρ k} g ao x inv D=>?_
 induction k using eh with
 |zero=>exact Ar D
 |succ k=>
  exact Ax (Q9 D) λv H1 hp D=>Tl D (λhv D=>T hp hv g ao inv λW1 S g1=>
   have i1:=B.keep inv g S (S.more0 g) λ_ q=>q.elim
   m6 ((Z g1 (ao.ext S) i1).body D (λρ2 H2 W2 D x2 g2 i2=>⟨k,wL _,.mk g2 ((ao.ext S).ext x2) ((x.trans S.of0).trans x2) i2 D⟩) λc W2 x2 g2 r2=>hR W2 (.ret c) ((x.trans S.of0).trans x2) g2 r2))
   λhv e1 e2=>T hp hv g ao inv λW1 S g1=>mQ (u8 (hR W1 .next (x.trans S.of0) (e2▸g1) (e1▸⟨B.keep inv g S (S.more0 g) λ_ q=>q.elim,.next⟩)))
end
section
variable{prog:Program}{w:World}{A:Around}{R:gm→Shared→Prop}{s:Shared}
theorem Kk{elt target ql:Expr}{ifs:List Expr}{scope:Scope}{pos:Pos}{u acc:Value}{env:Env}(I:Nat→Shared→Prop)
  (turn: ∀n s,I n s→wpAny (model prog w) A (pyNext u) (λr s₁=>match r with
   |none=>R (.ok .next) s₁
   |some v=>wpAny (model prog w) A (letOwnedTupleGo target u v) (λ_ s₁'=>wpAny (model prog w) A (assign target env v) (λ_ s₂=>
     wpAny (model prog w) A (forIn ifs true λc r=>if r=true then do let ok←dj c env (eval c env);pure (xO ok)else pure (xO r)) (λok s₃=>
      if ok=true then wpAny (model prog w) A (eval elt env) (λx s₄=>
       wpAny (model prog w) A (call (.builtin "list.append") [acc,x]) (λ_ s₅=>∃m,m<n∧I m s₅) (bg (model prog w) A env λe s'=>R (.error e) s') s₄) (bg (model prog w) A env λe s'=>R (.error e) s') s₃
      else∃m,m<n∧I m s₃) (bg (model prog w) A env λe s'=>R (.error e) s') s₂) (bg (model prog w) A env λe s'=>R (.error e) s') s₁') (bg (model prog w) A env λe s'=>R (.error e) s') s₁) (bg (model prog w) A env λe s'=>R (.error e) s') s)
  (n:Nat) (h:I n s):ca (model prog w) A (.compLoop (.ListComp elt [⟨target,ql,ifs,0⟩] scope pos) 0 u acc env) R s:=by
 refine codeAny_loop rfl I (λn s B=>?_) n h
 show wpAny _ A ((compTurn (.ListComp elt [⟨target,ql,ifs,0⟩] scope pos) 0 u acc env).onRaise (λx=>do qy x env;theTreesLotGoes x)) _ _ s
 refine wpAny_noted ?_
 rw[compTurn_list]
 refine u0 (vT (u0 (w7 (turn n s B) (λr s₁ h₁=>?_) λ_ _ h'=>h')))
 induction r using vN with
 |none=>exact u8 h₁
 |some v=>
  refine u0 (w7 h₁ (λ_ s₁' h₁'=>?_) λ_ _ h'=>h')
  refine u0 (w7 h₁' (λ_ s₂ h₂=>u0 (w7 h₂ (λok s₃ h₃=>?_) λ_ _ h'=>h')) λ_ _ h'=>h')
  induction ok using wX with
  |false=>exact u8 ⟨rfl,h₃⟩
  |true=>exact u0 (u0 (w7 h₃ (λx s₄ h₄=>u0 (w7 h₄ (λ_ s₅ h₅=>u8 (u8 ⟨rfl,h₅⟩)) λ_ _ h'=>h')) λ_ _ h'=>h'))
end
section
variable{X:Cx}{A:Around}{F G P:Addr→Prop}{W W₀ W':Wd}{H:AH}{Ai:Str→Bool}{env:Env}{Inv:Wd→AE→Prop}
structure Ik (X:Cx) (A:Around) (F:Addr→Prop) (W₀:Wd) (n:Nat) (St:Nat→Heap→Prop) (wr:List Addr) (D:Addr) (Inv:Wd→Prop) (l:List AV) (ys:List Value) (i:Nat) (W:Wd) (H:AH):Prop where
 lp:Xe X A F W₀ n St (D::wr) i W H
 inv:Inv W
 pl:W.h.PlainList D ys.toArray
 vr:AN X W l ys
theorem MK{D:Addr}{ys:Array Value}{o:Obj}(pl:W.h.PlainList D ys)(e:W.h.get? D=some o): ¬MJ o:=λ⟨_,_,z⟩=>
 let⟨_,q⟩:=pl
 nomatch (congrArg ud (u7 (e.symm.trans q))).symm.trans z
theorem Ik.step{wr:List Addr}{D:Addr}{St:Nat→Heap→Prop}{n i u:Nat}{l:List AV}{ys:List Value}{H':AH}{I I':Wd→Prop}(c:Ik X A F W₀ n St wr D I l ys i W H)(x:AS X P W W')(g:Gd X W' H')(m:A5 W W')(J: ∀a,P a→F a)(B: ¬P D)(st:St u W'.h)(inv:I' W'):Ik X A F W₀ n St wr D I' l ys u W' H':=
 ⟨c.lp.step x g m J st,inv,c.pl.at λo e=>x.kept e (c.lp.hw D (.head _)).2 B (MK c.pl e),AN.more m c.vr⟩
inductive m7 (X:Cx) (A:Around) (F:Addr→Prop) (W₀:Wd) (n:Nat) (St:Nat→Heap→Prop) (wr:List Addr) (D:Addr) (Inv:Wd→Prop) (N:Nat) (rest:Nat→AH→List AV→Prop):Nat→Shared→Prop
 |mk {W:Wd} {H:AH} {i:Nat} {l:List AV} {ys:List Value}:i≤N→ys.length≤i→Ik X A F W₀ n St wr D Inv l ys i W H→rest i H l→m7 X A F W₀ n St wr D Inv N rest (N-i) W.s
theorem TU{e:AE→AH→R Bool}{u:AE→AH→R AV}{t:TN}{ρ:AE}{a:AV}{r:List AV}{o:I5 (List AV)}{B:Prop}(h:compLoop e u t ρ (a::r) H=some o)(k: ∀ρ',BL t a ρ=some ρ'→((e ρ' H).bindN λb H=>match b with
   |true=>(u ρ' H).bindN λv H=>(compLoop e u t ρ r H).bindN λvs H=>rok (v::vs) H
   |false=>compLoop e u t ρ r H)=some o→B):B:=by
 revert h
 show(match BL t a ρ with
  |uZ=>uZ
  |some ρ'=>(e ρ' H).bindN λb H=>match b with
   |true=>(u ρ' H).bindN λv H=>(compLoop e u t ρ r H).bindN λvs H=>rok (v::vs) H
   |false=>compLoop e u t ρ r H)=some o→B
 cases hb:BL t a ρ with
 |none=>exact Ar
 |some ρ'=>exact k ρ' hb
theorem Ik.add{I:Addr}{wr:List Addr}{D:Addr}{St:Nat→Heap→Prop}{n i:Nat}{l:List AV}{ys:List Value}{target:Expr}{items:List AV}{ρ':AE}{v:AV}{u:Value}(B:CY X A env F G Ai Inv)(L:Lp X A W₀ I wr Ai target items St)(O: ∀b∈wr,¬G b∧b≠D)(S: ¬G D)
  (c:Ik X A P W₀ n St wr D (Inv · ρ') l ys i W H) (Z:P D) (Y:VR X W v u) (hl:ys.length≤yR) {Q:Value→Shared→Prop} {E:Value→Shared→Prop} (h: ∀W',Ik X A P W₀ n St wr D (Inv · ρ') (l++[v]) (ys++[u]) i W' H→Q .none W'.s):
  wpAny (model X.prog X.w) A (call (.builtin "list.append") [.ref D,u]) Q E W.s:=
 wpAny_list_append_plain c.pl (λh' U hs=>by
  have J:=c.lp.hw D (.head _)
  have x:AS X (λb=>b=D) W (W.put h' W.s.toks):=Gs hs λo e hd=>absurd hd (MK c.pl e)
  have m:A5 W (W.put h' W.s.toks):=Bj hs J.1.2
  exact h (W.put h' W.s.toks) ⟨c.lp.step x (D1 c.lp.g hs J.1.2 J.2) m (λ_ q=>q▸Z) (L.frame c.lp.st x c.lp.g c.lp.m (λb o hf q=>(c.lp.m.fz _ _ hf).2 (q▸J.1.2)) λb q=>⟨(c.lp.hw b (.tail _ q)).2,(O b q).2⟩),
   B.keep c.inv c.lp.g x m λ_ q=>q▸S,(List.push_toArray ys u▸U:h'.PlainList D (ys++[u]).toArray),(AN.more m c.vr).append (.cons (VR.more m Y) .nil)⟩) hl
theorem Ik.stay{I:Addr}{wr:List Addr}{D:Addr}{St:Nat→Heap→Prop}{n i:Nat}{l:List AV}{ys:List Value}{target:Expr}{items:List AV}{ρ':AE}{H':AH}(B:CY X A env F G Ai Inv)(L:Lp X A W₀ I wr Ai target items St)(c:Ik X A P W₀ n St wr D (Inv · ρ') l ys i W H)(x:AS X Ab W W')(g:Gd X W' H'):Ik X A P W₀ n St wr D (Inv · ρ') l ys i W' H':=
 c.step x g (x.more0 c.lp.g) (λ_=>False.elim) id (L.frame c.lp.st x c.lp.g c.lp.m (λ_ _ _=>id) λb q=>⟨(c.lp.hw b (.tail _ q)).2,id⟩) (B.keep c.inv c.lp.g x (x.more0 c.lp.g) λ_=>False.elim)
theorem TY{I:Addr}{wr:List Addr}{D:Addr}{St:Nat→Heap→Prop}{n i:Nat}{l r:List AV}{ys:List Value}{target:Expr}{items:List AV}{ρ':AE}{S:AH}{ts:Sem Bool}{elt:Expr}{J:AE→AH→R Bool}{O:AE→AH→R AV}{nx:AH→R (List AV)}(B:CY X A env F G Ai Inv)(L:Lp X A W₀ I wr Ai target items St)(hwF: ∀b∈wr,¬G b∧b≠D)(hDF: ¬G D)(hP:P D)
  (U: ∀{W:Wd} {ρ:AE} {H:AH},Gd X W H→A9 X W A n→Inv W ρ→AC X A Ab W (J ρ H) (λ_ b c=>b=c) ts)
  (Y: ∀{W:Wd} {ρ:AE} {H:AH},Gd X W H→A9 X W A n→Inv W ρ→AC X A Ab W (O ρ H) (A8 X) (eval elt env))
  (u:((J ρ' H).bindN λb H=>match b with
   |true=>(O ρ' H).bindN λv H=>(nx H).bindN λvs H=>rok (v::vs) H
   |false=>nx H)=some (.ok r S)) (c:Ik X A P W₀ n St wr D (Inv · ρ') l ys i W H) (hl:ys.length≤yR) {Q:Shared→Prop} {E:Value→Shared→Prop}
  (hQ: ∀l' Z W' H',Ik X A P W₀ n St wr D (Inv · ρ') l' Z i W' H'→Z.length≤ys.length+1→(∃r',nx H'=some (.ok r' S)∧l++r=l'++r')→Q W'.s):
  wpAny (model X.prog X.w) A ts (λok s₃=>if ok=true then wpAny (model X.prog X.w) A (eval elt env) (λx s₄=>wpAny (model X.prog X.w) A (call (.builtin "list.append") [.ref D,x]) (λ_ s₅=>Q s₅) E s₄) E s₃ else Q s₃) E W.s:=by
 refine(U c.lp.g c.lp.ao c.inv).take u λb H1 b' W2 u x2 g2 hb'=>hb'▸?_
 have c2:=c.stay B L x2 g2
 induction b using wX with
 |false=>exact mQ (hQ l ys W2 H1 c2 (w9 _) ⟨r,u,rfl⟩)
 |true=>
  refine m6 ((Y g2 c2.lp.ao c2.inv).take u λv H2 cv W3 u x3 g3 hc=>Ax u λvs H3 e3 u=>?_)
  have e:=CW u
  exact(c2.stay B L x3 g3).add B L hwF hDF hP hc hl λW4 c4=>hQ _ _ W4 H2 c4 (vH wY) ⟨vs,e.2▸e3,(congrArg (l++ ·) e.1.symm).trans (xK l [v] vs).symm⟩
theorem TX{I D:Addr}{wr:List Addr}{target ql elt:Expr}{ifs:List Expr}{sc:Scope}{pos:Pos}{items:List AV}{St:Nat→Heap→Prop}{u:AE→AH→R Bool}{J:AE→AH→R AV}{n:Nat}(B:CY X A env F G Ai Inv)(L:Lp X A W₀ I wr Ai target items St)
  (hz: ∀b o,W₀.fz b o→¬F b) (S: ∀b∈wr,¬G b∧b≠D) (hDF: ¬G D) (hlen:items.length≤yR)
  (htest: ∀{W:Wd} {ρ:AE} {H:AH},Gd X W H→A9 X W A n→Inv W ρ→AC X A Ab W (u ρ H) (λ_ b c=>b=c) (forIn ifs true λc r=>if r=true then do let ok←dj c env (eval c env);pure (xO ok)else pure (xO r)))
  (helt: ∀{W:Wd} {ρ:AE} {H:AH},Gd X W H→A9 X W A n→Inv W ρ→AC X A Ab W (J ρ H) (A8 X) (eval elt env))
  (st:St 0 W₀.h) (g:Gd X W₀ H) (ao:A9 X W₀ A n) {ρ:AE} (inv:Inv W₀ ρ) (hback: ∀{W:Wd} {a:AV} {ρ':AE},BL (DG Ai target) a ρ=some ρ'→Inv W ρ'→Inv W ρ)
  (hw: ∀b∈wr,W₀.low.N b∧b∉W₀.β) (hD:W₀.low.N D∧D∉W₀.β) (pl:W₀.h.PlainList D #[]) {l:List AV} {O:AH} (Q:compLoop u J (DG Ai target) ρ items H=some (.ok l O)) {Y:gm→Shared→Prop}
  (hR: ∀W' ys,AS X (λb=>F b∨b∈wr∨b=D) W₀ W'→Gd X W' O→Inv W' ρ→W'.h.PlainList D ys→AN X W' l ys.toList→Y (.ok .next) W'.s):
  ca (model X.prog X.w) A (.compLoop (.ListComp elt [⟨target,ql,ifs,0⟩] sc pos) 0 (.ref I) (.ref D) env) Y W₀.s:=by
 refine Kk (m7 X A (λb=>F b∨b∈wr∨b=D) W₀ n St wr D (Inv · ρ) items.length λi H l'=>∃r,compLoop u J (DG Ai target) ρ (items.drop i) H=some (.ok r O)∧l=l'++r) ?_ items.length
  (.mk (i:=0) (ys:=[]) (w3 _) (vJ 0) ⟨⟨st,g,ao,AS.refl ..,A5.refl,λb q=>(List.mem_cons.mp q).elim (λq=>q▸hD) (hw b)⟩,inv,pl,.nil⟩ ⟨l,Q,rfl⟩)
 clear Q
 refineλk s' j=>m7.casesOn j λ{W H i l' ys} hi le c Q=>?_
 obtain⟨r,Q,hl⟩:=Q
 have U: ∀b∈wr,W.low.N b∧b∉W.β:=λb q=>c.lp.hw b (.tail _ q)
 rcases lu i items.length with Z|hge
 ·obtain⟨a,ha,hd⟩:=LP Z
  have hk:=cw Z (wL _)
  refine TU (hd▸Q) λρ' hb Q=>w7 (L.turn B ha hb c.lp.st c.lp.g c.lp.m c.inv (λb q=>⟨(U b q).1,(U b q).2,(S b q).1⟩) hz (λs₂=>wpAny (model X.prog X.w) A (forIn ifs true λc r=>if r=true then do let ok←dj c env (eval c env);pure (xO ok)else pure (xO r)) (λok s₃=>
      if ok=true then wpAny (model X.prog X.w) A (eval elt env) (λx s₄=>
       wpAny (model X.prog X.w) A (call (.builtin "list.append") [.ref D,x]) (λ_ s₅=>∃m,m<items.length-i∧m7 X A (λb=>F b∨b∈wr∨b=D) W₀ n St wr D (Inv · ρ) items.length (λi H l'=>∃r,compLoop u J (DG Ai target) ρ (items.drop i) H=some (.ok r O)∧l=l'++r) m s₅) (bg (model X.prog X.w) A env λe s'=>Y (.error e) s') s₄) (bg (model X.prog X.w) A env λe s'=>Y (.error e) s') s₃
      else∃m,m<items.length-i∧m7 X A (λb=>F b∨b∈wr∨b=D) W₀ n St wr D (Inv · ρ) items.length (λi H l'=>∃r,compLoop u J (DG Ai target) ρ (items.drop i) H=some (.ok r O)∧l=l'++r) m s₃) (bg (model X.prog X.w) A env λe s'=>Y (.error e) s') s₂) (bg (model X.prog X.w) A env λe s'=>Y (.error e) s') λW1 x1 g1 i1 st1=>?_) (λr s₁ h=>?_) λ_ _ e=>e
  ·have c1:=c.step (I':=(Inv · ρ')) x1 g1 (x1.more c.lp.g λb _ q=>q.elim (λq=>B.vol c.inv (B.sub b q)) λq=>(U b q).1.2) (λ_ q=>q.elim .inl λq=>.inr (.inl q)) (λq=>q.elim (λz=>hDF (B.sub D z)) λq=>(S D q).2 rfl) st1 i1
   exact TY B L S hDF (.inr (.inr rfl)) htest helt Q c1 (u5 le (u5 hi hlen)) λl2 ys2 W2 H2 c2 h2 h3=>⟨items.length-(i+1),hk,.mk Z (u5 h2 (wH le)) ⟨c2.lp,hback hb c2.inv,c2.pl,c2.vr⟩ (hl▸h3)⟩
  ·induction r using vN with
   |none=>exact h.elim
   |some v=>exact h
 ·have hin:i=items.length:=zN hi hge
  have e:=CW (a:=[]) (H:=H) (show compLoop u J (DG Ai target) ρ [] H=some (.ok r O)from ih (l:=items) hge▸Q)
  refine w7 (L.done (hin▸c.lp.st) c.lp.g U (λs=>Y (.ok .next) s) _ λW1 x1 g1 m1=>hR W1 ys.toArray (c.lp.x.trans (x1.mono λb _ q=>.inr (.inl q))) (e.2▸g1) (B.keep c.inv c.lp.g x1 m1 λb q=>(S b q).1)
   (c.pl.at λo e=>x1.kept e (c.lp.hw D (.head _)).2 (λq=>(S D q).2 rfl) (MK c.pl e)) (show AN X W1 l ys from hl▸e.1▸(vX l').symm▸AN.more m1 c.vr)) (λr s₁ h=>?_) λ_ _ e=>e
  induction r using vN with
  |none=>exact h
  |some v=>exact h.elim
end
theorem K3{g:Str→NameKind→NameKind}{names:List (Str×NameKind)}{x:Str}:(names.map λp=>(p.1,g p.1 p.2)).lookup x=(names.lookup x).map (g x):=by
 induction names with
 |nil=>rfl
 |cons p r e=>
  show(match x==p.1 with|true=>some (g p.1 p.2)|false=>ei x (r.map λp=>(p.1,g p.1 p.2)))=wK (g x) (match x==p.1 with|true=>some p.2|false=>ei x r)
  cases h:x==p.1 with
  |true=>exact beq_iff_eq.mp h▸rfl
  |false=>exact e
theorem E5{sc:Scope}{env:Env}{x:Str}:(tq sc env).names.lookup x=(sc.names.lookup x).map λk=>if(k== .free&&env.scope.kind== .function&&env.kindOf x==some .cell)=true then .cell else k:=
 (congrArg (ei x) (jz λp _=>(apply_ite (Prod.mk p.1) _ _ _).symm)).trans (K3 (g:=λn k=>if(k==eo&&env.scope.kind== .function&&env.kindOf n==some .cell)=true then km else k))
theorem Cy{names:List (Str×NameKind)}{x:Str}{k:NameKind}(h:names.lookup x=some k):(x,k)∈names:=mem_of_lookup h
theorem Tf{env:Env}{n:Str}{a:Addr}(h:env.cells.lookup n=some a):td env n=pure a:=by unfold td;rw[h]
structure XI (env:Env) (names:List (Str×NameKind)) (acc cl:List (Str×Addr)):Prop where
 at': ∀x a,(x,a)∈cl→env.cells.lookup x=some a
 acc: ∀p∈acc,p∈cl
 free: ∀x,(x,eo)∈names→∃a,(x,a)∈cl
theorem Qk{env:Env}{f:Str×NameKind→List (Str×Addr)→Sem (ForInStep (List (Str×Addr)))}(hf: ∀n k c,f (n,k) c=if(k== .free)=true then(do let a←td env n;pure (.yield ((n,a)::c)))else pure (.yield c)){names:List (Str×NameKind)}:
  ∀{acc:List (Str×Addr)},(∀p∈names,p.2=.free→(env.cells.lookup p.1).isSome=true)→(∀x a,(x,a)∈acc→env.cells.lookup x=some a)→∃cl,forIn names acc f=pure cl∧XI env names acc cl:=by
 induction names with
 |nil=>exactλ{acc} _ h=>⟨acc,rfl,h,λ_ h=>h,λ_ h=>nomatch h⟩
 |cons p r B=>
  intro acc hp h
  rw[yX,hf p.1 p.2]
  by_cases u:p.2=.free
  ·obtain⟨a,ha⟩:=Option.isSome_iff_exists.mp (hp _ (.head _) u)
   obtain⟨cl,h1,c⟩:=B (acc:=(p.1,a)::acc) (λp q=>hp p (.tail _ q)) λx b q=>(List.mem_cons.mp q).elim (λe=>(congrArg (env.cells.lookup ·) (congrArg pd e)).trans (ha.trans (congrArg (some ·) (congrArg si e).symm))) (h x b)
   exact⟨cl,by rw[if_pos (beq_iff_eq.mpr u),Tf ha];exact h1,c.at',λp q=>c.acc p (.tail _ q),λx q=>(List.mem_cons.mp q).elim (λe=>⟨a,c.acc _ (congrArg pd e▸ .head _)⟩) (c.free x)⟩
  ·obtain⟨cl,h1,c⟩:=B (λp q=>hp p (.tail _ q)) h
   exact⟨cl,by rw[if_neg λq=>u (beq_iff_eq.mp q)];exact h1,c.at',c.acc,λx q=>(List.mem_cons.mp q).elim (λe=>absurd (congrArg si e).symm u) (c.free x)⟩
theorem Qw{env:Env}{sc:Scope}(h: ∀p∈sc.names,p.2=.free→(env.cells.lookup p.1).isSome=true):
  ∃cl,pj sc env=pure cl∧(∀x a,(x,a)∈cl→env.cells.lookup x=some a)∧∀x,(x,eo)∈sc.names→∃a,cl.lookup x=some a∧env.cells.lookup x=some a:=by
 have k {f:Str×NameKind→List (Str×Addr)→Sem (ForInStep (List (Str×Addr)))} (e:pj sc env=forIn sc.names [] f>>=pure) (hf: ∀n k c,f (n,k) c=if(k== .free)=true then(do let a←td env n;pure (.yield ((n,a)::c)))else pure (.yield c)): ∃cl,pj sc env=pure cl∧XI env sc.names [] cl:=
  (Qk hf (acc:=[]) h (λ_ _ q=>nomatch q)).imp λcl h=>⟨e.trans (congrArg (· >>=pure) h.1),h.2⟩
 obtain⟨cl,h1,c⟩:=k rfl λ_ _ _=>rfl
 refine⟨cl,h1,c.at',λx q=>?_⟩
 obtain⟨a,ha⟩:=c.free x q
 cases hl:cl.lookup x with
 |none=>exact absurd rfl (bne_iff_ne.mp (List.lookup_eq_none_iff.mp hl (x,a) ha))
 |some b=>exact⟨b,rfl,c.at' x b (mem_of_lookup hl)⟩
theorem II{ls:List Str}{x:Str}{ρ:AE}:(Cs ls ρ).lookup x=if x∈ls then none else ρ.lookup x:=by
 induction ρ with
 |nil=>exact(ite_self none).symm
 |cons p ρ B=>
  have e:Cs ls (p::ρ)=if(!ls.contains p.1)=true then p::Cs ls ρ else Cs ls ρ:=fx
  have l {ρ:AE}:(p::ρ).lookup x=if x=p.1 then some p.2 else ρ.lookup x:=lookup_cons
  rw[e,l]
  by_cases hy:p.1∈ls
  ·rw[List.contains_iff_mem.mpr hy,if_neg (kK rfl),B]
   by_cases u:x=p.1
   ·rw[if_pos (u▸hy),if_pos (u▸hy)]
   ·rw[if_neg u]
  ·rw[if_pos (by rw[v4,Bool.eq_false_iff];exactλq=>hy (List.contains_iff_mem.mp q)),l,B]
   by_cases u:x=p.1
   ·rw[if_pos u,if_pos u,if_neg (u▸hy)]
   ·rw[if_neg u,if_neg u]
theorem Oq{sc:Scope}{x:Str}(h:sc.names.lookup x=some .local):x∈D6 sc:=
 List.mem_map.mpr ⟨(x,.local),List.mem_filter.mpr ⟨Cy h,rfl⟩,rfl⟩
section
variable{X:Cx}{A:Around}{F P:Addr→Prop}{W W₀ W':Wd}{H:AH}{sc sc':Scope}{env:Env}{ρ:AE}
noncomputable def Wd.frz(W:Wd)(D:Addr):Wd:={W with N:=λa=>W.N a∧a≠D}
theorem Gg{D:Addr}:A5 W (W.frz D):=⟨λa o h=>⟨h.1,λn=>h.2 n.1⟩,[],(vX _).symm⟩
theorem Xc{D:Addr}(g:Gd X W H)(u:D∉W.β):Gd X (W.frz D) H:=
 ⟨g.gens,g.os,λa o h=>⟨(g.base a o h).1,λn=>(g.base a o h).2 n.1⟩,g.nodup,g.len,λa h=>⟨g.isN a h,λe=>u (e▸h)⟩,λi ao a h1 B=>(g.objs i ao a h1 B).more Gg λ_ e=>e⟩
theorem Si{D:Addr}(x:AS X F W₀ W)(u:W₀.h.objs.size≤D):AS X F W₀ (W.frz D):=
 ⟨x.keep,x.dicts,x.β,x.new,λa h=>⟨λn=>(x.N a h).mp n.1,λn=>⟨(x.N a h).mpr n,λe=>absurd h (Nat.not_lt.mpr (e▸u))⟩⟩,x.size⟩
theorem AS.tail{h':Heap}{k:Nat}{C:Addr}(x:AS X F W₀ W)(hs:xC C W.h h')(I:W₀.h.objs.size≤C):AS X F W₀ (W.put h' k):=by
 have hsz:(W.put h' k).h.objs.size=W.h.objs.size:=hs.1
 have u: ∀{a:Addr} {o:Obj},W₀.h.get? a=some o→a≠C:=λe q=>absurd (vI e) (Nat.not_lt.mpr (q▸I))
 refine⟨λa o e hb B=>?_,λa o e hb d=>?_,x.β,x.new,x.N,by rw[hsz];exact x.size⟩
 ·rcases x.keep a o e hb B with q|⟨D,q1,q2,sl,q⟩
  ·exact .inl ((hs.2 a (u e)).trans q)
  ·exact .inr ⟨D,q1,q2,sl,(hs.2 a (u e)).trans q⟩
 ·obtain⟨o',h1,h2⟩:=x.dicts a o e hb d
  exact⟨o',(hs.2 a (u e)).trans h1,h2⟩
theorem G9{x:Str}(h:B3 sc x=true):sc.names.lookup x=some .local:=beq_iff_eq.mp h
theorem Dv:CY X A env (FE env) (FE env) (EM sc) (λW ρ=>AW X W sc env ρ∧WC X W sc env) where
 store:=λg i B D=>Tp g i.1 i.2 B D
 keep:=λ{W W' H ρ P} i g x m e=>⟨i.1.ext x g (λp=>e _ p (.inl rfl)) (λy a u p=>e _ p (.inr ⟨y,u⟩)) m,i.2.ext x i.1⟩
 vol:=λ{W ρ a} i h=>i.1.vol h
 sub:=λ_ h=>h
theorem Pg(hl: ∀x,sc.names.lookup x=some .local→env.kindOf x=some .local):CY X A env (λb=>b=env.locals) (FE env) (B3 sc) (λW ρ=>AW X W sc env ρ) where
 store:=λ{W H ρ x v c} g i u D Q E J=>IO g i (hl x (G9 u)) D λh' hs O S I=>J () _ O S I
 keep:=λ{W W' H ρ P} i g x m e=>i.ext x g (λp=>e _ p (.inl rfl)) (λy a B p=>e _ p (.inr ⟨y,B⟩)) m
 vol:=λ{W ρ a} i h=>i.vol h
 sub:=λ_ h=>.inl h
theorem UV{Ai:Str→Bool}{es:List Expr}{xs:List Str}(h:HS Ai es xs): ∀x∈xs,Ai x=true:=by
 induction h with
 |nil=>exactλ_ q=>(nomatch q)
 |cons e _ u=>exactλy q=>(List.mem_cons.mp q).elim (λq=>q▸e) (u y)
inductive dY (Ai:Str→Bool):TN→Prop
 |bad:dY Ai .bad
 |name {x:Str}:Ai x=true→dY Ai (.name x)
 |names {xs:List Str}:(∀x∈xs,Ai x=true)→dY Ai (.names xs)
theorem oN{Ai:Str→Bool}(t:Expr):dY Ai (DG Ai t):=by
 induction t using Expr.casesOn with
 |Name x p=>
  show dY Ai (if Ai x=true then .name x else .bad)
  by_cases h:Ai x=true
  ·rw[if_pos h];exact .name h
  ·rw[if_neg h];exact .bad
 |Tuple es _ _=>
  show dY Ai (match BX Ai es with|some xs=>.names xs|uZ=>.bad)
  cases h:BX Ai es with
  |none=>exact .bad
  |some xs=>exact .names (UV (PN h))
 |_=>exact .bad
theorem P3{xs:List Str}: ∀{l:List AV} {x:Str} {ρ:AE},x∉xs→((xs.zip l).reverse++ρ).lookup x=ρ.lookup x:=by
 induction xs with
 |nil=>exactλ_=>rfl
 |cons y xs e=>
  intro l x ρ h
  induction l using u6 with
  |nil=>rfl
  |cons v l=>
   rw[xA,wP,xK,e λq=>h (.tail _ q)]
   exact lookup_cons.trans (if_neg λq:x=y=>h (q▸ .head _))
theorem Ud{Ai:Str→Bool}{t:TN}{a:AV}{ρ ρ':AE}{x:Str}(u:dY Ai t)(e:Ai x≠true):BL t a ρ=some ρ'→ρ'.lookup x=ρ.lookup x:=by
 induction u using dY.casesOn with
 |bad=>exactλh=>Ar (show none=some ρ' from h)
 |name hy=>exactλh=>u7 h▸lookup_cons.trans (if_neg λq:x=_=>e (q▸hy))
 |names hy=>
  induction a using AV.casesOn with
  |tuple l=>exactλh=>(At h).2▸P3 λq:x∈_=>e (hy _ q)
  |_=>exactλh=>Ar (show none=some ρ' from h)
theorem Tc{target:Expr}{a:AV}{ρ ρ':AE}(hb:BL (DG (B3 sc) target) a (Cs (D6 sc) ρ)=some ρ')(e:AW X W sc env ρ'):AW X W sc env (Cs (D6 sc) ρ):=by
 obtain⟨m,h1,h2⟩:=e.vars
 refine⟨e.kind,e.globals,e.builtins,e.glob,e.cel,e.lo,e.loN,e.cl,m,h1,λx v B u=>h2 x v B ((Ud (oN target) (λq=>?_) hb).trans u)⟩
 exact Ar ((if_pos (Oq (G9 q))).symm.trans (II.symm.trans u))
end
structure RN (sc sc':Scope):Prop where
 kind:sc'.kind=.function
 cell: ∀p∈sc'.names,p.2≠.cell
 loc: ∀p∈sc'.names,p.2=.local→sc'.names.lookup p.1=some .local
 free: ∀p∈sc'.names,p.2=.free→sc.names.lookup p.1=some .cell∧(p.1==("__classdict__":Str))=false
theorem WG{a b:Bool}(h:(!a||b)=true)(e:a=true):b=true:=(Bool.or_eq_true_iff.mp h).elim (λq=>absurd q (kK e)) id
theorem Ln{sc sc':Scope}(h:RP sc sc'=true):RN sc sc':=
 have e:=Bool.and_eq_true_iff.mp h
 have h1 (p) (hp:p∈sc'.names):=Bool.and_eq_true_iff.mp (List.all_eq_true.mp e.2 p hp)
 ⟨beq_iff_eq.mp e.1,λp hp=>bne_iff_ne.mp (Bool.and_eq_true_iff.mp (h1 p hp).1).1,λp hp hl=>beq_iff_eq.mp (WG (a:=p.2== .local) (Bool.and_eq_true_iff.mp (h1 p hp).1).2 (beq_iff_eq.mpr hl)),λp hp hl=>
  have q:=Bool.and_eq_true_iff.mp (WG (a:=p.2== .free) (h1 p hp).2 (beq_iff_eq.mpr hl))
  ⟨beq_iff_eq.mp q.1,(v4 _).mp q.2⟩⟩
theorem U0{sc:Scope}{x:Str}:Ak sc x=true→sc.names.lookup x=some .globalImplicit:=by
 show(match sc.names.lookup x with|some .globalImplicit=>true|_=>false)=true→_
 generalize sc.names.lookup x=o
 induction o using vN with
 |none=>exactλh=>(vF h).elim
 |some k=>induction k using nh with
  |globalImplicit=>exactλ_=>rfl
  |_=>exactλh=>(vF h).elim
theorem Wb{sc:Scope}{x:Str}:J2 sc x=true→sc.names.lookup x=some .local∨sc.names.lookup x=some .cell∨sc.names.lookup x=some .free:=by
 show(match sc.names.lookup x with|some .local=>true|some .cell=>true|some .free=>true|_=>false)=true→_
 generalize sc.names.lookup x=o
 induction o using vN with
 |none=>exactλh=>(vF h).elim
 |some k=>induction k using nh with
  | «local» =>exactλ_=>.inl rfl
  |cell=>exactλ_=>.inr (.inl rfl)
  |free=>exactλ_=>.inr (.inr rfl)
  |_=>exactλh=>(vF h).elim
section
variable{X:Cx}{A:Around}{F P:Addr→Prop}{W W₀ W':Wd}{H:AH}{sc sc':Scope}{env:Env}{ρ:AE}
noncomputable abbrev KN(sc':Scope)(env:Env)(cl:List (Str×Addr))(C:Addr)(b:Addr):Env:={newEnv sc' C env.globals cl env.qual none .none (some env) b with scope:=tq sc' env}
theorem V1{cl:List (Str×Addr)}{C b:Addr}(e:AW X W sc env ρ)(co:RN sc sc')(D: ∀x a,(x,a)∈cl→env.cells.lookup x=some a)(hfr: ∀x,(x,eo)∈sc'.names→∃a,cl.lookup x=some a∧env.cells.lookup x=some a)
  (Q:W.h.Ns C λ_=>none) (J:C∉W.β∧W.N C) (I: ∀x a,(x,a)∈env.cells→a≠C):AW X W sc' (KN sc' env cl C b) (Cs (D6 sc') ρ):=by
 have kin {x:Str} {k:NameKind} (h:sc'.names.lookup x=some k):(KN sc' env cl C b).kindOf x=some (if(k== .free&&env.scope.kind== .function&&env.kindOf x==some .cell)=true then .cell else k):=E5.trans (h▸rfl)
 refine⟨co.kind,e.globals,e.builtins,λx u=>kin (U0 u),λx u=>absurd rfl (co.cell _ (Cy u)),J.1,J.2,λx a O=>
  have hm:=C8 (D x a O)
  have h1:=e.cl x a hm
  ⟨h1.1,I x a hm,h1.2.2⟩,_,Q,λx v u B=>?_⟩
 rw[II] at B
 rcases Wb u with q|q|q
 ·exact Ar ((if_pos (Oq q)).symm.trans B)
 ·exact absurd rfl (co.cell _ (Cy q))
 ·have f:=co.free _ (Cy q) rfl
  have k1:=(e.cel x f.1).1
  obtain⟨a,a1,a2⟩:=hfr x (Cy q)
  obtain⟨m,hm,hvs⟩:=e.vars
  obtain⟨c,c1,c2⟩:=hvs x v (by unfold J2;rw[f.1]) (by by_cases h:x∈D6 sc';exact Ar ((if_pos h).symm.trans B);exact(if_neg h).symm.trans B)
  refine⟨c,c1,?_⟩
  induction c2 using Cu.casesOn with
  |loc k _=>exact nomatch k1.symm.trans k
  |cell _ d l i=>exact .cell (.inl ((kin q).trans (by rw[k1,e.kind];rfl))) d a1 (u7 (l.symm.trans a2)▸i)
theorem Sn{target ql elt:Expr}{ifs:List Expr}{pos Hx:Pos}{O:AE→AH→R Bool}{eltE:AE→AH→R AV}{n:Nat}{use:Option (Value→Sem Unit)}(co:RN sc sc')(g:Gd X W H)(ao:A9 X W A n)(e:AW X W sc env ρ)
  (hs: ∀x,md ql env x=pure x)
  {items:List AV} {H1:AH} (S:AC X A Ab W (rok items H1) (λW' is c=>EC X A (B3 sc') target W.h.objs.size W' is c) (eval ql env)) (hlen:items.length≤yR)
  (htest: ∀{W:Wd} {ρ':AE} {H:AH} {C b:Addr} {cl:List (Str×Addr)},Gd X W H→A9 X W A n→AW X W sc' (KN sc' env cl C b) ρ'→AC X A Ab W (O ρ' H) (λ_ b c=>b=c) (forIn ifs true λc r=>if r=true then do let ok←dj c (KN sc' env cl C b) (eval c (KN sc' env cl C b));pure (xO ok)else pure (xO r)))
  (helt: ∀{W:Wd} {ρ':AE} {H:AH} {C b:Addr} {cl:List (Str×Addr)},Gd X W H→A9 X W A n→AW X W sc' (KN sc' env cl C b) ρ'→AC X A Ab W (eltE ρ' H) (A8 X) (eval elt (KN sc' env cl C b)))
  {l:List AV} {Hend:AH} (hev:compLoop O eltE (DG (B3 sc') target) (Cs (D6 sc') ρ) items H1=some (.ok l Hend)) {Q:Value→Shared→Prop} {E:Value→Shared→Prop}
  (fin: ∀W' c C m,AS X Ab W W'→Gd X W' Hend→VR X W' (.list l) c→W.h.objs.size≤C→C∉W'.β→W'.N C→W'.h.Ns C m→pa (model X.prog X.w) A E use Q c C (.ok .next) W'.s):
  wpAny (model X.prog X.w) A (ek (.ListComp elt [⟨target,ql,ifs,0⟩] sc' pos) sc' env Hx (li []) false (eval ql env) use) Q E W.s:=by
 obtain⟨cl,c1,c2,c3⟩:=Qw (env:=env) (sc:=sc') λp hp hf=>(e.cel _ (co.free p hp hf).1).2
 refine wpAny_comprehension_free rfl hs c1 co.kind co.loc (S _ _ λc W1 x1 g1 src=>src H1 g1 _ _ λu I wr St x2 g2 L st hw=>?_)
 have J:AS X Ab W u:=x1.trans x2
 have hk3: ∀b o,u.h.get? b=some o→(u.h.push (A7 "list" [] 0)).get? b=some o:=λb o q=>vE _ q
 have hs3:u.h.objs.size≤(u.h.push (A7 "list" [] 0)).objs.size:=by rw[wO];exact w9 _
 have hw3: ∀b∈[u.h.objs.size],u.h.objs.size≤b:=λb hb=>by rw[List.mem_singleton.mp hb];exact vJ _
 refine ce ?_ (by rw[nt];exact w3 _)
 have x3:AS X Ab u (u.vol (u.h.push (A7 "list" [] 0)) u.s.toks [u.h.objs.size]):=HC hk3 hs3 hw3
 have g3:Gd X (u.vol (u.h.push (A7 "list" [] 0)) u.s.toks [u.h.objs.size]) H1:=Jo g2 hk3 hs3 hw3
 have vD:=I6 (h':=u.h.push (A7 "list" [] 0)) (k:=u.s.toks) g2 (List.mem_singleton.mpr rfl) (by rw[wO];exact wL _) (vJ _)
 have hD3:(u.vol (u.h.push (A7 "list" [] 0)) u.s.toks [u.h.objs.size]).h.get? u.h.objs.size=some (A7 "list" [] 0):=vO _ rfl
 have e3s:(u.vol (u.h.push (A7 "list" [] 0)) u.s.toks [u.h.objs.size]).s={u.s with heap:=u.s.heap.push {cls:=.type "list",data:=.seq ([]:List Value).toArray}}:=rfl
 rw[←e3s]
 generalize hW3:u.vol (u.h.push (A7 "list" [] 0)) u.s.toks [u.h.objs.size]=D at x3 g3 vD hD3
 have lt3:u.h.objs.size<D.h.objs.size:=vI hD3
 refine wpAny_newFunctionEnv co.cell (λp hp=>nomatch hp) (λh' hns hsb=>?_) co.kind
 have hk4: ∀b o,D.h.get? b=some o→h'.get? b=some o:=λb o q=>hsb.extBut b o (vR (vI q)) (vE _ q)
 have hsz4:h'.objs.size=D.h.objs.size+1:=by rw[hsb.1,wO];rfl
 have hs4:D.h.objs.size≤h'.objs.size:=by rw[hsz4];exact w9 _
 have hw4: ∀b∈[D.h.objs.size],D.h.objs.size≤b:=λb hb=>by rw[List.mem_singleton.mp hb];exact vJ _
 have x4:AS X Ab D (D.vol h' D.s.toks [D.h.objs.size]):=HC hk4 hs4 hw4
 have g4:Gd X (D.vol h' D.s.toks [D.h.objs.size]) H1:=Jo g3 hk4 hs4 hw4
 have vC:=I6 (h':=h') (k:=D.s.toks) g3 (List.mem_singleton.mpr rfl) (by rw[hsz4];exact wL _) (vJ _)
 have hns4:(D.vol h' D.s.toks [D.h.objs.size]).h.Ns D.h.objs.size λ_=>none:=hns
 have e4s:(D.vol h' D.s.toks [D.h.objs.size]).s={D.s with heap:=h',toks:=D.s.toks+([]:List (Str×Value)).length}:=rfl
 rw[←e4s]
 generalize hW4:D.vol h' D.s.toks [D.h.objs.size]=Y at x4 g4 vC hns4
 have m34:=x4.more0 g3
 have Z:A5 u Y:=(x3.more0 g2).trans m34
 have x14:AS X Ab W Y:=(J.trans x3).trans x4
 have e4:=e.ext0 x14 g
 have env4:AW X Y sc' (KN sc' env cl D.h.objs.size env.builtins) (Cs (D6 sc') ρ):=V1 e4 co c2 c3 hns4 ⟨vC.2.1,vC.1.2⟩ λy a ha q=>by
  obtain⟨_,_,_,v,hc⟩:=e.cl y a ha
  have h1:=hc.lt
  have h2:W.h.objs.size≤D.h.objs.size:=(J.trans x3).size
  rw[q] at h1
  exact absurd h1 (Nat.not_lt.mpr h2)
 have L4:Lp X A Y I wr (B3 sc') target items St:=⟨λst x g m hz hw=>L.frame st x g (Z.trans m) (λb o q=>hz b o (Z.fz b o q)) hw,λ{_ _ _ _ _ _} B {_ _ _ _} hi hb st g m i hw hz=>L.turn B hi hb st g (Z.trans m) i hw λb o q=>hz b o (Z.fz b o q),L.done,L.self⟩
 have st3:St 0 D.h:=L.frame st x3 g2 A5.refl (λ_ _ _ q=>q) λb q=>⟨(hw b q).2.1,λq=>q⟩
 have wr3:Ap wr D:=Ap.ext (W:=u) (λb q=>⟨(hw b q).1,(hw b q).2.1⟩) x3
 have st4:St 0 Y.h:=L.frame st3 x4 g3 (x3.more0 g2) (λ_ _ _ q=>q) λb q=>⟨(wr3 b q).2,λq=>q⟩
 have wr4:Ap wr Y:=wr3.ext x4
 have D4:Y.low.N u.h.objs.size∧u.h.objs.size∉Y.β:=Ap.ext (wr:=[u.h.objs.size]) (W:=D) (λb q=>List.mem_singleton.mp q▸⟨vD.1,vD.2.1⟩) x4 _ (.head _)
 have pl4:Y.h.PlainList u.h.objs.size #[]:=⟨0,x4.kept hD3 vD.2.1 (λq=>q) MH⟩
 have B:=Pg (X:=X) (A:=A) (sc:=sc') (env:=KN sc' env cl D.h.objs.size env.builtins) λx hx=>by
  show(tq sc' env).names.lookup x=_
  rw[E5,hx];rfl
 have hFE: ∀a,FE (KN sc' env cl D.h.objs.size env.builtins) a→a=D.h.objs.size∨a<W.h.objs.size:=λa q=>by
  rcases q with q|⟨y,q⟩
  ·exact .inl q
  ·obtain⟨_,_,_,v,hc⟩:=e.cl y a (mem_of_lookup (c2 y a q))
   exact .inr hc.lt
 have ne3: ∀b∈wr,b<u.h.objs.size:=λb q=>(hw b q).1.1
 have loop:ca (model X.prog X.w) A (.compLoop (.ListComp elt [⟨target,ql,ifs,0⟩] sc' pos) 0 (.ref I) (.ref u.h.objs.size) (KN sc' env cl D.h.objs.size env.builtins)) (pa (model X.prog X.w) A E use Q (.ref u.h.objs.size) D.h.objs.size) Y.s:=by
  refine TX B L4 (λb o hf q=>hf.2 (B.vol env4 (B.sub b q))) (λb q=>⟨λz=>?_,vR (ne3 b q)⟩) (λz=>?_) hlen (λg a i=>htest g a i) (λg a i=>helt g a i) st4 g4 (ao.ext x14) env4 (λhb i=>Tc hb i) wr4 D4 pl4 hev λW5 ys x5 g5 U pl5 r5=>?_
  ·rcases hFE b z with h|h
   ·exact absurd (ne3 b q) (by rw[h];exact Nat.not_lt.mpr (yD lt3))
   ·exact absurd h (Nat.not_lt.mpr (hw b q).2.2)
  ·rcases hFE _ z with h|h
   ·exact absurd lt3 (by rw[h];exact cj _)
   ·exact absurd h (Nat.not_lt.mpr J.size)
  ·have hCD:D.h.objs.size≠u.h.objs.size:=y6 lt3
   obtain⟨m5,hm5,_⟩:=U.vars
   have x05:AS X Ab W W5:=(x14.of0.trans x5).mono λa ha q=>by
    rcases q with q|q|q
    ·exact absurd ha (by rw[q];exact Nat.not_lt.mpr (J.trans x3).size)
    ·exact absurd ha (Nat.not_lt.mpr (hw a q).2.2)
    ·exact absurd ha (by rw[q];exact Nat.not_lt.mpr J.size)
   have D5:u.h.objs.size∉W5.β:=x5.nb D4.1.1 D4.2
   obtain⟨nD,hD5⟩:=pl5
   refine fin (W5.frz u.h.objs.size) (.ref u.h.objs.size) D.h.objs.size m5 (Si x05 J.size) (Xc g5 D5) (.list (n:=nD) (vs:=ys.toList) ⟨?_,λn=>n.2 rfl⟩ (AN.more Gg r5)) (J.trans x3).size U.lo ⟨U.loN,hCD⟩ hm5
   have:W5.h.get? u.h.objs.size=some (A7 "list" ys.toList nD):=by
    rw[show W5.h.get? u.h.objs.size=_ from hD5]
   exact this
 exact codeAny_compStart_list loop (L.self _ _ _ st4 loop)
end
noncomputable def JM(X:Cx)(c:Value):Prop:=(∃id,c=.builtin id)∨(∃T,c=.type T)∨keepIn X.K c=true
structure AK (X:Cx) (Γ:Ctx) (n:Nat):Prop where
 glob: ∀x v,Γ.glob x=some v→∃c,gv X x=some c∧∀W,VR X W v c
 callee: ∀f vs H,NW f=true→Γ.call f vs H≠none→∃c,gv X f=some c∧JM X c
 calls: ∀{f:Str} {vs:List AV} {H:AH} {W:Wd} {cs:List Value} {c:Value} {A:Around},NW f=true→Gd X W H→A9 X W A n→AN X W vs cs→gv X f=some c→AC X A Ab W (Γ.call f vs H) (A8 X) (call c cs)
 meth: ∀{c m f:Str} {C:Addr},Γ.meth c m=some f→X.cls c=some C→∃a,findIn X.K (.ref C) m=some (some (.ref a))∧typeIn X.K (.ref a)=some (.type "function")∧keepIn X.K (.ref a)=true∧
  ∀{vs:List AV} {H:AH} {W:Wd} {cs:List Value} {A:Around},Gd X W H→A9 X W A n→AN X W vs cs→AC X A Ab W (Γ.call f vs H) (A8 X) (call (.ref a) cs)
section
variable{X:Cx}{Γ:Ctx}{n:Nat}{A:Around}{F P:Addr→Prop}{W W₀ W':Wd}{H:AH}{sc sc':Scope}{env:Env}{ρ:AE}
theorem Sa{c:Prop} [d:Decidable c]{a b:CE}{rel:Wd→AV→Value→Prop}{t:Sem Value}(h1:c→AC X A F W (AF Γ a ρ H) rel t)(e: ¬c→AC X A F W (AF Γ b ρ H) rel t):AC X A F W (AF Γ (if c then a else b) ρ H) rel t:=
 match d with
 |.isTrue q=>h1 q
 |.isFalse q=>e q
theorem GZ{c:Prop} [d:Decidable c]{a:CE}{rel:Wd→AV→Value→Prop}{t:Sem Value}(h1:c→AC X A F W (AF Γ a ρ H) rel t):AC X A F W (AF Γ (if c then a else .stuck) ρ H) rel t:=Sa h1 λ_=>AC.none
noncomputable def SE(X:Cx)(Γ:Ctx)(n:Nat)(sc:Scope)(ex:Expr):Prop:=∀{env:Env} {ρ:AE} {W:Wd} {H:AH} {A:Around},Gd X W H→A9 X W A n→AW X W sc env ρ→AC X A Ab W (AF Γ (cE sc ex) ρ H) (A8 X) (eval ex env)
noncomputable def ST(X:Cx)(Γ:Ctx)(n:Nat)(sc:Scope)(ex:Expr):Prop:=∀{env:Env} {ρ:AE} {W:Wd} {H:AH} {A:Around},Gd X W H→A9 X W A n→AW X W sc env ρ→AC X A Ab W ((AF Γ (cE sc ex) ρ H).bind λv H=>rof (AQ v) H) (λ_ b c=>b=c) (dj ex env (eval ex env))
noncomputable def U7(X:Cx)(Γ:Ctx)(n:Nat)(sc:Scope)(es:List Expr):Prop:=∀{env:Env} {ρ:AE} {W:Wd} {H:AH} {A:Around} {pos:Pos},Gd X W H→A9 X W A n→AW X W sc env ρ→AC X A Ab W (A1 Γ (DB sc es) ρ H) (λW vs cs=>AN X W vs cs∧cs.length=es.length∧(backTo pos (starEach es env)).any (·.1)=false) (spliced (backTo pos (starEach es env)))
theorem R.bind_assoc{α β γ:Type}{r:R α}{f:α→AH→R β}{k:β→AH→R γ}:(r.bind f).bind k=r.bind λa H=>(f a H).bind k:=by
 match r with
 |uZ=>rfl
 |some (.ok a H)=>rfl
 |some (.exc e H)=>rfl
theorem PE{ex:Expr}(h:cE sc ex=.stuck):SE X Γ n sc ex:=λ{env ρ W H A} _ _ _=>show AC X A Ab W (AF Γ (cE sc ex) ρ H) (A8 X) (eval ex env)from h▸AC.none
theorem VX{c:Const}{k:Nat}{pos:Pos}:SE X Γ n sc (.Constant c k pos):=λ{env ρ W H A} g ao e=>by
 show AC X A Ab W (AF Γ (o4 c) ρ H) (A8 X) (pg env c)
 induction c using zD with
 |none=>exact AC.pure g .none
 |bool b=>exact AC.pure g (.bool _)
 |int i=>exact BB g λQ E h=>so h
 |str x=>exact AC.tok g (W.s.toks+1) (.str _ _) λQ E h=>gr h
 |_=>exact AC.none
theorem Zf(ok:AX X)(ga:AK X Γ n){x:Str}{pos:Pos}:SE X Γ n sc (.Name x pos):=λ{env ρ W H A} g ao e=>by
 show AC X A Ab W (AF Γ (if x==nm "__debug__" then .stuck else if J2 sc x then .var x else if Ak sc x then .glob x else .stuck) ρ H) (A8 X) _
 refine Sa (λ_=>AC.none) λhd=>?_
 rw[ba env x pos (Bool.eq_false_iff.mpr hd)]
 refine Sa (λu=>AR (Zz g e u)) λ_=>GZ λhg=>AC.rof λv u=>?_
 obtain⟨c,h1,h2⟩:=ga.glob x v u
 exact AC.same g (h2 W) λQ E h=>u0 (vT (SR ok g e hg h1 h))
theorem WF{l r:Expr}{op:Operator}{pos:Pos}(hl:SE X Γ n sc l)(D:SE X Γ n sc r):SE X Γ n sc (.BinOp l op r pos):=λg ao e=>
 AC.bind (hl g ao e) λa H1 c W1 u B h1=>AC.bind (AL (D B (ao.ext u) (e.ext0 u g))) λb H2 d Q O J I=>AR (IG (Ql J op (VR.more (O.more0 B) h1) I))
theorem Mn{x:Expr}{op:UnaryOp}{pos:Pos}(u:SE X Γ n sc x):SE X Γ n sc (.UnaryOp op x pos):=λ{env ρ W H A} g ao e=>by
 rw[qj]
 exact AC.bind (u g ao e) λa H1 c W1 D B h1=>AR (AL (Um B op h1))
theorem R2{α:Type}{r:R AV}{f g:AH→R α}:(r.bind λv H=>match AQ v with|some true=>f H|some false=>g H|uZ=>uZ)=(r.bind λv H=>rof (AQ v) H).bind λb H=>if b=true then f H else g H:=by
 match r with
 |uZ=>rfl
 |some (.exc _ _)=>rfl
 |some (.ok a H)=>
  show(match AQ a with|some true=>f H|some false=>g H|uZ=>uZ)=(rof (AQ a) H).bind _
  match AQ a with
  |uZ=>rfl
  |some true=>rfl
  |some false=>rfl
theorem JY{α γ:Type}{r:R AV}{f g:AH→R α}{rel:Wd→α→γ→Prop}{t:Sem Bool}{k:Bool→Sem γ}(h:AC X A F W (r.bind λv H=>rof (AQ v) H) (λ_ b c=>b=c) t)(h1: ∀H1 W1,AS X F W W1→Gd X W1 H1→AC X A F W1 (f H1) rel (k true))(D: ∀H1 W1,AS X F W W1→Gd X W1 H1→AC X A F W1 (g H1) rel (k false)):
  AC X A F W (r.bind λv H=>match AQ v with|some true=>f H|some false=>g H|uZ=>uZ) rel (t>>=k):=by
 rw[R2]
 refine AC.bind h λv H1 c W1 u B e=>?_
 cases(show v=c from e)
 induction v using wX with
 |true=>exact h1 H1 W1 u B
 |false=>exact D H1 W1 u B
theorem YW{t a b:Expr}{pos:Pos}(I:ST X Γ n sc t)(D:SE X Γ n sc a)(hb:SE X Γ n sc b):SE X Γ n sc (.IfExp t a b pos):=λ{env ρ W H A} g ao e=>by
 rw[rc]
 exact JY (f:=λH=>AF Γ (cE sc a) ρ H) (g:=λH=>AF Γ (cE sc b) ρ H) (I g ao e) (λH1 W1 u B=>D B (ao.ext u) (e.ext0 u g)) λH1 W1 u B=>hb B (ao.ext u) (e.ext0 u g)
theorem T5(es:List Expr)(pos:Pos)(env:Env):eval (.List es pos) env=(do z3 pos;li (←spliced (backTo pos (starEach es env)))):=rfl
theorem V4{es:List Expr}{k:Nat}{pos:Pos}(h:U7 X Γ n sc es):SE X Γ n sc (.Tuple es k pos):=λ{env ρ W H A} g ao e=>
 show AC X A Ab W (AF Γ (if es.length≤1000 then .tuple (DB sc es)else .stuck) ρ H) (A8 X) (eval (.Tuple es k pos) env)from
 GZ λu=>AR (AC.bind (h g ao e) λvs H1 cs W1 D B h1=>Ml B h1.1 (Da (h1.2.1▸u)))
theorem cG{es:List Expr}{pos:Pos}(h:U7 X Γ n sc es):SE X Γ n sc (.List es pos):=λ{env ρ W H A} g ao e=>
 show AC X A Ab W (AF Γ (if es.length≤1000 then .list (DB sc es)else .stuck) ρ H) (A8 X) (eval (.List es pos) env)from
 GZ λu=>AR (AC.bind (h g ao e) λvs H1 cs W1 D B h1=>PJ B h1.1 (Da (h1.2.1▸u)))
theorem LN{o:Expr}{attr:Str}{env:Env}{e:Sem Value}(h:GR o=true):kj o attr env e=e:=by
 induction o using vA with
 |Call f as ks q=>induction f using vA with
  |Name id p=>induction as using u6 with
   |nil=>induction ks using u6 with
    |nil=>exact if_pos (c:=((id !=("super":Str))||attr=="__class__"||env.kindOf "super" !=some .globalImplicit||env.kindOf "__class__" !=some .free)=true) (by rw[show(id !=("super":Str))=true from h];rfl)
    |cons _ _=>rfl
   |cons _ _=>rfl
  |_=>rfl
 |_=>rfl
theorem J8(value:Expr)(attr:Str)(pos:Pos)(env:Env):eval (.Attribute value attr pos) env=(do
  let o←kj value attr env (eval value env)
  z3 pos.atName
  let r←yZ [o] (tu o attr true)
  pz value o r
  pure r):=rfl
theorem Tk{γ:Type}{α:Type}{rel:Wd→α→γ→Prop}{r:R α}{t:Sem γ}{v:Expr}{o c:Value}(h:AC X A F W r rel t):AC X A F W r rel (pz v o c>>= λ_=>t):=h.of_wp λQ E h=>u0 (wpAny_letTemporaryGo h)
theorem X7{α:Type}{o:Option α}{H:AH}:rof o H=(rof o H).bind λa H=>rok a H:=by cases o<;>rfl
theorem bD(ok:AX X){o:Expr}{x:Str}{pos:Pos}(ho:SE X Γ n sc o):SE X Γ n sc (.Attribute o x pos):=λ{env ρ W H A} g ao e=>
 show AC X A Ab W (AF Γ (if GR o then .attr (cE sc o) x else .stuck) ρ H) (A8 X) (eval (.Attribute o x pos) env)from GZ λhb=>by
 rw[J8,LN hb]
 refine AC.bind (ho g ao e) λa H1 c W1 I D h1=>?_
 rw[X7]
 exact AR (AC.bind (AL (O6 ok D h1)) λb H2 d O J u B=>Tk (AC.pure u B))
theorem jF{o i:Expr}{pos:Pos}(hns: ∀a b c p,i≠.Slice a b c p)(ho:SE X Γ n sc o)(hi:SE X Γ n sc i):SE X Γ n sc (.Subscript o i pos):=λ{env ρ W H A} g ao e=>by
 have hc:cE sc (.Subscript o i pos)=.sub (cE sc o) (cE sc i):=by
  induction i using vA with
  |Slice _ _ _ _=>exact absurd rfl (hns _ _ _ _)
  |_=>rfl
 rw[hc,jj]
 exact AC.bind (ho g ao e) λa H1 c W1 u B h1=>AC.bind (AL (hi B (ao.ext u) (e.ext0 u g))) λb H2 d O I D J=>AR (b9 D o i hns (VR.more (I.more0 B) h1) J)
theorem Pe(lo hi:Option Expr)(p:Pos)(env:Env):eval (.Slice lo hi none p) env=(do
  let l←nr (tv lo env)
  let u←yZ [l] (nr (tv hi env))
  let s←yZ [l,u] (pure .none)
  newFields "slice" [l,u,s]):=rfl
noncomputable def SO(X:Cx)(Γ:Ctx)(n:Nat)(sc:Scope)(ex:Option Expr):Prop:=∀{env:Env} {ρ:AE} {W:Wd} {H:AH} {A:Around},Gd X W H→A9 X W A n→AW X W sc env ρ→AC X A Ab W (AF Γ (cO sc ex) ρ H) (A8 X) (nr (tv ex env))
inductive SliceAt (X:Cx) (W:Wd) (q:AV×AV):Value→Prop
 |mk {sl:Addr} {cl ch:Value}:VR X W q.1 cl→VR X W q.2 ch→W.s.heap.get? sl=some ⟨.type "slice",none,.fields #[cl,ch,.none],#[]⟩→SliceAt X W q (.ref sl)
theorem Mi{lo hi:Option Expr}{p:Pos}(hl:SO X Γ n sc lo)(S:SO X Γ n sc hi)(g:Gd X W H)(ao:A9 X W A n)(e:AW X W sc env ρ):
  AC X A Ab W ((AF Γ (cO sc lo) ρ H).bind λl H=>(AF Γ (cO sc hi) ρ H).bind λh H=>rok (l,h) H) (SliceAt X) (eval (.Slice lo hi none p) env):=by
 rw[Pe]
 refine AC.bind (hl g ao e) λl H2 cl Z B u U=>?_
 refine AC.bind (AL (S u (ao.ext B) (e.ext0 B g))) λh H3 ch W3 Y D h3=>?_
 refine AC.seq (rel:=λ_ (_:Unit) c=>c=wJ) (a:=()) (AL (AC.pure D rfl)) λc J O I hc=>?_
 cases(show c=wJ from hc)
 refine AC.new (c:=.ref J.h.objs.size) (o:=⟨.type "slice",none,.fields #[cl,ch,.none],#[]⟩) I (λk W' x e=>?_) λQ E h=>y7 (h J.s.toks)
 have m:=(O.more0 D).trans (x.more0 I)
 subst e
 exact .mk (VR.more ((Y.more0 u).trans m) U) (VR.more m h3) (vO _ rfl)
theorem Vu{o:Expr}{lo hi:Option Expr}{p pos:Pos}(ho:SE X Γ n sc o)(hl:SO X Γ n sc lo)(I:SO X Γ n sc hi):SE X Γ n sc (.Subscript o (.Slice lo hi none p) pos):=λ{env ρ W H A} g ao e=>by
 rw[jj]
 refine AC.bind (ho g ao e) λa H1 c W1 u B h1=>?_
 have e1:((AF Γ (cO sc lo) ρ H1).bind λl H=>(AF Γ (cO sc hi) ρ H).bind λh H=>rof (B9 a l h) H)=((AF Γ (cO sc lo) ρ H1).bind λl H=>(AF Γ (cO sc hi) ρ H).bind λh H=>rok (l,h) H).bind λq H=>rof (B9 a q.1 q.2) H:=
  by rw[R.bind_assoc];exact congrArg (R.bind _) (funext λl=>funext λH=>(R.bind_assoc (r:=AF Γ (cO sc hi) ρ H) (f:=λh H=>rok (l,h) H) (k:=λq H=>rof (B9 a q.1 q.2) H)).symm)
 rw[e1]
 refine AC.bind (AL (Mi hl I B (ao.ext u) (e.ext0 u g))) λq H2 Q S J D O=>?_
 refine Mine.Internal.SliceAt.casesOn O λq1 q2 q3=>?_
 exact AR (O7 D o lo hi p (VR.more (J.more0 B) h1) q1 q2 q3)
end
section
variable{X:Cx}{Γ:Ctx}{n:Nat}{A:Around}{F P:Addr→Prop}{W W₀ W':Wd}{H:AH}{sc sc':Scope}{env:Env}{ρ:AE}
theorem R.bind_rok{α:Type}{r:R α}:r.bind (λa H=>rok a H)=r:=by
 match r with
 |uZ=>rfl
 |some (.ok a H)=>rfl
 |some (.exc e H)=>rfl
theorem ZF{α β γ δ:Type}{rel:Wd→β→δ→Prop}{r:R β}{c:γ}{k:γ→Sem δ}(h:AC X A F W r rel (k c)):AC X A F W r rel (pure c>>=k):=h.of_wp λQ E h=>u0 (u8 h)
theorem ZB:U7 X Γ n sc []:=λg ao e=>AC.pure g ⟨.nil,rfl,rfl⟩
theorem GE(x:Sem Value)(rest:List (Bool×Sem Value)):spliced ((false,x)::rest)=(x>>= λv=>pure [v]>>= λhere=>yZ here (spliced rest)>>= λr=>pure (here++r)):=rfl
theorem R8{ex:Expr}{es:List Expr}{env:Env}:starEach (ex::es) env=(false,eval ex env)::starEach es env∨cE sc ex=.stuck:=by
 induction ex using vA with
 |Starred _ _=>exact .inr rfl
 |_=>exact .inl rfl
theorem Ty{ex:Expr}{es:List Expr}{pos:Pos}(h1:SE X Γ n sc ex)(J:U7 X Γ n sc es)(g:Gd X W H)(ao:A9 X W A n)(e:AW X W sc env ρ):
  AC X A Ab W (A1 Γ (DB sc (ex::es)) ρ H) (λW vs cs=>AN X W vs cs∧cs.length=(ex::es).length∧(backTo pos ((false,eval ex env)::starEach es env)).any (·.1)=false) (spliced ((false,eval ex env)::backTo pos (starEach es env))):=
 AC.bind (h1 g ao e) λv H1 c W1 u B q1=>ZF (α:=Unit) (AC.bind (AL (J (pos:=pos) B (ao.ext u) (e.ext0 u g))) λvs H2 cs O I D q2=>
  AC.pure D ⟨.cons (VR.more (I.more0 B) q1) q2.1,congrArg (· +1) q2.2.1,q2.2.2⟩)
theorem OV{ex:Expr}{es:List Expr}(h1:SE X Γ n sc ex)(D:U7 X Γ n sc es):U7 X Γ n sc (ex::es):=λ{env ρ W H A pos} g ao e=>by
 rcases R8 (sc:=sc) (ex:=ex) (es:=es) (env:=env)with B|u
 ·rw[B];exact Ty h1 D g ao e
 ·rw[show A1 Γ (DB sc (ex::es)) ρ H=R.bind (AF Γ (cE sc ex) ρ H) _ from rfl,u];exact AC.none
noncomputable def SB(X:Cx)(Γ:Ctx)(n:Nat)(sc:Scope)(es:List Expr):Prop:=∀{env:Env} {ρ:AE} {W:Wd} {H:AH} {A:Around} {pos:Pos} {op:BoolOp},Gd X W H→A9 X W A n→AW X W sc env ρ→AC X A Ab W (Gl Γ op (DB sc es) ρ H) (A8 X) (tf pos op (zM es env))
theorem fU:SB X Γ n sc []:=λg ao e=>AC.none
theorem LL{op:BoolOp}{ex:Expr}:Gl Γ op (DB sc [ex]) ρ H=AF Γ (cE sc ex) ρ H:=R.bind_rok
theorem iY{ex:Expr}(h:SE X Γ n sc ex):SB X Γ n sc [ex]:=λ{env ρ W H A pos op} g ao e=>by
 rw[LL,show tf pos op (zM [ex] env)=eval ex env from rfl]
 exact h g ao e
theorem Ow{a:AV}{c:Value}{b:Bool}(g:Gd X W H)(h:VR X W a c)(hb:AQ a=some b):AC X A F W (rok b H) (λ_ b c=>b=c) (mr c):=by
 have:=GB (A:=A) (F:=F) g h
 rw[hb] at this
 exact this
noncomputable def OZ(Γ:Ctx)(op:BoolOp)(v:AV)(r:List CE)(ρ:AE)(H:AH):R AV:=match op,AQ v with
 |.And,some false=>rok v H
 |.Or,some true=>rok v H
 |_,some _=>Gl Γ op r ρ H
 |_,uZ=>uZ
theorem JR{op:BoolOp}{ex e:Expr}{es:List Expr}:Gl Γ op (DB sc (ex::e::es)) ρ H=(AF Γ (cE sc ex) ρ H).bind λv H=>OZ Γ op v (DB sc (e::es)) ρ H:=rfl
set_option backward.match.sparseCases true in
theorem cC{ex u:Expr}{es:List Expr}(h:SE X Γ n sc ex)(Q:SB X Γ n sc (u::es)):SB X Γ n sc (ex::u::es):=λ{env ρ W H A pos op} g ao e=>by
 rw[show tf pos op (zM (ex::u::es) env)=(do
   let v←eval ex env
   z3 pos
   let t←yZ [v] (mr v)
   match op,t with
   |.And,false|.Or,true=>pure v
   |_,_=>tf pos op (zM (u::es) env))from rfl,JR]
 refine AC.bind (h g ao e) λv H1 c W1 O I q1=>?_
 unfold OZ
 cases S:AQ v with
 |none=>cases op<;>exact AC.none
 |some b=>
  refine AR (AC.seq (AL (Ow I q1 S)) λU Y B J hb=>?_)
  cases(show b=U from hb)
  have D:=Q (pos:=pos) (op:=op) J ((ao.ext O).ext B) ((e.ext0 O g).ext0 B I)
  have hp:=AC.pure (A:=A) (F:=Ab) J (rel:=A8 X) (VR.more (B.more0 I) q1)
  cases op<;>cases b<;>first|exact hp|exact D
theorem YA{op:CmpOp}{ex:Expr}(h: ∀es k p,ex≠.Set es k p):behindInMarks op ex=false:=by
 induction ex using vA with
 |Set _ _ _=>exact absurd rfl (h _ _ _)
 |_=>rfl
noncomputable def SC(X:Cx)(Γ:Ctx)(n:Nat)(sc:Scope)(es:List Expr):Prop:=∀{ops:List CmpOp} {env:Env} {ρ:AE} {W:Wd} {H:AH} {A:Around} {pos:Pos} {a:AV} {c:Value},ops.length=es.length→Gd X W H→A9 X W A n→AW X W sc env ρ→VR X W a c→
 AC X A Ab W (EX Γ a ops (DB sc es) ρ H) (A8 X) (ln pos c ops (aq ops es (zM es env)))∧
 AC X A Ab W ((EX Γ a ops (DB sc es) ρ H).bind λv H=>rof (AQ v) H) (λ_ b c=>b=c) (qv pos c ops (aq ops es (zM es env)))
theorem gZ:SC X Γ n sc []:=λ{ops env ρ W H A pos a c} hl g ao e h=>by
 induction ops using u6 with
 |nil=>exact⟨AC.none,AC.none⟩
 |cons _ _=>exact nomatch hl
theorem Wj{a b:AV}{c d:Value}{v:Bool}{op:CmpOp}(g:Gd X W H)(ao:A9 X W A n)(e:VR X W a c)(hb:VR X W b d)(u:cmpA op a b=some v):AC X A F W (rok v H) (λW v c=>VR X W (.bool v) c) (mu op c d):=by
 have:=Nw (A:=A) (F:=F) g ao op e hb
 rw[u] at this
 exact this
noncomputable def YR{α β:Type}(o:Option α)(f:α→R β):R β:=match o with
 |some a=>f a
 |uZ=>uZ
theorem QE{a:AV}{op:CmpOp}{ex:Expr}:EX Γ a [op] (DB sc [ex]) ρ H=(AF Γ (cE sc ex) ρ H).bind λb H=>YR (cmpA op a b) λv=>rok (.bool v) H:=by
 refine congrArg (R.bind _) (funext λb=>funext λH=>?_)
 cases cmpA op a b<;>rfl
theorem Pw{a:AV}{op u:CmpOp}{ops:List CmpOp}{ex e:Expr}{es:List Expr}:EX Γ a (op::u::ops) (DB sc (ex::e::es)) ρ H=(AF Γ (cE sc ex) ρ H).bind λb H=>YR (cmpA op a b) λv=>if v=true then EX Γ b (u::ops) (DB sc (e::es)) ρ H else rok (.bool false) H:=by
 refine congrArg (R.bind _) (funext λb=>funext λH=>?_)
 cases cmpA op a b with
 |none=>rfl
 |some v=>cases v<;>rfl
theorem Yd{α β γ:Type}{r:R α}{o:α→Option Bool}{f:α→AH→Bool→R β}{k:β→AH→R γ}:(r.bind λb H=>YR (o b) λv=>f b H v).bind k=r.bind λb H=>YR (o b) λv=>(f b H v).bind k:=by
 rw[R.bind_assoc]
 refine congrArg (R.bind _) (funext λb=>funext λH=>?_)
 cases o b<;>rfl
theorem PD{op u:CmpOp}{ops:List CmpOp}{ex e:Expr}{es:List Expr}:aq (op::u::ops) (ex::e::es) (zM (ex::e::es) env)=eval ex env::aq (u::ops) (e::es) (zM (e::es) env):=rfl
theorem OA{op:CmpOp}{ops:List CmpOp}{ex:Expr}{es:List Expr}(hl:(op::ops).length=(ex::es).length): ∃t ts,aq (op::ops) (ex::es) (zM (ex::es) env)=t::ts:=by
 induction ops using u6 with
 |nil=>induction es using u6 with
  |nil=>exact⟨_,_,rfl⟩
  |cons _ _=>exact nomatch hl
 |cons u ops=>induction es using u6 with
  |nil=>exact nomatch hl
  |cons e es=>exact⟨_,_,rfl⟩
theorem Lj{β γ:Type}{rel:Wd→β→γ→Prop}{ex:Expr}{op:CmpOp}{a:AV}{c:Value}{pos:Pos}{f:AV→AH→Bool→R β}{K:Value→Value→Bool→Sem γ}(h:SE X Γ n sc ex)(g:Gd X W H)(ao:A9 X W A n)(e:AW X W sc env ρ)(U:VR X W a c)
  (hk: ∀B H1 b d u v,AS X Ab W B→Gd X B H1→VR X B b d→VR X B (.bool v) u→AC X A Ab B (f b H1 v) rel (K d u v)):
  AC X A Ab W ((AF Γ (cE sc ex) ρ H).bind λb H=>YR (cmpA op a b) λv=>f b H v) rel (do
   let D←yZ [c] (eval ex env)
   z3 pos
   let u←yZ [c,D] (mu op c D)
   rh [c,D] [u]
   let t←yZ [u,D] (mr u)
   K D u t):=by
 refine AC.bind (AL (h g ao e)) λb H1 d W1 J g1 h1=>?_
 cases hc:cmpA op a b with
 |none=>exact AC.none
 |some v=>
  have S:=Wj (A:=A) (F:=Ab) g1 (ao.ext J) (VR.more (J.more0 g) U) h1 hc
  refine AR (AC.seq (rel:=A8 X) (a:=AV.bool v) (AL λQ E hQ=>S Q E λc W' x g q=>hQ c W' x g q) λc2 B Y I Z=>Z9 ?_)
  refine AC.seq (AL (Ow (b:=v) I Z rfl)) λb' W3 O g3 hb=>?_
  cases(show v=b' from hb)
  exact hk W3 H1 b d c2 v ((J.trans Y).trans O) g3 (VR.more ((Y.more0 g1).trans (O.more0 I)) h1) (VR.more (O.more0 I) Z)
theorem W9{ex:Expr}{op:CmpOp}{a:AV}{c:Value}{pos:Pos}(h:SE X Γ n sc ex)(g:Gd X W H)(ao:A9 X W A n)(e:AW X W sc env ρ)(u:VR X W a c):AC X A Ab W (EX Γ a [op] (DB sc [ex]) ρ H) (A8 X) (yZ [c] (eval ex env)>>= λB=>z3 pos>>= λ_=>tr [c,B] (mu op c B)):=by
 rw[QE]
 refine AC.bind (AL (h g ao e)) λb H1 d W1 D J h1=>?_
 cases hc:cmpA op a b with
 |none=>exact AC.none
 |some v=>
  have S:=Wj (A:=A) (F:=Ab) J (ao.ext D) (VR.more (D.more0 g) u) h1 hc
  exact AR (IG λQ E I=>S Q E λc W' x g q=>I c W' x g q)
theorem iM{ops:List CmpOp}{a:AV}{e es:List Expr}{k:Nat}{p:Pos}:EX Γ a ops (DB sc (.Set e k p::es)) ρ H=none:=by
 cases ops<;>rfl
theorem Rk{ex:Expr}{es:List Expr}(h:SE X Γ n sc ex)(Z:SC X Γ n sc es):SC X Γ n sc (ex::es):=λ{ops env ρ W H A pos a c} hl g ao e J=>by
 by_cases D: ∃u k p,ex=.Set u k p
 ·obtain⟨u,k,p,rfl⟩:=D
  rw[iM]
  exact⟨AC.none,AC.none⟩
 induction ops using u6 with
 |nil=>exact nomatch hl
 |cons op ops=>induction ops using u6 with
  |nil=>induction es using u6 with
   |cons e2 es=>exact nomatch hl
   |nil=>
    rw[show aq [op] [ex] (zM [ex] env)=[pw op ex (eval ex env)] from rfl,pw,YA λu k p q=>D ⟨u,k,p,q⟩]
    have S:=W9 (op:=op) (pos:=pos) h g ao e J
    refine⟨S,?_⟩
    have T:=AC.bind (rel':=λ_ b c=>b=c) (f:=λv H=>rof (AQ v) H) (k:=λc=>yZ [c] (mr c)) S λv H1 c W1 x1 g1 h1=>AL (GB g1 h1)
    rw[bind_assoc] at T
    exact T
  |cons B ops=>induction es using u6 with
   |nil=>exact nomatch hl
   |cons Y es=>
    have Q:(B::ops).length=(Y::es).length:=z6 hl
    rw[PD,Pw,Yd]
    obtain⟨t,ts,hm⟩:=OA (env:=env) Q
    have I:=λ{W H a c}=>Z (ops:=B::ops) (env:=env) (ρ:=ρ) (W:=W) (H:=H) (A:=A) (pos:=pos) (a:=a) (c:=c) Q
    rw[hm] at I⊢
    constructor
    ·refine Lj (K:=λrv U v=>if v then ln pos rv (B::ops) (t::ts)else pure U) h g ao e J λW2 H1 b d U v x O hb hc=>?_
     induction v using wX with
     |true=>exact(I O (ao.ext x) (e.ext0 x g) hb).1
     |false=>exact AC.pure O hc
    ·refine Lj (K:=λrv U v=>if v then qv pos rv (B::ops) (t::ts)else pure false) h g ao e J λW2 H1 b d U v x O hb hc=>?_
     induction v using wX with
     |true=>exact(I O (ao.ext x) (e.ext0 x g) hb).2
     |false=>exact AC.pure O rfl
end
section
variable{X:Cx}{Γ:Ctx}{n:Nat}{A:Around}{F P:Addr→Prop}{W W₀ W':Wd}{H:AH}{sc sc':Scope}{env:Env}{ρ:AE}
theorem c5{ex:Expr}(h:SE X Γ n sc ex)(hp: ∀env u,dj ex env u=(do let v←u;z3 ex.pos;yZ [v] (mr v))):ST X Γ n sc ex:=λ{env ρ W H A} g ao e=>by
 rw[hp]
 refine AC.bind (h g ao e) λv H1 c W1 D B h1=>?_
 exact AR (AL (GB B h1))
theorem eP{x:Expr}{pos:Pos}(h:ST X Γ n sc x):ST X Γ n sc (.UnaryOp .Not x pos):=λ{env ρ W H A} g ao e=>by
 rw[arm_isTrue_UnaryOp]
 have e1:((AF Γ (cE sc (.UnaryOp .Not x pos)) ρ H).bind λv H=>rof (AQ v) H)=((AF Γ (cE sc x) ρ H).bind λv H=>rof (AQ v) H).bind λb H=>rok (!b) H:=by
  refine R.bind_assoc.trans (y3 (congrArg (R.bind _) (funext λv=>funext λH=>?_)) R.bind_assoc.symm)
  show(rof ((AQ v).map λb=>AV.bool !b) H).bind _=_
  cases AQ v<;>rfl
 rw[e1]
 refine AC.bind (h g ao e) λv H1 c W1 B u h1=>?_
 cases(show v=c from h1)
 exact AC.pure u rfl
theorem Tj{α β:Type}{r:R AV}{f g:AH→R α}{k:α→AH→R β}:(r.bind λv H=>match AQ v with|some true=>f H|some false=>g H|uZ=>uZ).bind k=r.bind λv H=>match AQ v with|some true=>(f H).bind k|some false=>(g H).bind k|uZ=>uZ:=by
 rw[R.bind_assoc]
 refine congrArg (R.bind _) (funext λv=>funext λH=>?_)
 cases AQ v with
 |none=>rfl
 |some b=>cases b<;>rfl
theorem fO{t a b:Expr}{pos:Pos}(I:ST X Γ n sc t)(D:ST X Γ n sc a)(hb:ST X Γ n sc b):ST X Γ n sc (.IfExp t a b pos):=λ{env ρ W H A} g ao e=>by
 rw[arm_isTrue_IfExp,show AF Γ (cE sc (.IfExp t a b pos)) ρ H=(AF Γ (cE sc t) ρ H).bind λv H=>match AQ v with|some true=>AF Γ (cE sc a) ρ H|some false=>AF Γ (cE sc b) ρ H|uZ=>uZ from rfl,Tj]
 exact JY (f:=λH=>(AF Γ (cE sc a) ρ H).bind _) (g:=λH=>(AF Γ (cE sc b) ρ H).bind _) (I g ao e) (λH1 W1 u B=>D B (ao.ext u) (e.ext0 u g)) λH1 W1 u B=>hb B (ao.ext u) (e.ext0 u g)
noncomputable def lA(X:Cx)(Γ:Ctx)(n:Nat)(sc:Scope)(es:List Expr):Prop:=∀{env:Env} {ρ:AE} {W:Wd} {H:AH} {A:Around} {op:BoolOp},Gd X W H→A9 X W A n→AW X W sc env ρ→
 AC X A Ab W ((Gl Γ op (DB sc es) ρ H).bind λv H=>rof (AQ v) H) (λ_ b c=>b=c) (tw op es env)
theorem Zr:lA X Γ n sc []:=λg ao e=>AC.none
set_option backward.match.sparseCases true in
theorem Ge{op:BoolOp}{ex:Expr}{es:List Expr}:tw op (ex::es) env=(dj ex env (eval ex env)>>= λt=>match op,t with
  |.And,false=>pure false
  |.Or,true=>pure true
  |_,_=>tw op es env):=rfl
theorem aH{ex:Expr}(h:ST X Γ n sc ex):lA X Γ n sc [ex]:=λ{env ρ W H A op} g ao e=>by
 rw[LL,Ge]
 have e1:((AF Γ (cE sc ex) ρ H).bind λv H=>rof (AQ v) H)=((AF Γ (cE sc ex) ρ H).bind λv H=>rof (AQ v) H).bind λb H=>rok b H:=R.bind_rok.symm
 rw[e1]
 refine AC.bind (h g ao e) λb H1 c W1 B u h1=>?_
 have h1:b=c:=h1
 subst h1
 cases op<;>cases b<;>exact AC.pure u rfl
theorem Pd{op:BoolOp}{v:AV}{r:List CE}:(OZ Γ op v r ρ H).bind (λv H=>rof (AQ v) H)=(rof (AQ v) H).bind λb H=>match op,b with
   |.And,false=>rok false H
   |.Or,true=>rok true H
   |_,_=>(Gl Γ op r ρ H).bind λv H=>rof (AQ v) H:=by
 unfold OZ
 cases e:AQ v with
 |none=>cases op<;>rfl
 |some b=>cases op<;>cases b<;>first|rfl|exact congrArg (rof · H) e
theorem Wr{ex u:Expr}{es:List Expr}(h:ST X Γ n sc ex)(I:lA X Γ n sc (u::es)):lA X Γ n sc (ex::u::es):=λ{env ρ W H A op} g ao e=>by
 rw[JR,Ge,R.bind_assoc,show(λa H=>(OZ Γ op a (DB sc (u::es)) ρ H).bind λv H=>rof (AQ v) H)=_ from funext λv=>funext λH=>Pd,←R.bind_assoc]
 refine AC.bind (h g ao e) λb H1 c W1 B D h1=>?_
 cases(show b=c from h1)
 have:=I (op:=op) D (ao.ext B) (e.ext0 B g)
 cases op<;>cases b<;>first|exact AC.pure D rfl|exact this
theorem aX{op:BoolOp}{es:List Expr}{pos:Pos}(h:lA X Γ n sc es):ST X Γ n sc (.BoolOp op es pos):=λ{env ρ W H A} g ao e=>by
 rw[arm_isTrue_BoolOp]
 exact h g ao e
theorem TB{op:BoolOp}{es:List Expr}{pos:Pos}(h:SB X Γ n sc es):SE X Γ n sc (.BoolOp op es pos):=λg ao e=>h (pos:=pos) g ao e
theorem oZ{α:Type}{c:Prop} [d:Decidable c]{a:CE}{k:AV→AH→R α}{γ:Type}{rel:Wd→α→γ→Prop}{t:Sem γ}(h1:c→AC X A F W ((AF Γ a ρ H).bind k) rel t):AC X A F W ((AF Γ (if c then a else .stuck) ρ H).bind k) rel t:=
 match d with
 |.isTrue q=>h1 q
 |.isFalse _=>AC.none
theorem Xp{l:Expr}{ops:List CmpOp}{rs:List Expr}{pos:Pos}(hl:SE X Γ n sc l)(D:SC X Γ n sc rs):SE X Γ n sc (.Compare l ops rs pos):=λ{env ρ W H A} g ao e=>
 show AC X A Ab W (AF Γ (if ops.length==rs.length then .cmp (cE sc l) ops (DB sc rs)else .stuck) ρ H) (A8 X) (eval l env>>= λa=>ln pos a ops (aq ops rs (zM rs env)))from
 GZ λu=>AC.bind (hl g ao e) λa H1 c W1 B I h1=>(D (pos:=pos) (eq_of_beq u) I (ao.ext B) (e.ext0 B g) h1).1
theorem gX{l:Expr}{ops:List CmpOp}{rs:List Expr}{pos:Pos}(hl:SE X Γ n sc l)(D:SC X Γ n sc rs):ST X Γ n sc (.Compare l ops rs pos):=λ{env ρ W H A} g ao e=>
 show AC X A Ab W ((AF Γ (if ops.length==rs.length then .cmp (cE sc l) ops (DB sc rs)else .stuck) ρ H).bind λv H=>rof (AQ v) H) _ (eval l env>>= λa=>qv pos a ops (aq ops rs (zM rs env)))from
 oZ λu=>(R.bind_assoc (r:=AF Γ (cE sc l) ρ H) (f:=λa H=>EX Γ a ops (DB sc rs) ρ H) (k:=λv H=>rof (AQ v) H)).symm▸AC.bind (hl g ao e) λa H1 c W1 B I h1=>(D (pos:=pos) (eq_of_beq u) I (ao.ext B) (e.ext0 B g) h1).2
noncomputable abbrev Dp(ifs:List Expr)(b:Bool)(env:Env):Sem Bool:=forIn ifs b λc r=>if r=true then do let ok←dj c env (eval c env);pure (xO ok)else pure (xO r)
theorem Nu{env:Env}(ifs:List Expr):Dp ifs false env=pure false:=by
 induction ifs with
 |nil=>rfl
 |cons c r e=>
  rw[Dp,yX,if_neg vF,pure_bind]
  exact e
noncomputable def lB(X:Cx)(Γ:Ctx)(n:Nat)(sc:Scope)(es:List Expr):Prop:=∀{env:Env} {ρ:AE} {W:Wd} {H:AH} {A:Around},Gd X W H→A9 X W A n→AW X W sc env ρ→AC X A Ab W (DI Γ (DB sc es) ρ H) (λ_ b c=>b=c) (Dp es true env)
theorem bO:lB X Γ n sc []:=λg ao e=>AC.pure g rfl
theorem O0{ex:Expr}{es:List Expr}(h:ST X Γ n sc ex)(D:lB X Γ n sc es):lB X Γ n sc (ex::es):=λ{env ρ W H A} g ao e=>by
 have e1:Dp (ex::es) true env=(dj ex env (eval ex env)>>= λok=>Dp es ok env):=by
  rw[Dp,yX,if_pos rfl,bind_assoc]
  exact congrArg (Bind.bind _) (funext λok=>pure_bind _ _)
 rw[e1]
 exact JY (f:=λH=>DI Γ (DB sc es) ρ H) (g:=λH=>rok false H) (h g ao e) (λH1 W1 u B=>D B (ao.ext u) (e.ext0 u g)) λH1 W1 u B=>Nu es▸AC.pure B rfl
end
section
variable{X:Cx}{Γ:Ctx}{n:Nat}{A:Around}{F P:Addr→Prop}{W W₀ W':Wd}{H:AH}{sc sc':Scope}{env:Env}{ρ:AE}
theorem R.bind_ok{α β:Type}{r:R α}{f:α→AH→R β}{b:β}{H':AH}(h:r.bind f=some (.ok b H')): ∃a H1,r=some (.ok a H1)∧f a H1=some (.ok b H'):=by
 match r,h with
 |some (.ok a H1),h=>exact⟨a,H1,rfl,h⟩
theorem Gf{α β:Type}{r:R α}{f:α→AH→R β}{b:β}{H':AH}{P:Prop}(h:r.bind f=some (.ok b H'))(k: ∀a H1,r=some (.ok a H1)→f a H1=some (.ok b H')→P):P:=
 let⟨a,H1,h1,h2⟩:=R.bind_ok h
 k a H1 h1 h2
theorem EE{q:Pos}{as:List Expr}: ∀{H:AH} {vs:List AV} {H1:AH},A1 Γ (DB sc as) ρ H=some (.ok vs H1)→(backTo q (starEach as env)).any (·.1)=false:=by
 induction as with
 |nil=>exactλ_=>rfl
 |cons ex as B=>
  intro H vs H1 h
  refine Gf h λv H2 h1 D=>Gf D λvs' I h3 _=>?_
  rcases R8 (sc:=sc) (ex:=ex) (es:=as) (env:=env)with u|e
  ·rw[u];exact B h3
  ·rw[e] at h1;exact Ar h1
theorem DL{c:Value}{args:List (Bool×Sem Value)}{Q:Args→Shared→Prop}{E:Value→Shared→Prop}{s:Shared}{M:fg}(hp:args.any (·.1)=false)(h:wpAny M A (spliced args) (λvs s'=>Q ⟨vs,[]⟩ s') E s):wpAny M A (evalArgs c true args []) Q E s:=by
 match args,hp with
 | [],_=>
  unfold evalArgs
  show wpAny M A (spliced []>>=_) Q E s
  refine u0 (w7 h (λvs s' h'=>?_) λ_ _ x=>x)
  refine wE ?_
  exact u0 (u8 (u0 (u8 (u8 h'))))
 |(false,x)::rest,_=>exact Calls.evalArgs_plain h
 |(true,x)::rest,hp=>simp at hp
theorem Cf{c:Value}(h:JM X c)(M:fg)(hp:Heap)(e:X.K.In hp): ∃k,(k=Keeper.frame∨k=Keeper.machine∨k=Keeper.boundFrame)∧Looks M hp (keeperOf c) k:=by
 rcases h with⟨id,rfl⟩|⟨T,rfl⟩|h
 ·exact⟨.machine,.inr (.inl rfl),ag rfl⟩
 ·exact⟨.machine,.inr (.inl rfl),ag rfl⟩
 ·exact keeps_K h hp e
theorem EG{β:Type}{rel':Wd→β→Value→Prop}{c:Value}{first:List Value}{args:List (Bool×Sem Value)}{pos:Pos}{vs:List AV}{H1:AH}{r:R β}(ok:AX X)(hc:JM X c)
  (S:AC X A Ab W (rok vs H1) (λW vs cs=>AN X W vs cs∧args.any (·.1)=false) (spliced args)) (hp:args.any (·.1)=false)
  (u: ∀W' cs,AS X Ab W W'→Gd X W' H1→AN X W' vs cs→AC X A Ab W' r rel' (call c (first++cs))):AC X A Ab W r rel' (sh pos c first args []):=by
 have step: ∀Q E,(∀W' cs,AS X Ab W W'→Gd X W' H1→AN X W' vs cs→wpAny (model X.prog X.w) A (call c (first++cs)) Q E W'.s)→wpAny (model X.prog X.w) A (sh pos c first args []) Q E W.s:=by
  intro Q E h
  refine jg (P:=X.K.In) (by simp[hp]) (Cf hc _) (DL hp (S _ _ λcs W' x g q=>⟨ok.here g,h W' cs x g q.1⟩))
 match r,u with
 |uZ,_=>trivial
 |some (.ok v H2),u=>exactλQ E J=>step Q E λW' cs x g q=>u W' cs x g q Q E λc e B I D=>J c e (x.trans B) I D
 |some (.exc k H2),u=>exactλQ E O=>step Q E λW' cs x g q=>u W' cs x g q Q E λc e B I D=>O c e (x.trans B) I (D.le x.size)
theorem DX(f:Str)(p q:Pos)(as:List Expr)(env:Env):eval (.Call (.Name f p) as [] q) env=(eval (.Name f p) env>>= λc=>sh q c [] (backTo q (starEach as env)) []):=rfl
theorem Gk(ok:AX X)(g:Gd X W H)(e:AW X W sc env ρ){f:Str}{p:Pos}{c:Value}(hd:(f==("__debug__":Str))=false)(hg:Ak sc f=true)(hc:gv X f=some c){Q:Value→Shared→Prop}{E:Value→Shared→Prop}(h:Q c W.s):wpAny (model X.prog X.w) A (eval (.Name f p) env) Q E W.s:=by
 rw[ba env f p hd]
 exact u0 (vT (SR ok g e hg hc h))
theorem ZE(ok:AX X)(ga:AK X Γ n){f:Str}{as:List Expr}{p q:Pos}(h:U7 X Γ n sc as):SE X Γ n sc (.Call (.Name f p) as [] q):=λ{env ρ W H A} g ao e=>by
 show AC X A Ab W (AF Γ (if f==nm "__debug__" then .stuck else if Ak sc f&&NW f&&as.length<20 then .call f (DB sc as)else .stuck) ρ H) (A8 X) _
 refine Sa (λ_=>AC.none) λhd=>GZ λhg=>AC.caseN λvs H1 hp=>?_
 have hg:=Bool.and_eq_true_iff.mp (Bool.and_eq_true_iff.mp hg).1
 have S:=h (pos:=q) g ao e
 rw[hp] at S
 by_cases u:Γ.call f vs H1=none
 ·rw[u];exact AC.none
 ·obtain⟨c,hc,cal⟩:=ga.callee f vs H1 hg.2 u
  rw[DX]
  exact(EG (first:=[]) (pos:=q) (r:=Γ.call f vs H1) ok cal (S.map λa H c W' x g q=>⟨q.1,q.2.2⟩) (EE hp) λW' cs x D q=>ga.calls hg.2 D (ao.ext x) q hc).of_wp λQ E B=>u0 (Gk ok g e (Bool.eq_false_iff.mpr hd) hg.1 hc B)
theorem OH{P:wR}{ks:List Str}{cs:List Value}{es:List DictEntry}{nn:Nat}{sl:Array (Option Value)}{m:Str}(f:An P ks cs es)(h:m∉ks):shadowIn (some (CK es nn sl)) m=some false:=by
 have:=LW f h
 show wK _ (tc m (CK es nn sl))=_
 rw[Gx,this]
 rfl
theorem KQ{k:Nat}{args:List (Bool×Sem Value)}(u:k<20)(hp:args.any (·.1)=false):pv k args []=true:=by
 unfold pv
 have:args.all (λx=>!x.1)=true:=List.all_eq_true.mpr λx e=>(v4 _).mpr (Bool.eq_false_iff.mpr (List.any_eq_false.mp hp x e))
 simp only[this,List.all_nil,Bool.and_true,xL,nk,if_true,decide_eq_true_eq]
 omega
structure KA (X:Cx) (A:Around) (W:Wd) (env:Env) (as:List Expr) (ap q:Pos) (vs:List AV) (H1:AH):Prop where
 hl:as.length<20
 hline:(ap.endLine==q.line)=true
 hpl:(backTo q (starEach as env)).any (·.1)=false
 S:AC X A Ab W (rok vs H1) (λW vs cs=>AN X W vs cs) (spliced (backTo q (starEach as env)))
theorem Dd(o:Expr)(m:Str)(as:List Expr)(ap q:Pos)(env:Env)(hb:GR o=true):eval (.Call (.Attribute o m ap) as [] q) env=(do
  let e←eval o env
  z3 ap.atName
  yS o m ap q env e as.length (backTo q (starEach as env)) []):=by
 have:eval (.Call (.Attribute o m ap) as [] q) env=(do
  let e←kj o m env (eval o env)
  z3 ap.atName
  yS o m ap q env e as.length (backTo q (starEach as env)) []):=rfl
 rw[this,LN hb]
theorem E2(ok:AX X){o:Expr}{m:Str}{as:List Expr}{ap q:Pos}{e:Value}{vs:List AV}{H1:AH}{r:R AV}{f:Value}{first:List Value}(k:KA X A W env as ap q vs H1)(hc:JM X f)
  (hm: ∀(pl:Sem Bool) (Q:Value×List Value→Shared→Prop) (E:Value→Shared→Prop),Q (f,first) W.s→wpAny (model X.prog X.w) A (qz e m pl) Q E W.s)
  (u: ∀W' cs,AS X Ab W W'→Gd X W' H1→AN X W' vs cs→AC X A Ab W' r (A8 X) (call f (first++cs))):AC X A Ab W r (A8 X) (yS o m ap q env e as.length (backTo q (starEach as env)) []):=by
 refine(EG (pos:=q) (first:=first) (r:=r) ok hc (k.S.map λa H c W' x g q=>⟨q,k.hpl⟩) k.hpl u).of_wp λQ E h=>?_
 unfold yS
 rw[KQ k.hl k.hpl]
 refine u0 (wE ?_)
 unfold sg
 rw[if_pos rfl]
 refine hm _ _ _ (u0 (je ?_ h))
 unfold ci;simp[k.hline]
theorem LH(ok:AX X)(ga:AK X Γ n){o:Expr}{m:Str}{as:List Expr}{ap q:Pos}{a:AV}{vs:List AV}{H1:AH}(ao:A9 X W A n)(k:KA X A W env as ap q vs H1)(g:Gd X W H){c:Str}{C x dx:Addr}{ks:List Str}{es:List DictEntry}{nn:Nat}{sl:Array (Option Value)}{cs:List Value}(hc:X.cls c=some C)(B: ∀k∈ks,findIn X.K (.ref C) k=some none)(h1:W.h.get? x=some (instObj C dx))
  (D:W.h.get? dx=some (CK es nn sl)) (hf:An X.w.params ks cs es) (e:VR X W a (.ref x)):AC X A Ab W (match Γ.meth c m with|some f=>Γ.call f (a::vs) H1|uZ=>uZ) (A8 X) (yS o m ap q env (.ref x) as.length (backTo q (starEach as env)) []):=by
 cases hm:Γ.meth c m with
 |none=>exact AC.none
 |some f=>
 obtain⟨u,q1,q2,q3,q4⟩:=ga.meth hm hc
 have cf:=ok.cls c C hc
 exact E2 (o:=o) (f:=.ref u) (first:=[.ref x]) ok k (.inr (.inr q3)) (λpl Q E h=>method_fn (ok.here g) (S2 h1 D) cf.ga cf.gat q1 q2 (OH hf λz=>Ar (u7 ((B m z).symm.trans q1))) h) λW' cs x I r=>q4 I (ao.ext x) (.cons (VR.more (x.more0 g) e) r)
theorem JF(ok:AX X){o:Expr}{m:Str}{as:List Expr}{ap q:Pos}{e:Value}{vs:List AV}{H1:AH}(k:KA X A W env as ap q vs H1){T id:String}{r:R AV}(I:W.s.TypeIs e T)(u:PlainAttrs T)(sl:Slot T m id)(D:iu (.builtin id)=pure (.type "method_descriptor"))(hd: ∀a,e=.ref a→∃o,W.s.heap.get? a=some o∧o.dict=none)
  (B: ∀W' cs,AS X Ab W W'→Gd X W' H1→AN X W' vs cs→AC X A Ab W' r (A8 X) (call (.builtin id) (e::cs))):AC X A Ab W r (A8 X) (yS o m ap q env e as.length (backTo q (starEach as env)) []):=
 E2 (o:=o) (f:=.builtin id) (first:=[e]) ok k (.inl ⟨id,rfl⟩) (λpl Q E h=>getMethod_builtin I u sl D hd h) B
theorem XS(ok:AX X){o:Expr}{m:Str}{as:List Expr}{ap q:Pos}{s:Str}{O:Value}{vs:List AV}{H1:AH}(k:KA X A W env as ap q vs H1)(S:VR X W (.str s) O):AC X A Ab W (Gb Γ (.str s) m vs H1) (A8 X) (yS o m ap q env O as.length (backTo q (starEach as env)) []):=by
 refine Mine.Internal.StrV.casesOn S.out λt=>?_
 have B:=λ{id:String} {r:R AV} (sl:Slot "str" m id) ty (I: ∀W' cs,AS X Ab W W'→Gd X W' H1→AN X W' vs cs→AC X A Ab W' r (A8 X) (call (.builtin id) (.str s t::cs)))=>JF (o:=o) ok k (gp W.s s t) PySem.F.plainAttrs_str sl ty (λ_ e=>nomatch e) I
 induction vs using u6 with
 |nil=>exact AC.guardR λhm=>AC.guardR λhc=>B (hm▸zL) gy λW' cs x D r=>(show cs=[] from r.out)▸Qb D hc.1 hc.2
 |cons v vs=>induction v using AV.casesOn with
  |str t'=>induction vs using u6 with
   |cons _ _=>exact AC.none
   |nil=>
    have J:=λ{id:String} {r:R AV} (sl:Slot "str" m id) ty (I: ∀W' u,Gd X W' H1→AC X A Ab W' r (A8 X) (call (.builtin id) [.str s t,.str t' u]))=>B sl ty λW' cs x D r=>by
     obtain⟨c,rfl,hv⟩:=r.o1
     refine Mine.Internal.StrV.casesOn hv.out λu=>?_
     exact I W' u D
    exact AC.iteR (λhm=>AC.guardR λhc=>J (hm▸zL) gy λW' u D=>Qv D hc.1 hc.2.1 hc.2.2) λ_=>
     AC.iteR (λhm=>J (hm▸PySem.F.slot_str_startswith) PySem.F.type_str_startswith λW' u D=>AC.same D (.bool _) λQ E h=>SC.startswith h) λ_=>
     AC.guardR λhm=>AC.guardR λ_=>J (hm▸PySem.F.slot_str_find) PySem.F.type_str_find λW' u D=>BB D λQ E h=>SC.find h
  |_=>exact AC.none
theorem T7(ok:AX X){o:Expr}{m:Str}{as:List Expr}{ap q:Pos}{l:List AV}{J:Value}{vs:List AV}{H1:AH}(k:KA X A W env as ap q vs H1)(g:Gd X W H)(I:VR X W (.list l) J):AC X A Ab W (Gb Γ (.list l) m vs H1) (A8 X) (yS o m ap q env J as.length (backTo q (starEach as env)) []):=by
 have D:=I
 obtain @⟨a,ws,j,hz,r⟩:=I.out
 induction vs using u6 with
 |nil=>exact AC.none
 |cons v vs=>induction v using AV.casesOn with
  |str t'=>induction vs using u6 with
   |cons _ _=>exact AC.none
   |nil=>
    refine AC.guardR λhm=>?_
    cases B:ED l with
    |none=>exact AC.none
    |some ss=>
    exact AC.guardR λhc=>JF (o:=o) ok k ⟨_,hz.1,rfl⟩ PySem.F.plainAttrs_list (hm▸gc) PySem.F.type_list_index (λa e=>⟨_,by cases e;exact hz.1,rfl⟩) λW' cs x Q O=>by
     obtain⟨c,rfl,hv⟩:=O.o1
     obtain⟨u⟩:=hv.out
     exact UG Q (VR.more (x.more0 g) D) B hc.1 hc.2
  |_=>exact AC.none
theorem VE(ok:AX X){o:Expr}{m:Str}{as:List Expr}{ap q:Pos}{i:Nat}{S:Value}{vs:List AV}{H1:AH}(k:KA X A W env as ap q vs H1)(g:Gd X W H)(Q:VR X W (.ref i) S)(B:E8 (.ref i) H=true):AC X A Ab W (Gb Γ (.ref i) m vs H1) (A8 X) (yS o m ap q env S as.length (backTo q (starEach as env)) []):=by
 have O:=Q
 obtain @⟨a,hi⟩:=Q.out
 show AC X A Ab W (match H1[i]?,vs with|some (.dict es),[.int k,d]=>if m=nm "get" then rok ((Ah es k).getD d) H1 else uZ|_,_=>uZ) _ _
 cases hH:H1[i]? with
 |none=>exact AC.none
 |some z=>induction z using AO.casesOn with
  |dict es=>induction vs using u6 with
   |nil=>exact AC.none
   |cons v vs=>induction v using AV.casesOn with
    |int kk=>induction vs using u6 with
     |nil=>exact AC.none
     |cons d vs=>induction vs using u6 with
      |cons _ _=>exact AC.none
      |nil=>
       refine AC.guardR λhm=>?_
       revert B
       show(match H[i]? with|some (.dict _)=>true|_=>false)=true→_
       cases J:H[i]? with
       |none=>exactλh=>nomatch h
       |some z=>induction z using AO.casesOn with
        |dict Y=>
         intro _
         obtain⟨D,e,r⟩:=(g.objs _ _ _ J hi).out
         obtain⟨o',_,_,I,⟨U,hdd,_⟩,_⟩:=id D
         exact JF (o:=o) ok k D.mapOf.typeIs PySem.F.plainAttrs_dict (hm▸iq) PySem.F.type_dict_get (λb e=>⟨o',by cases e;exact I,hdd⟩) λW' cs x g' Z=>by
          obtain⟨c,d',rfl,hv,hd⟩:=Z.o2
          obtain⟨u⟩:=hv.out
          exact Zq ok g' (VR.more (x.more0 g) O) hH hd
        |_=>exactλh=>nomatch h
    |_=>exact AC.none
  |_=>exact AC.none
theorem Xi(ok:AX X)(ga:AK X Γ n){o:Expr}{m:Str}{as:List Expr}{ap q:Pos}{a:AV}{O:Value}{vs:List AV}{H1:AH}(g:Gd X W H)(ao:A9 X W A n)(u:VR X W a O)(e:E8 a H=true)(k:KA X A W env as ap q vs H1):AC X A Ab W (Gb Γ a m vs H1) (A8 X) (yS o m ap q env O as.length (backTo q (starEach as env)) []):=by
 induction a using AV.casesOn with
 |obj c ks l=>
  have B:=u
  obtain⟨hc,J,h1,h2,hf,r⟩:=u.out
  exact LH (o:=o) ok ga ao k g hc J h1.1 h2.1 hf B
 |mobj c i=>
  have B:=u
  obtain⟨hc,h1,h2⟩:=u.out
  revert e
  show(match H[i]? with|some (.inst D _ _)=>D==c|_=>false)=true→_
  cases Q:H[i]? with
  |none=>exactλh=>nomatch h
  |some z=>induction z using AO.casesOn with
   |inst D ks l=>
    intro I
    cases(show D=c from eq_of_beq I)
    obtain⟨J,h3,hf,r⟩:=(g.objs _ _ _ Q h2).out
    exact LH (o:=o) ok ga ao k g hc (J _ hc) h1.1 h3 hf B
   |_=>exactλh=>nomatch h
 |str s=>exact XS ok k u
 |list l=>exact T7 ok k g u
 |ref i=>exact VE ok k g u e
 |_=>exact AC.none
theorem Z0(ok:AX X)(ga:AK X Γ n){o:Expr}{m:Str}{as:List Expr}{ap q:Pos}(ho:SE X Γ n sc o)(h:U7 X Γ n sc as):SE X Γ n sc (.Call (.Attribute o m ap) as [] q):=λ{env ρ W H A} g ao e=>
 show AC X A Ab W (AF Γ (if GR o&&decide (as.length<20)&&ap.endLine==q.line then .meth (cE sc o) m (DB sc as)else .stuck) ρ H) (A8 X) (eval (.Call (.Attribute o m ap) as [] q) env)from GZ λhc=>by
 have hc:=Bool.and_eq_true_iff.mp hc
 have u:=Bool.and_eq_true_iff.mp hc.1
 rw[Dd o m as ap q env u.1]
 refine AC.bindN (ho g ao e) λa H1 c W1 D I h1=>AC.guardR λB=>AC.caseN λvs H2 hp=>?_
 have S:=h (pos:=q) I (ao.ext D) (e.ext0 D g)
 rw[hp] at S
 exact AR (Xi ok ga I (ao.ext D) h1 B ⟨of_decide_eq_true u.2,hc.2,EE hp,S.map λa H c W' x g q=>q.1⟩)
end
section
variable{X:Cx}{Γ:Ctx}{n:Nat}{A:Around}{F P:Addr→Prop}{W W₀ W':Wd}{H:AH}{sc sc':Scope}{env:Env}{ρ:AE}
noncomputable abbrev O3(env:Env)(pos:Pos)(p:Str×Int):Sem Value×Sem Value:=(pg env (.str p.1),do let x←pg env (.int p.2);z3 pos;pure x)
theorem WB{E:Value→Shared→Prop}{pos:Pos}(l:List (Str×Int)): ∀(s:Shared) (Q:List (Value×Value)→Shared→Prop),
  (∀vs kvs k,Carries (strKind X.prog X.w) vs kvs→kvs.map (·.1)=l.map (·.1)→(∀W,AN X W (l.map λp=>AV.int p.2) (kvs.map (·.2)))→Q vs {s with toks:=k})→wpAny (model X.prog X.w) A (evalPairs (l.map (O3 env pos))) Q E s:=by
 induction l with
 |nil=>exactλs Q h=>evalPairs_nil (h [] [] s.toks trivial rfl λW=>.nil)
 |cons p l u=>exactλs Q h=>evalPairs_cons (show wpAny _ A (mkText p.1) _ E s from gr (u0 (so (u0 (vT (u8 (u _ _ λvs kvs k h1 e h3=>
   h _ ((p.1,.int p.2 (s.toks+1))::kvs) k ⟨strKind_is _ _ _ _,rfl,h1⟩ (congrArg (p.1:: ·) e) λW=>.cons (.int _ _) (h3 W))))))))
theorem cL{k:Option Expr}{r:List (Option Expr)}{ks:List Str}(h:Bm (k::r)=some ks): ∃s a b u,k=some (.Constant (.str s) a b)∧Bm r=some u∧ks=s::u:=by
 induction k using vN with
 |none=>exact Ar h
 |some e=>induction e using vA with
  |Constant c a b=>induction c using zD with
   |str s=>
    obtain⟨u,h1,h2⟩:=Option.map_eq_some_iff.mp h
    exact⟨s,a,b,u,rfl,h1,h2.symm⟩
   |_=>exact Ar h
  |_=>exact Ar h
theorem ZL{k:Expr}{r:List Expr}{ks:List Int}(h:FA (k::r)=some ks): ∃s a b e,k=.Constant (.int s) a b∧FA r=some e∧ks=s::e:=by
 induction k using vA with
 |Constant c a b=>induction c using zD with
  |int s=>
   obtain⟨e,h1,h2⟩:=Option.map_eq_some_iff.mp h
   exact⟨s,a,b,e,rfl,h1,h2.symm⟩
  |_=>exact Ar h
 |_=>exact Ar h
theorem QA{pos:Pos}{keys:List (Option Expr)}: ∀{vals:List Expr} {ks:List Str} {is:List Int},Bm keys=some ks→FA vals=some is→
  (evalEachOpt keys env).zip ((zM vals env).map λv=>do let x←v;z3 pos;pure x)=((ks.zip is).map (O3 env pos)).map λp=>(some p.1,p.2):=by
 induction keys with
 |nil=>intro vals ks is h1 h2;cases u7 h1;rfl
 |cons k keys e=>
  intro vals ks is h1 h2
  obtain⟨s,a,b,ks',rfl,h3,rfl⟩:=cL h1
  induction vals using u6 with
  |nil=>cases u7 h2;rfl
  |cons v vals=>
   obtain⟨i,a',b',is',rfl,h4,rfl⟩:=ZL h2
   exact congrArg (ub _) (e h3 h4)
noncomputable def aY(X:Cx)(h:Heap)(N:Addr)(ks:List Str)(is:List Int):Prop:=∃o kvs,h.get? N=some o∧o.IsDictOf (strKind X.prog X.w) kvs∧kvs.map (·.1)=ks∧∀W,AN X W (is.map .int) (kvs.map (·.2))
theorem XM{keys:List (Option Expr)}{vals:List Expr}{pos:Pos}{ks:List Str}{is:List Int}(g:Gd X W H)(h1:Bm keys=some ks)(B:FA vals=some is)(hc:ks≠[]∧ks.Nodup∧ks.length=is.length∧ks.length≤15):AC X A Ab W (rok (.dict ks (is.map .int)) H) (A8 X) (eval (.Dict keys vals pos) env):=by
 obtain⟨c1,c2,c3,c4⟩:=hc
 have hl:(ks.zip is).length=ks.length:=by rw[List.length_zip,←c3,Nat.min_self]
 refine AC.grow g (λh' c=>c=.ref W.h.objs.size∧aY X h' W.h.objs.size ks is) (λh' k c x u=>?_) λQ E h=>?_
 ·obtain⟨rfl,o,kvs,q1,q2,q3,q4⟩:=u
  exact .dict (Ju q1 (vJ _)) q2 q3 (q4 _)
 ·refine wpAny_Dict_pairs (knd:=strKind X.prog X.w) (QA h1 B) (λq=>c1 (List.length_eq_zero_iff.mp (hl.symm.trans ((vB _).symm.trans (congrArg nw q))))) ((vB _).trans hl▸c4) ?_
  refine WB _ _ _ λvs kvs k q1 q2 q3=>⟨kvs,q1,Heap.DictOf.new W.s.heap,λh' d hs=>?_⟩
  rw[R3 c3] at q2
  rw[merged_nil_of_nodup kvs (q2▸c2)] at d
  obtain⟨o,ho,hd⟩:=Heap.dictOf_iff.mp d
  refine h h' _ _ (λb o q=>(hs.2 b (vR (vI q))).trans (vE _ q)) ⟨rfl,o,kvs,ho,hd,q2,λW=>?_⟩
  have e:(ks.zip is).map (λp=>AV.int p.2)=is.map .int:=(bj (g:=AV.int) (f:=λp:Str×Int=>p.2)).symm.trans (congrArg _ (Rt c3))
  exact e▸q3 W
theorem ZU{keys:List (Option Expr)}{vals:List Expr}{pos:Pos}:SE X Γ n sc (.Dict keys vals pos):=λ{env ρ W H A} g ao e=>by
 show AC X A Ab W (AF Γ (match Bm keys,FA vals with|some ks,some is=>if ks≠[]∧ks.Nodup∧ks.length=is.length∧ks.length≤15 then .dict ks is else .stuck|_,_=>.stuck) ρ H) (A8 X) _
 cases h1:Bm keys with
 |none=>exact AC.none
 |some ks=>cases u:FA vals with
  |none=>exact AC.none
  |some is=>exact GZ λhc=>XM g h1 u hc
noncomputable def SI(X:Cx)(Γ:Ctx)(n:Nat)(sc:Scope)(e:Expr):Prop:=∀{env:Env} {ρ:AE} {W:Wd} {H:AH} {A:Around} {Ai:Str→Bool} {t:Expr} {lo:Nat},N0 Ai t (B1 sc e)=true→lo≤W.h.objs.size→Gd X W H→A9 X W A n→AW X W sc env ρ→
 AC X A Ab W ((A1 Γ (cI sc e) ρ H).bindN λvs H=>rof (BF (B1 sc e) vs H) H) (λW' is c=>EC X A Ai t lo W' is c) (eval e env)
theorem V7{e:Expr}(h:B1 sc e=.plain):cI sc e=[cE sc e]:=by
 induction e using vA with
 |Call f as ks q=>induction f using vA with
  |Name f p=>induction ks using u6 with
   |nil=>
    show(match B1 sc (.Call (.Name f p) as [] q)with|.plain=>[cE sc (.Call (.Name f p) as [] q)]|_=>cA sc (.Call (.Name f p) as [] q))=_
    rw[h]
   |cons _ _=>rfl
  |_=>rfl
 |_=>rfl
theorem SJ{Ai:Str→Bool}{t:Expr}{k:IK}(h:N0 Ai t k=true)(e:k≠.enum): ∃x p,t=.Name x p∧Ai x=true:=by
 induction t using vA with
 |Name x p=>induction k using IK.casesOn with
  |enum=>exact absurd rfl e
  |_=>exact⟨x,p,rfl,h⟩
 |Tuple es j p=>induction k using IK.casesOn with
  |enum=>exact absurd rfl e
  |_=>exact xE h
 |_=>exact xE h
theorem YJ{Ai:Str→Bool}{t:Expr}(h:N0 Ai t .enum=true): ∃es j p,t=.Tuple es j p:=by
 induction t using vA with
 |Tuple es j p=>exact⟨es,j,p,rfl⟩
 |_=>exact xE h
theorem Tv{α:Type}{c:CE}{f:List AV→AH→R α}:(A1 Γ [c] ρ H).bindN f=(AF Γ c ρ H).bindN λv H=>f [v] H:=by
 show((AF Γ c ρ H).bind λv H=>rok [v] H).bindN f=_
 cases AF Γ c ρ H with
 |none=>rfl
 |some o=>cases o<;>rfl
theorem C6{B:Expr}(I:B1 sc B=.plain)(h:SE X Γ n sc B):SI X Γ n sc B:=λ{env ρ W H A Ai t lo} ht u g ao e=>by
 rw[V7 I,Tv,I,←bind_pure (eval B env)]
 rw[I] at ht
 obtain⟨x,p,rfl,hx⟩:=SJ ht (λq=>nomatch q)
 refine AC.bindN (h g ao e) λv H1 c W1 D J h1=>?_
 induction v using AV.casesOn with
 |list l=>exact AC.guard λ_=>AC.pure J (WS ao.handled hx (u5 u D.size) h1)
 |tuple l=>exact AC.guard λ_=>AC.pure J (Uo ao.handled hx (u5 u D.size) h1)
 |idict ks l=>exact AC.guard λ_=>AC.pure J (To ao.handled hx (u5 u D.size) h1)
 |_=>exact AC.none
end
section
variable{X:Cx}{Γ:Ctx}{n:Nat}{A:Around}{F P:Addr→Prop}{W W₀ W':Wd}{H:AH}{sc sc':Scope}{env:Env}{ρ:AE}
theorem Vg{a:Int}{n:Nat}(h:a.natAbs≤n):a≤n∧ -a≤n:=⟨u9 et (Int.ofNat_le.mpr h),u9 et (Int.ofNat_le.mpr (jl a▸h))⟩
theorem lY{a b:Int}(h:a.natAbs≤1000000∧b.natAbs≤1000000):(b-a).toNat≤2000000:=Int.toNat_le.mpr (bl (Vg h.2).1 (Vg h.1).2)
theorem Jq{α β:Type}{f:α→β}{l:List α}{n:Nat}(h:l.length≤n):(l.map f).length≤n:=(vB _).symm▸h
theorem Lx{k:IK}{vs is:List AV}(h:BF k vs H=some is):is.length≤yR:=by
 have G:=λ{c:Prop} [Decidable c] {a:List AV} (h:(if c then some a else uZ)=some is) (m:c→a.length≤2000000)=>let q:=At h;Da (q.2▸m q.1)
 induction vs using u6 with
 |nil=>cases k<;>exact Ar h
 |cons v vs=>induction vs using u6 with
  |nil=>induction k using IK.casesOn with
   |range=>induction v using AV.casesOn with
    |int n=>exact G h λhc=>Jq (List.length_range.symm▸u5 (toNat_le hc.2) (by decide))
    |_=>exact Ar h
   |enum=>induction v using AV.casesOn with
    |list l=>exact G h λhc=>Jq (List.length_zipIdx.symm▸u5 hc (by decide))
    |tuple l=>exact G h λhc=>Jq (List.length_zipIdx.symm▸u5 hc (by decide))
    |_=>exact Ar h
   |plain=>induction v using AV.casesOn with
    |list l=>exact G h λhc=>u5 hc (by decide)
    |tuple l=>exact G h λhc=>u5 hc (by decide)
    |idict l _=>exact G h λhc=>Jq (u5 hc (by decide))
    |_=>exact Ar h
  |cons w vs=>induction k using IK.casesOn with
   |range=>induction v using AV.casesOn with
    |int a=>induction w using AV.casesOn with
     |int b=>induction vs using u6 with
      |nil=>exact G h λhc=>Jq (List.length_range.symm▸lY hc)
      |cons _ _=>exact Ar h
     |_=>exact Ar h
    |_=>exact Ar h
   |enum=>cases v<;>exact Ar h
   |plain=>cases v<;>exact Ar h
theorem Ma{f:Str}{p q:Pos}{as:List Expr}:B1 sc (.Call (.Name f p) as [] q)=if Ak sc f&&f==nm "range" then .range else if Ak sc f&&f==nm "enumerate" then .enum else .plain:=rfl
theorem R1{f:Str}{p q:Pos}{as:List Expr}(h:B1 sc (.Call (.Name f p) as [] q)≠.plain):cI sc (.Call (.Name f p) as [] q)=DB sc as:=by
 show(match B1 sc (.Call (.Name f p) as [] q)with|.plain=>[cE sc (.Call (.Name f p) as [] q)]|_=>DB sc as)=_
 revert h
 cases B1 sc (.Call (.Name f p) as [] q)with
 |plain=>exactλh=>absurd rfl h
 |_=>exactλ_=>rfl
theorem SP(ok:AX X){f:Str}{T:String}{as:List Expr}{p q:Pos}{k:IK}{Ai:Str→Bool}{t:Expr}{lo:Nat}(h:U7 X Γ n sc as)(g:Gd X W H)(ao:A9 X W A n)(e:AW X W sc env ρ)(hd:(f==("__debug__":Str))=false)(hg:Ak sc f=true)(hc:gv X f=some (.type T))
  (core: ∀{vs is cs H1 W'},BF k vs H1=some is→AS X Ab W W'→Gd X W' H1→AN X W' vs cs→AC X A Ab W' (rok is H1) (λW' is c=>EC X A Ai t lo W' is c) (call (.type T) cs)):
  AC X A Ab W ((A1 Γ (DB sc as) ρ H).bindN λvs H=>rof (BF k vs H) H) (λW' is c=>EC X A Ai t lo W' is c) (eval (.Call (.Name f p) as [] q) env):=
 AC.caseN λvs H1 hp=>AC.rof λis hi=>by
 have S:=h (pos:=q) g ao e
 rw[hp] at S
 rw[DX]
 exact(EG (first:=[]) (pos:=q) (r:=rok is H1) (rel':=λW' is c=>EC X A Ai t lo W' is c) ok (.inr (.inl ⟨_,rfl⟩)) (S.map λa H c W' x g q=>⟨q.1,q.2.2⟩) (EE hp) λW' cs B D r=>core hi B D r).of_wp λQ E u=>u0 (Gk ok g e hd hg hc u)
theorem aI(ok:AX X)(b:Aa X){f:Str}{as:List Expr}{p q:Pos}(h:U7 X Γ n sc as)(Q:SE X Γ n sc (.Call (.Name f p) as [] q)):SI X Γ n sc (.Call (.Name f p) as [] q):=λ{env ρ W H A Ai t lo} D u g ao e=>by
 by_cases h1:(Ak sc f&&f==nm "range")=true
 ·have B:B1 sc (.Call (.Name f p) as [] q)=.range:=Ma.trans (if_pos h1)
  obtain⟨hg,hf⟩:=Bool.and_eq_true_iff.mp h1
  cases(show f=nm "range" from eq_of_beq hf)
  rw[B] at D
  rw[R1 (B▸ λq=>nomatch q),B]
  obtain⟨x,px,rfl,hx⟩:=SJ D (λq=>nomatch q)
  exact SP ok h g ao e (by decide) hg (b _ _ rfl) λhi I J r=>UM J ao.handled hx (u5 u I.size) r hi
 by_cases O:(Ak sc f&&f==nm "enumerate")=true
 ·have B:B1 sc (.Call (.Name f p) as [] q)=.enum:=Ma.trans ((if_neg h1).trans (if_pos O))
  obtain⟨hg,hf⟩:=Bool.and_eq_true_iff.mp O
  cases(show f=nm "enumerate" from eq_of_beq hf)
  rw[B] at D
  rw[R1 (B▸ λq=>nomatch q),B]
  obtain⟨es,j,px,rfl⟩:=YJ D
  refine SP ok h g ao e (by decide) hg (b _ _ rfl) λ{vs is cs H1 W'} hi I J r=>?_
  induction vs using u6 with
  |nil=>exact Ar hi
  |cons v vs=>induction vs using u6 with
   |cons _ _=>cases v<;>exact Ar hi
   |nil=>
    obtain⟨c,rfl,hv⟩:=r.o1
    induction v using AV.casesOn with
    |list l=>exact(At hi).2▸Ko J ao.handled (u5 u I.size) hv
    |tuple l=>exact(At hi).2▸KB J ao.handled (u5 u I.size) hv
    |_=>exact Ar hi
 ·exact C6 (Ma.trans ((if_neg h1).trans (if_neg O))) Q D u g ao e
theorem Ho{e:Expr}(h: ∀es k p,e≠.Set es k p)(x:Value):md e env x=pure x:=by
 induction e using vA with
 |Set _ _ _=>exact absurd rfl (h _ _ _)
 |_=>rfl
theorem gB{es:List Expr}{k:Nat}{p:Pos}:A1 Γ (cI sc (.Set es k p)) ρ H=none:=rfl
theorem MW{elt t e:Expr}{ifs:List Expr}{a:Int}{pos:Pos}:cE sc (.ListComp elt [⟨t,e,ifs,a⟩] sc' pos)=if a==0&&RP sc sc'&&N0 (B3 sc') t (B1 sc e)then .comp (cE sc' elt) (DG (B3 sc') t) (B1 sc e) (cI sc e) (DB sc' ifs) (D6 sc')else .stuck:=rfl
theorem TC{elt:CE}{t:TN}{k:IK}{src ifs:List CE}{ls:List Str}:AF Γ (.comp elt t k src ifs ls) ρ H=(A1 Γ src ρ H).bindN λvs H=>match BF k vs H with
  |uZ=>uZ
  |some items=>(compLoop (λρ H=>DI Γ ifs ρ H) (λρ H=>AF Γ elt ρ H) t (Cs ls ρ) items H).bindN λl H=>if l.length≤1000000 then rok (.list l) H else uZ:=rfl
theorem cJ{elt t B:Expr}{ifs:List Expr}{a:Int}{pos:Pos}(hi:SI X Γ n sc B)(he:SE X Γ n sc' elt)(hf:lB X Γ n sc' ifs):SE X Γ n sc (.ListComp elt [⟨t,B,ifs,a⟩] sc' pos):=λ{env ρ W H A} g ao e=>by
 rw[MW]
 refine GZ λhc=>?_
 have hc:=Bool.and_eq_true_iff.mp hc
 have J:=Bool.and_eq_true_iff.mp hc.1
 cases(show a=0 from eq_of_beq J.1)
 by_cases u: ∃es k p,B=.Set es k p
 ·obtain⟨es,k,p,rfl⟩:=u
  exact AC.none
 rw[TC]
 refine AC.caseN λvs H1 hp=>?_
 have S:=hi hc.2 (vJ W.h.objs.size) g ao e
 rw[hp] at S
 replace S:AC X A Ab W (rof (BF (B1 sc B) vs H1) H1) (λW' is c=>EC X A (B3 sc') t W.h.objs.size W' is c) (eval B env):=S
 cases I:BF (B1 sc B) vs H1 with
 |none=>exact AC.none
 |some items=>
  rw[I] at S
  refine AC.caseN λl H2 hl=>AC.guardR λ_ Q E Y=>?_
  show wpAny _ A (ek (.ListComp elt [⟨t,B,ifs,0⟩] sc' pos) sc' env _ (li []) false (eval B env) none) Q E W.s
  exact Sn (use:=none) (Ln J.2) g ao e (Ho λes k p q=>u ⟨es,k,p,q⟩) S (Lx I) (λg a i=>hf g a i) (λg a i=>he g a i) hl λW' c C m x g' r Z O D U=>
   ⟨m,U,λh' hs=>Y c (W'.put h' W'.s.toks) (x.tail hs Z) (D1 g' hs D O) (VR.more (Bj hs D) r)⟩
end
section
variable{X:Cx}{Γ:Ctx}{n:Nat}{A:Around}{F P:Addr→Prop}{W W₀ W':Wd}{H:AH}{sc sc':Scope}{env:Env}{ρ:AE}
structure Hf (X:Cx) (Γ:Ctx) (n:Nat) (sc:Scope) (ex:Expr):Prop where
 e:SE X Γ n sc ex
 t:ST X Γ n sc ex
 i:SI X Γ n sc ex
structure Y0 (X:Cx) (Γ:Ctx) (n:Nat) (sc:Scope) (l:List Expr):Prop where
 es:U7 X Γ n sc l
 b:SB X Γ n sc l
 bt:lA X Γ n sc l
 c:SC X Γ n sc l
 f:lB X Γ n sc l
theorem all_nil:Y0 X Γ n sc []:=⟨ZB,fU,Zr,gZ,bO⟩
theorem all_cons{ex:Expr}{es:List Expr}(h:Hf X Γ n sc ex)(hs:Y0 X Γ n sc es):Y0 X Γ n sc (ex::es):=by
 induction es using u6 with
 |nil=>exact⟨OV h.e hs.es,iY h.e,aH h.t,Rk h.e hs.c,O0 h.t hs.f⟩
 |cons _ _=>exact⟨OV h.e hs.es,cC h.e hs.b,Wr h.t hs.bt,Rk h.e hs.c,O0 h.t hs.f⟩
theorem z0{a N:Nat}(h:1+a<N+1):a<N:=by omega
theorem z1{a b N:Nat}(h:1+a+b<N+1):b<N:=by omega
theorem zd{a b N:Nat}(h:a+b<N):a<N:=vY (wM a b) h
theorem z2{a b c N:Nat}(h:1+a+b+c<N+1):c<N:=by omega
theorem zl{a N:Nat}(h:a<N):a<N+1:=yL h
theorem Cr{N:Nat}(e: ∀ex:Expr,sizeOf ex<N→∀sc,Hf X Γ n sc ex){es:List Expr}(h:sizeOf es<N):Y0 X Γ n sc es:=by
 induction es with
 |nil=>exact all_nil
 |cons ex es i=>
  have h:=bu ex es▸h
  exact all_cons (e ex (zd (vY (vH (by rw[zC 1,de 1,zC])) h)) sc) (i (vY (yW _ _) h))
theorem dI{N:Nat}(u: ∀ex:Expr,sizeOf ex<N→∀sc,Hf X Γ n sc ex){o:Option Expr}(h:sizeOf o<N):SO X Γ n sc o:=by
 induction o using vN with
 |none=>exactλg ao e=>AC.pure g .none
 |some ex=>exactλg ao e=>(u ex (vY (yW _ _) (re ex▸h)) sc).e g ao e
theorem CA{ex:Expr}(h:SE X Γ n sc ex)(hp: ∀env e,dj ex env e=(do let v←e;z3 ex.pos;yZ [v] (mr v)))(u:B1 sc ex=.plain):Hf X Γ n sc ex:=⟨h,c5 h hp,C6 u h⟩
theorem Jm{ex:Expr}(h:cE sc ex=.stuck)(e:B1 sc ex=.plain):Hf X Γ n sc ex:=
 ⟨PE h,λ{env ρ W H A} _ _ _=>show AC X A Ab W ((AF Γ (cE sc ex) ρ H).bind _) _ _ from h▸AC.none,C6 e (PE h)⟩
theorem X0(ok:AX X)(b:Aa X)(ga:AK X Γ n){N:Nat}(u: ∀ex:Expr,sizeOf ex<N→∀sc,Hf X Γ n sc ex){f:Expr}{as:List Expr}{ks:List Keyword}{p:Pos}(hf:sizeOf f<N)(hl:U7 X Γ n sc as):Hf X Γ n sc (.Call f as ks p):=by
 induction ks using u6 with
 |cons k ks=>cases f<;>exact Jm rfl rfl
 |nil=>induction f using vA with
  |Name f q=>
   have hc:SE X Γ n sc (.Call (.Name f q) as [] p):=ZE ok ga hl
   exact⟨hc,c5 hc (λ_ _=>rfl),aI ok b hl hc⟩
  |Attribute o m ap=>exact CA (Z0 ok ga (u o (zd (zd (vY (yW _ _) (by rw[Expr.Attribute.sizeOf_spec,zC 1,zC 1] at hf;exact hf)))) sc).e hl) (λ_ _=>rfl) rfl
  |_=>exact Jm rfl rfl
theorem Zc{N:Nat}(u: ∀ex:Expr,sizeOf ex<N→∀sc,Hf X Γ n sc ex){o i:Expr}{p:Pos}(ho:SE X Γ n sc o)(hi:sizeOf i<N):Hf X Γ n sc (.Subscript o i p):=by
 by_cases hs: ∃a c d q,i=.Slice a c d q
 ·obtain⟨lo,D,st,q,rfl⟩:=hs
  have h:=zl (Expr.Slice.sizeOf_spec lo D st q▸hi)
  induction st using vN with
  |none=>exact CA (Vu ho (dI (λe B=>u e B) (z0 (zd (zd (zd h))))) (dI (λe B=>u e B) (z1 (zd (zd h))))) (λ_ _=>rfl) rfl
  |some st=>
   refine CA (λ{env ρ W H A} g ao e=>?_) (λ_ _=>rfl) rfl
   rw[jj]
   exact AC.bind (f:=λa H=>(AF Γ .stuck ρ H).bind λiv H=>rof (Bb a iv H) H) (ho g ao e) λa H1 c W1 I J h1=>AC.none
 ·exact CA (jF (λa c d q e=>hs ⟨a,c,d,q,e⟩) ho (u i hi sc).e) (λ_ _=>rfl) rfl
theorem Wz{N:Nat}(u: ∀ex:Expr,sizeOf ex<N→∀sc,Hf X Γ n sc ex){elt:Expr}{gens:List Comprehension}{p:Pos}(B:sizeOf elt<N)(hg:sizeOf gens<N):Hf X Γ n sc (.ListComp elt gens sc' p):=by
 induction gens using u6 with
 |nil=>exact Jm rfl rfl
 |cons g gs=>
  obtain⟨t,it,ifs,a⟩:=g
  induction gs using u6 with
  |cons _ _=>exact Jm rfl rfl
  |nil=>
   have h:=zl hg
   rw[bu,Comprehension.mk.sizeOf_spec] at h
   have h:=zl (z0 (zd h))
   exact CA (cJ (u it (z1 (zd (zd h))) sc).i (u elt B sc').e (Cr u (z2 (zd h))).f) (λ_ _=>rfl) rfl
theorem LV(ok:AX X)(b:Aa X)(ga:AK X Γ n)(N:Nat): ∀(ex:Expr),sizeOf ex<N→∀sc,Hf X Γ n sc ex:=by
 induction N with
 |zero=>exactλex h=>absurd h (xN _)
 |succ N u=>
  intro ex h sc
  induction ex using vA with
  |Constant c k p=>exact CA VX (λ_ _=>rfl) rfl
  |Name x p=>exact CA (Zf ok ga) (λ_ _=>rfl) rfl
  |BinOp l op r p=>
   rw[Expr.BinOp.sizeOf_spec] at h
   exact CA (WF (u l (z0 (zd (zd (zd h)))) sc).e (u r (z2 (zd h)) sc).e) (λ_ _=>rfl) rfl
  |UnaryOp op x p=>
   rw[Expr.UnaryOp.sizeOf_spec] at h
   have B:=u x (z1 (zd h)) sc
   induction op using br with
   |Not=>exact⟨Mn B.e,eP B.t,C6 rfl (Mn B.e)⟩
   |_=>exact CA (Mn B.e) (λ_ _=>rfl) rfl
  |BoolOp op es p=>
   rw[Expr.BoolOp.sizeOf_spec] at h
   have hl:=Cr (sc:=sc) u (z1 (zd h))
   exact⟨TB hl.b,aX hl.bt,C6 rfl (TB hl.b)⟩
  |IfExp t a c p=>
   rw[Expr.IfExp.sizeOf_spec] at h
   have J:=u t (z0 (zd (zd (zd h)))) sc
   have D:=u a (z1 (zd (zd h))) sc
   have hc:=u c (z2 (zd h)) sc
   exact⟨YW J.t D.e hc.e,fO J.t D.t hc.t,C6 rfl (YW J.t D.e hc.e)⟩
  |Compare l ops rs p=>
   rw[Expr.Compare.sizeOf_spec] at h
   have hl:=u l (z0 (zd (zd (zd h)))) sc
   have I:=Cr (sc:=sc) u (z2 (zd h))
   exact⟨Xp hl.e I.c,gX hl.e I.c,C6 rfl (Xp hl.e I.c)⟩
  |Call f as ks p=>
   rw[Expr.Call.sizeOf_spec] at h
   exact X0 ok b ga u (z0 (zd (zd (zd h)))) (Cr u (z1 (zd (zd h)))).es
  |Attribute o m p=>
   rw[Expr.Attribute.sizeOf_spec] at h
   exact CA (bD ok (u o (z0 (zd (zd h))) sc).e) (λ_ _=>rfl) rfl
  |Subscript o i p=>
   rw[Expr.Subscript.sizeOf_spec] at h
   exact Zc u (u o (z0 (zd (zd h))) sc).e (z1 (zd h))
  |List es p=>
   rw[Expr.List.sizeOf_spec] at h
   exact CA (cG (Cr u (z0 (zd h))).es) (λ_ _=>rfl) rfl
  |Tuple es k p=>
   rw[Expr.Tuple.sizeOf_spec] at h
   exact CA (V4 (Cr u (z0 (zd (zd h)))).es) (λ_ _=>rfl) rfl
  |Dict ks vs p=>exact CA ZU (λ_ _=>rfl) rfl
  |ListComp elt gens sc' p=>
   rw[Expr.ListComp.sizeOf_spec] at h
   exact Wz u (z0 (zd (zd (zd h)))) (z1 (zd (zd h)))
  |_=>exact Jm rfl rfl
theorem Ay(ok:AX X)(b:Aa X)(ga:AK X Γ n)(sc:Scope)(ex:Expr):Hf X Γ n sc ex:=LV ok b ga _ ex (wL _) sc
theorem FO(ok:AX X)(b:Aa X)(ga:AK X Γ n)(sc:Scope)(es:List Expr):Y0 X Γ n sc es:=Cr (λex h sc=>LV ok b ga _ ex h sc) (wL _)
end
noncomputable abbrev BP(X:Cx)(sc:Scope)(env:Env):Wd→AE→Prop:=λW ρ=>AW X W sc env ρ∧WC X W sc env
section
variable{X:Cx}{Γ:Ctx}{n:Nat}{A:Around}{F P:Addr→Prop}{W W₀ W':Wd}{H:AH}{sc sc':Scope}{env:Env}{ρ:AE}{nl:Bool}
noncomputable def SS(X:Cx)(Γ:Ctx)(n:Nat)(sc:Scope)(nl:Bool)(st:Stmt):Prop:=∀{env:Env} {ρ:AE} {W:Wd} {H:AH} {A:Around},Gd X W H→A9 X W A n→BP X sc env W ρ→AC X A (FE env) W (Di Γ (cS sc nl st) ρ H) (DP X (BP X sc env)) (zB st env)
noncomputable def Zm(X:Cx)(Γ:Ctx)(n:Nat)(sc:Scope)(nl:Bool)(e:List Stmt):Prop:=∀{env:Env} {ρ:AE} {W:Wd} {H:AH} {A:Around},Gd X W H→A9 X W A n→BP X sc env W ρ→AC X A (FE env) W (execs Γ (LZ sc nl e) ρ H) (DP X (BP X sc env)) (y4 e env)
theorem BP.ext0(i:BP X sc env W ρ)(x:AS X Ab W W')(g:Gd X W H):BP X sc env W' ρ:=⟨i.1.ext0 x g,i.2.ext x i.1⟩
theorem uF{α γ:Type}{r:R α}{rel:Wd→α→γ→Prop}{t:Sem γ}(h:AC X A Ab W r rel t):AC X A (FE env) W r rel t:=h.mono λ_ _ q=>q.elim
theorem AC.strong{α γ:Type}{r:R α}{rel:Wd→α→γ→Prop}{t:Sem γ}(h:AC X A Ab W r rel t):AC X A Ab W r (λW' a c=>AS X Ab W W'∧rel W' a c) t:=h.map λ_ _ _ _ x _ q=>⟨x,q⟩
theorem AC.after{α β γ δ:Type}{r:R α}{rel:Wd→α→γ→Prop}{rel':Wd→β→δ→Prop}{f:α→AH→R β}{t:Sem γ}{k:γ→Sem δ}(g:Gd X W H)(ao:A9 X W A n)(i:BP X sc env W ρ)(h:AC X A Ab W r rel t)
  (e: ∀a H c W',Gd X W' H→A9 X W' A n→BP X sc env W' ρ→rel W' a c→A5 W W'→AC X A (FE env) W' (f a H) rel' (k c)):AC X A (FE env) W (r.bind f) rel' (t>>=k):=
 AC.bind (uF (AC.strong h)) λa H c W' x u q=>e a H c W' u (ao.ext x) (i.ext0 q.1 g) q.2 (q.1.more0 g)
theorem Bx{st:Stmt}(h:cS sc nl st=.stuck):SS X Γ n sc nl st:=λ{env ρ W H A} _ _ _=>show AC X A (FE env) W (Di Γ (cS sc nl st) ρ H) _ _ from h▸AC.none
theorem dW{c:Prop} [d:Decidable c]{s:CS}{rel:Wd→Fl×AE→fc→Prop}{t:Sem fc}(h:c→AC X A F W (Di Γ s ρ H) rel t):AC X A F W (Di Γ (if c then s else .stuck) ρ H) rel t:=
 match d with
 |.isTrue q=>h q
 |.isFalse _=>AC.none
theorem AC.via{α γ:Type}{r:R α}{rel:Wd→α→γ→Prop}{t t':Sem γ}(hw: ∀Q E,(∀e,AS X Ab W e→Gd X e H→wpAny (model X.prog X.w) A t' Q E e.s)→wpAny (model X.prog X.w) A t Q E W.s)(S: ∀e,AS X Ab W e→Gd X e H→AC X A F e r rel t'):AC X A F W r rel t:=
 match r,S with
 |uZ,_=>trivial
 |some (.ok _ _),S=>λQ E J=>hw Q E λe x g=>S e x g Q E λc B u D q=>J c B (x.of0.trans u) D q
 |some (.exc _ _),S=>λQ E I=>hw Q E λe x g=>S e x g Q E λc B u D f=>I c B (x.of0.trans u) D (f.le x.size)
theorem ZJ{p:Pos}:SS X Γ n sc nl (.Pass p):=λ{env ρ W H A} g ao i=>by
 rw[arm_exec_Pass]
 exact AR (AC.pure g ⟨i,.next⟩)
noncomputable def Wd.addβ(W:Wd)(h:Heap)(k:Nat)(D:Addr):Wd:={s:={W.s with heap:=h,toks:=k},N:=λa=>(a<W.h.objs.size∧W.N a)∨a=D,β:=W.β++[D]}
theorem Sp{h':Heap}{k:Nat}{D:Addr}(B: ∀b o,W.h.get? b=some o→h'.get? b=some o)(hs:W.h.objs.size≤h'.objs.size)(u:W.h.objs.size≤D):AS X F W (W.addβ h' k D):=
 ⟨λa o e _ _=>.inl (B a o e),λa o e _ d=>⟨o,B a o e,d⟩,⟨[D],rfl⟩,λa I=>by
  rcases List.mem_append.mp I with q|q
  ·exact .inl q
  ·rw[List.mem_singleton.mp q];exact .inr u,λa h=>⟨λx=>x.elim (λy=>y.2) λy=>absurd h (Nat.not_lt.mpr (y▸u)),λx=>.inl ⟨h,x⟩⟩,hs⟩
theorem FL{α:Type}{l:List α}{a b:α}{i n:Nat}(hl:l.length=n)(h:(l++[a])[i]?=some b):(i<n∧l[i]?=some b)∨(i=n∧a=b):=by
 rcases lu i n with hi|hi
 ·exact .inl ⟨hi,(ea (hl.symm▸hi)).symm.trans h⟩
 ·have e:i<n+1:=hl▸(wY (as:=l) (bs:=[a])▸(List.getElem?_eq_some_iff.mp h).1)
  cases zN hi (w6 e)
  rw[List.getElem?_append_right (vH hl),hl,Nat.sub_self] at h
  exact .inr ⟨rfl,u7 h⟩
theorem YV{h':Heap}{k:Nat}{D:Addr}{ao:AO}(g:Gd X W H)(I: ∀b o,W.h.get? b=some o→h'.get? b=some o)(hs:W.h.objs.size≤h'.objs.size)(O:W.h.objs.size≤D)(ho:OR X (W.addβ h' k D) ao D):Gd X (W.addβ h' k D) (H++[ao]):=by
 have m:=(Sp (X:=X) (F:=Ab) (k:=k) I hs O).more0 g
 have Q: ∀a,a<W.h.objs.size→a≠D:=λa h e=>absurd h (Nat.not_lt.mpr (e▸O))
 refine⟨g.gens,g.os,λb o h=>?_,?_,?_,λa B=>?_,λi J a h1 S=>?_⟩
 ·have z:=g.base b o h
  exact⟨I b o z.1,λn=>n.elim (λq=>z.2 q.2) (Q b (vI z.1))⟩
 ·exact List.nodup_append.mpr ⟨g.nodup,List.nodup_cons.mpr ⟨ni,dq⟩,λa B b hb e=>Q a (β_lt g B) (e.trans (List.mem_singleton.mp hb))⟩
 ·exact(wY (as:=W.β) (bs:=[D])).trans ((congrArg (· +1) g.len).trans (wY (as:=H) (bs:=[ao])).symm)
 ·rcases List.mem_append.mp B with q|q
  ·exact .inl ⟨β_lt g q,g.isN a q⟩
  ·exact .inr (List.mem_singleton.mp q)
 ·rcases FL rfl h1 with⟨hi,q1⟩|⟨hi,rfl⟩
  ·rcases FL g.len S with⟨_,q2⟩|⟨u,_⟩
   ·exact(g.objs i J a q1 q2).more m λo e=>I a o e
   ·exact absurd u (vR hi)
  ·rcases FL g.len S with⟨u,_⟩|⟨_,rfl⟩
   ·exact absurd hi (vR u)
   ·exact ho
theorem P2(g:Gd X W H){h:Heap}{k:Nat}{D:Addr}:(W.addβ h k D).β[H.length]?=some D:=g.len▸dh
theorem jL{ex:Expr}{p:Pos}:(∃es q,ex=.List es q)∨cS sc nl (.Return (some ex) p)=.ret (cE sc ex):=by
 induction ex using vA with
 |List es q=>exact .inl ⟨es,q,rfl⟩
 |_=>exact .inr rfl
theorem LJ(ok:AX X)(b:Aa X)(ga:AK X Γ n){ex:Expr}(g:Gd X W H)(ao:A9 X W A n)(i:BP X sc env W ρ):AC X A (FE env) W (Di Γ (.ret (cE sc ex)) ρ H) (DP X (BP X sc env)) (eval ex env>>= λx=>pure (pe x)):=
 AC.after g ao i ((Ay ok b ga sc ex).e g ao i.1) λa H1 c W1 D B u h1 m=>AC.pure D ⟨u,.ret h1⟩
theorem Hk{o:Obj}: ∀b p,W.h.get? b=some p→(W.h.push o).get? b=some p:=λ_ _ e=>vE _ e
theorem G7{o:Obj}{k:Nat}:AS X F W (W.addβ (W.h.push o) k W.h.objs.size):=Sp Hk (Bw _ _) (vJ _)
theorem Ls{vs:List AV}{cs:List Value}{k:Nat}(g:Gd X W H)(h:AN X W vs cs):Gd X (W.addβ (W.h.push (A7 "list" cs 0)) k W.h.objs.size) (H++[.list vs]):=
 YV g Hk (Bw _ _) (vJ _) (.list ⟨_,vO _ rfl,rfl,_,rfl⟩ (AN.more ((G7 (X:=X) (F:=Ab) (k:=k)).more0 g) h))
theorem Xv(ok:AX X)(b:Aa X)(ga:AK X Γ n){es:List Expr}{q:Pos}(e:es.length≤1000)(g:Gd X W H)(ao:A9 X W A n)(i:BP X sc env W ρ):AC X A (FE env) W (Di Γ (.retnew (DB sc es)) ρ H) (DP X (BP X sc env)) (eval (.List es q) env>>= λx=>pure (pe x)):=by
 rw[T5,bind_assoc]
 refine AR ?_
 rw[bind_assoc]
 refine AC.after g ao i ((FO ok b ga sc es).es (pos:=q) g ao i.1) λvs H1 cs W1 u I B h1 m Q E D=>?_
 have x:=G7 (X:=X) (F:=Ab) (W:=W1) (o:=A7 "list" cs 0) (k:=W1.s.toks)
 exact u0 (ce (u8 (D (.ret (.ref W1.h.objs.size)) _ x.of0 (Ls u h1.1) ⟨B.ext0 x u,.ret (.ref (P2 u))⟩)) (Da (h1.2.1▸e)))
theorem Tb(ok:AX X)(b:Aa X)(ga:AK X Γ n){v:Option Expr}{p:Pos}:SS X Γ n sc nl (.Return v p):=λ{env ρ W H A} g ao i=>by
 rw[oi]
 refine AR ?_
 induction v using vN with
 |none=>exact AC.pure g ⟨i,.ret .none⟩
 |some ex=>
  show AC X A (FE env) W _ _ (eval ex env>>= λx=>pure (pe x))
  rcases jL (sc:=sc) (nl:=nl) (ex:=ex) (p:=p)with⟨es,q,rfl⟩|h
  ·induction nl using wX with
   |false=>exact LJ ok b ga g ao i
   |true=>exact dW λhl=>Xv ok b ga hl g ao i
  ·rw[h];exact LJ ok b ga g ao i
end
section
variable{X:Cx}{Γ:Ctx}{n:Nat}{A:Around}{F P:Addr→Prop}{W W₀ W':Wd}{H:AH}{sc sc':Scope}{env:Env}{ρ:AE}{nl:Bool}
theorem IL(o:Expr)(a:Str)(p:Pos)(env:Env)(v:Value):assign (.Attribute o a p) env v=(do
  let e←yZ [v] (eval o env)
  z3 p.atName
  yZ [v,e] (ow e a v)
  rh [v,e] []):=rfl
theorem SK{α:Type}{r:R α}{rel:Wd→α→Unit→Prop}{t:Sem Unit}{vs:List Value}(h:AC X A F W r rel t):AC X A F W r rel (t>>= λ_=>rh vs []):=
 match r,h with
 |uZ,_=>trivial
 |some (.ok _ _),h=>λQ E u=>u0 (h _ _ λc W' x g q=>ej (u () W' x g q))
 |some (.exc _ _),h=>λQ E e=>u0 (h _ _ λc W' x g q=>e c W' x g q)
theorem J4{o:Option AH}{t:Sem Unit}(g:Gd X W H)(i:BP X sc env W ρ)(h:AC X A F W (match o with|some H'=>rok () H'|uZ=>uZ) (λ_ _ _=>True) t)(u: ∀a,F a→False):
  AC X A (FE env) W (match o with|some H'=>rok ρ H'|uZ=>uZ) (λW' ρ' _=>BP X sc env W' ρ') t:=by
 induction o using vN with
 |none=>exact AC.none
 |some H'=>
  intro Q E D
  refine h Q E λc W' x B _=>?_
  have e:AS X Ab W W':=x.mono λa _ q=>u a q
  exact D c W' e.of0 B (i.ext0 e g)
theorem dM{c:Prop} [d:Decidable c]{a:AT}{v:AV}{rel:Wd→AE→Unit→Prop}{t:Sem Unit}(h:c→AC X A F W (EJ Γ a v ρ H) rel t):AC X A F W (EJ Γ (if c then a else .bad) v ρ H) rel t:=
 match d with
 |.isTrue q=>h q
 |.isFalse _=>AC.none
theorem iS{o ix:Expr}{p:Pos}:FX sc (.Subscript o ix p)=.bad∨FX sc (.Subscript o ix p)=.sub (cE sc o) (cE sc ix):=by
 induction ix using vA with
 |Slice _ _ _ _=>exact .inl rfl
 |_=>exact .inr rfl
theorem Jj(ok:AX X)(b:Aa X)(ga:AK X Γ n){t:Expr}{v:AV}{c:Value}(g:Gd X W H)(ao:A9 X W A n)(i:BP X sc env W ρ)(I:VR X W v c):
  AC X A (FE env) W (EJ Γ (FX sc t) v ρ H) (λW' ρ' _=>BP X sc env W' ρ') (assign t env c):=by
 induction t using vA with
 |Name x p=>exact dM λO=>Br Dv g i O I
 |Attribute o a p=>
  exact dM λ_=>AC.after g ao i (AL ((Ay ok b ga sc o).e g ao i.1)) λU H1 co W1 B u D h1 m=>AR (SK (AL (J4 B D (F:=Ab) (PY ok B h1 (VR.more m I)) λ_ q=>q)))
 |Subscript o ix p=>
  rcases iS (sc:=sc) (o:=o) (ix:=ix) (p:=p)with e|e
  ·rw[e];exact AC.none
  ·rw[e]
   exact AC.after g ao i (AL ((Ay ok b ga sc o).e g ao i.1)) λU H1 co W1 B u D h1 m=>AC.after B u D (AL ((Ay ok b ga sc ix).e B u D.1)) λiv H2 Z W2 J Q Y S m2=>
    AR (SK (AL (J4 J Y (F:=Ab) (Nq J (VR.more m2 h1) S (VR.more (m.trans m2) I)) λ_ q=>q)))
 |_=>exact AC.none
theorem A9.extF(ao:A9 X W A n)(x:AS X F W W'):A9 X W' A n:=ao.ext x
theorem H7{t:Expr}(h:noStar t=true){ts:List Expr}:wS (t::ts) env=(false,assign t env)::wS ts env:=by
 induction t using vA with
 |Starred _ _=>exact xE h
 |_=>rfl
theorem Vk{ts:List Expr}(h:ts.all noStar=true):(wS ts env).length=ts.length∧(wS ts env).findIdx? (·.1)=none:=by
 induction ts with
 |nil=>exact⟨rfl,rfl⟩
 |cons t ts e=>
  have h:=Bool.and_eq_true_iff.mp (List.all_cons.symm.trans h)
  rw[H7 h.1,lb,(e h.2).2]
  exact⟨congrArg (· +1) (e h.2).1,rfl⟩
theorem Kh(ok:AX X)(b:Aa X)(ga:AK X Γ n){ts:List Expr}: ∀{vs:List AV} {cs:List Value} {W:Wd} {H:AH} {ρ:AE},ts.all noStar=true→Gd X W H→A9 X W A n→BP X sc env W ρ→AN X W vs cs→ts.length=vs.length→
  AC X A (FE env) W (assignAll Γ (ts.map (FX sc)) vs ρ H) (λW' ρ' _=>BP X sc env W' ρ') (yG ((wS ts env).map (·.2)) cs):=by
 induction ts with
 |nil=>intro vs cs W H ρ _ g ao i e hl;induction vs using u6 with
  |nil=>rw[show cs=[] from e.out];exact AC.pure g i
  |cons _ _=>exact nomatch hl
 |cons t ts D=>intro vs cs W H ρ hs g ao i e hl;induction vs using u6 with
  |nil=>exact nomatch hl
  |cons v l=>
   have hs:=Bool.and_eq_true_iff.mp (List.all_cons.symm.trans hs)
   rw[H7 hs.1]
   obtain⟨c,cs,rfl,h1,h2⟩:=e.out
   exact AC.bind (t:=yZ cs (assign t env c)) (k:=λ_=>yG ((wS ts env).map (·.2)) cs) (f:=λρ H=>assignAll Γ (ts.map (FX sc)) l ρ H) (AL (Jj ok b ga g ao i h1)) λρ1 H1 _ W1 u I B=>D hs.2 I (ao.ext u) B (AN.more (i.1.moreE u g) h2) (z6 hl)
structure gO (e:Expr):Prop where
 sw: ∀t k env,swapsWith e t k env=pure false
 ex: ∀sc nl p,cS sc nl (.Expr e p)=.expr (cE sc e)
 iv: ∀sc s,gL sc s e=.set s (cE sc e)
inductive Ld:Expr→Prop
 |pl {e:Expr}:gO e→Ld e
 |mul (es:List Expr) (p:Pos) (r:Expr) (q:Pos):Ld (.BinOp (.List es p) .Mult r q)
 |dict (p:Pos):Ld (.Dict [] [] p)
 |comp (elt:Expr) (gens:List Comprehension) (sc':Scope) (q:Pos):Ld (.ListComp elt gens sc' q)
 |st {e:Expr}:(∀sc nl p,cS sc nl (.Expr e p)=.stuck)→(∀sc s,gL sc s e=.stuck)→(∀sc,cE sc e=.stuck)→Ld e
theorem NB(e:Expr):Ld e:=by
 induction e using vA with
 |ListComp elt gens sc' q=>exact .comp elt gens sc' q
 |SetComp _ _ _ _=>exact .st (λ_ _ _=>rfl) (λ_ _=>rfl) λ_=>rfl
 |DictComp _ _ _ _ _=>exact .st (λ_ _ _=>rfl) (λ_ _=>rfl) λ_=>rfl
 |BinOp l op r q=>induction l using vA with
  |List es p=>induction op using xX with
   |Mult=>exact .mul es p r q
   |_=>exact .pl ⟨λ_ _ _=>rfl,λ_ _ _=>rfl,λ_ _=>rfl⟩
  |_=>exact .pl ⟨λ_ _ _=>rfl,λ_ _ _=>rfl,λ_ _=>rfl⟩
 |Dict ks vs p=>induction ks using u6 with
  |nil=>induction vs using u6 with
   |nil=>exact .dict p
   |cons _ _=>exact .pl ⟨λ_ _ _=>rfl,λ_ _ _=>rfl,λ_ _=>rfl⟩
  |cons _ _=>exact .pl ⟨λ_ _ _=>rfl,λ_ _ _=>rfl,λ_ _=>rfl⟩
 |_=>exact .pl ⟨λ_ _ _=>rfl,λ_ _ _=>rfl,λ_ _=>rfl⟩
theorem JL(ok:AX X)(b:Aa X)(ga:AK X Γ n){e:Expr}{p:Pos}(h1: ∀t k env,swapsWith e t k env=pure false)(u:cS sc nl (.Expr e p)=.expr (cE sc e)):SS X Γ n sc nl (.Expr e p):=λ{env ρ W H A} g ao i=>by
 rw[u,kl]
 refine AR ?_
 rw[show cm env=false by unfold cm;rw[i.1.kind];rfl,if_neg vF,h1,pure_bind,if_neg vF]
 exact AC.after g ao i ((Ay ok b ga sc e).e g ao i.1) λa H1 c W1 J I B h1 m Q E D=>ik (D .next W1 (AS.refl ..) J ⟨B,.next⟩)
theorem ZV(ok:AX X)(b:Aa X)(ga:AK X Γ n){e:Expr}{p:Pos}:SS X Γ n sc nl (.Expr e p):=by
 cases NB e with
 |pl h=>exact JL ok b ga h.sw (h.ex _ _ _)
 |mul es p r q=>exact JL ok b ga (λ_ _ _=>rfl) rfl
 |dict p=>exact JL ok b ga (λ_ _ _=>rfl) rfl
 |comp _ _ _ _=>exact Bx rfl
 |st h=>exact Bx (h _ _ _)
end
section
variable{X:Cx}{Γ:Ctx}{n:Nat}{A:Around}{F P:Addr→Prop}{W W₀ W':Wd}{H:AH}{sc sc':Scope}{env:Env}{ρ:AE}{nl:Bool}
theorem TA{c:Prop} [d:Decidable c]{a:CE}{o:I5 AV}(h:AF Γ (if c then a else .stuck) ρ H=some o):c∧AF Γ a ρ H=some o:=
 match d,h with
 |.isTrue q,h=>⟨q,h⟩
theorem aP{c:Prop} [d:Decidable c]{v:AV}{H:AH}{o:I5 AV}(h:(if c then rok v H else uZ)=some o):I5.ok v H=o:=
 match d,h with
 |.isTrue _,h=>u7 h
theorem La{elt:CE}{t:TN}{k:IK}{src ifs:List CE}{ls:List Str}{o:I5 AV}{P:Prop}(h:AF Γ (.comp elt t k src ifs ls) ρ H=some o)(K: ∀vs H1 items l H2,A1 Γ src ρ H=some (.ok vs H1)→BF k vs H1=some items→compLoop (λρ H=>DI Γ ifs ρ H) (λρ H=>AF Γ elt ρ H) t (Cs ls ρ) items H1=some (.ok l H2)→I5.ok (.list l) H2=o→P):P:=by
 rw[TC] at h
 refine Ax h λvs H1 hp h=>?_
 revert h
 cases e:BF k vs H1 with
 |none=>exact Ar
 |some items=>exactλh=>Ax h λl H2 hl h=>K vs H1 items l H2 hp e hl (aP h)
theorem Pp{elt t u:Expr}{ifs:List Expr}{a:Int}{pos Hx:Pos}{use:Option (Value→Sem Unit)}(hi:SI X Γ n sc u)(U:SE X Γ n sc' elt)(hf:lB X Γ n sc' ifs)(g:Gd X W H)(ao:A9 X W A n)(e:AW X W sc env ρ){v:AV}{H2:AH}
  (J:AF Γ (cE sc (.ListComp elt [⟨t,u,ifs,a⟩] sc' pos)) ρ H=some (.ok v H2)) {Q:Value→Shared→Prop} {E:Value→Shared→Prop}
  (O: ∀W' c C m,AS X Ab W W'→Gd X W' H2→VR X W' v c→W.h.objs.size≤C→C∉W'.β→W'.N C→W'.h.Ns C m→pa (model X.prog X.w) A E use Q c C (.ok .next) W'.s):
  wpAny (model X.prog X.w) A (ek (.ListComp elt [⟨t,u,ifs,a⟩] sc' pos) sc' env Hx (li []) (firstAsync [⟨t,u,ifs,a⟩]) (eval u env) use) Q E W.s:=by
 rw[MW] at J
 obtain⟨hc,hev'⟩:=TA J
 have hc:=Bool.and_eq_true_iff.mp hc
 have I:=Bool.and_eq_true_iff.mp hc.1
 cases(show a=0 from eq_of_beq I.1)
 refine La hev' λvs H1 items l Y hp D hl e2=>?_
 cases e2
 have B: ∀es k p,u≠.Set es k p:=λes k p q=>by rw[q,gB] at hp;exact Ar hp
 have S:=hi hc.2 (vJ W.h.objs.size) g ao e
 rw[hp] at S
 replace S:AC X A Ab W (rof (BF (B1 sc u) vs H1) H1) (λW' is c=>EC X A (B3 sc') t W.h.objs.size W' is c) (eval u env):=S
 rw[D] at S
 exact Sn (use:=use) (Ln I.2) g ao e (Ho B) S (Lx D) (λg a i=>hf g a i) (λg a i=>U g a i) hl O
theorem RD{elt:Expr}{gens:List Comprehension}{pos:Pos}{x:Str}{H2:AH}(e:AF Γ (cE sc (.ListComp elt gens sc' pos)) ρ H=some (.exc x H2)):False:=by
 induction gens using u6 with
 |nil=>exact Ar e
 |cons g gs=>
  obtain⟨t,it,ifs,a⟩:=g
  induction gs using u6 with
  |cons _ _=>exact Ar e
  |nil=>
   rw[MW] at e
   exact La (TA e).2 λ_ _ _ _ _ _ _ _ q=>I5.noConfusion rfl (heq_of_eq q)
theorem Yv{elt:Expr}{gens:List Comprehension}{pos:Pos}{o:I5 AV}(e:AF Γ (cE sc (.ListComp elt gens sc' pos)) ρ H=some o): ∃t u ifs a,gens=[⟨t,u,ifs,a⟩]:=by
 induction gens using u6 with
 |nil=>exact Ar e
 |cons g gs=>
  obtain⟨t,u,ifs,a⟩:=g
  induction gs using u6 with
  |cons _ _=>exact Ar e
  |nil=>exact⟨_,_,_,_,rfl⟩
theorem AW.same{h':Heap}{k:Nat}{C:Addr}(e:AW X W sc env ρ)(hs:xC C W.h h')(I:W.N C)(hl:C≠env.locals)(hc: ∀x a,(x,a)∈env.cells→a≠C):AW X (W.put h' k) sc env ρ:=by
 have m:A5 W (W.put h' k):=Bj hs I
 obtain⟨D,h1,h2⟩:=e.vars
 refine⟨e.kind,e.globals,e.builtins,e.glob,e.cel,e.lo,e.loN,λy a u=>?_,D,h1.sameBut hs (z4 hl),λy v hy B=>?_⟩
 ·obtain⟨q1,q2,q3,v,q4⟩:=e.cl y a u
  exact⟨q1,q2,q3,v,q4.sameBut hs (hc y a u)⟩
 ·obtain⟨c,q1,q2⟩:=h2 y v hy B
  refine⟨c,VR.more m q1,?_⟩
  induction q2 using Cu.casesOn with
  |loc a b=>exact .loc a b
  |cell a b c d=>exact .cell a b c (d.sameBut hs (hc y _ (mem_of_lookup c)))
theorem WC.same{h':Heap}{k:Nat}{C:Addr}(e:WC X W sc env)(hs:xC C W.h h')(hl:C≠env.locals):WC X (W.put h' k) sc env:=by
 obtain⟨o,ho,d⟩:=e.fr
 exact⟨e.scope,e.frame,e.base,⟨o,(hs.2 _ (z4 hl)).trans ho,d⟩,e.apart⟩
theorem fN(t e:Expr):(∃ts k q,t=.Tuple ts k q)∨(∀sc,FX sc t=.bad)∨∀env,cg [t] e env=pure none∧wS [t] env=[(false,assign t env)]:=by
 induction t using vA with
 |Tuple ts k q=>exact .inl ⟨ts,k,q,rfl⟩
 |List _ _=>exact .inr (.inl λ_=>rfl)
 |Starred _ _=>exact .inr (.inl λ_=>rfl)
 |_=>exact .inr (.inr λ_=>⟨rfl,rfl⟩)
theorem Yp(elt:Expr)(gens:List Comprehension)(scope:Scope)(pos:Pos)(env:Env)(use:Value→Sem Unit):ef (.ListComp elt gens scope pos) env use=(ek (.ListComp elt gens scope pos) scope env (firstIterPos gens pos) (li []) (firstAsync gens) (firstIter gens env) (some use)>>= λ_=>pure ()):=rfl
theorem Kg(t e:Expr)(ifs:List Expr)(a:Int)(env:Env):firstIter [⟨t,e,ifs,a⟩] env=eval e env:=rfl
theorem cK(t:Value→Sem Unit)(v:Value):ai v [t]=t v:=rfl
theorem Uf(y:Str)(e:Pos)(env:Env):(wS [.Name y e] env).map (·.2)=[assign (.Name y e) env]:=rfl
noncomputable def Iz(t e:Expr)(env:Env):Sem fc:=do
 let v←eval e env
 assignStores env v (←cg [t] e env) ((wS [t] env).map (·.2))
theorem Qg(ok:AX X)(b:Aa X)(ga:AK X Γ n){t e:Expr}(I: ∀ts k q,t≠.Tuple ts k q)(g:Gd X W H)(ao:A9 X W A n)(i:BP X sc env W ρ):AC X A (FE env) W (Di Γ (.assign (FX sc t) (cE sc e)) ρ H) (DP X (BP X sc env)) (Iz t e env):=by
 refine AC.after g ao i ((Ay ok b ga sc e).e g ao i.1) λv H1 c W1 O u D h1 m=>?_
 rcases fN t e with⟨_,_,_,h⟩|h|h
 ·exact absurd h (I _ _ _)
 ·rw[h];exact AC.none
 ·rw[(h env).1,pure_bind,(h env).2]
  exact AC.bind (t:=assign t env c) (k:=λ_=>pure jw) (Jj ok b ga O u D h1) λρ2 H2 _ S Q B J=>AC.pure B ⟨J,.next⟩
theorem YI(ok:AX X)(b:Aa X)(ga:AK X Γ n){elt:Expr}{gens:List Comprehension}{q py:Pos}{y:Str}(g:Gd X W H)(ao:A9 X W A n)(i:BP X sc env W ρ):AC X A (FE env) W (Di Γ (.assign (FX sc (.Name y py)) (cE sc (.ListComp elt gens sc' q))) ρ H) (DP X (BP X sc env))
  ((ef (.ListComp elt gens sc' q) env λv=>ai v ((wS [.Name y py] env).map (·.2)))>>= λ_=>pure .next):=by
 show AC X A (FE env) W ((AF Γ (cE sc (.ListComp elt gens sc' q)) ρ H).bind λv H=>(EJ Γ (if EM sc y then .name y else .bad) v ρ H).bind λρ H=>rok (Fl.next,ρ) H) _ _
 cases B:AF Γ (cE sc (.ListComp elt gens sc' q)) ρ H with
 |none=>exact AC.none
 |some o=>induction o using I5.casesOn with
  |exc x H2=>exact(RD B).elim
  |ok v H2=>
   by_cases hy:EM sc y=true
   ·rw[if_pos hy]
    obtain⟨t',it,ifs,a,rfl⟩:=Yv B
    intro Q E hQ
    refine u0 ?_
    rw[Yp,Kg]
    refine u0 (Pp (Ay ok b ga sc it).i (Ay ok b ga sc' elt).e (FO ok b ga sc' ifs).f g ao i.1 B λW1 c C m x g1 r hC I S Y=>?_)
    unfold pa
    dsimp only
    rw[Uf,cK]
    have i1:=i.ext0 x g
    have nC: ∀{a:Addr},a<W.h.objs.size→a≠C:=λh z=>absurd h (Nat.not_lt.mpr (z▸hC))
    have u:=nC i.1.vars.choose_spec.1.lt
    have D: ∀x a,(x,a)∈env.cells→a≠C:=λx a ha=>nC (i.1.cl x a ha).2.2.2.choose_spec.lt
    refine Br (A:=A) (pos:=py) Dv g1 i1 hy r _ _ λ_ Z O g2 i2=>?_
    have U:Z.h.Ns C m:=O.ns Y I (λz=>z.elim u.symm λ⟨y,z⟩=>D y C z rfl)
    refine⟨m,U,λh' hs=>?_⟩
    have J:=(O.N C Y.lt).mpr S
    exact u8 (u8 (hQ .next (Z.put h' Z.s.toks) ((x.of0.trans O).tail hs hC) (D1 g2 hs J (O.nb Y.lt I)) ⟨⟨i2.1.same hs J u.symm D,i2.2.same hs u.symm⟩,.next⟩))
   ·rw[if_neg hy];exact AC.none
theorem OQ(ok:AX X)(b:Aa X)(ga:AK X Γ n){t e:Expr}{p:Pos}{sw:Env→Bool}(B: ∀ts k q,t≠.Tuple ts k q)(hs: ∀env,swapsWith e (some t) p.line env=pure (sw env))(hc: ∀env,sw env=true→∃elt gens sc' q y u,e=.ListComp elt gens sc' q∧t=.Name y u)(h1:cS sc nl (.Assign [t] e p)=.assign (FX sc t) (cE sc e)):SS X Γ n sc nl (.Assign [t] e p):=λ{env ρ W H A} g ao i=>by
 rw[h1,ct]
 refine AR ?_
 show AC X A (FE env) W _ _ (swapsWith e (some t) p.line env>>= λsw=>if sw=true then(ef e env λv=>ai v ((wS [t] env).map (·.2)))>>= λ_=>pure .next else Iz t e env)
 rw[hs,pure_bind]
 cases h:sw env with
 |false=>exact Qg ok b ga B g ao i
 |true=>
  obtain⟨elt,gens,sc',q,y,u,rfl,rfl⟩:=hc env h
  exact YI ok b ga g ao i
theorem QZ(ok:AX X)(b:Aa X)(ga:AK X Γ n){t e:Expr}{p:Pos}(u: ∀ts k q,t≠.Tuple ts k q):SS X Γ n sc nl (.Assign [t] e p):=by
 have h1:cS sc nl (.Assign [t] e p)=.assign (FX sc t) (cE sc e):=by
  induction t using vA with
  |Tuple _ _ _=>exact absurd rfl (u _ _ _)
  |_=>rfl
 have F:(∀env,swapsWith e (some t) p.line env=pure false)→SS X Γ n sc nl (.Assign [t] e p):=λhs=>OQ (sw:=λ_=>false) ok b ga u hs (λ_ q=>nomatch q) h1
 cases NB e with
 |pl h=>exact @F (h.sw _ _)
 |mul es p r q=>exact @F λ_=>rfl
 |dict p=>exact @F λ_=>rfl
 |comp elt gens sc' q=>induction t using vA with
  |Name y B=>exactλ{env ρ W H A}=>OQ ok b ga u (λ_=>rfl) (λ_ _=>⟨_,_,_,_,_,_,rfl,rfl⟩) h1
  |_=>exact @F λ_=>rfl
 |st _ _ h=>exactλ{env ρ W H A} g ao i=>by rw[h1,h];exact AC.none
end
section
variable{X:Cx}{Γ:Ctx}{n:Nat}{A:Around}{F P:Addr→Prop}{W W₀ W':Wd}{H:AH}{sc sc':Scope}{env:Env}{ρ:AE}{nl:Bool}
inductive E6 (sc:Scope):List Expr→List Str→Prop
 |nil:E6 sc [] []
 |cons {x:Str} {p:Pos} {ts:List Expr} {xs:List Str}:sc.names.lookup x=some .local→E6 sc ts xs→E6 sc (.Name x p::ts) (x::xs)
set_option backward.match.sparseCases true in
noncomputable def Hc(sc:Scope)(line:Nat):Expr→Option Str:=λ
 |.Name id pos=>if sc.names.lookup id==some .local&&pos.line==line then some id else uZ
 |_=>uZ
theorem iW{line:Nat}{t:Expr}{x:Str}(h:Hc sc line t=some x): ∃p,t=.Name x p∧sc.names.lookup x=some .local:=by
 induction t using vA with
 |Name y p=>
  obtain⟨hc,rfl⟩:=At h
  exact⟨p,rfl,eq_of_beq (Bool.and_eq_true_iff.mp hc).1⟩
 |_=>exact Ar h
theorem RU{line:Nat}{ts:List Expr}(h:(ts.filterMap (Hc sc line)).length=ts.length):E6 sc ts (ts.filterMap (Hc sc line)):=by
 induction ts with
 |nil=>exact .nil
 |cons t ts e=>
  rw[kc] at h⊢
  cases hs:Hc sc line t with
  |none=>
   rw[hs] at h
   exact absurd h (vR (bn (List.length_filterMap_le (Hc sc line) ts)))
  |some x=>
   rw[hs] at h
   obtain⟨p,rfl,hl⟩:=iW hs
   exact .cons hl (e (z6 h))
inductive Hr (sc:Scope) (ts:List Expr):Option Bool→Sem (Option (List Str))→Prop
 |stuck {t:Sem (Option (List Str))}:Hr sc ts none t
 |no:Hr sc ts (some false) (pure none)
 |yes {N:List Str}:E6 sc ts N→Hr sc ts (some true) (pure (some N))
theorem Hr.ite{sc:Scope}{ts:List Expr}{c B:Prop} [d:Decidable c] [I:Decidable B](e:c↔B){a b:Option Bool}{t u:Sem (Option (List Str))}(h1:c→Hr sc ts a t)(D: ¬c→Hr sc ts b u):Hr sc ts (if c then a else b) (if B then t else u):=
 match d,I with
 |.isTrue q,.isTrue _=>h1 q
 |.isTrue q,.isFalse r=>absurd (e.mp q) r
 |.isFalse q,.isTrue r=>absurd (e.mpr r) q
 |.isFalse q,.isFalse _=>D q
theorem Hr.iteN{sc:Scope}{ts:List Expr}{c:Prop} [d:Decidable c]{b:Option Bool}{u:Sem (Option (List Str))}(e: ¬c→Hr sc ts b u):Hr sc ts (if c then none else b) u:=
 match d with
 |.isTrue _=>.stuck
 |.isFalse q=>e q
theorem bK{sc:Scope}{ts:List Expr}{N:List Str}{c1 c2:Bool}{T:Sem (Option (List Str))}(h:N.length=ts.length→E6 sc ts N):Hr sc ts (if N.length !=ts.length||N.eraseDups.length !=N.length then some false else if c1 then some false else if c2 then none else some true)
  (if N.length !=ts.length||N.eraseDups.length !=N.length then pure none else if c1 then pure none else if c2 then T else pure (some N)):=
 .ite cb (λ_=>.no) λh3=>.ite cb (λ_=>.no) λ_=>match c2 with
  |true=>.stuck
  |false=>.yes (h (Decidable.of_not_not λq=>h3 (by rw[xP];exact .inl (bne_iff_ne.mpr q))))
set_option backward.match.sparseCases true in
theorem RR{ts:List Expr}{k:Nat}{q:Pos}{e:Expr}(u:env.scope.kind=.function):Hr env.scope ts (SA env.scope ts e) (cg [.Tuple ts k q] e env):=by
 have hb:(env.blockKind !=.function)=false:=by unfold Env.blockKind;rw[u];rfl
 induction e using vA with
 |Tuple vs k2 q2=>
  show Hr env.scope ts (Xy env.scope ts vs) _
  unfold Xy cg
  dsimp only
  rw[hb,qq]
  refine .ite cb (λ_=>.no) λ_=>?_
  refine .ite cb (λ_=>.stuck) λ_=>?_
  exact bK (N:=ts.filterMap (Hc env.scope ((ts.head?.map (·.pos.line)).getD 0))) (c1:=vs.all (qo 8)) (c2:=vs.all (qb 8)) RU
 |_=>exact .no
end
section
variable{X:Cx}{Γ:Ctx}{n:Nat}{A:Around}{F P:Addr→Prop}{W W₀ W':Wd}{H:AH}{sc sc':Scope}{env:Env}{ρ:AE}{nl:Bool}
theorem Kb{xs:List Str}: ∀{vs:List AV} {cs:List Value} {W:Wd} {ρ:AE},(∀x∈xs,EM sc x=true)→xs.length=vs.length→Gd X W H→BP X sc env W ρ→AN X W vs cs→
  AC X A (FE env) W (assignAll Γ (xs.map U3.name) vs ρ H) (λW' ρ' _=>BP X sc env W' ρ') (yG (xs.map λn=>jb env n) cs):=by
 induction xs with
 |nil=>intro vs cs W ρ _ hl g i hv;induction vs using u6 with
  |nil=>rw[show cs=[] from hv.out];exact AC.pure g i
  |cons _ _=>exact nomatch hl
 |cons x xs D=>intro vs cs W ρ e hl g i hv;induction vs using u6 with
  |nil=>exact nomatch hl
  |cons v l=>
   obtain⟨c,cs,rfl,h1,h2⟩:=hv.out
   exact AC.seq (t:=yZ cs (jb env x c)) (k:=λ_=>yG (xs.map λn=>jb env n) cs) (AL (NG Dv g i (e x (.head _)) h1)) λ_ W1 u I B=>D (λy hy=>e y (.tail _ hy)) (z6 hl) I B (AN.more (i.1.moreE u g) h2)
theorem AN.reverse{l:List AV}{cs:List Value}(h:AN X W l cs):AN X W l.reverse cs.reverse:=
 AN.ind (P:=λl cs=>AN X W l.reverse cs.reverse) .nil (λa _ e=>by rw[wP,wP];exact e.append (.cons a .nil)) h
theorem Uw{ts:List Expr}{xs:List Str}(h:E6 sc ts xs):ts.map (FX sc)=xs.map U3.name∧(∀x∈xs,EM sc x=true)∧xs.length=ts.length:=by
 induction h with
 |nil=>exact⟨rfl,(λ_ h=>nomatch h),rfl⟩
 | @cons x p ts xs h r u=>
  have B:EM sc x=true:=by unfold EM;rw[h]
  exact⟨List.cons_eq_cons.mpr ⟨if_pos B,u.1⟩,λy hy=>(List.mem_cons.mp hy).elim (λe=>e▸B) (u.2.1 y),congrArg (· +1) u.2.2⟩
theorem K0(ok:AX X)(b:Aa X)(ga:AK X Γ n){ts:List Expr}{k:Nat}{q:Pos}{vs:List AV}{c:Value}(u:ts.all noStar=true)(g:Gd X W H)(ao:A9 X W A n)(i:BP X sc env W ρ)(I:VR X W (.tuple vs) c)(hl:ts.length=vs.length):
  AC X A (FE env) W (assignAll Γ (ts.map (FX sc)) vs ρ H) (λW' ρ' _=>BP X sc env W' ρ') (assign (.Tuple ts k q) env c):=by
 refine Mine.Internal.SeqV.casesOn I.out λ{a cs n} hz r=>?_
 obtain⟨s1,s2⟩:=Vk (env:=env) u
 exact AC.via (H:=H) (t':=yG ((wS ts env).map (·.2)) cs) (λQ E h=>E3 g ao.handled ⟨_,hz.1,rfl,_,rfl⟩ (by rw[s1,hl,vV,r.length]) s2 λD e B m2=>h D e B) λD e B=>Kh ok b ga u B (ao.ext e) (i.ext0 e g) (AN.more (e.more0 g) r) hl
theorem On{ts:List Expr}{names:List Str}{vs:List AV}{c:Value}(J:E6 sc ts names)(g:Gd X W H)(ao:A9 X W A n)(i:BP X sc env W ρ)(I:VR X W (.tuple vs) c)(hl:ts.length=vs.length):
  AC X A (FE env) W (assignAll Γ (ts.map (FX sc)).reverse vs.reverse ρ H) (λW' ρ' _=>BP X sc env W' ρ') (unpackItems c names.length none>>= λitems=>yG (names.reverse.map λn=>jb env n) items.reverse):=by
 refine Mine.Internal.SeqV.casesOn I.out λ{a cs n} hz r=>?_
 obtain⟨a1,a2,a3⟩:=Uw J
 rw[a1,←List.map_reverse,show names.length=cs.toArray.size by rw[a3,hl,vV,r.length]]
 refine AC.via (H:=H) (t':=yG (names.reverse.map λn=>jb env n) cs.reverse) (λQ E h=>u0 (BD (bz ao.handled ⟨_,hz.1,rfl,_,rfl⟩ λh' O hs=>?_))) λS e B=>
  Kb (λx D=>a2 x (List.mem_reverse.mp D)) (by rw[kb,kb,a3,hl]) B (i.ext0 e g) (AN.more (e.more0 g) r).reverse
 have u:=HG (h:=W.h) O
 exact h (W.low.put h' W.s.toks) (.grow u hs) (g.grow u hs)
theorem Vr{ts:List AT}{v:AV}{f:List AT→List AT}{rel:Wd→Fl×AE→fc→Prop}{h:List AV→List AV}{t:Sem fc}(k: ∀vs,v=.tuple vs→ts.length=vs.length→AC X A F W ((assignAll Γ (f ts) (h vs) ρ H).bind λρ H=>rok (Fl.next,ρ) H) rel t):
  AC X A F W (match v with|.tuple vs=>if ts.length=vs.length then(assignAll Γ (f ts) (h vs) ρ H).bind λρ H=>rok (Fl.next,ρ) H else uZ|_=>uZ) rel t:=by
 induction v using AV.casesOn with
 |tuple vs=>exact AC.guardR λq=>k vs rfl q
 |_=>exact AC.none
theorem Ri(ok:AX X)(b:Aa X)(ga:AK X Γ n){ts:List Expr}{k:Nat}{q:Pos}{e:Expr}{p:Pos}:SS X Γ n sc nl (.Assign [.Tuple ts k q] e p):=λ{env ρ W H A} g ao i=>by
 show AC X A (FE env) W (Di Γ (if ts.all noStar then mP (SA sc ts e) (ts.map (FX sc)) (cE sc e)else .stuck) ρ H) _ _
 refine dW λY=>?_
 rw[ct,show swapsWithSole [.Tuple ts k q] e p.line env=pure false by cases e<;>rfl,pure_bind,if_neg vF]
 have B:=RR (env:=env) (ts:=ts) (k:=k) (q:=q) (e:=e) i.1.kind
 rw[i.2.scope] at B
 have Z:=(Ay ok b ga sc e).e g ao i.1
 revert B
 generalize SA sc ts e=o
 generalize cg [.Tuple ts k q] e env=w
 intro B
 cases B with
 |stuck=>exact AC.none
 |no=>
  refine AR (AC.after g ao i Z λv H1 c W1 U D I J m=>?_)
  rw[pure_bind]
  refine Vr (f:=id) (h:=id) λvs e u=>?_
  exact AC.bind (t:=assign (.Tuple ts k q) env c) (k:=λ_=>pure jw) (K0 ok b ga Y U D I (e▸J) ((vB _).symm.trans u)) λρ3 H3 _ W3 x3 S O=>AC.pure S ⟨O,.next⟩
 | @yes names hN=>
  refine AR (AC.after g ao i Z λv H1 c W1 U D I J m=>?_)
  rw[pure_bind]
  refine Vr (f:=ru) (h:=ru) λvs e u=>?_
  have T:=AC.bind (f:=λρ H=>rok (Fl.next,ρ) H) (k:=λ_=>pure jw) (On (Γ:=Γ) hN U D I (e▸J) ((vB _).symm.trans u)) λρ3 H3 _ W3 x3 S O=>AC.pure (rel:=DP X (BP X sc env)) S ⟨O,.next⟩
  rw[bind_assoc] at T
  exact T.of_wp λQ E h=>u0 (wpAny_rule h)
theorem pA(ok:AX X)(b:Aa X)(ga:AK X Γ n){t:Expr}{a c:List Stmt}{p:Pos}(D:Zm X Γ n sc nl a)(hc:Zm X Γ n sc nl c):SS X Γ n sc nl (.If t a c p):=λ{env ρ W H A} g ao i=>by
 rw[arm_exec_If,show Di Γ (cS sc nl (.If t a c p)) ρ H=((AF Γ (cE sc t) ρ H).bind λv H=>rof (AQ v) H).bind λb H=>if b=true then execs Γ (LZ sc nl a) ρ H else execs Γ (LZ sc nl c) ρ H from R2]
 refine AR (AC.after g ao i ((Ay ok b ga sc t).t g ao i.1) λv H1 d W1 B e u I m=>?_)
 cases(show v=d from I)
 induction v using wX with
 |true=>exact D B e u
 |false=>exact hc B e u
theorem aJ:Zm X Γ n sc nl []:=λg ao i=>AC.pure g ⟨i,.next⟩
set_option backward.match.sparseCases true in
theorem C5(s:Stmt)(r:List Stmt)(env:Env):y4 (s::r) env=(zB s env>>= λf=>match f with
  |.next=>y4 r env
  |f=>pure f):=rfl
theorem X5{s:Stmt}{r:List Stmt}(hs:SS X Γ n sc nl s)(B:Zm X Γ n sc nl r):Zm X Γ n sc nl (s::r):=λ{env ρ W H A} g ao i=>by
 rw[C5]
 refine AC.bind (hs g ao i) λp H1 f W1 D u h1=>?_
 obtain⟨e,hf⟩:=h1
 obtain⟨fl,ρ1⟩:=p
 cases hf with
 |next=>exact B u (ao.ext D) e
 |ret I=>exact AC.pure u ⟨e,.ret I⟩
end
section
variable{X:Cx}{Γ:Ctx}{n:Nat}{A:Around}{F P:Addr→Prop}{W W₀ W':Wd}{H:AH}{sc sc':Scope}{env:Env}{ρ:AE}{nl:Bool}
theorem UH(i:AW X W sc env ρ):env.locals<W.h.objs.size:=by obtain⟨_,h,_⟩:=i.vars;exact h.lt
theorem nW(i:AW X W sc env ρ){a:Addr}(h:FE env a):a<W.h.objs.size:=by
 rcases h with rfl|⟨y,h⟩
 ·exact UH i
 ·obtain⟨_,_,_,v,hc⟩:=i.cl y a h;exact hc.lt
theorem Tn{body:AE→AH→R (Fl×AE)}{t:TN}{x:Str}{H2:AH}{l:List AV}: ∀{ρ:AE} {H:AH},Ct body t l ρ H=some (.exc x H2)→False:=by
 induction l with
 |nil=>exactλh=>I5.noConfusion rfl (heq_of_eq (u7 h))
 |cons a l e=>
  intro ρ H
  show(match BL t a ρ with|uZ=>uZ|some ρ'=>(body ρ' H).bindN λp H=>match p.1 with|.next=>Ct body t l p.2 H|.ret v=>rok (.ret v,p.2) H)=_→_
  cases BL t a ρ with
  |none=>exact Ar
  |some ρ'=>
   exactλh=>Ax h λp u _ h=>by
    revert h
    cases p.1 with
    |next=>exact e
    |ret v=>exactλh=>I5.noConfusion rfl (heq_of_eq (u7 h))
theorem bQ(ok:AX X)(b:Aa X)(ga:AK X Γ n){t B:Expr}{body:List Stmt}{p:Pos}(hb:Zm X Γ n sc nl body)(u: ∀es k p,B≠.Set es k p)(g:Gd X W H)(ao:A9 X W A n)(i:BP X sc env W ρ){items:List AV}{H1:AH}(S:AC X A Ab W (rok items H1) (λW' is c=>EC X A (EM sc) t W.h.objs.size W' is c) (eval B env)):
  AC X A (FE env) W (Ct (λρ H=>execs Γ (LZ sc nl body) ρ H) (DG (EM sc) t) items ρ H1) (DP X (BP X sc env)) (zB (.For t B body [] p) env):=by
 cases hl:Ct (λρ H=>execs Γ (LZ sc nl body) ρ H) (DG (EM sc) t) items ρ H1 with
 |none=>exact AC.none
 |some o=>induction o using I5.casesOn with
  |exc x H2=>exact(Tn hl).elim
  |ok res H2=>
   intro Q E hQ
   refine wpAny_For (S _ _ λc W1 O g1 src=>src H1 g1 _ _ λW2 I wr St Y J L st hw=>?_) (Ho u)
   have e:=O.trans Y
   have D:=i.ext0 e g
   refine XN (n:=n) Dv L (λb o hf q=>hf.2 (D.1.vol q)) (λb q z=>absurd (nW i.1 z) (Nat.not_lt.mpr (hw b q).2.2)) (λg a i=>hb g a i) st J (ao.ext e) D (λb q=>⟨(hw b q).1,(hw b q).2.1⟩) hl λW3 f x3 Z r3=>
    hQ f W3 ((e.of0.trans x3).mono λa U q=>q.elim id λq=>absurd U (Nat.not_lt.mpr (hw a q).2.2)) Z r3
theorem gN(ok:AX X)(b:Aa X)(ga:AK X Γ n){t e:Expr}{body:List Stmt}{p:Pos}(hb:Zm X Γ n sc nl body):SS X Γ n sc nl (.For t e body [] p):=λ{env ρ W H A} g ao i=>by
 show AC X A (FE env) W (Di Γ (if N0 (EM sc) t (B1 sc e)==false then .stuck else .loop (DG (EM sc) t) (B1 sc e) (cI sc e) (LZ sc nl body)) ρ H) _ _
 by_cases B:N0 (EM sc) t (B1 sc e)=true
 ·rw[B,if_neg (λh=>nomatch h)]
  by_cases u: ∃es k p,e=.Set es k p
  ·obtain⟨es,k,p,rfl⟩:=u
   exact AC.none
  refine AC.caseN λvs H1 hp=>?_
  have S:=(Ay ok b ga sc e).i B (vJ W.h.objs.size) g ao i.1
  rw[hp] at S
  replace S:AC X A Ab W (rof (BF (B1 sc e) vs H1) H1) (λW' is c=>EC X A (EM sc) t W.h.objs.size W' is c) (eval e env):=S
  cases D:BF (B1 sc e) vs H1 with
  |none=>exact AC.none
  |some items=>
   rw[D] at S
   exact bQ ok b ga hb (λes k p q=>u ⟨es,k,p,q⟩) g ao i S
 ·rw[Bool.eq_false_iff.mpr B];exact AC.none
theorem Op{e:AE→AH→R AV}{body:AE→AH→R (Fl×AE)}{x:Str}{H2:AH}{k:Nat}: ∀{ρ:AE} {H:AH},DV e body k ρ H=some (.exc x H2)→False:=by
 induction k with
 |zero=>exact Ar
 |succ k B=>
  exactλh=>Ax h λv u _ h=>by
   revert h
   cases AQ v with
   |none=>exact Ar
   |some b=>induction b using wX with
    |false=>exactλh=>I5.noConfusion rfl (heq_of_eq (u7 h))
    |true=>
     exactλh=>Ax h λp u _ h=>by
      revert h
      cases p.1 with
      |next=>exact B
      |ret v=>exactλh=>I5.noConfusion rfl (heq_of_eq (u7 h))
theorem WT(ok:AX X)(b:Aa X)(ga:AK X Γ n){t:Expr}{body:List Stmt}{p:Pos}(hb:Zm X Γ n sc nl body):SS X Γ n sc nl (.While t body [] p):=λ{env ρ W H A} g ao i=>by
 rw[arm_exec_While]
 refine AR ?_
 show AC X A (FE env) W (DV (λρ H=>AF Γ (cE sc t) ρ H) (λρ H=>execs Γ (LZ sc nl body) ρ H) 200 ρ H) _ _
 cases hl:DV (λρ H=>AF Γ (cE sc t) ρ H) (λρ H=>execs Γ (LZ sc nl body) ρ H) 200 ρ H with
 |none=>exact AC.none
 |some o=>induction o using I5.casesOn with
  |exc x H2=>exact(Op hl).elim
  |ok B H2=>exactλQ E u=>wpAny_runOwn (QP (n:=n) (Dv (X:=X) (A:=A) (sc:=sc) (env:=env)) (λg a i=>(Ay ok b ga sc t).t g a i.1) (λg a i=>hb g a i) g ao i hl λI f D e J=>u f I D e J)
end
section
variable{X:Cx}{Γ:Ctx}{n:Nat}{A:Around}{F P:Addr→Prop}{W W₀ W':Wd}{H:AH}{sc sc':Scope}{env:Env}{ρ:AE}{nl:Bool}
structure bL (X:Cx) (Γ:Ctx) (n:Nat) (sc:Scope) (nl:Bool) (st:Stmt):Prop where
 s:SS X Γ n sc nl st
structure Nn (X:Cx) (Γ:Ctx) (n:Nat) (sc:Scope) (nl:Bool) (l:List Stmt):Prop where
 s:Zm X Γ n sc nl l
theorem Dy{N:Nat}(u: ∀st:Stmt,sizeOf st<N→∀sc nl,bL X Γ n sc nl st){e:List Stmt}(h:sizeOf e<N):Nn X Γ n sc nl e:=by
 induction e with
 |nil=>exact⟨aJ⟩
 |cons st e i=>
  have h:=bu st e▸h
  exact⟨X5 (u st (zd (vY (vH (by rw[zC 1,de 1,zC])) h)) sc nl).s (i (vY (yW _ _) h)).s⟩
structure jA (X:Cx) (Γ:Ctx) (n:Nat):Prop where
 raise: ∀sc nl e c p,bL X Γ n sc nl (.Raise e c p)
 tryS: ∀sc nl b hs o f p,bL X Γ n sc nl (.Try b hs o f p)
theorem Tr(ok:AX X)(b:Aa X)(ga:AK X Γ n)(D:jA X Γ n)(N:Nat): ∀(st:Stmt),sizeOf st<N→∀sc nl,bL X Γ n sc nl st:=by
 induction N with
 |zero=>exactλst h=>absurd h (xN _)
 |succ N u=>
  intro st h sc nl
  induction st using zI with
  |Pass p=>exact⟨ZJ⟩
  |Expr e p=>exact⟨ZV ok b ga⟩
  |Return v p=>exact⟨Tb ok b ga⟩
  |Assign ts e p=>induction ts using u6 with
   |nil=>exact⟨Bx rfl⟩
   |cons t ts=>induction ts using u6 with
    |cons _ _=>exact⟨Bx (by cases t<;>rfl)⟩
    |nil=>
     by_cases B: ∃ts k q,t=.Tuple ts k q
     ·obtain⟨ts,k,q,rfl⟩:=B
      exact⟨Ri ok b ga⟩
     ·exact⟨QZ ok b ga λts k q e=>B ⟨ts,k,q,e⟩⟩
  |If t a c p=>
   rw[Stmt.If.sizeOf_spec] at h
   exact⟨pA ok b ga (Dy u (z1 (zd (zd h)))).s (Dy u (z2 (zd h))).s⟩
  |For t I body orelse p=>
   rw[Stmt.For.sizeOf_spec] at h
   induction orelse using u6 with
   |nil=>exact⟨gN ok b ga (Dy u (z2 (zd (zd h)))).s⟩
   |cons _ _=>exact⟨Bx rfl⟩
  |While t body orelse p=>
   rw[Stmt.While.sizeOf_spec] at h
   induction orelse using u6 with
   |nil=>exact⟨WT ok b ga (Dy u (z1 (zd (zd h)))).s⟩
   |cons _ _=>exact⟨Bx rfl⟩
  |Raise e c p=>exact D.raise sc nl e c p
  |Try b hs o f p=>exact D.tryS sc nl b hs o f p
  |_=>exact⟨Bx rfl⟩
theorem Lc(ok:AX X)(b:Aa X)(ga:AK X Γ n)(u:jA X Γ n)(e:List Stmt):Nn X Γ n sc nl e:=Dy (λst h sc nl=>Tr ok b ga u _ st h sc nl) (wL _)
end
theorem Bd{α:Type}{x y:Str}{v:α}{l:List (Str×α)}:((y,v)::l).lookup x=if x=y then some v else l.lookup x:=by
 show(match x==y with|true=>some v|false=>l.lookup x)=_
 by_cases e:x=y
 ·rw[if_pos e,beq_iff_eq.mpr e]
 ·rw[if_neg e,beq_eq_false_iff_ne.mpr e]
theorem Ir{xs:List Str}: ∀{vals:List Value},xs.length=vals.length→∀x∈xs,((xs.zip vals).lookup x).isSome=true:=by
 induction xs with
 |nil=>exactλ_ x h=>nomatch h
 |cons y xs u=>intro vals h x hx;induction vals using u6 with
  |nil=>exact nomatch h
  |cons v vals=>
   rw[xA,Bd]
   by_cases e:x=y
   ·rw[if_pos e];rfl
   ·rw[if_neg e];exact u (z6 h) x ((List.mem_cons.mp hx).resolve_left e)
theorem Kc{xs:List Str}{S:List (Str×Value)}: ∀{vals:List Value},xs.length=vals.length→(∀p∈xs.zip vals,S.lookup p.1=some p.2)→xs.filterMap (λn=>(S.lookup n).map (n,·))=xs.zip vals:=by
 induction xs with
 |nil=>exactλ_ _=>rfl
 |cons y xs e=>intro vals h hS;induction vals using u6 with
  |nil=>exact nomatch h
  |cons v vals=>
   rw[xA] at hS⊢
   rw[kc,hS (y,v) (.head _)]
   exact congrArg (ub (y,v)) (e (z6 h) λp hp=>hS p (.tail _ hp))
theorem Yw{xs:List Str}: ∀{vals:List Value},xs.Nodup→∀p∈xs.zip vals,(xs.zip vals).lookup p.1=some p.2:=by
 induction xs with
 |nil=>exactλ_ p h=>nomatch h
 |cons y xs B=>intro vals u p h;induction vals using u6 with
  |nil=>exact nomatch h
  |cons v vals=>
   rw[xA] at h⊢
   rw[Bd]
   rcases List.mem_cons.mp h with rfl|h
   ·exact if_pos rfl
   ·have u:=List.nodup_cons.mp u
    rw[if_neg λe:p.1=y=>u.1 (e▸(ak (a:=p.1) (b:=p.2) h).1)]
    exact B u.2 p h
theorem JO{names:List (Str×NameKind)}: ∀{n:Nat} {acc:List (Str×Addr)},(jt n names acc).map (·.1)=((names.filter λp=>p.2== .cell).map (·.1)).reverse++acc.map (·.1):=by
 induction names with
 |nil=>exactλ{n acc}=>(il _).symm
 |cons p r e=>
  intro n acc
  obtain⟨x,k⟩:=p
  unfold jt
  by_cases h:(k==km)=true
  ·rw[if_pos h,e,gj (p:=λp:Str×NameKind=>p.2== .cell) h,v8,v8,wP,xK];rfl
  ·rw[if_neg h,e,gk (p:=λp:Str×NameKind=>p.2== .cell) h]
theorem Ki{α:Type}{x:Str}{l:List (Str×α)}(h:x∈l.map (·.1)): ∃a,l.lookup x=some a:=by
 induction l with
 |nil=>exact nomatch h
 |cons p l u=>
  obtain⟨y,a⟩:=p
  rw[Bd]
  by_cases e:x=y
  ·exact⟨a,if_pos e⟩
  ·rw[if_neg e];exact u ((List.mem_cons.mp h).resolve_left e)
theorem Hd{names:List (Str×NameKind)}{n:Nat}{x:Str}(h:names.lookup x=some .cell):((jt n names []).lookup x).isSome=true:=by
 obtain⟨a,ha⟩:=Ki (l:=jt n names []) (x:=x) (JO▸List.mem_append.mpr (.inl (List.mem_reverse.mpr (List.mem_map.mpr ⟨_,List.mem_filter.mpr ⟨mem_of_lookup h,rfl⟩,rfl⟩))))
 rw[ha];rfl
theorem M9{α:Type}{x:Str}{a:α}{l:List (Str×α)}(u:(l.map (·.1)).Nodup)(h:(x,a)∈l):l.lookup x=some a:=by
 induction l with
 |nil=>exact nomatch h
 |cons p l B=>
  obtain⟨y,b⟩:=p
  have u:=List.nodup_cons.mp u
  rw[Bd]
  rcases List.mem_cons.mp h with q|q
  ·cases q;exact if_pos rfl
  ·rw[if_neg λe:x=y=>u.1 (e▸List.mem_map.mpr ⟨_,q,rfl⟩)]
   exact B u.2 q
theorem Sl{x y:Str}{v:Value}{l:List (Str×Value)}{o:Option Value}:((l++[(y,v)]).lookup x).or o=(l.lookup x).or (if x=y then some v else o):=by
 rw[xR]
 cases l.lookup x with
 |some w=>rfl
 |none=>
  rw[bk,bk,Bd]
  by_cases e:x=y
  ·rw[if_pos e,if_pos e];rfl
  ·rw[if_neg e,if_neg e];rfl
theorem Pl{k:Str→Option NameKind}{x:Str}(u:k x=some .local){bs:List (Str×Value)}: ∀{m:Str→Option Value},bindL k bs m x=(bs.reverse.lookup x).or (m x):=by
 induction bs with
 |nil=>exactλ{m}=>rfl
 |cons p r B=>
  intro m
  obtain⟨y,v⟩:=p
  unfold bindL
  rw[B,wP,Sl]
  congr 1
  by_cases e:x=y
  ·subst e;simp[u]
  ·rw[if_neg e];split<;>simp[e]
theorem WM{k:Str→Option NameKind}{x:Str}(u:k x≠some .local){bs:List (Str×Value)}: ∀{m:Str→Option Value},bindC k bs m x=(bs.reverse.lookup x).or (m x):=by
 induction bs with
 |nil=>exactλ{m}=>rfl
 |cons p r B=>
  intro m
  obtain⟨y,v⟩:=p
  unfold bindC
  rw[B,wP,Sl]
  congr 1
  by_cases e:x=y
  ·subst e;simp[u]
  ·rw[if_neg e];split<;>simp[e]
section
variable{X:Cx}{Γ:Ctx}{n:Nat}{A:Around}{F P:Addr→Prop}{W W₀ W':Wd}{H:AH}{sc sc':Scope}{env:Env}{ρ:AE}{nl:Bool}
inductive fY (X:Cx) (W:Wd):Option AV→Option Value→Prop
 |no:fY X W none none
 |yes {v:AV} {c:Value}:VR X W v c→fY X W (some v) (some c)
theorem Zh{x:Str}{ps:List Str}: ∀{vs:List AV} {cs:List Value},AN X W vs cs→fY X W ((ps.zip vs).reverse.lookup x) ((ps.zip cs).reverse.lookup x):=by
 induction ps with
 |nil=>exactλ_=>.no
 |cons p ps u=>intro vs cs h;induction vs using u6 with
  |nil=>rw[show cs=[] from h.out];exact .no
  |cons v vs=>
   obtain⟨c,cs,rfl,h',r⟩:=h.out
   have q:=u r
   rw[xA,xA,wP,wP,xR,xR]
   revert q
   generalize(ps.zip vs).reverse.lookup x=a
   generalize(ps.zip cs).reverse.lookup x=b
   intro q
   cases q with
   |yes q=>exact .yes q
   |no=>
    rw[bk,bk,Bd,Bd]
    by_cases e:x=p
    ·rw[if_pos e,if_pos e];exact .yes h'
    ·rw[if_neg e,if_neg e];exact .no
theorem Jh{x:Str}{ps:List Str}{vs:List AV}{cs:List Value}{v:AV}(r:AN X W vs cs)(h:(ps.zip vs).reverse.lookup x=some v): ∃c,(ps.zip cs).reverse.lookup x=some c∧VR X W v c:=by
 have q:=Zh (x:=x) (ps:=ps) r
 rw[h] at q
 revert q
 generalize(ps.zip cs).reverse.lookup x=b
 intro q
 cases q with
 |yes q=>exact⟨_,rfl,q⟩
structure pM (sc:Scope):Prop where
 kind:sc.kind=.function
 co:sc.isCoroutine=false
 gen:sc.isGenerator=false
 keys:((sc.names.filter λp=>p.2== .cell).map (·.1)).Nodup
 cd: ∀p∈sc.names,p.2=.cell→(p.1==("__classdict__":Str))=false
 free: ∀p∈sc.names,p.2≠.free
noncomputable def Wd.call(W:Wd)(h:Heap)(k:Nat):Wd:=W.putN h k λa=>(a<W.h.objs.size∧W.N a)∨W.h.objs.size≤a
theorem GQ{h':Heap}{k:Nat}(a:Addr)(h:a<W.h.objs.size):(W.call h' k).N a↔W.N a:=⟨λx=>x.elim (λy=>y.2) λy=>absurd h (Nat.not_lt.mpr y),λx=>.inl ⟨h,x⟩⟩
theorem HH{h':Heap}{k:Nat}(e: ∀b o,W.h.get? b=some o→h'.get? b=some o)(hs:W.h.objs.size≤h'.objs.size):AS X F W (W.call h' k):=.keeps e rfl GQ hs
theorem NV{h':Heap}{k:Nat}(g:Gd X W H)(e: ∀b o,W.h.get? b=some o→h'.get? b=some o)(hs:W.h.objs.size≤h'.objs.size):Gd X (W.call h' k) H:=g.keeps e rfl GQ hs rfl rfl
theorem F3(g:Gd X W H){a:Addr}(h:W.h.objs.size≤a):X.base.get? a=none:=by
 cases e:X.base.get? a with
 |none=>rfl
 |some o=>exact absurd (vI (g.base a o e).1) (Nat.not_lt.mpr h)
theorem O4{W₁:Wd}{h':Heap}{k:Nat}{a:Addr}(g:Gd X W H)(e:W₁.h.objs.size≤W.h.objs.size)(h:W.h.objs.size≤a):Gu X W₁ (W.call h' k) a:=⟨u5 e h,λq=>absurd (β_lt g q) (Nat.not_lt.mpr h),F3 g h,.inr h⟩
theorem Gu.call{h':Heap}{k:Nat}{a:Addr}(z:Gu X W₀ W a)(h:a<W.h.objs.size):Gu X W₀ (W.call h' k) a:=⟨z.ge,z.nb,z.base,(GQ a h).mpr z.isN⟩
structure Lv (fr:List Addr) (z:Addr→Prop) (h h':Heap):Prop where
 keep: ∀b o,h.get? b=some o→¬z b→b∉fr→h'.get? b=some o
 slots: ∀b o,h.get? b=some o→¬z b→∃sl,h'.get? b=some {o with slots:=sl}
 size:h.objs.size≤h'.objs.size
inductive SD (h h':Heap) (e:Addr) (oe:Obj):Prop
 |mk {T:Addr} {oe' oT:Obj} {vs' ts:Array Value}:h'.get? e=some oe'→oe'.cls=oe.cls→oe'.data=.fields vs'→vs'[1]?=some (.ref T)→h.objs.size≤T→h'.get? T=some oT→oT.data=.fields ts→ts[3]?=some .none→SD h h' e oe
theorem N5{M:fg}{E:Value→Shared→Prop}{s:Shared}{base:Heap}{env:Env}{u:List Env}{L e:Addr}{oe:Obj}{vs:Array Value}{head:Value}{D:Bool}{Q:Unit→Shared→Prop}
  (hfr:A.frames=some (env::u)) (hl:s.heap.FunFrames base (env::u)) (hf:env.frame=some L) (Z:s.heap.get? e=some oe) (hd:oe.data=.fields vs) (hsz:1<vs.size)
  (h: ∀h',Lv ((env::u).filterMap (·.frame)) (· =e) s.heap h'→SD s.heap h' e oe→Q () {s with heap:=h'}):
  wpAny M A (do let a←frameOf env;let pl←entryPlaceOf L D;let b←EntryCells.newEntry head a .none (bv L) .none pl;setField (.ref e) 1 b) (λ_ s'=>wpAny M A (fj (.ref e) none) Q E s') E s:=by
 have Y:e∉(env::u).filterMap (·.frame):=λhm=>by
  obtain⟨_,o,ho,U⟩:=hl.mem hm
  rw[Z] at ho;cases ho
  exact U vs hd
 refine u0 (wpAny_frameOf_fun hfr hl hf λh₁ hs₁=>?_)
 refine u0 (wpAny_entryPlaceOf λpl hpl=>?_)
 unfold EntryCells.newEntry newFields
 refine u0 (y7 ?_ (hpl.sizeOk5 _ _ _ _ _))
 have he₁:h₁.get? e=some oe:=(hs₁.2.1 e Y).trans Z
 generalize S:({cls:=.type "traceback",dict:=none,data:=.fields ([head,.ref L,.none,bv L,.none]++(if pl.isEmpty then v9 6 wJ else pl)).toArray}:Obj)=ob
 have B:ob.data=.fields ([head,.ref L,.none,bv L,.none]++(if pl.isEmpty then v9 6 wJ else pl)).toArray:=by rw[←S]
 have he₂:(h₁.push ob).get? e=some oe:=vE _ he₁
 refine zF he₂ hd hsz ?_
 have I:h₁.objs.size≠e:=y6 (vI he₁)
 have hd₃:=zJ hd (·.setIfInBounds 1 (xS h₁.objs.size))
 have he₃:=w4 (yH (·.setIfInBounds 1 (xS h₁.objs.size))) he₂ (zP hd₃)
 have hT₂:(h₁.push ob).get? h₁.objs.size=some ob:=vO h₁ (zP B)
 have hT₃:=(x6 (h₁.push ob) (yH (·.setIfInBounds 1 (xS h₁.objs.size))) (z4 I)).trans hT₂
 unfold fj
 refine u0 (yI he₃ hd₃ (x:=.ref h₁.objs.size) (by simp[hsz]) ?_)
 rw[if_pos (show(xS h₁.objs.size !=wJ)=true from by simp)]
 refine zF hT₃ B (by simp only[vV,wY,xD,oo]<;>omega) (h _ ?_ ?_)
 ·have up: ∀b o,b≠e→h₁.get? b=some o→(((h₁.push ob).update e (yH (·.setIfInBounds 1 (xS h₁.objs.size)))).update h₁.objs.size
    (yH (·.setIfInBounds 3 ((none:Option Addr).elim wJ λf=>bv f)))).get? b=some o:=λb o O hb=>by
   rw[x6 _ _ (y6 (vI hb)),x6 _ _ (z4 O)]
   exact vE _ hb
  refine⟨λb o hb J hn=>up b o J ((hs₁.2.1 b hn).trans hb),λb o hb J=>?_,?_⟩
  ·obtain⟨sl,hs⟩:=hs₁.2.2 b o hb
   exact⟨sl,up b _ J hs⟩
  ·rw[xF,xF,wO,hs₁.1];exact w9 _
 ·refine .mk ((x6 _ _ I).trans he₃) (mf _ _) hd₃ (by simp[hsz]) (by rw[hs₁.1];exact vJ _) (w4 _ hT₃ (zP (zJ B _))) (zJ B _) ?_
  rw[Array.getElem?_setIfInBounds]
  simp
structure tM (X:Cx) (W:Wd) (b:Addr):Prop where
 base:X.base.get? b=none
 nb:b∉W.β
 isN:W.N b
 o: ∃o,W.h.get? b=some o∧MJ o
theorem Ru{l:List Env}(fo:GH X W l){b:Addr}(hb:b∈l.filterMap (·.frame)):tM X W b:=by
 obtain⟨e,h1,h2⟩:=List.mem_filterMap.mp hb
 obtain⟨_,L',o,q1,q2,q3,q4,q5,q6⟩:=fo e h1
 cases q1.symm.trans h2
 exact⟨q2,q5,q6,o,q3,q4⟩
theorem dP{l:List Env}{z:Addr→Prop}{h':Heap}{k:Nat}(g:Gd X W H)(fo:GH X W l)(e: ∀b,z b→Gu X W₀ W b)(u:Lv (l.filterMap (·.frame)) z W.h h'):Gd X (W.call h' k) H:=by
 have m:A5 W (W.call h' k):=⟨λb o q=>⟨u.keep b o q.1 (λc=>q.2 (e b c).isN) λc=>q.2 (Ru fo c).isN,λn=>q.2 ((GQ b (vI q.1)).mp n)⟩,[],(vX _).symm⟩
 refine⟨g.gens,g.os,λb o q=>?_,g.nodup,g.len,λa B=>(GQ a (β_lt g B)).mpr (g.isN a B),λi ao b q1 q2=>?_⟩
 ·have y:=g.base b o q
  exact⟨u.keep b o y.1 (λc=>Ar ((e b c).base.symm.trans q)) (λc=>Ar ((Ru fo c).base.symm.trans q)),λn=>y.2 ((GQ b (vI y.1)).mp n)⟩
 ·have hb:=wG q2
  exact(g.objs i ao b q1 q2).more m λo y=>u.keep b o y (λc=>(e b c).nb hb) λc=>(Ru fo c).nb hb
theorem VN{l:List Env}{z:Addr→Prop}{h':Heap}{k:Nat}(u:AS X F W₀ W)(fo:GH X W l)(O: ∀b,z b→Gu X W₀ W b)(D:Lv (l.filterMap (·.frame)) z W.h h'):AS X F W₀ (W.call h' k):=by
 have nz: ∀a,a<W₀.h.objs.size→¬z a:=λa e c=>absurd e (Nat.not_lt.mpr (O a c).ge)
 refine⟨λa o q hb J=>?_,λa o q hb d=>?_,u.β,u.new,λa e=>(GQ a (vS e u.size)).trans (u.N a e),u5 u.size D.size⟩
 ·have e:=vI q
  rcases u.keep a o q hb J with y|⟨Q,y1,y2,sl,y⟩
  ·by_cases B:a∈l.filterMap (·.frame)
   ·have f:=Ru fo B
    obtain⟨o',q4,q5⟩:=f.o
    cases y.symm.trans q4
    exact .inr ⟨q5,(u.N a e).mp f.isN,f.base,D.slots a o y (nz a e)⟩
   ·exact .inl (D.keep a o y (nz a e) B)
  ·obtain⟨I,hs⟩:=D.slots a _ y (nz a e)
   exact .inr ⟨Q,y1,y2,I,hs⟩
 ·obtain⟨o',y,d'⟩:=u.dicts a o q hb d
  obtain⟨sl,hs⟩:=D.slots a o' y (nz a (vI q))
  exact⟨_,hs,d'⟩
theorem Yi{h h':Heap}{k:Nat}{c:Str}{e C:Addr}{oe:Obj}(g:Gd X W H)(Q:W₀.h.objs.size≤W.h.objs.size)(D:h.objs.size=W.h.objs.size)(z:Gu X W₀ W e)(S:X.exc c=some C)(Y:W.h.get? e=some oe)(B:oe.cls=.ref C)(tl:SD h h' e oe):VD X W₀ (W.call h' k) c (.ref e):=by
 induction tl using SD.casesOn with
 |mk t1 t2 O J I t7 U Z=>
  have u:=vI Y
  exact .mk (z.call u) S t1 (t2.trans B) O J (.tb (O4 g Q (D▸I)) (λq=>absurd u (Nat.not_lt.mpr (q▸D▸I))) t7 U Z)
theorem Of{k:Str}{x:Value}{env:Env}{u:List Env}(g:Gd X W H)(f:VD X W₀ W k x)(hfr:A.frames=some (env::u))(fo:GH X W (env::u)){E:Value→Shared→Prop}{Q:Unit→Shared→Prop}(Y:AS X F W₀ W)
  (h: ∀W',AS X F W₀ W'→Gd X W' H→VD X W₀ W' k x→Q () W'.s):wpAny (model X.prog X.w) A (qy x env) (λ_ s'=>wpAny (model X.prog X.w) A (fj x none) Q E s') E W.s:=by
 obtain⟨hk,L,oL,hf,_⟩:=fo env (.head _)
 have hl:W.s.heap.FunFrames X.base (env::u):=fo.fun
 cases f with
 | @mk e C oe vs v n h2 J h5 U Z t=>
  unfold qy
  simp only[hf]
  cases t with
  |none=>
   refine u0 (yI J U Z ?_)
   rw[if_neg (by decide)]
   have D: ∀b,b=e→Gu X W₀ W b:=λb hb=>hb▸n
   exact N5 hfr hl hf J U (Array.getElem?_eq_some_iff.mp Z).1 λh' O tl=>h _ (VN Y fo D O) (dP g fo D O) (Yi (k:=W.s.toks) g Y.size rfl n h2 J h5 tl)
  | @tb T oT ts nT a3 a6 a7 a8=>
   refine u0 (yI J U Z ?_)
   rw[if_pos (show(xS T !=wJ)=true from rfl)]
   refine u0 (yI a6 a7 a8 ?_)
   rw[if_neg (show¬((wJ==bv L)=true)from by simp[bv])]
   refine u0 (zF a6 a7 (Array.getElem?_eq_some_iff.mp a8).1 ?_)
   have B: ∀b,b≠T→(W.s.heap.update T (yH (·.setIfInBounds 3 wJ))).get? b=W.s.heap.get? b:=λb hb=>x6 _ _ (z4 hb)
   have noT: ∀b o,W.s.heap.get? b=some o→(∀vs,o.data≠.fields vs)→b≠T:=λb o hb I q=>I ts (by cases(q▸hb).symm.trans a6;exact a7)
   have hsz:(W.s.heap.update T (yH (·.setIfInBounds 3 wJ))).objs.size=W.h.objs.size:=xF ..
   have D: ∀b,(b=e∨b=T)→Gu X W₀ W b:=λb hb=>hb.elim (λq=>q▸n) λq=>q▸nT
   refine N5 hfr (hl.of_keeps λb o hb I=>⟨o,(B b (noT b o hb I)).trans hb,rfl⟩) hf ((B e (z4 a3)).trans J) U (Array.getElem?_eq_some_iff.mp Z).1 λh' O tl=>?_
   have S:Lv ((env::u).filterMap (·.frame)) (λb=>b=e∨b=T) W.h h':=⟨λb o y D hn=>O.keep b o ((B b λq=>D (.inr q)).trans y) (λq=>D (.inl q)) hn,λb o y D=>O.slots b o ((B b λq=>D (.inr q)).trans y) λq=>D (.inl q),hsz▸O.size⟩
   exact h _ (VN Y fo D S) (dP g fo D S) (Yi (k:=W.s.toks) g Y.size hsz n h2 J h5 tl)
theorem Od{k:Str}{x:Value}{env:Env}{e:List Env}(g:Gd X W H)(f:VD X W₀ W k x)(hfr:A.frames=some (env::e))(fo:GH X W (env::e)){E:Value→Shared→Prop}{Q:Unit→Shared→Prop}(u:AS X F W₀ W)
  (h: ∀W',AS X F W₀ W'→Gd X W' H→VD X W₀ W' k x→Q () W'.s):wpAny (model X.prog X.w) A (PySem.leaving env x) Q E W.s:=by
 unfold PySem.leaving
 exact u0 (Of g f hfr fo u h)
end
theorem V2{f:Str×Value→List (Str×Value)→Sem (ForInStep (List (Str×Value)))}(hf: ∀p sl,f p sl=if(sl.lookup p.1).isNone then pure (.yield (sl++[p]))else pure (.yield sl)){xs:List (Str×Value)}(D:(xs.map (·.1)).Nodup):
  ∀S,∃B,forIn xs S f=pure B∧(∀x v,S.lookup x=some v→B.lookup x=some v)∧∀p∈xs,S.lookup p.1=none→B.lookup p.1=some p.2:=by
 induction xs with
 |nil=>exactλS=>⟨S,rfl,λ_ _ h=>h,λ_ h=>nomatch h⟩
 |cons p xs I=>
  intro S
  have D:=List.nodup_cons.mp D
  rw[yX,hf]
  cases h:S.lookup p.1 with
  |some w=>
   obtain⟨B,h1,h2,h3⟩:=I D.2 S
   exact⟨B,(congrArg (Bind.bind · _) (if_neg (λq=>nomatch q))).trans ((pure_bind _ _).trans h1),h2,λq u hl=>(List.mem_cons.mp u).elim (λe=>Ar ((e▸hl).symm.trans h)) λu=>h3 q u hl⟩
  |none=>
   obtain⟨B,h1,h2,h3⟩:=I D.2 (S++[p])
   refine⟨B,(congrArg (Bind.bind · _) (if_pos rfl)).trans ((pure_bind _ _).trans h1),λx v J=>h2 x v ?_,λq u hl=>(List.mem_cons.mp u).elim (λe=>e▸h2 _ _ ?_) λu=>h3 q u ?_⟩
   ·rw[xR,J];rfl
   ·rw[xR,h];exact Bd.trans (if_pos rfl)
   ·rw[xR,hl];exact Bd.trans (if_neg λe=>D.1 (List.mem_map.mpr ⟨q,u,e⟩))
theorem Iw{x:Str}{xs:List Str}: ∀{vals:List Value},x∉xs.take vals.length→(xs.zip vals).lookup x=none:=by
 induction xs with
 |nil=>exactλ_=>rfl
 |cons y xs u=>intro vals h;induction vals using u6 with
  |nil=>rfl
  |cons v vals=>exact Bd.trans ((if_neg λe=>h (List.mem_cons.mpr (.inl e))).trans (u λq=>h (.tail _ q)))
theorem Tu{names:List Str}{vals I:List Value}{k m:Nat}(e:vals.length≤names.length)(hm:k+m=vals.length){p:Str×Value}(hp:p∈names.zip (vals++I.drop m)):p∈names.zip vals∨(p.1∈names.drop vals.length∧p∈(names.drop k).zip I):=by
 have u:(names.take vals.length).length=vals.length:=bq e
 have e1: ∀ws:List Value,names.zip (vals++ws)=(names.take vals.length).zip vals++(names.drop vals.length).zip ws:=λws=>by
  rw[←om u,zR]
 rw[e1] at hp
 rcases List.mem_append.mp hp with hp|hp
 ·left
  have:=e1 []
  rw[vX,ky,vX] at this
  exact this▸hp
 ·right
  refine⟨(ak (a:=p.1) (b:=p.2) hp).1,List.mem_of_mem_drop (i:=m) ?_⟩
  rw[List.zip,List.drop_zipWith,qc,hm]
  exact hp
theorem t9{a b c:Nat}(h1:a≤c)(e:c≤a+b)(h3:b≤c):(c-b)+(a+b-c)=a:=by omega
theorem uO{a b c:Nat}(h1:a≤c)(e:c≤a+b)(h3:b≤c):a+(b-(a+b-c))=c:=by omega
theorem Ui{s:Shared}{fd:lm}{args:List Arg}{dfl:List Expr}{items:Array Value}(hp:fd.params=⟨[],args,none,[],[],none,dfl⟩)(hd:(fd.defaults=.none∧items= #[])∨∃T o n,fd.defaults=.ref T∧s.heap.get? T=some o∧o.data=.seq items n)(D:(args.map (·.arg)).Nodup){vals:List Value}(h1:vals.length≤args.length)(O:args.length≤vals.length+items.toList.length)(h3:items.toList.length≤args.length):
  BindsTo s fd ⟨vals,[]⟩ ((args.map (·.arg)).zip (vals++items.toList.drop (vals.length+items.toList.length-args.length))):=by
 have e:(args.map (·.arg)).length=args.length:=vB _
 intro M A E Q hq
 have rest: ∀(k:Option (Array Value)→Sem (List (Str×Value))),(∀o,((o.getD #[]:Array Value))=items→k o=pure ((args.map (·.arg)).zip (vals++items.toList.drop (vals.length+items.toList.length-args.length))))→wpAny M A (qx fd.defaults>>=k) Q E s:=by
  intro k J
  rcases hd with⟨hd,he⟩|⟨T,o,n,hd,ho,hs⟩
  ·rw[hd]
   exact u0 (m:=pure none) (u8 (J none he.symm▸u8 hq))
  ·rw[hd]
   exact u0 (ji ho hs (J (some items) rfl▸u8 hq))
 unfold bindArgs
 rw[hp]
 refine rest _ λo ho=>?_
 rw[ho]
 generalize hI:items.toList=I at O h3⊢
 have u:I.drop (I.length-(args.map (·.arg)).length)=I:=by rw[e,Nat.sub_eq_zero_of_le h3];rfl
 show(if(decide (vals.length>(args.map (·.arg)).length)&&true)=true then _ else _)=_
 refine(if_neg (by rw[decide_eq_false (Nat.not_lt.mpr (e▸h1))];exact vF)).trans ?_
 generalize args.map (·.arg)=names at D e u⊢
 have h1:vals.length≤names.length:=e▸h1
 have J:names.length-I.length≤vals.length:=Nat.sub_le_iff_le_add.mpr (e▸O)
 have B:(names.take (names.length-(I.drop (I.length-names.length)).length)).filter (λn=>((names.zip vals).lookup n).isNone)=[]:=by
  rw[u,List.filter_eq_nil_iff]
  intro x S q
  have S:=List.take_subset_take_left names J S
  have e1:names.zip vals=(names.take vals.length).zip vals:=by
   have e2:(names.take vals.length++names.drop vals.length).zip (vals++[])=(names.take vals.length).zip vals++(names.drop vals.length).zip []:=om (bq h1)
   rwa [zR,vX,ky,vX] at e2
  have:=Ir (vals:=vals) (bq h1) x S
  rw[←e1] at this
  rw[Option.isNone_iff_eq_none.mp q] at this
  exact nomatch this
 refine(if_neg (c:=(!(ny (λn=>((names.zip vals).lookup n).isNone) (names.take (names.length-(I.drop (I.length-names.length)).length))).isEmpty)=true) (by rw[B];exact vF)).trans ?_
 have U:((names.drop (names.length-I.length)).zip I).map (·.1)=names.drop (names.length-I.length):=fv (by rw[nj];exact vH (ng (e▸h3)))
 obtain⟨Y,e1,e2,e3⟩:=V2 (f:=λp sl=>if(sl.lookup p.1).isNone then pure (.yield (sl++[p]))else pure (.yield sl)) (λ_ _=>rfl) (U.symm▸D.sublist (List.drop_sublist _ names)) (names.zip vals)
 have Z:forIn ((names.drop (names.length-(I.drop (I.length-names.length)).length)).zip (I.drop (I.length-names.length))) (names.zip vals) (λp sl=>if(sl.lookup p.1).isNone then pure (.yield (sl++[p]))else pure (.yield sl))=(pure Y:Sem _):=by rw[u];exact e1
 refine(congrArg (Bind.bind · _) Z).trans ((pure_bind _ _).trans ?_)
 refine congrArg (pure (f:=Sem)) ((congrArg (List.filterMap _) (vX names)).trans (Kc ?_ λp hp=>?_))
 ·rw[wY,nj,e];exact(uO (c:=args.length) (e▸h1) O h3).symm
 ·rcases Tu (k:=names.length-I.length) h1 (e.symm▸t9 (c:=args.length) (e▸h1) O h3) hp with h|⟨h,h'⟩
  ·exact e2 _ _ (Yw D p h)
  ·refine e3 p h' (Iw λq=>?_)
   rw[←zR vals.length names] at D
   exact(List.nodup_append.mp D).2.2 p.1 q p.1 h rfl
inductive pH (X:Cx) (W:Wd) (ks:List Str) (l:List AV) (dx:Addr):Prop
 |mk {es:List DictEntry} {nn:Nat} {sl:Array (Option Value)} {cs:List Value}:W.h.get? dx=some (CK es nn sl)→An X.w.params ks cs es→AN X W l cs→pH X W ks l dx
structure HZ (X:Cx) (W:Wd) (x C dx:Addr) (f:BC):Prop where
 ox:W.fz x (instObj C dx)
 od:pH X W f.1 f.2 dx
 dN:W.N dx
 db:dx∉W.β
 dB:X.base.get? dx=none
 keys: ∀k∈f.1,findIn X.K (.ref C) k=some none
noncomputable def Yr(W:Wd)(env:Env)(x:Addr):Prop:=env.kindOf AD=some .local∧∃m,W.h.Ns env.locals m∧m AD=some (.ref x)
section
variable{X:Cx}{Γ:Ctx}{n:Nat}{A:Around}{F P:Addr→Prop}{W W₀ W':Wd}{H:AH}{sc sc':Scope}{env:Env}{ρ:AE}{nl:Bool}{x C dx:Addr}{f f':BC}
theorem HZ.ext(o:HZ X W x C dx f)(e:AS X F W W')(m:A5 W W')(u: ¬F dx):HZ X W' x C dx f:=by
 obtain⟨h1,h2,h3⟩:=o.od
 refine⟨m.fz _ _ o.ox,?_,(e.N _ (vI h1)).mpr o.dN,e.nb (vI h1) o.db,o.dB,o.keys⟩
 rcases e.keep dx _ h1 o.db u with q|⟨_,_,_,sl',q⟩
 ·exact .mk q h2 (AN.more m h3)
 ·exact .mk q h2 (AN.more m h3)
theorem VC{P:wR}{k:Str}{t:Tok}{c:Value}{ks:List Str}{cs:List Value}{es:List DictEntry}(f:An P ks cs es):k∉ks→An P (ks++[k]) (cs++[c]) (mq k (wI P k) (.str k t) c es):=
 An.ind (Q:=λks cs es=>k∉ks→An P (ks++[k]) (cs++[c]) (mq k (wI P k) (.str k t) c es)) (λ_=>⟨⟨t,rfl⟩,rfl,rfl,trivial⟩) (λ{_ _ _ _ _ _ t'} f1 f2 f3 _ u e=>by
  rw[LI f1,if_neg λq=>e (List.mem_cons.mpr (.inl q))]
  exact⟨⟨t',f1⟩,f2,f3,u λq=>e (.tail _ q)⟩) f
theorem Xt{k:Str}{v:AV}(hf:Ih f k v=some f'):k∉f.1∧f.1.length≤900∧(f.1++[k],f.2++[v])=f':=by
 revert hf
 show(if k∈f.1∨900<f.1.length then uZ else some (f.1++[k],f.2++[v]))=some f'→_
 by_cases h:k∈f.1∨900<f.1.length
 ·rw[if_pos h];exact Ar
 ·rw[if_neg h];exactλq=>⟨λa=>h (.inl a),Nat.le_of_not_lt λa=>h (.inr a),u7 q⟩
theorem aO(ok:AX X)(cf:NE X.K C)(g:Gd X W H)(o:HZ X W x C dx f){k:Str}{v:AV}{c:Value}(B:findIn X.K (.ref C) k=some none)(hf:Ih f k v=some f')(D:VR X W v c){Q:Unit→Shared→Prop}{E:Value→Shared→Prop}
  (h: ∀h' tk,xC dx W.h h'→AS X (λb=>b=dx) W (W.put h' tk)→Gd X (W.put h' tk) H→A5 W (W.put h' tk)→HZ X (W.put h' tk) x C dx f'→Q () (W.put h' tk).s):wpAny (model X.prog X.w) A (ow (.ref x) k c) Q E W.s:=by
 obtain @⟨es,nn,sl,cs,h1,u,h3⟩:=o.od
 obtain⟨e,hn2,rfl⟩:=Xt hf
 refine LG (ok.here g) o.ox.1 h1 cf B (by rw[LW u e];rfl) (Ou u▸u5 (wH hn2) (by decide)) ?_
 have ee:=DY k (wI X.w.params k) (.str k (W.s.toks+1)) c es nn sl
 have hd:=w4 (cp k (wI X.w.params k) (.str k (W.s.toks+1)) c) h1 (by rw[ee];rfl)
 rw[ee] at hd
 have hs:=zE (h:=W.h) (a:=dx) (f:=cp k (wI X.w.params k) (.str k (W.s.toks+1)) c)
 have m:=Bj (k:=W.s.toks+2) hs o.dN
 exact h _ (W.s.toks+2) hs (Gs hs λq _ _=>⟨_,hd,_,_,rfl⟩) (D1 g hs o.dN o.db) m ⟨m.fz _ _ o.ox,.mk hd (VC u e) (AN.more m (h3.append (.cons D .nil))),o.dN,o.db,o.dB,λy hy=>(List.mem_append.mp hy).elim (o.keys y) λq=>List.mem_singleton.mp q▸B⟩
end
structure oO (X:Cx) (a:Addr) (ps:List Str) (ds:List AV) (body:List Stmt) (sc:Scope) (o:Obj) (fd:lm) (args:List Arg) (dfl:List Expr) (items:Array Value):Prop where
 f1:X.base.get? a=some o
 f2:o.data=.func fd
 f3:fd.body=.stmts body
 f4:fd.scope=sc
 f5:fd.globals=mainGlobals
 f6:fd.builtins=builtinsNs
 f7:fd.closure=[]
 f8:X.base.CodeRec fd.code fd.qualname
 f9:fd.params=⟨[],args,none,[],[],none,dfl⟩
 f10:args.map (·.arg)=ps
 f11:(fd.defaults=.none∧items= #[])∨∃T o n,fd.defaults=.ref T∧X.base.get? T=some o∧o.data=.seq items n
 f12: ∀W,AN X W ds items.toList
structure CZ (X:Cx) (a:Addr) (ps:List Str) (ds:List AV) (body:List Stmt) (sc:Scope):Prop where
 obj: ∃o fd args dfl items,oO X a ps ds body sc o fd args dfl items
 sk:pM sc
 nodup:ps.Nodup
 kinds: ∀x∈ps,sc.names.lookup x=some .local∨sc.names.lookup x=some .cell
 few:ds.length≤ps.length
structure RB (X:Cx) (n:Nat) (A:Around) (sc:Scope) (ρ:AE) (ps:List Str) (ds:List AV) (cs:List Value) (W W1:Wd) (BE:Env) (l:List Env):Prop where
 w: ∃h1 tk,W1=W.call h1 tk
 x:AS X Ab W W1
 i:BP X sc BE W1 ρ
 fe: ∀b,b<W.h.objs.size→¬FE BE b
 keep: ∀b o,W.h.get? b=some o→W1.h.get? b=some o
 m: ∃m cd,AN X W (ds.drop (cs.length+ds.length-ps.length)) cd∧W1.h.Ns BE.locals m∧∀y c,(ps.zip (cs++cd)).reverse.lookup y=some c→sc.names.lookup y=some .local→m y=some c
 ao:A9 X W1 (A.deeper BE) n
 hfr:(A.deeper BE).frames=some (BE::l)
 fr:GH X W1 (BE::l)
theorem aA{sc:Scope}{y:Str}(h:Ak sc y=true):sc.names.lookup y=some .globalImplicit:=by
 revert h
 show(match sc.names.lookup y with|some .globalImplicit=>true|_=>false)=true→_
 cases sc.names.lookup y with
 |none=>exactλh=>xE h
 |some k=>induction k using bp with
  |globalImplicit=>exactλ_=>rfl
  |_=>exactλh=>xE h
theorem jE{sc:Scope}{y:Str}(h:J2 sc y=true):sc.names.lookup y=some .local∨sc.names.lookup y=some .cell∨sc.names.lookup y=some .free:=by
 revert h
 show(match sc.names.lookup y with|some .local=>true|some .cell=>true|some .free=>true|_=>false)=true→_
 cases sc.names.lookup y with
 |none=>exactλh=>xE h
 |some k=>induction k using bp with
  | «local» =>exactλ_=>.inl rfl
  |cell=>exactλ_=>.inr (.inl rfl)
  |free=>exactλ_=>.inr (.inr rfl)
  |_=>exactλh=>xE h
theorem uL{d n:Nat}(h:d+2*(n+1)≤900):d+1+2*n≤900:=by omega
theorem uR{d n:Nat}(h:d+100*(n+1)≤9000):d+3+100*n≤9000:=by omega
section
variable{X:Cx}{Γ:Ctx}{n:Nat}{A:Around}{F P:Addr→Prop}{W W₀ W':Wd}{H:AH}{sc sc':Scope}{env:Env}{ρ:AE}{nl:Bool}{x C dx a:Addr}{f f':BC}{ps:List Str}{ds:List AV}{body:List Stmt}
theorem Ux{fd:lm}{a:Addr}{bs:List (Str×Value)}{h':Heap}{k:Nat}(g:Gd X W H)(sk:pM fd.scope)(hg:fd.globals=mainGlobals)(hb:fd.builtins=builtinsNs)
  (D: ∀b o,W.h.get? b=some o→h'.get? b=some o) (hρ: ∀y v,ρ.lookup y=some v→∃c,bs.reverse.lookup y=some c∧VR X W v c)
  (x:InCallC W.s W.h.objs.size (bindL (ck fd W.h.objs.size a).kindOf bs λ_=>none) (ck fd W.h.objs.size a).cells (bindC (ck fd W.h.objs.size a).kindOf bs λ_=>none) (W.call h' k).s):
  BP X fd.scope (ck fd W.h.objs.size a) (W.call h' k) ρ:=by
 have hns:=x.toInCall.ns
 have m:A5 W (W.call h' k):=(HH (X:=X) (F:=Ab) (k:=k) D (yD hns.lt)).more0 g
 have nb: ∀b,W.h.objs.size≤b→b∉W.β:=λb hb q=>absurd (β_lt g q) (Nat.not_lt.mpr hb)
 refine⟨⟨sk.kind,hg,hb,λy hy=>aA hy,λy hy=>⟨hy,Hd hy⟩,nb _ (vJ _),.inr (vJ _),λy c hc=>?_,_,hns,λy v hy u=>?_⟩,⟨rfl,rfl,F3 g (vJ _),?_,x.apart⟩⟩
 ·have e:=x.above y c hc
  have keys:((ck fd W.h.objs.size a).cells.map (·.1)).Nodup:=by
   show((jt (W.h.objs.size+1) fd.scope.names []).map (·.1)).Nodup
   rw[JO,yO,vX]
   exact List.pairwise_reverse.mpr (sk.keys.imp λh=>h.symm)
  exact⟨nb _ (yD e),y6 e,.inr (yD e),_,x.cell y c (M9 keys hc)⟩
 ·obtain⟨c,h2,h3⟩:=hρ y v u
  refine⟨c,VR.more m h3,?_⟩
  rcases jE hy with q|q|q
  ·exact .loc q ((Pl q).trans (by rw[h2];rfl))
  ·obtain⟨B,hca⟩:=Option.isSome_iff_exists.mp (Hd (n:=W.h.objs.size+1) q)
   have:=x.cell y B hca
   rw[WM (λz=>by cases(show some km=some .local from q.symm.trans z)),h2] at this
   exact .cell (.inl q) (sk.cd _ (mem_of_lookup q) rfl) hca this
  ·exact absurd rfl (sk.free _ (mem_of_lookup q))
 ·obtain⟨o,es,ep,h1,h2,_⟩:=hns
  exact⟨o,h1,es,ep,h2⟩
theorem X3(fo:CZ X a ps ds body sc)(g:Gd X W H){o:Obj}{fd:lm}{args:List Arg}{dfl:List Expr}{items:Array Value}(F:oO X a ps ds body sc o fd args dfl items){cs:List Value}(B:cs.length≤ps.length)(D:ps.length≤cs.length+ds.length):
  BindsTo W.s fd ⟨cs,[]⟩ (ps.zip (cs++items.toList.drop (cs.length+ds.length-ps.length))):=by
 have u:items.toList.length=ds.length:=(F.f12 W).length
 have e:args.length=ps.length:=F.f10▸(vB _).symm
 have:=Ui (s:=W.s) F.f9 (F.f11.imp id λ⟨T,o',k,q1,q2,q3⟩=>⟨T,o',k,q1,(g.base T o' q2).1,q3⟩) (F.f10.symm▸fo.nodup) (vals:=cs) (e.symm▸B) (by rw[u,e];exact D) (by rw[u,e];exact fo.few)
 rw[F.f10,u,e] at this
 exact this
set_option backward.match.sparseCases true in
theorem FM(ok:AX X)(fo:CZ X a ps ds body sc)(g:Gd X W H)(ao:A9 X W A (n+1)){cs:List Value}(J:cs.length≤ps.length)(O:ps.length≤cs.length+ds.length)
  (hρ: ∀cd,AN X W (ds.drop (cs.length+ds.length-ps.length)) cd→∀y v,ρ.lookup y=some v→∃c,(ps.zip (cs++cd)).reverse.lookup y=some c∧VR X W v c) {R:gm→Shared→Prop}
  (h: ∀W1 BE l,Gd X W1 H→RB X n A sc ρ ps ds cs W W1 BE l→
    wpAny (model X.prog X.w) (A.deeper BE) (y4 body BE) (λf s'=>R (.ok (.ret (match f with|.ret v=>v|_=>.none))) s') (λe s'=>wpAny (model X.prog X.w) (A.deeper BE) (PySem.leaving BE e) (λ_ I=>R (.error e) I) (λe' I=>R (.error e') I) s') W1.s):
  ca (model X.prog X.w) A (.call (.ref a) ⟨cs,[]⟩) R W.s:=by
 obtain⟨o,fd,args,dfl,items,F⟩:=fo.obj
 cases F.f4
 have u:=X3 fo g F J O
 generalize Y:items.toList.drop (cs.length+ds.length-ps.length)=cd at u
 have S:AN X W (ds.drop (cs.length+ds.length-ps.length)) cd:=Y▸(F.f12 W).drop _
 refine codeAny_call_function ao.room (g.base _ _ F.f1).1 F.f2 fo.sk.co fo.sk.gen F.f3 (F.f8.keeps λb o e=>(g.base b o e).1) (u _ _ _ _ ?_)
 rw[F.f7]
 refine wpAny_newFunctionEnv_cells fo.sk.kind (λx hx=>(fo.kinds x.1 (ak (a:=x.1) (b:=x.2) hx).1).imp id λq=>⟨q,Hd q⟩) λBE he s' x=>?_
 have B:=x.toInCall.keep
 refine⟨(ok.nolim.keeps λb o e=>(g.base b o e).1).keeps B,codeAny_func ?_⟩
 obtain⟨h₁,tk,hs⟩:=x.toInCall.same
 subst hs
 subst he
 have hsz:W.h.objs.size≤h₁.objs.size:=yD x.toInCall.ns.lt
 have Z:AS X Ab W (W.call h₁ tk):=HH B hsz
 have Q:BP X fd.scope (ck fd W.h.objs.size a) (W.call h₁ tk) ρ:=Ux g fo.sk F.f5 F.f6 B (hρ cd S) x
 obtain⟨l,J,O⟩:=ao.frames
 have hfr:(A.deeper (ck fd W.h.objs.size a)).frames=some (ck fd W.h.objs.size a::l):=Around.frames_deeper J
 have U:GH X (W.call h₁ tk) (ck fd W.h.objs.size a::l):=λen D=>by
  rcases List.mem_cons.mp D with rfl|D
  ·obtain⟨o',q1,q2⟩:=Q.2.fr
   exact⟨(λq=>nomatch (show ScopeKind.function=ScopeKind.module from fo.sk.kind.symm.trans q)),_,o',Q.2.frame,Q.2.base,q1,q2,Q.1.lo,Q.1.loN⟩
  ·exact(O.ext Z) en D
 exact h (W.call h₁ tk) _ l (NV g B hsz) ⟨⟨h₁,tk,rfl⟩,Z,Q,λb hb q=>q.elim (λq=>absurd hb (q▸cj _)) λ⟨y,q⟩=>absurd (x.above y b q) (Nat.not_lt.mpr (yD hb)),B,
  ⟨_,cd,S,x.toInCall.ns,λy c hy B=>(Pl B).trans (by rw[hy];rfl)⟩,⟨ao.handled,uL ao.depth,uR ao.units,_,hfr,U⟩,hfr,U⟩
theorem full_ρ{vs:List AV}{cs:List Value}(r:AN X W vs cs)(hl:cs.length=ps.length): ∀cd,AN X W (ds.drop (cs.length+ds.length-ps.length)) cd→∀y v,(ps.zip vs).reverse.lookup y=some v→∃c,(ps.zip (cs++cd)).reverse.lookup y=some c∧VR X W v c:=λcd e y v hy=>by
 rw[hl,Nat.add_sub_cancel_left,List.drop_length] at e
 rw[show cd=[] from e.out,vX]
 exact Jh r hy
theorem Qn{vs:List AV}:Bf ps [] vs=if vs.length=ps.length then some (ps.zip vs).reverse else none:=by
 unfold Bf
 by_cases h:vs.length=ps.length
 ·rw[if_pos h,if_pos ⟨vH h,vH h.symm⟩,List.drop_nil,vX]
 ·rw[if_neg h,if_neg λq=>h (zN q.1 q.2)]
theorem AC.run{e:List CS}{vs:List AV}{t:Sem Value}(h:vs.length=ps.length→AC X A F W ((Mine.Internal.execs Γ e (ps.zip vs).reverse H).bind λp H=>match p.1 with|.next=>Mine.Internal.rok .none H|.ret v=>Mine.Internal.rok v H) (A8 X) t):AC X A F W (GY Γ ⟨ps,[],e⟩ vs H) (A8 X) t:=by
 unfold GY
 dsimp only
 rw[Qn]
 by_cases hl:vs.length=ps.length
 ·rw[if_pos hl];exact h hl
 ·rw[if_neg hl];exact AC.none
set_option backward.match.sparseCases true in
theorem WA(ok:AX X)(fo:CZ X a ps ds body sc)(hb:Nn X Γ n sc nl body)(g:Gd X W H)(ao:A9 X W A (n+1)){vs:List AV}{cs:List Value}(r:AN X W vs cs):AC X A Ab W (GY Γ ⟨ps,[],LZ sc nl body⟩ vs H) (A8 X) (w8 (.ref a) cs):=AC.run λhl=>by
 have hl:cs.length=ps.length:=r.length.trans hl
 have go:=λ(Q:Value→Shared→Prop) (E:Value→Shared→Prop) h=>an (Q:=Q) (E:=E) (FM ok fo g ao (vH hl) (hl▸wM _ _) (full_ρ r hl) h)
 cases O:execs Γ (LZ sc nl body) (ps.zip vs).reverse H with
 |none=>exact AC.none
 |some z=>induction z using I5.casesOn with
  |exc k H'=>
   intro Q E hE
   refine go _ _ λW1 BE l J I=>?_
   have S:=hb.s J I.ao I.i
   rw[O] at S
   refine S _ _ λx e B D f2=>?_
   exact Od (F:=Ab) (W₀:=W) D (f2.le I.x.size) I.hfr (I.fr.ext B) ((I.x.of0.trans B).mono λb hb q=>absurd q (I.fe b hb)) λW3 x3 Y f3=>hE x W3 x3 Y f3
  |ok p H'=>
   have u: ∀v,(∀e c,qF X e p.1 c→VR X e v (match c with|.ret v=>v|_=>.none))→AC X A Ab W (rok v H') (A8 X) (w8 (.ref a) cs):=λv U Q E Z=>by
    refine go _ _ λW1 BE l J I=>?_
    have S:=hb.s J I.ao I.i
    rw[O] at S
    exact S _ _ λc e B D b2=>Z _ e ((I.x.of0.trans B).mono λb hb q=>absurd q (I.fe b hb)) D (U e c b2.2)
   obtain⟨fl,ρ'⟩:=p
   induction fl using Fl.casesOn with
   |next=>exact u .none λe c h=>by cases h;exact .none
   |ret v=>exact u v λe c h=>by cases h with|ret h=>exact h
end
structure J (X:Cx) (sc:Scope) (env:Env) (ρ:AE) (x C dx:Addr) (W:Wd) (f:BC):Prop where
 i:BP X sc env W ρ
 s:Yr W env x
 o:HZ X W x C dx f
noncomputable def HF:IS→Option Str
 |.set k _=>some k
 |.newlist k _=>some k
 |.newdict k=>some k
 |_=>none
section
variable{X:Cx}{Γ:Ctx}{n:Nat}{A:Around}{F P:Addr→Prop}{W W₀ W':Wd}{H H1 H':AH}{sc sc':Scope}{env:Env}{ρ:AE}{nl:Bool}{x C dx:Addr}{f f':BC}
theorem A9.low{m:Nat}(ao:A9 X W A n)(h:m≤n):A9 X W A m:=⟨ao.handled,u5 (cz (cx 2 h) _) ao.depth,u5 (cz (cx 100 h) _) ao.units,ao.frames⟩
theorem J.ext0(j:J X sc env ρ x C dx W f)(e:AS X Ab W W')(g:Gd X W H):J X sc env ρ x C dx W' f:=by
 refine⟨j.i.ext0 e g,⟨j.s.1,?_⟩,j.o.ext e (e.more0 g) λq=>q⟩
 obtain⟨m,h1,h2⟩:=j.s.2
 exact⟨m,e.ns h1 j.i.1.lo λq=>q,h2⟩
theorem F5(ok:AX X)(cf:NE X.K C){e:Expr}{k:Str}{p1 p2 p3:Pos}{v:AV}(hn: ∀t k env,swapsWith e t k env=pure false)(S:AC X A Ab W (rok v H1) (A8 X) (eval e env))(j:J X sc env ρ x C dx W f)(g:Gd X W H)(B: ∀a,FE env a→a≠dx)(hk:findIn X.K (.ref C) k=some none)(hf:Ih f k v=some f')
  {Q:fc→Shared→Prop} {E:Value→Shared→Prop} (O: ∀W',AS X (λb=>b=dx) W W'→Gd X W' H1→J X sc env ρ x C dx W' f'→Q .next W'.s):wpAny (model X.prog X.w) A (zB (.Assign [.Attribute (.Name AD p1) k p2] e p3) env) Q E W.s:=by
 rw[ct]
 refine u0 (vT ?_)
 show wpAny _ _ (swapsWith e (some (.Attribute (.Name AD p1) k p2)) p3.line env>>= λsw=>if sw=true then(ef e env λv=>ai v ((wS [.Attribute (.Name AD p1) k p2] env).map (·.2)))>>= λ_=>pure .next else Iz (.Attribute (.Name AD p1) k p2) e env) Q E W.s
 rw[hn,pure_bind,if_neg vF]
 refine u0 (S _ _ λc W1 U g1 r1=>?_)
 show wpAny _ _ (assign (.Attribute (.Name AD p1) k p2) env c>>= λ_=>pure jw) Q E W1.s
 refine u0 ?_
 rw[IL]
 have u:=j.ext0 U g
 obtain⟨m,D,hm2⟩:=u.s.2
 refine u0 (wE ?_)
 rw[ba env AD p1 (by decide+kernel)]
 refine u0 (vT (xT u.i.1.kind u.s.1 D hm2 (u0 (vT (u0 (wE (aO ok cf g1 u.o hk hf r1 λh' tk hs x2 Y m2 o2=>?_)))))))
 have I:env.locals≠dx:=B _ (.inl rfl)
 exact ej (u8 (O _ (U.of0.trans x2) Y ⟨⟨u.i.1.same hs u.o.dN I.symm λy a Z=>B a (.inr ⟨y,Z⟩),u.i.2.same hs I.symm⟩,⟨u.s.1,m,D.sameBut hs I,hm2⟩,o2⟩))
structure n8 (X:Cx) (m:Nat) (C:Addr) (c:Str) (vs:List AV) (f f':BC) (H H':AH) (Cb:Addr) (mc:Value) (fb:Addr):Prop where
 s1:gv X c=some (.ref Cb)
 s2:readsIn X.K Cb mc=true
 s3:findCls X.K (.ref Cb) mc "__init__"=some (.val (.ref fb))
 s4:handedIn (.ref fb)=true
 s5:keepIn X.K (.ref fb)=true
 s6:specialIn X.K (.ref Cb) "__getattribute__"=some (some (.builtin "type.__getattribute__"))
 s7: ∀{W:Wd} {A:Around} {x dx:Addr} {cs:List Value} {Q:Value→Shared→Prop} {E:Value→Shared→Prop},Gd X W H→A9 X W A m→HZ X W x C dx f→AN X W vs cs→(∀W',AS X (λb=>b=dx) W W'→Gd X W' H'→A5 W W'→HZ X W' x C dx f'→Q .none W'.s)→
   wpAny (model X.prog X.w) A (w8 (.ref fb) (.ref x::cs)) Q E W.s
noncomputable def LC(X:Cx)(m:Nat)(C:Addr)(sup:Str→List AV→BC→AH→R BC):Prop:=∀{c:Str} {vs:List AV} {f f':BC} {H H':AH},sup c vs f H=some (.ok f' H')→∃Cb mc fb,n8 X m C c vs f f' H H' Cb mc fb
theorem J.extD(j:J X sc env ρ x C dx W f)(u:AS X (λb=>b=dx) W W')(g:Gd X W H)(m:A5 W W')(e: ∀a,FE env a→a≠dx)(o:HZ X W' x C dx f'):J X sc env ρ x C dx W' f':=by
 obtain⟨B,h1,h2⟩:=j.s.2
 exact⟨⟨j.i.1.ext u g (λq=>e _ (.inl rfl) q) (λy a D q=>e a (.inr ⟨y,D⟩) q) m,j.i.2.ext u j.i.1⟩,⟨j.s.1,B,u.ns h1 j.i.1.lo (e _ (.inl rfl)),h2⟩,o⟩
structure dC (sc:Scope) (c:Str) (as:List Expr) (ap q:Pos):Prop where
 hg:Ak sc c=true
 hd:(c==nm "__debug__")=false
 hl:as.length<18
 hline:(ap.endLine==q.line)=true
theorem YY(ok:AX X)(b:Aa X)(ga:AK X Γ n){sup:Str→List AV→BC→AH→R BC}{m:Nat}(hs:LC X m C sup)(Z:m≤n){c:Str}{as:List Expr}{pc ps ap q p:Pos}{vs:List AV}(j:J X sc env ρ x C dx W f)(g:Gd X W H)(ao:A9 X W A n)(O: ∀a,FE env a→a≠dx)
  (hc:dC sc c as ap q) (he:A1 Γ (DB sc as) ρ H=some (.ok vs H1)) (u:sup c vs f H1=some (.ok f' H'))
  {Q:fc→Shared→Prop} {E:Value→Shared→Prop} (U: ∀W',AS X (λb=>b=dx) W W'→Gd X W' H'→J X sc env ρ x C dx W' f'→Q .next W'.s):
  wpAny (model X.prog X.w) A (zB (.Expr (.Call (.Attribute (.Name c pc) (nm "__init__") ap) (.Name AD ps::as) [] q) p) env) Q E W.s:=by
 obtain⟨Cb,mc,fb,s⟩:=hs u
 rw[kl]
 refine u0 (vT ?_)
 rw[show cm env=false by unfold cm;rw[j.i.1.kind];rfl,if_neg vF,show swapsWith (.Call (.Attribute (.Name c pc) (nm "__init__") ap) (.Name AD ps::as) [] q) none p.line env=pure false from rfl,pure_bind,if_neg vF]
 refine u0 ?_
 rw[Dd _ _ _ _ _ _ rfl]
 refine u0 (Gk ok g j.i.1 hc.hd hc.hg s.s1 (u0 (vT ?_)))
 have hpl:(backTo q (starEach (.Name AD ps::as) env)).any (·.1)=false:=show(backTo q (starEach as env)).any (·.1)=false from EE he
 unfold yS
 rw[KQ (k:=(rb AD ps::as).length) (vS (Nat.succ_lt_succ hc.hl) (by decide)) hpl]
 refine u0 (wE ?_)
 unfold sg
 rw[if_pos rfl]
 refine method_cls (ok.here g) s.s6 (cls_value (ok.here g) s.s2 s.s3 s.s4 (u0 (je (by unfold ci;simp[hc.hline]:ci true (.Name c pc) env ap q=pure q) ?_)))
 have e:AS X Ab W (W.tok (W.s.toks+1)):=AS.tok _
 have g1:Gd X (W.tok (W.s.toks+1)) H:=g.tok _
 show wpAny _ _ _ _ _ (W.tok (W.s.toks+1)).s
 generalize W.tok (W.s.toks+1)=W1 at e g1
 have B:=j.ext0 e g
 refine jg (P:=X.K.In) (by rw[hpl];rfl) (Cf (.inr (.inr s.s5)) _) (DL hpl ?_)
 show wpAny _ _ (spliced ((false,eval (.Name AD ps) env)::backTo q (starEach as env))) _ _ _
 rw[GE]
 obtain⟨mm,Y,hm2⟩:=B.s.2
 refine u0 ?_
 rw[ba env AD ps (by decide+kernel)]
 have S:=(FO ok b ga sc as).es (pos:=q) g1 (ao.ext e) B.i.1
 rw[he] at S
 refine u0 (vT (xT B.i.1.kind B.s.1 Y hm2 (u0 (u8 (u0 (wE (S _ _ λcs W2 I D r2=>u8 ⟨ok.here D,?_⟩)))))))
 have j2:=B.ext0 I g1
 show wpAny _ A (w8 (.ref fb) (.ref x::cs)) _ _ _
 exact s.s7 D (((ao.ext e).ext I).low Z) j2.o r2.1 λW3 x3 g3 m3 o3=>ik (U W3 ((e.of0.trans I.of0).trans x3) g3 (j2.extD x3 D m3 O o3))
end
section
variable{X:Cx}{Γ:Ctx}{n:Nat}{A:Around}{F P:Addr→Prop}{W W₀ W':Wd}{H H1 H':AH}{sc sc':Scope}{env:Env}{ρ:AE}{nl:Bool}{x C dx:Addr}{f f':BC}
theorem Xo{a b:AV}{l:List AV}(h:DF .Mult a b=some (.list l)): ∃u i,a=.list u∧b=.int i∧(u.length≤1∧0≤i∧i≤1000)∧yE (v9 i.toNat u)=l:=by
 induction a using AV.casesOn with
 |list u=>induction b using AV.casesOn with
  |int i=>
   obtain⟨h,e⟩:=At h
   exact⟨u,i,rfl,rfl,h,(by cases e;rfl)⟩
  |_=>exact Ar h
 |int x=>induction b using AV.casesOn with
  |int y=>
   obtain⟨_,e⟩:=At h
   exact nomatch e
  |_=>exact Ar h
 |str x=>cases b<;>exact Ar h
 |_=>exact Ar h
theorem Np(ok:AX X)(b:Aa X)(ga:AK X Γ n){es:List Expr}{r:Expr}{p q:Pos}{l:List AV}(g:Gd X W H)(ao:A9 X W A n)(e:AW X W sc env ρ)(u:AF Γ (.bin .Mult (cE sc (.List es p)) (cE sc r)) ρ H=some (.ok (.list l) H1)):
  AC X A Ab W (rok (.ref H1.length) (H1++[.list l])) (A8 X) (eval (.BinOp (.List es p) .Mult r q) env):=by
 refine Gf u λa1 G1 e1 u=>Gf u λa2 Z e2 u=>?_
 have hb:DF .Mult a1 a2=some (.list l)∧Z=H1:=by
  revert u
  cases DF .Mult a1 a2 with
  |none=>exact Ar
  |some w=>exactλh=>⟨congrArg some (CW h).1,(CW h).2⟩
 obtain⟨hb,rfl⟩:=hb
 obtain⟨l0,i,rfl,rfl,hc,rfl⟩:=Xo hb
 have U:=(Ay ok b ga sc (.List es p)).e (env:=env) g ao e
 rw[e1] at U
 rw[eval_BinOp]
 intro Q E hQ
 refine u0 (U _ _ λc1 W1 D S r1=>?_)
 have O:=(Ay ok b ga sc r).e (env:=env) S (ao.ext D) (e.ext0 D g)
 rw[e2] at O
 refine u0 (wE (O _ _ λc2 W2 J I Y=>?_))
 refine Mine.Internal.SeqV.casesOn ((VR.more (J.more0 S) r1).out) λ{a vs k} hl B=>?_
 refine Mine.Internal.IntV.casesOn Y.out λt=>?_
 exact u0 (vT (pk (Vx hl.1 B hc (hQ _ _ ((D.trans J).trans G7) (Ls (k:=W2.s.toks) I (B.rep _)) (.ref (P2 I))))))
theorem OU(g:Gd X W H){p:Pos}:AC X A Ab W (rok (.ref H.length) (H++[.dict []])) (A8 X) (eval (.Dict [] [] p) env):=λQ E e=>
 wpAny_Dict_empty (e _ (W.addβ (W.h.push z5) W.s.toks W.h.objs.size) G7 (YV g Hk (Bw _ _) (vJ _) (.dict (kvs:=[]) ⟨z5,#[],0,vO _ rfl,⟨rfl,rfl,rfl⟩,rfl,(λi h=>nomatch h),.nil,.nil⟩ rfl .nil)) (.ref (P2 g)))
end
section
variable{sc:Scope}
inductive TK (sc:Scope):Stmt→Prop
 |stuck {st:Stmt}:WU sc st=.stuck→TK sc st
 |set (p1:Pos) (k:Str) (p2:Pos) (e:Expr) (p3:Pos):B3 sc AD=true→TK sc (.Assign [.Attribute (.Name AD p1) k p2] e p3)
 |base (c:Str) (pc ps ap:Pos) (as:List Expr) (q p:Pos):B3 sc AD=true→dC sc c as ap q→TK sc (.Expr (.Call (.Attribute (.Name c pc) (nm "__init__") ap) (.Name AD ps::as) [] q) p)
theorem Nh{c:Prop} [d:Decidable c]{a:IS}{P:Prop}(h1:c→P)(e:(if c then a else .stuck)=.stuck→P):P:=
 match d,e with
 |.isTrue q,_=>h1 q
 |.isFalse _,e=>e rfl
theorem bR{t e:Expr}{p:Pos}:TK sc (.Assign [t] e p):=by
 induction t using vA with
 |Attribute o x p2=>induction o using vA with
  |Name s p1=>
   refine Nh (c:=(s==AD&&B3 sc s)=true) (a:=gL sc x e) (λh=>?_) λh=>.stuck h
   have h:=Bool.and_eq_true_iff.mp h
   cases(show s=AD from eq_of_beq h.1)
   exact .set p1 x p2 e p h.2
  |_=>exact .stuck rfl
 |_=>exact .stuck rfl
theorem VT{f:Expr}{as:List Expr}{ks:List Keyword}{q p:Pos}:TK sc (.Expr (.Call f as ks q) p):=by
 induction f using vA with
 |Attribute o i ap=>induction o using vA with
  |Name c pc=>induction as using u6 with
   |nil=>exact .stuck rfl
   |cons a as=>induction a using vA with
    |Name s ps=>induction ks using u6 with
     |nil=>
      refine Nh (c:=(s==AD&&B3 sc s&&i==nm "__init__"&&Ak sc c&&!(c==nm "__debug__")&&as.length<18&&ap.endLine==q.line)=true) (a:=.base c (DB sc as)) (λh=>?_) λh=>.stuck h
      simp only[v7,beq_iff_eq,decide_eq_true_eq,v4] at h
      obtain⟨⟨⟨⟨⟨⟨rfl,h2⟩,rfl⟩,e⟩,h5⟩,h6⟩,h7⟩:=h
      exact .base c pc ps ap as q p h2 ⟨e,h5,h6,beq_iff_eq.mpr h7⟩
     |cons _ _=>exact .stuck rfl
    |_=>exact .stuck rfl
  |_=>exact .stuck rfl
 |_=>exact .stuck rfl
theorem aQ{st:Stmt}:TK sc st:=by
 induction st using zI with
 |Assign ts e p=>induction ts using u6 with
  |nil=>exact .stuck rfl
  |cons t ts=>induction ts using u6 with
   |nil=>exact bR
   |cons _ _=>exact .stuck (by induction t using vA with
    |Attribute o _ _=>cases o<;>rfl
    |_=>rfl)
 |Expr e p=>induction e using vA with
  |Call f as ks q=>exact VT
  |_=>exact .stuck rfl
 |_=>exact .stuck rfl
end
noncomputable def Wq(Γ:Ctx)(sup:Str→List AV→BC→AH→R BC)(s:IS)(ρ:AE)(f:BC)(H:AH):R BC:=match s with
  |.set x e=>(AF Γ e ρ H).bindN λv H=>rof (Ih f x v) H
  |.newlist x e=>(AF Γ e ρ H).bindN λv H=>match v with
   |.list l=>rof (Ih f x (.ref H.length)) (H++[.list l])
   |_=>uZ
  |.newdict x=>rof (Ih f x (.ref H.length)) (H++[.dict []])
  |.base c as=>(A1 Γ as ρ H).bindN λvs H=>sup c vs f H
  |.stuck=>uZ
theorem RO{α:Type}{o:Option α}{H H':AH}{a:α}(h:rof o H=some (.ok a H')):o=some a∧H=H':=by
 induction o using vN with
 |none=>exact Ar h
 |some b=>exact⟨congrArg some (CW h).1,(CW h).2⟩
section
variable{X:Cx}{Γ:Ctx}{n:Nat}{A:Around}{F P:Addr→Prop}{W W₀ W':Wd}{H H1 H':AH}{sc sc':Scope}{env:Env}{ρ:AE}{nl:Bool}{x C dx:Addr}{f f':BC}
theorem Qe{sup:Str→List AV→BC→AH→R BC}{s:IS}{r:List IS}:CR Γ sup (s::r) ρ f H=(Wq Γ sup s ρ f H).bindN λf H=>CR Γ sup r ρ f H:=by
 cases s<;>rfl
theorem ZS(ok:AX X)(b:Aa X)(ga:AK X Γ n){sup:Str→List AV→BC→AH→R BC}(cf:NE X.K C)(B: ∀a,FE env a→a≠dx){p1 p2 p3:Pos}{k:Str}{ex:Expr}(I: ∀U,HF (gL sc k ex)=some U→findIn X.K (.ref C) U=some none)
  (u:Wq Γ sup (gL sc k ex) ρ f H=some (.ok f' H')) (g:Gd X W H) (ao:A9 X W A n) (j:J X sc env ρ x C dx W f) {Q:fc→Shared→Prop} {E:Value→Shared→Prop} (D: ∀W',AS X (λb=>b=dx) W W'→Gd X W' H'→J X sc env ρ x C dx W' f'→Q .next W'.s):
  wpAny (model X.prog X.w) A (zB (.Assign [.Attribute (.Name AD p1) k p2] ex p3) env) Q E W.s:=by
 cases NB ex with
 |pl h=>
  rw[h.iv] at u I
  refine Ax u λv H1 h1 O=>?_
  obtain⟨h3,rfl⟩:=RO O
  have S:=(Ay ok b ga sc ex).e (env:=env) g ao j.i.1
  rw[h1] at S
  exact F5 ok cf h.sw S j g B (I k rfl) h3 D
 |mul es p r q=>
  refine Ax u λv H1 h1 O=>?_
  induction v using AV.casesOn with
  |list l=>
   obtain⟨h3,rfl⟩:=RO O
   exact F5 ok cf (λ_ _ _=>rfl) (Np ok b ga g ao j.i.1 h1) j g B (I k rfl) h3 D
  |_=>exact Ar O
 |dict p=>
  obtain⟨h3,rfl⟩:=RO u
  exact F5 ok cf (λ_ _ _=>rfl) (OU g) j g B (I k rfl) h3 D
 |comp _ _ _ _=>exact Ar u
 |st _ h=>rw[h] at u;exact Ar u
theorem Xd(ok:AX X)(b:Aa X)(ga:AK X Γ n){sup:Str→List AV→BC→AH→R BC}{m:Nat}(hs:LC X m C sup)(I:m≤n)(cf:NE X.K C)(B: ∀a,FE env a→a≠dx){st:Stmt}(O: ∀k,HF (WU sc st)=some k→findIn X.K (.ref C) k=some none)
  (u:Wq Γ sup (WU sc st) ρ f H=some (.ok f' H')) (g:Gd X W H) (ao:A9 X W A n) (j:J X sc env ρ x C dx W f) {Q:fc→Shared→Prop} {E:Value→Shared→Prop} (D: ∀W',AS X (λb=>b=dx) W W'→Gd X W' H'→J X sc env ρ x C dx W' f'→Q .next W'.s):
  wpAny (model X.prog X.w) A (zB st env) Q E W.s:=by
 cases aQ (sc:=sc) (st:=st)with
 |stuck e=>rw[e] at u;exact Ar u
 |set p1 k p2 ex p3 hl=>
  have e:WU sc (.Assign [.Attribute (.Name AD p1) k p2] ex p3)=gL sc k ex:=if_pos (by rw[hl,beq_self_eq_true];rfl)
  rw[e] at u O
  exact ZS ok b ga cf B O u g ao j D
 |base c pc ps ap as q p hl hc=>
  have e:WU sc (.Expr (.Call (.Attribute (.Name c pc) (nm "__init__") ap) (.Name AD ps::as) [] q) p)=.base c (DB sc as):=if_pos (by rw[hl,hc.hg,hc.hd,hc.hline,decide_eq_true hc.hl,beq_self_eq_true];rfl)
  rw[e] at u
  exact Ax u λvs H1 h1 S=>YY ok b ga hs I j g ao B hc h1 S D
theorem Xg(ok:AX X)(b:Aa X)(ga:AK X Γ n){sup:Str→List AV→BC→AH→R BC}{m:Nat}(hs:LC X m C sup)(D:m≤n)(cf:NE X.K C)(u: ∀a,FE env a→a≠dx){Q:fc→Shared→Prop}{E:Value→Shared→Prop}{body:List Stmt}: ∀{f:BC} {H:AH} {W:Wd},(∀s∈body.map (WU sc),∀k,HF s=some k→findIn X.K (.ref C) k=some none)→
  CR Γ sup (body.map (WU sc)) ρ f H=some (.ok f' H')→Gd X W H→A9 X W A n→J X sc env ρ x C dx W f→(∀W',AS X (λb=>b=dx) W W'→Gd X W' H'→J X sc env ρ x C dx W' f'→Q .next W'.s)→wpAny (model X.prog X.w) A (y4 body env) Q E W.s:=by
 induction body with
 |nil=>
  intro f H W B e g ao j fin
  obtain⟨rfl,rfl⟩:=CW e
  exact u8 (fin W (AS.refl ..) g j)
 |cons st r S=>
  intro f H W B e g ao j fin
  rw[v8,Qe] at e
  refine Ax e λf1 H1 h1 h2=>?_
  rw[C5]
  exact u0 (Xd ok b ga hs D cf u (B _ (.head _)) h1 g ao j λW1 I g1 Z=>S (λs hs=>B s (.tail _ hs)) h2 g1 (ao.ext I) Z λW2 U O Y=>fin W2 (I.trans U) O Y)
end
theorem MD{α:Type}{x:Str}{l:List (Str×α)}(h:x∉l.map (·.1)):l.lookup x=none:=by
 induction l with
 |nil=>rfl
 |cons p l u=>exact Bd.trans ((if_neg λe=>h (List.mem_cons.mpr (.inl e))).trans (u λq=>h (.tail _ q)))
section
variable{X:Cx}{Γ:Ctx}{n:Nat}{A:Around}{F P:Addr→Prop}{W W₀ W':Wd}{H H1 H':AH}{sc sc':Scope}{env:Env}{ρ:AE}{nl:Bool}{x C dx:Addr}{f f':BC}
theorem Xh{a d p:Nat}:a+1+d-(p+1)=a+d-p:=by rw[kx,Nat.add_sub_add_right]
theorem self_ρ{ps:List Str}{ds vs:List AV}{cs:List Value}(r:AN X W vs cs): ∀cd,AN X W (ds.drop ((xS x::cs).length+ds.length-(AD::ps).length)) cd→∀y v,(ps.zip (vs++ds.drop (vs.length+ds.length-ps.length))).reverse.lookup y=some v→∃c,((AD::ps).zip (xS x::cs++cd)).reverse.lookup y=some c∧VR X W v c:=λcd e y v hy=>by
 rw[xD,xD,Xh,r.length] at e
 obtain⟨c,h2,h3⟩:=Jh (r.append e) hy
 exact⟨c,by rw[fy,xA,wP,xR,h2];rfl,h3⟩
theorem Zu{ps:List Str}{cs:List Value}(e:(AD::ps).Nodup):((AD::ps).zip (xS x::cs)).reverse.lookup AD=some (.ref x):=by
 rw[xA,wP,xR,MD,bk]
 ·exact Bd.trans (if_pos rfl)
 ·intro q
  obtain⟨p,q1,q2⟩:=List.mem_map.mp q
  exact(List.nodup_cons.mp e).1 (q2▸(ak (a:=p.1) (b:=p.2) (List.mem_reverse.mp q1)).1)
theorem Lr(ok:AX X)(b:Aa X)(ga:AK X Γ n){sup:Str→List AV→BC→AH→R BC}{m:Nat}(hs:LC X m C sup)(O:m≤n)(cf:NE X.K C){fI:Addr}{ps:List Str}{ds:List AV}{body:List Stmt}(fo:CZ X fI (AD::ps) ds body sc)(e:sc.names.lookup AD=some .local)
  (hk: ∀s∈body.map (WU sc),∀k,HF s=some k→findIn X.K (.ref C) k=some none) (g:Gd X W H) (ao:A9 X W A (n+1)) (o:HZ X W x C dx f) {vs:List AV} {cs:List Value} (r:AN X W vs cs) (hρ:Bf ps ds vs=some ρ)
  (Q:CR Γ sup (body.map (WU sc)) ρ f H=some (.ok f' H')) {R:gm→Shared→Prop} (J: ∀W',AS X (λb=>b=dx) W W'→Gd X W' H'→A5 W W'→HZ X W' x C dx f'→R (.ok (.ret .none)) W'.s):
  ca (model X.prog X.w) A (.call (.ref fI) ⟨.ref x::cs,[]⟩) R W.s:=by
 obtain⟨hl,rfl⟩:=At hρ
 rw[←r.length] at hl
 refine FM ok fo g ao (cs:=.ref x::cs) (wH hl.1) (u5 (wH hl.2) (vH (bi cs.length ds.length).symm)) (self_ρ r) λW1 BE l g1 I=>?_
 obtain⟨U,cd,_,hm1,hm2⟩:=I.m
 have B:dx<W.h.objs.size:=by obtain⟨d1,_,_⟩:=o.od;exact vI d1
 have D: ∀a,FE BE a→a≠dx:=λa Z q=>I.fe a (q▸B) Z
 have k0:Yr W1 BE x:=⟨by unfold Env.kindOf;rw[I.i.2.scope];exact e,U,hm1,hm2 _ _ (Zu fo.nodup) e⟩
 refine Xg ok b ga hs O cf D hk Q g1 I.ao ⟨I.i,k0,o.ext I.x (I.x.more0 g) λq=>q⟩ λS x2 Y j2=>?_
 have u:AS X (λb=>b=dx) W S:=I.x.of0.trans x2
 exact J S u Y (u.more g λa _ q=>q▸o.dN) j2.o
structure cP (X:Cx) (c:Str) (d:CD) (C fI:Addr) (body:List Stmt) (sc:Scope) (mc:Value):Prop where
 q1:X.cls c=some C
 q2:gv X c=some (.ref C)
 q3:keepIn X.K (.ref C)=true
 q4:makesIn X.K C=true
 q5:findIn X.K (.ref C) "__init__"=some (some (.ref fI))
 q6:typeIn X.K (.ref fI)=some (.type "function")
 q7:keepIn X.K (.ref fI)=true
 q8:CZ X fI (AD::d.ps) d.ds body sc
 q9:sc.names.lookup AD=some .local
 q10:d.body=body.map (WU sc)
 q11: ∀s∈d.body,∀k,HF s=some k→findIn X.K (.ref C) k=some none
 q12:readsIn X.K C mc=true
 q13:findCls X.K (.ref C) mc "__init__"=some (.val (.ref fI))
 q14:handedIn (.ref fI)=true
 q15:specialIn X.K (.ref C) "__getattribute__"=some (some (.builtin "type.__getattribute__"))
structure Nd (X:Cx) (c:Str) (d:CD):Prop where
 at': ∃C fI body sc mc,cP X c d C fI body sc mc
noncomputable def NX(X:Cx)(T:Pr)(C:Addr):Prop:=∀c d,T.sup c=some d→Nd X c d∧((∀s∈d.body,∀k,HF s=some k→findIn X.K (.ref C) k=some none))
theorem Vt{m:Nat}:LC X m C (λ_ _ _ _=>uZ):=λh=>Ar h
theorem tL{T:Pr}(hg: ∀x v,T.glob x=some v→∃c,gv X x=some c∧∀W,VR X W v c):AK X (fQ T) 0:=⟨hg,λf vs H _ h=>absurd rfl h,λ_ _ _ _ _=>AC.none,λh=>Ar h⟩
end
section
variable{X:Cx}{Γ:Ctx}{n:Nat}{A:Around}{F P:Addr→Prop}{W W₀ W':Wd}{H H1 H':AH}{sc sc':Scope}{env:Env}{ρ:AE}{nl:Bool}{x C dx:Addr}{f f':BC}
theorem X9{T:Pr}{c:Str}{vs:List AV}{o:I5 BC}(h:Mj T c vs f H=some o): ∃d ρ,T.sup c=some d∧Bf d.ps d.ds vs=some ρ∧CR (fQ T) (λ_ _ _ _=>uZ) d.body ρ f H=some o:=by
 revert h
 unfold Mj
 cases hd:T.sup c with
 |none=>exact Ar
 |some d=>
  dsimp only
  cases hρ:Bf d.ps d.ds vs with
  |none=>exact Ar
  |some ρ=>exactλh=>⟨d,ρ,rfl,hρ,h⟩
theorem gR(ok:AX X)(b:Aa X){T:Pr}(hg: ∀x v,T.glob x=some v→∃c,gv X x=some c∧∀W,VR X W v c)(hb:NX X T C)(cf:NE X.K C):LC X 1 C (Mj T):=by
 intro c vs f f' H H' h
 obtain⟨d,ρ,hd,hρ,h⟩:=X9 h
 obtain⟨⟨B,fI,body,sc,mc,q⟩,u⟩:=(hb c d hd).imp Nd.at' id
 rw[q.q10] at h u
 exact⟨B,mc,fI,q.q2,q.q12,q.q13,q.q14,q.q7,q.q15,λg ao o r e=>an (Lr (n:=0) ok b (tL hg) Vt (vJ 0) cf q.q8 q.q9 u g ao o r hρ h e)⟩
noncomputable def Wd.held(W:Wd)(D:Addr):Wd:={W with β:=W.β++[D]}
theorem LY{D:Addr}:A5 W (W.held D):=⟨λ_ _ h=>h,[D],rfl⟩
theorem Za{D:Addr}{ao:AO}(g:Gd X W H)(Q:W.N D)(hb:D∉W.β)(ho:OR X (W.held D) ao D):Gd X (W.held D) (H++[ao]):=by
 refine⟨g.gens,g.os,g.base,?_,?_,λa B=>?_,λi J a h1 O=>?_⟩
 ·exact List.nodup_append.mpr ⟨g.nodup,List.nodup_cons.mpr ⟨ni,dq⟩,λa B b I e=>hb (List.mem_singleton.mp I▸e▸B)⟩
 ·exact(wY (as:=W.β) (bs:=[D])).trans ((congrArg (· +1) g.len).trans (wY (as:=H) (bs:=[ao])).symm)
 ·exact(List.mem_append.mp B).elim (g.isN a) λq=>List.mem_singleton.mp q▸Q
 ·rcases FL rfl h1 with⟨hi,q1⟩|⟨hi,rfl⟩
  ·rcases FL g.len O with⟨_,q2⟩|⟨u,_⟩
   ·exact(g.objs i J a q1 q2).more LY λo e=>e
   ·exact absurd u (vR hi)
  ·rcases FL g.len O with⟨u,_⟩|⟨_,rfl⟩
   ·exact absurd hi (vR u)
   ·exact ho
theorem XX{D:Addr}(u:AS X F W₀ W)(B:W₀.h.objs.size≤D):AS X F W₀ (W.held D):=
 ⟨u.keep,u.dicts,u.β.elim λt e=>⟨t++[D],(congrArg (· ++[D]) e).trans (xK ..)⟩,λa I=>(List.mem_append.mp I).elim (u.new a) λq=>.inr (List.mem_singleton.mp q▸B),u.N,u.size⟩
theorem tP{d w n:Nat}(hw:w=1)(h:d+2*(n+2)≤900):d+w+2*(n+1)≤900:=by omega
theorem uA{d w n:Nat}(hw:w=1)(h:d+100*(n+2)≤9000):d+w+100*(n+1)≤9000:=by omega
theorem PC(A:Around)(C:Addr)(cs:List Value)(ao:A9 X W A (n+2)):A9 X W (A.under (.builtin "type.__call__" ⟨.ref C::cs,[]⟩)) (n+1):=by
 obtain⟨l,h1,h2⟩:=ao.frames
 have e:(Code.builtin "type.__call__" ⟨.ref C::cs,[]⟩).envs=[]:=by kernel_rfl
 refine⟨ao.handled,tP (by kernel_rfl) ao.depth,uA (by kernel_rfl) ao.units,l,?_,h2⟩
 show pushEnvs (Code.builtin "type.__call__" ⟨.ref C::cs,[]⟩).envs A.frames=_
 rw[e,h1];rfl
theorem b7{T:Pr}{c:Str}{d:CD}{vs:List AV}{rel:Wd→AV→Value→Prop}{t:Sem Value}(h: ∀ρ f H1,Bf d.ps d.ds vs=some ρ→CR Γ (Mj T) d.body ρ ([],[]) H=some (.ok f H1)→f.1=d.flds→AC X A F W (if d.keeps then rok (.mobj c H1.length) (H1++[.inst c f.1 f.2])else rok (.obj c f.1 f.2) H1) rel t):AC X A F W (Ej T Γ c d vs H) rel t:=by
 unfold Ej
 cases hρ:Bf d.ps d.ds vs with
 |none=>exact AC.none
 |some ρ=>
  dsimp only
  cases hi:CR Γ (Mj T) d.body ρ ([],[]) H with
  |none=>exact AC.none
  |some o=>induction o using I5.casesOn with
   |exc _ _=>exact AC.none
   |ok f H1=>exact AC.guardR λe=>h ρ f H1 hρ hi e
theorem PR(ok:AX X)(b:Aa X)(ga:AK X Γ n)(Y:1≤n){T:Pr}(hg: ∀x v,T.glob x=some v→∃c,gv X x=some c∧∀W,VR X W v c){c:Str}{d:CD}{fI:Addr}{body:List Stmt}{mc:Value}(q:cP X c d C fI body sc mc)(hb:NX X T C)(g:Gd X W H)(ao:A9 X W A (n+2)){vs:List AV}{cs:List Value}(r:AN X W vs cs)
  (hρ:Bf d.ps d.ds vs=some ρ) (hi:CR Γ (Mj T) d.body ρ ([],[]) H=some (.ok f H1)) {Q:Value→Shared→Prop} {E:Value→Shared→Prop} (Z: ∀x dx u,W.h.objs.size≤dx→AS X Ab W u→Gd X u H1→HZ X u x C dx f→Q (.ref x) u.s):wpAny (model X.prog X.w) A (w8 (.ref C) cs) Q E W.s:=by
 have cf:=ok.cls c C q.q1
 have B: ∀b o,W.h.get? b=some o→((W.h.push z5).push (instObj C W.h.objs.size)).get? b=some o:=λb o e=>vE _ (vE _ e)
 have hs:W.h.objs.size≤((W.h.push z5).push (instObj C W.h.objs.size)).objs.size:=u5 (Bw _ _) (Bw _ _)
 have hw: ∀b∈[W.h.objs.size],W.h.objs.size≤b:=λb hb=>vH (List.mem_singleton.mp hb).symm
 have D:AS X Ab W (W.vol ((W.h.push z5).push (instObj C W.h.objs.size)) W.s.toks [W.h.objs.size]):=HC B hs hw
 have g1:Gd X (W.vol ((W.h.push z5).push (instObj C W.h.objs.size)) W.s.toks [W.h.objs.size]) H:=Jo g B hs hw
 have S:((W.h.push z5).push (instObj C W.h.objs.size)).get? (W.h.objs.size+1)=some (instObj C W.h.objs.size):=wO W.h z5▸vO (W.h.push z5) (o:=instObj C W.h.objs.size) rfl
 have o1:HZ X (W.vol ((W.h.push z5).push (instObj C W.h.objs.size)) W.s.toks [W.h.objs.size]) (W.h.objs.size+1) C W.h.objs.size ([],[]):=
  ⟨⟨S,λq=>q.elim (λq=>absurd q.1 (Nat.not_lt.mpr (w9 _))) λq=>absurd (List.mem_singleton.mp q) (bw _)⟩,.mk (es:=[]) (nn:=0) (sl:= #[]) (cs:=[]) (vE _ (vO _ rfl)) trivial .nil,.inr (.head _),λq=>absurd (β_lt g q) (cj _),F3 g (vJ _),λk B=>nomatch B⟩
 have I:=Lr (R:=InitBack (W.h.objs.size+1) λr s'=>match r with|.ok (.ret v)=>Q v s'|.ok _=>False|.error e=>E e s') ok b ga (gR ok b hg hb cf) Y cf q.q8 q.q9 (q.q10▸q.q11) g1 (PC A C cs (ao.ext D)) o1 (AN.more (D.more0 g) r) hρ (q.q10▸hi) λu U J m2 o2=>
  ⟨rfl,Z _ _ u (vJ _) ((D.of0.trans U).mono λa O q=>absurd O (q▸cj _)) J o2⟩
 exact an (make_core (makes_of (ok.here g) q.q4) (gt (ok.here g) q.q5) (λself=>bind_fn (ok.here g) self q.q6) (.inl rfl) I)
theorem Z2(ok:AX X)(b:Aa X)(ga:AK X Γ n)(U:1≤n){T:Pr}(hg: ∀x v,T.glob x=some v→∃c,gv X x=some c∧∀W,VR X W v c){c:Str}{d:CD}(hc:Nd X c d)(hb: ∀C,X.cls c=some C→NX X T C)(g:Gd X W H)(ao:A9 X W A (n+2)){vs:List AV}{cs:List Value}(r:AN X W vs cs){v:Value}(Y:gv X c=some v):
  AC X A Ab W (Ej T Γ c d vs H) (A8 X) (w8 v cs):=by
 obtain⟨C,fI,body,sc,mc,q⟩:=hc.at'
 cases u7 (q.q2.symm.trans Y)
 refine b7 λρ f H1 hρ hi _=>AC.iteR (λ_ Q E S=>?_) λ_ Q E S=>?_
 ·refine PR ok b ga U hg q (hb C q.q1) g ao r hρ hi λx dx u O I e o2=>?_
  obtain⟨D,d2,d3⟩:=o2.od
  have B:(u.held dx).β[H1.length]?=some dx:=e.len▸dh
  exact S _ (u.held dx) (XX I O) (Za e o2.dN o2.db (.inst (λZ J=>by cases u7 (q.q1.symm.trans J);exact o2.keys) D d2 (AN.more LY d3))) (VR.mobj q.q1 o2.ox B)
 ·refine PR ok b ga U hg q (hb C q.q1) g ao r hρ hi λx dx u O I e o2=>?_
  obtain⟨D,d2,d3⟩:=o2.od
  exact S _ (u.frz dx) (Si I O) (Xc e o2.db) (VR.obj q.q1 o2.keys (Gg.fz _ _ o2.ox) ⟨D,λq=>q.2 rfl⟩ d2 (AN.more Gg d3))
end
end Mine.Internal
namespace Mine.Internal
open PySem PySem.W PyProof.Rows PySem.Calls Builtin
noncomputable def ZN(K:Frag)(C:Addr):Bool:=match K.lookup C with
 |some ⟨_,_,.cls cd,sl⟩=>!cd.abstract&&!cd.hasDel&& (sl.toList[4]?).join==some (.builtin "Exception.__new__")&&!cd.mro.isEmpty&&cd.mro.contains (.ref C)&&cd.mro.contains (.type "Exception")&&cd.mro.contains (.type "BaseException")&&
   !cd.mro.contains (.type "AttributeError")&&!cd.mro.contains (.type "NameError")&&specialIn K (.ref C) "__call__"==some (some (.builtin "type.__call__"))&&instIn K (.ref C) (.type "type")==some true
 |_=>false
structure FU (M:fg) (h:Heap) (C:Addr):Prop where
 obj: ∃oc od cd sl,h.get? C=some ⟨oc,od,.cls cd,sl⟩∧cd.abstract=false∧cd.hasDel=false∧cd.mro.isEmpty=false
 made:Looks M h (Bind.madeBy (.ref C)) (some "Exception.__new__")
 base:Looks M h (Bind.staticBase (.ref C)) (.ref C)
 self:Looks M h (isSubtype (.ref C) (.ref C)) true
 top:Looks M h (isSubtype (.ref C) (.type "Exception")) true
 btop:Looks M h (isSubtype (.ref C) (.type "BaseException")) true
 noA:Looks M h (isSubtype (.ref C) (.type "AttributeError")) false
 noN:Looks M h (isSubtype (.ref C) (.type "NameError")) false
 call:Looks M h (specialOf (.ref C) "__call__") (some (.builtin "type.__call__"))
 typ:Looks M h (isInstance (.ref C) (.type "type")) true
set_option tactic.hygienic true in
theorem EL{K:Frag}{M:fg}{h:Heap}(X:K.In h){C:Addr}(e:ZN K C=true):FU M h C:=by
 unfold ZN at e
 split at e
 ·rename_i oc od cd sl ho
  simp only[v7,v4,beq_iff_eq] at e
  obtain⟨⟨⟨⟨⟨⟨⟨⟨⟨⟨e1,e2⟩,e3⟩,e4⟩,e5⟩,e6⟩,e7⟩,e8⟩,e9⟩,e10⟩,e11⟩:=e
  have hc:ti K C=some cd:=by unfold ti;rw[ho]
  have hm:Looks M h (mroOf (.ref C)) cd.mro:=(jf X hc).andThen .now
  obtain⟨c,l,hl⟩: ∃c l,cd.mro=c::l:=by cases q:cd.mro with|nil=>rw[q] at e4;cases e4|cons c l=>exact⟨c,l,rfl⟩
  have made:Looks M h (Bind.madeBy (.ref C)) (some "Exception.__new__"):=by
   intro A Q E s k q
   unfold Bind.madeBy
   refine u0 (hm A _ E s k ?_)
   rw[hl,yX]
   refine u0 (u0 (u0 (u0 (zV (k _ _ (X _ _ ho)) (u8 ?_)))))
   dsimp only
   rw[←Array.getElem?_toList,e3]
   exact u8 (u8 (u8 q))
  have sub: ∀{b:Value} {r:Bool},cd.mro.contains b=r→Looks M h (isSubtype (.ref C) b) r:=λq=>sr X (by unfold mroIn;rw[hc,nf,if_neg (by rw[e4];decide),q])
  refine⟨⟨oc,od,cd,sl,X _ _ ho,e1,e2,e4⟩,made,?_,sub e5,sub e6,sub e7,sub e8,sub e9,looks_specialIn X e10,rm X e11⟩
  intro A Q E s k q
  unfold Bind.staticBase
  refine u0 (hm A _ E s k ?_)
  rw[hl,yX]
  exact u0 (u0 (u0 (made A _ E s k (u8 (u8 (u8 q))))))
 ·cases e
noncomputable abbrev Eb(vs:List Value):Obj:={cls:=.type "tuple",data:=.seq vs.toArray}
noncomputable abbrev HI(C t:Addr):Obj:={cls:=.ref C,data:=.fields #[.ref t,.none,.none,.none,.bool false,.none]}
section
variable{prog:Program}{w:World}{A:Around}{K:Frag}{C:Addr}{R:gm→Shared→Prop}{h:Heap}{g:Array GenState}{d:tm}{t:Nat}{os:OsState}
theorem bP{rest:List Value}(Y:FU (model prog w) h C)(hrest:rest.length≤yR)
  (hq:R (.ok (.ret (.ref (h.objs.size+1)))) ⟨(h.push (Eb rest)).push (HI C h.objs.size),g,d,t,os⟩):
  ca (model prog w) A (.call (.builtin "Exception.__new__") ⟨.ref C::rest,[]⟩) R ⟨h,g,d,t,os⟩:=by
 obtain⟨⟨oc,od,cd,sl,hC,e1,e2,e4⟩,made,base,self,top,btop,noA,noN,call,typ⟩:=Y
 have F:=aa
 have hends:=F.ends
 have hstar:=F.noStar
 refine codeAny_call_builtin_code (Code.quiet_builtin _ F.quiet) ?_
 simp only[ft,F.newKind,F.newSplit,F.newRow]
 repeat(first|simp only[bne_self_eq_false,vM,if_false]|lk)
 refine codeAny_builtinAt F.entry ?_
 unfold Builtin.«BaseException.__new__»
 have here:Looks (model prog w) h (Bind.madeHere "BaseException.__new__" (.ref C)) ():=base.andThen (made.andThen (ag (by simp only[aj,F.canon,bne_self_eq_false,vM,if_false])))
 refine oj ?_
 show PySem.wpAt _ _ _ (stack>>=_) _ _ _
 refine oj (PySem.wpAt_stack λp below=>jx ?_)
 wp_walk
 refine jx ?_
 rw[F.owner]
 unfold rg
 repeat(first|simp only[bne_self_eq_false,vM,if_false,eu]|lk)
 have hC1:(h.push (Eb rest)).get? C=some ⟨oc,od,.cls cd,sl⟩:=vE _ hC
 rw[if_neg (by simpa using hrest)]
 refine wpAny_newObjAsIs_type ?_
 refine u0 ?_
 unfold newObj
 dsimp only
 rw[if_neg (by simp[nt])]
 unfold newObjAsIs classHasDel
 refine u0 (sq (u0 (u0 (wpAny_load (vE _ hC1) (u8 ?_)))))
 rw[e2]
 refine u8 (u8 ?_)
 show R (.ok (.ret (.ref (h.push (Eb rest)).objs.size))) _
 rw[wO]
 exact hq
theorem WJ{rest:List Value}{init:Value}(Y:FU (model prog w) h C)(hrest:rest.length≤yR)(hi:Looks (model prog w) h (typeLookup (.ref C) "__init__") (some init))
  (hb: ∀self,Looks (model prog w) h (bindSpecial init self) (init,[self]))
  (hq:ca (model prog w) (A.under (.builtin "type.__call__" ⟨.ref C::rest,[]⟩)) (.call init ⟨.ref (h.objs.size+1)::rest,[]⟩) (InitBack (h.objs.size+1) R) ⟨(h.push (Eb rest)).push (HI C h.objs.size),g,d,t,os⟩):
  ca (model prog w) A (.call (.ref C) ⟨rest,[]⟩) R ⟨h,g,d,t,os⟩:=by
 have Y':=Y
 obtain⟨⟨oc,od,cd,sl,hC,e1,e2,e4⟩,made,base,self,top,btop,noA,noN,call,typ⟩:=Y
 refine codeAny_of_tree ?_
 show wpAny _ _ (callAny (.ref C) _) _ _ _
 refine nd_load hC ?_
 show wpAny _ _ (callAny.viaDunder (.ref C) _) _ _ _
 unfold callAny.viaDunder
 refine u0 (call.at ?_)
 dsimp only
 rw[tc_bind]
 refine u0 (u8 (u0 (u8 ?_)))
 refine u8 (a:=Fin.again (.call (.builtin "type.__call__") ⟨.ref C::rest,[]⟩)) (And.intro rfl ?_)
 refine codeAny_call_builtin_at (Code.quiet_builtin _ (by decide+kernel)) entry_typeCall (check_slot tc_kind tc_split typ (tc_args _ _ _) ?_)
 unfold Builtin.«type.__call__»
 have hm:Looks (model prog w) h (mroOf (.ref C)) cd.mro:=((jd (part:=none) hC).andThen .now).andThen .now
 repeat(first|simp only[e4,vM,if_false]|with_reducible refine an ?_|lk)
 refine bP Y' hrest ?_
 have k: ∀b o,h.get? b=some o→((h.push (Eb rest)).push (HI C h.objs.size)).get? b=some o:=λb o e=>vE _ (vE _ e)
 have hx:((h.push (Eb rest)).push (HI C h.objs.size)).get? (h.objs.size+1)=some (HI C h.objs.size):=by heap_get
 have t1:Looks (model prog w) ((h.push (Eb rest)).push (HI C h.objs.size)) (iu (.ref (h.objs.size+1))) (.ref C):=(jd hx).andThen .now
 have s1:=self.keeps k
 have i1:=hi.keeps k
 have b1:=(hb (.ref (h.objs.size+1))).keeps k
 unfold isInstance callSpecial? specialOf
 repeat(first|with_reducible refine an ?_|lk)
 refine codeAny_mono hq λr s' z=>?_
 rcases r with e|(v|_|_|_)<;>first|exact z|exact z.elim|skip
 obtain⟨rfl,z⟩:=z
 exact u8 (u8 z)
end
end Mine.Internal
namespace Mine.Internal
open PySem PySem.W PyProof.Rows PySem.Calls Builtin Builtin.ObjectAttr
inductive i9 (h:Heap) (lo x L:Addr):Option Addr→(Str→Option Value)→Prop
 |no:i9 h lo x L none (λ_=>none)
 |dict {d:Addr} {mA:Str→Option Value}:d≠x→d≠L→lo≤d→h.Ns1 d mA→i9 h lo x L (some d) mA
inductive C7 (h:Heap) (lo x C L:Addr) (vs:Array Value) (ns:List Str):Prop
 |mk {od:Option Addr} {sl:Array (Option Value)} {mA:Str→Option Value}:h.get? x=some ⟨.ref C,od,.fields vs,sl⟩→lq mA ns→lo≤x→x≠L→i9 h lo x L od mA→C7 h lo x C L vs ns
structure Q7 (lo L:Addr) (h h':Heap):Prop where
 keep: ∀b o,b<lo→h.get? b=some o→h'.get? b=some o
 fr: ∀o,h.get? L=some o→h'.get? L=some o
 size:h.objs.size≤h'.objs.size
noncomputable def Jr(K:Frag)(C M:Addr):Bool:=match ti K C with
 |some cd=>cd.hasDict&&cd.mro==[.ref C,.ref M,.type "Exception",.type "BaseException",.type "object"]
 |none=>false
section
variable{prog:Program}{w:World}{A:Around}{K:Frag}{C M x lo L:Addr}{h:Heap}{g:Array GenState}{d:tm}{t:Nat}{os:OsState}{vs:Array Value}{ns:List Str}{name:Str}{v:Value}
theorem bS(hm:Jr K C M=true): ∃cd,ti K C=some cd∧cd.hasDict=true∧cd.mro=[.ref C,.ref M,.type "Exception",.type "BaseException",.type "object"]:=by
 revert hm
 unfold Jr
 cases ti K C with
 |none=>exactλh=>xE h
 |some cd=>exactλh=>⟨cd,rfl,(Bool.and_eq_true_iff.mp h).1,eq_of_beq (Bool.and_eq_true_iff.mp h).2⟩
theorem Q1{l:List Str}{n:Nat}(h:n≤(name::l).length)(hl:l.length≤100):n≤yR:=Da (u5 h (wH hl))
theorem Sw{mA:Str→Option Value}{sl:Array (Option Value)}{dx:Addr}{tk:Tok}{P:Fin→Shared→Prop}{E:Value→Shared→Prop}{B:Around}(hx:h.get? x=some ⟨.ref C,some dx,.fields vs,sl⟩)(hw:lq mA ns)(hlx:lo≤x)(hxL:x≠L)(hdx:dx≠x)(hdL:dx≠L)(hld:lo≤dx)(hn1:h.Ns1 dx mA)(hns:ns.length≤100)
  (hq: ∀h' tk',C7 h' lo x C L vs (name::ns)→xC dx h h'→P (.done (.ret .none)) ⟨h',g,d,tk',os⟩):wpAny (model prog w) B (storeInDict dx (.str name tk) name v) P E ⟨h,g,d,t,os⟩:=by
 have wc:lq (λy=>if y=name then some v else mA y) (name::ns):=PySem.Within.cons name v hw
 unfold storeInDict newKeyGuard
 refine u0 (u8 (u0 (wpAny_nsSet1 hn1 λh' hn' hs=>?_)))
 obtain⟨oD,esD,epD,hoD,hdD,hcD⟩:=hn'.count wc
 refine u0 (mw hoD (by rw[hdD];exact nc (yM (Q1 hcD hns))) ?_)
 exact u8 (hq h' _ (.mk ((hs.2 x hdx.symm).trans hx) wc hlx hxL (.dict hdx hdL hld hn')) hs)
theorem TP{tk:Tok}{R:gm→Shared→Prop}(X₀:K.In h)(hm:Jr K C M=true)(hn:findIn K (.ref C) name=some none)(st:C7 h lo x C L vs ns)(hlo:lo≤h.objs.size)(hL:L<h.objs.size)(hns:ns.length≤100)
  (hq: ∀h' tk',C7 h' lo x C L vs (name::ns)→Q7 lo L h h'→R (.ok (.ret .none)) ⟨h',g,d,tk',os⟩):
  ca (model prog w) A (.call (.builtin "object.__setattr__") ⟨[.ref x,.str name tk,v],[]⟩) R ⟨h,g,d,t,os⟩:=by
 have SF:=PySem.F.store_object
 obtain⟨cd,hc,hhd,hmro⟩:=bS hm
 obtain @⟨od,osl,mA,hx,hw,hlx,hxL,hdict⟩:=st
 have tx:Looks (model prog w) h (iu (.ref x)) (.ref C):=(jd hx).andThen .now
 have sub:Looks (model prog w) h (isInstance (.ref x) (.type "object")) true:=tx.andThen (sr X₀ (by unfold mroIn;rw[hc,nf,hmro];rfl))
 refine jn SF.slot.plain SF.entry (@check_slot (model prog w) _ _ ⟨h,g,d,t,os⟩ "object.__setattr__" "object" "__setattr__" (.ref x) [.str name tk,v] [] _ SF.kind SF.split sub (SF.args (.ref x) (.str name tk) v) ?_)
 rw[osa_eq,refuse_eq]
 refine u0 (u0 (tx.here (u0 (((jf X₀ hc).andThen .now:Looks (model prog w) h (mroOf (.ref C)) cd.mro).here ?_))))
 rw[hmro,pu,pu,PySem.F.store_Exception.passes]
 refine u8 (u0 (tx.here (u0 ((gt X₀ hn).here (u0 ?_)))))
 refine u8 ?_
 dsimp only
 refine u0 (u8 (u0 (u0 (zV hx (u0 ((jf X₀ hc).here ?_))))))
 rw[hhd]
 cases hdict with
 |no=>
  have hxs:x≠h.objs.size:=vR (vI hx)
  refine u0 (sq (u0 (wpAny_update (vE _ hx) (u8 ?_))))
  generalize hG:(h.push {cls:=.type "dict",data:=.dict #[]}).update x (λo=>{cls:=o.cls,dict:=some h.objs.size,data:=o.data,slots:=o.slots})=G
  have hgd:G.get? h.objs.size=some {cls:=.type "dict",data:=.dict #[]}:=hG▸(af _ _ _ _ hxs.symm).trans (Heap.get?_push_at rfl rfl)
  have hGx:G.get? x=some ⟨.ref C,some h.objs.size,.fields vs,osl⟩:=hG▸w4 _ (vE _ hx) rfl
  have hGo: ∀b o,b≠x→h.get? b=some o→G.get? b=some o:=λb o hb e=>hG▸(af _ _ _ _ hb).trans (vE _ e)
  have hGs:G.objs.size=h.objs.size+1:=by rw[←hG,xF,wO]
  exact Sw hGx hw hlx hxL hxs.symm (y6 hL) hlo (Heap.Ns1.of_empty ⟨_,#[],_,hgd,rfl,λe he=>(nomatch he),λ_=>rfl⟩) hns λh' tk' s hs=>hq h' tk' s
   ⟨λb o hb e=>(hs.2 b (vR (vI e))).trans (hGo b o (λq=>absurd hb (Nat.not_lt.mpr (q▸hlx))) e),λo e=>(hs.2 L (vR hL)).trans (hGo L o hxL.symm e),by rw[hs.1,hGs];exact w9 _⟩
 |dict hdx hdL hld hn1=>
  exact u8 (Sw hx hw hlx hxL hdx hdL hld hn1 hns λh' tk' s hs=>hq h' tk' s ⟨λb o hb e=>(hs.2 b λq=>absurd hb (Nat.not_lt.mpr (q▸hld))).trans e,λo e=>(hs.2 L hdL.symm).trans e,vH hs.1.symm⟩)
end
theorem Q7.refl{lo L:Addr}{h:Heap}:Q7 lo L h h:=⟨λ_ _ _ e=>e,λ_ e=>e,vJ _⟩
theorem Q7.trans{lo L:Addr}{h h' h'':Heap}(x:Q7 lo L h h')(y:Q7 lo L h' h''):Q7 lo L h h'':=⟨λb o hb e=>y.keep b o hb (x.keep b o hb e),λo e=>y.fr o (x.fr o e),u5 x.size y.size⟩
section
variable{prog:Program}{w:World}{A:Around}{E:Value→Shared→Prop}{K:Frag}{C M x lo L:Addr}{h:Heap}{g:Array GenState}{d:tm}{t:Nat}{os:OsState}{vs:Array Value}{ns:List Str}{name:Str}{v:Value}
theorem aW{Q:Unit→Shared→Prop}(X₀:K.In h)(hm:Jr K C M=true)(hsa:findIn K (.ref C) "__setattr__"=some (some (.builtin "object.__setattr__")))(hn:findIn K (.ref C) name=some none)(st:C7 h lo x C L vs ns)(hlo:lo≤h.objs.size)(hL:L<h.objs.size)(hns:ns.length≤100)
  (hq: ∀h' tk',C7 h' lo x C L vs (name::ns)→Q7 lo L h h'→Q () ⟨h',g,d,tk',os⟩):wpAny (model prog w) A (ow (.ref x) name v) Q E ⟨h,g,d,t,os⟩:=by
 have S:=λ{R:gm→Shared→Prop} {A':Around} {t':Nat} {tk:Tok}=>TP (prog:=prog) (w:=w) (A:=A') (g:=g) (d:=d) (t:=t') (os:=os) (v:=v) (tk:=tk) (R:=R) X₀ hm hn st hlo hL hns
 obtain @⟨od,osl,mA,hx,hw,hlx,hxL,hdict⟩:=st
 cases hdict with
 |no=>exact qw (s:=⟨h,g,d,t,os⟩) X₀ (ox:=_) (od:=none) ⟨hx,rfl,rfl,trivial⟩ hsa (S λh' tk' a b=>hq h' tk' a b)
 |dict _ _ _ hn1=>
  obtain⟨od,_,_,e,_⟩:=hn1
  exact qw (s:=⟨h,g,d,t,os⟩) X₀ (ox:=_) (od:=some od) ⟨hx,rfl,rfl,e⟩ hsa (S λh' tk' a b=>hq h' tk' a b)
theorem Jz{od':Option Addr}{sl':Array (Option Value)}{oc:Value}{od:Option Addr}{sl:Array (Option Value)}{cd:ClassData}{rest:List Value}{Q:Unit→Shared→Prop}(hx:h.get? x=some ⟨.ref C,od',.fields vs,sl'⟩)(hC:h.get? C=some ⟨oc,od,.cls cd,sl⟩)(hi:Looks (model prog w) h (isInstance (.ref x) (.type "Exception")) true)(q:Q () ⟨h,g,d,t,os⟩):
  wpAny (model prog w) A (ft "Exception.__init__" ⟨.ref x::rest,[]⟩) Q E ⟨h,g,d,t,os⟩:=by
 have F:=aa
 have hshort:=F.noStar
 simp only[ft,F.initKind,F.initSplit,F.initRow]
 refine u0 (hi.at ?_)
 rw[if_neg (λh=>nomatch h)]
 repeat(first|(with_reducible refine ma hx ?_)|with_reducible refine ma hC ?_|wp_step)
 refine wpAny_onRaise ?_
 rw[show∀(a b:String) (n:Nat),Bind.check ⟨.positional,"*","Exception",.self,[⟨"args",.varPos,false⟩]⟩ a b n (sj (λx=>x.fst) ({pos:=xS x::rest}:Args).kw)=pure ()from
  λa b n=>check_star_args _ _ _ _ _ _]
 exact u8 q
theorem UJ{Q:Value→Shared→Prop}(Y:FU (model prog w) h C)(st:C7 h lo x C L vs ns)(h0:1<vs.size)(hlo:lo≤h.objs.size)
  (hq: ∀h',C7 h' lo x C L (vs.setIfInBounds 0 (.ref h.objs.size)) ns→Q7 lo L h h'→Q .none ⟨h',g,d,t,os⟩):wpAny (model prog w) A (w8 (.builtin "Exception.__init__") [.ref x,v]) Q E ⟨h,g,d,t,os⟩:=by
 have F:=aa
 obtain @⟨od,osl,mA,hx,hw,hlx,hxL,hdict⟩:=st
 obtain⟨oc,od',cd,sl,hC,_⟩:=Y.obj
 have sub:Looks (model prog w) h (isInstance (.ref x) (.type "Exception")) true:=((jd hx).andThen .now:Looks (model prog w) h (iu (.ref x)) (.ref C)).andThen Y.top
 refine an (jn F.init.plain F.initEntry (Jz hx hC sub ?_))
 unfold Builtin.«BaseException.__init__»
 dsimp only
 simp only[nk,eu,vM,if_false]
 have h00:0<vs.size:=y8 h0
 unfold se
 refine u0 (y7 ?_)
 unfold Builtin.BaseException.bexcPut
 have kX:(h.push (Eb [v])).get? x=_:=vE _ hx
 refine u0 (u0 (yI kX rfl (Array.getElem?_eq_getElem h00) (u0 (zF kX rfl h00 ?_))))
 have fin:Q .none ⟨(h.push (Eb [v])).update x (yH (·.setIfInBounds 0 (.ref h.objs.size))),g,d,t,os⟩:=by
  have hx2:=w4 (yH (·.setIfInBounds 0 (xS h.objs.size))) kX rfl
  have keep: ∀b o,b≠x→h.get? b=some o→((h.push (Eb [v])).update x (yH (·.setIfInBounds 0 (.ref h.objs.size)))).get? b=some o:=λb o hb e=>
   (x6 _ _ (z4 hb)).trans (vE _ e)
  refine hq _ (.mk hx2 hw hlx hxL ?_) ⟨λb o hb e=>keep b o (λq=>absurd hb (Nat.not_lt.mpr (q▸hlx))) e,λo e=>keep L o hxL.symm e,by rw[xF,wO];exact w9 _⟩
  cases hdict with
  |no=>exact .no
  |dict q2 q3 q4 q5=>
   obtain⟨o',es,ep,e,r⟩:=q5
   exact .dict q2 q3 q4 ⟨o',es,ep,keep _ o' q2 e,r⟩
 cases vs[0] with
 |ref _=>exact wpAny_letGo (u8 fin)
 |_=>exact u8 (u8 fin)
end
structure EB (X:Cx) (lo:Addr) (h:Heap):Prop where
 base: ∀b o,X.base.get? b=some o→b<lo∧h.get? b=some o
 size:lo≤h.objs.size
noncomputable def Io:Str:=nm "Exception"
noncomputable def BR:Str:=nm "what"
noncomputable def QT:Str:=nm "at"
noncomputable def J5:Str:=nm "__init__"
structure MY (env:Env):Prop where
 kind:env.scope.kind=.function
 globals:env.globals=mainGlobals
 builtins:env.builtins=builtinsNs
 kE:env.kindOf Io=some .globalImplicit
 ks:env.kindOf AD=some .local
 kw:env.kindOf BR=some .local
 ka:env.kindOf QT=some .local
section
variable{X:Cx}{A:Around}{E:Value→Shared→Prop}{C M x lo L:Addr}{h h':Heap}{g:Array GenState}{d:tm}{t:Nat}{os:OsState}{vs:Array Value}{ns:List Str}{name:Str}{v:Value}{env:Env}{m:Str→Option Value}
theorem EB.low(e:EB X lo h)(l:Q7 lo L h h'):EB X lo h':=⟨λb o q=>⟨(e.base b o q).1,l.keep b o (e.base b o q).1 (e.base b o q).2⟩,u5 e.size l.size⟩
theorem EB.kin(e:EB X lo h)(ok:AX X):X.K.In h:=λb o q=>(e.base b o (ok.kin b o q)).2
theorem EB.toNs{a:Addr}(e:EB X lo h)(q:X.base.Ns a m):h.Ns a m:=by
 obtain⟨o,es,ep,ho,r⟩:=q
 exact⟨o,es,ep,(e.base a o ho).2,r⟩
theorem Q7.toNs(l:Q7 lo L h h')(q:h.Ns L m):h'.Ns L m:=by
 obtain⟨o,es,ep,ho,r⟩:=q
 exact⟨o,es,ep,l.fr o ho,r⟩
theorem VB(ok:AX X)(eb:EB X lo h)(ee:MY env){y:Str}(hy:env.kindOf y=some .globalImplicit){c:Value}(hv:gv X y=some c){Q:Value→Shared→Prop}(q:Q c ⟨h,g,d,t,os⟩):
  wpAny (model X.prog X.w) A (lj env y) Q E ⟨h,g,d,t,os⟩:=
 (IV ee.kind hy)▸d7 (s:=⟨h,g,d,t,os⟩) (eb.toNs ok.mg) (eb.toNs ok.mb) ee.globals ee.builtins hv q
theorem Jw(ok:AX X)(ee:MY env)(hm:Jr X.K C M=true)(hsa:findIn X.K (.ref C) "__setattr__"=some (some (.builtin "object.__setattr__"))){k y:Str}{p1 p2 p3 p4:Pos}(hn:findIn X.K (.ref C) k=some none)(hky:env.kindOf y=some .local)(hyd:(y==("__debug__":Str))=false)
  (eb:EB X lo h) (hL:env.locals=L) (hns:h.Ns L m) (hms:m AD=some (.ref x)) (hmy:m y=some v) (st:C7 h lo x C L vs ns) (hnl:ns.length≤100) {Q:fc→Shared→Prop}
  (fin: ∀h' tk',C7 h' lo x C L vs (k::ns)→Q7 lo L h h'→Q .next ⟨h',g,d,tk',os⟩):
  wpAny (model X.prog X.w) A (zB (.Assign [.Attribute (.Name AD p1) k p2] (.Name y p3) p4) env) Q E ⟨h,g,d,t,os⟩:=by
 rw[ct]
 refine u0 (vT ?_)
 show wpAny _ _ (swapsWith (.Name y p3) (some (.Attribute (.Name AD p1) k p2)) p4.line env>>= λsw=>if sw=true then(ef (.Name y p3) env λv=>ai v ((wS [.Attribute (.Name AD p1) k p2] env).map (·.2)))>>= λ_=>pure .next else Iz (.Attribute (.Name AD p1) k p2) (.Name y p3) env) Q E _
 rw[show swapsWith (.Name y p3) (some (.Attribute (.Name AD p1) k p2)) p4.line env=pure false from rfl,pure_bind,if_neg vF]
 refine u0 ?_
 rw[ba env y p3 hyd]
 subst hL
 refine u0 (vT (xT ee.kind hky hns hmy ?_))
 show wpAny _ _ (assign (.Attribute (.Name AD p1) k p2) env v>>= λ_=>pure jw) Q E _
 refine u0 ?_
 rw[IL]
 refine u0 (wE ?_)
 rw[ba env AD p1 (by decide+kernel)]
 refine u0 (vT (xT ee.kind ee.ks hns hms ?_))
 refine u0 (vT (u0 (wE (aW (eb.kin ok) hm hsa hn st eb.size hns.lt hnl λh' tk' a b=>?_))))
 exact ej (u8 (fin h' tk' a b))
theorem Mv{s:Shared}{T:String}{pl:Sem Bool}{Q:Value×List Value→Shared→Prop}(X₀:X.K.In s.heap)(ht:iu (.type T)=pure (.type "type"))(hs:Manifest.isStub T=false)
  (e:findCls X.K (.type T) (.type "type") name=some (.val v)) (hh:handedIn v=true) (q:Q (v,[]) {s with toks:=s.toks+1}):wpAny (model X.prog X.w) A (qz (.type T) name pl) Q E s:=by
 have hstub:fq (.type T)=pure none:=by unfold fq;dsimp only;rw[hs];rfl
 have L0:Looks (model X.prog X.w) s.heap (iu (.type T)) (.type "type"):=ag ht
 have hg:findIn X.K (.type "type") "__getattribute__"=some (some (.builtin "type.__getattribute__")):=type_tga
 unfold qz specialOf
 refine u0 (u0 (L0.here ((gt X₀ hg).here ?_)))
 dsimp only
 rw[if_pos canon_tga]
 refine u0 (w7 (Q:=λv=>Q (v,[])) (E:=E) ?_ (λ_ _ z=>u8 z) λ_ _ z=>z)
 have LO:Looks (model X.prog X.w) s.heap (fq (.type T)) none:=ag hstub
 refine cls_open X₀ LO L0 hg (looks_hook X₀ (r:=none) (by rfl)) (by show subIn X.K _ _=_;rfl) e
  (u8 (by show wpAny _ _ (handedOut v) _ _ _;rw[handedOut_of hh];exact u8 q))
theorem Yz:iu (.type "Exception")=pure (.type "type"):=by kernel_rfl
theorem XC:Manifest.isStub "Exception"=false:=by decide+kernel
theorem UB(ok:AX X)(ee:MY env)(Y:FU (model X.prog X.w) h C)(hgv:gv X Io=some (.type "Exception"))(hf:findCls X.K (.type "Exception") (.type "type") J5=some (.val (.builtin "Exception.__init__"))){pE ap p1 p2 q p:Pos}(hline:(ap.endLine==q.line)=true)
  (eb:EB X lo h) (hL:env.locals=L) (hns:h.Ns L m) (hms:m AD=some (.ref x)) (hmw:m BR=some v) (st:C7 h lo x C L vs ns) (h1:1<vs.size) {Q:fc→Shared→Prop}
  (fin: ∀h' tk' a,C7 h' lo x C L (vs.setIfInBounds 0 (.ref a)) ns→Q7 lo L h h'→Q .next ⟨h',g,d,tk',os⟩):
  wpAny (model X.prog X.w) A (zB (.Expr (.Call (.Attribute (.Name Io pE) J5 ap) [.Name AD p1,.Name BR p2] [] q) p) env) Q E ⟨h,g,d,t,os⟩:=by
 rw[kl]
 refine u0 (vT ?_)
 rw[show cm env=false by unfold cm;rw[ee.kind];rfl]
 rw[if_neg vF,show swapsWith (.Call (.Attribute (.Name Io pE) J5 ap) [.Name AD p1,.Name BR p2] [] q) none p.line env=pure false from rfl,pure_bind,if_neg vF]
 refine u0 ?_
 rw[Dd _ _ _ _ _ _ rfl]
 refine u0 ?_
 rw[ba env Io pE (by decide+kernel)]
 refine u0 (vT (VB ok eb ee ee.kE hgv (u0 (vT ?_))))
 have hpl:(backTo q (starEach [.Name AD p1,.Name BR p2] env)).any (·.1)=false:=rfl
 unfold yS
 rw[KQ (k:=[rb AD p1,rb BR p2].length) (by decide:2<20) hpl]
 refine u0 (wE ?_)
 unfold sg
 rw[if_pos rfl]
 refine Mv (s:=⟨h,g,d,t,os⟩) (eb.kin ok) Yz XC hf rfl ?_
 have hpos:ci true (.Name Io pE) env ap q=pure q:=by unfold ci;simp[hline]
 refine u0 (je hpos ?_)
 refine jg (P:=X.K.In) (by rw[hpl];rfl) (Cf (.inl ⟨_,rfl⟩) _) (DL hpl ?_)
 show wpAny _ _ (spliced ((false,eval (.Name AD p1) env)::(false,eval (.Name BR p2) env)::[])) _ _ _
 rw[GE]
 subst hL
 refine u0 ?_
 rw[ba env AD p1 (by decide+kernel)]
 refine u0 (vT (xT ee.kind ee.ks hns hms ?_))
 refine u0 (u8 (u0 (wE ?_)))
 rw[GE]
 refine u0 ?_
 rw[ba env BR p2 (by decide+kernel)]
 refine u0 (vT (xT ee.kind ee.kw hns hmw ?_))
 refine u0 (u8 (u0 (wE (u8 (u8 (u8 ⟨eb.kin ok,?_⟩))))))
 show wpAny _ A (w8 (.builtin "Exception.__init__") [.ref x,v]) _ _ _
 refine UJ Y st h1 eb.size λh' a b=>?_
 exact ik (fin h' _ _ a b)
end
structure O2 (X:Cx) (C M fI:Addr) (body:List Stmt) (sc:Scope):Prop where
 k1:X.exc Av=some C
 k2:gv X Av=some (.ref C)
 k3:keepIn X.K (.ref C)=true
 k4:ZN X.K C=true
 k5:Jr X.K C M=true
 k6:findIn X.K (.ref C) "__init__"=some (some (.ref fI))
 k7:typeIn X.K (.ref fI)=some (.type "function")
 k8:typeIn X.K (.ref C)=some (.type "type")
 fo:CZ X fI [AD,BR,QT] [.none] body sc
 l1:sc.names.lookup AD=some .local
 l2:sc.names.lookup BR=some .local
 l3:sc.names.lookup QT=some .local
 l4:Ak sc Io=true
 k9:findIn X.K (.ref C) "__setattr__"=some (some (.builtin "object.__setattr__"))
 lw:findIn X.K (.ref C) BR=some none
 la:findIn X.K (.ref C) QT=some none
 k11:gv X Io=some (.type "Exception")
 k12:findCls X.K (.type "Exception") (.type "type") J5=some (.val (.builtin "Exception.__init__"))
 k13:instIn X.K (.ref C) (.type "tuple")=some false
 hb: ∃pE ap p1 p2 q p a1 a2 a3 a4 b1 b2 b3 b4,(ap.endLine==q.line)=true∧body=[.Expr (.Call (.Attribute (.Name Io pE) J5 ap) [.Name AD p1,.Name BR p2] [] q) p,.Assign [.Attribute (.Name AD a1) BR a2] (.Name BR a3) a4,.Assign [.Attribute (.Name AD b1) QT b2] (.Name QT b3) b4]
structure F7 (X:Cx):Prop where
 at': ∃C M fI body sc,O2 X C M fI body sc
section
variable{X:Cx}{Γ:Ctx}{n:Nat}{A:Around}{F P:Addr→Prop}{W W₀ W':Wd}{H:AH}{sc:Scope}{env:Env}{ρ:AE}{nl:Bool}
noncomputable abbrev qB(t:Addr):Array Value:= #[.ref t,.none,.none,.none,.bool false,.none]
theorem Xu(t a:Addr):((qB t).setIfInBounds 0 (.ref a))[1]?=some .none:=by simp
structure nH (X:Cx) (lo x C:Addr) (env:Env) (m:Str→Option Value) (v1 v2:Value) (h:Heap) (t:Addr):Prop where
 ee:MY env
 eb:EB X lo h
 hns:h.Ns env.locals m
 m1:m AD=some (.ref x)
 m2:m BR=some v1
 m3:m QT=some v2
 st:C7 h lo x C env.locals (qB t) []
theorem YM(ok:AX X){C M fI:Addr}{body:List Stmt}(k:O2 X C M fI body sc){lo x t:Addr}{m:Str→Option Value}{v1 v2:Value}{h3:Heap}{G:Array GenState}{D:tm}{tk:Nat}{os:OsState}(e:nH X lo x C env m v1 v2 h3 t){Q:fc→Shared→Prop}{E:Value→Shared→Prop}
  (fin: ∀h' tk' a,EB X lo h'→Q7 lo env.locals h3 h'→C7 h' lo x C env.locals ((qB t).setIfInBounds 0 (.ref a)) [QT,BR]→Q .next ⟨h',G,D,tk',os⟩):wpAny (model X.prog X.w) A (y4 body env) Q E ⟨h3,G,D,tk,os⟩:=by
 obtain⟨pE,ap,p1,p2,q,p,a1,a2,a3,a4,b1,b2,b3,b4,hline,rfl⟩:=k.hb
 rw[C5]
 refine u0 (UB ok e.ee (EL (e.eb.kin ok) k.k4) k.k11 k.k12 hline e.eb rfl e.hns e.m1 e.m2 e.st (zQ rfl) λh4 tk4 a st4 low4=>?_)
 dsimp only
 rw[C5]
 have eb4:=e.eb.low low4
 have hns4:=low4.toNs e.hns
 refine u0 (Jw ok e.ee k.k5 k.k9 k.lw e.ee.kw (by decide+kernel) eb4 rfl hns4 e.m1 e.m2 st4 (w3 _) λh5 tk5 st5 low5=>?_)
 dsimp only
 rw[C5]
 have eb5:=eb4.low low5
 refine u0 (Jw ok e.ee k.k5 k.k9 k.la e.ee.ka (by decide+kernel) eb5 rfl (low5.toNs hns4) e.m1 e.m3 st5 (by decide) λh6 tk6 st6 low6=>?_)
 exact u8 (fin h6 tk6 a (eb5.low low6) ((low4.trans low5).trans low6) st6)
theorem YF(ok:AX X){C M fI:Addr}{body:List Stmt}(k:O2 X C M fI body sc)(g:Gd X W H)(ao:A9 X W A (n+2)){c0:Value}{Q:Value→Shared→Prop}{E:Value→Shared→Prop}
  (fin: ∀h' tk x L a t,(∀b o,W.h.get? b=some o→h'.get? b=some o)→EB X W.h.objs.size h'→C7 h' W.h.objs.size x C L ((qB t).setIfInBounds 0 (.ref a)) [QT,BR]→Q (.ref x) (W.call h' tk).s):
  wpAny (model X.prog X.w) A (w8 (.ref C) [c0]) Q E W.s:=by
 have hk2: ∀b o,W.h.get? b=some o→((W.h.push (Eb [c0])).push (HI C W.h.objs.size)).get? b=some o:=λb o e=>vE _ (vE _ e)
 have hs2:W.h.objs.size≤((W.h.push (Eb [c0])).push (HI C W.h.objs.size)).objs.size:=u5 (Bw _ _) (Bw _ _)
 have x2:AS X Ab W (W.call ((W.h.push (Eb [c0])).push (HI C W.h.objs.size)) W.s.toks):=HH hk2 hs2
 have g2:Gd X (W.call ((W.h.push (Eb [c0])).push (HI C W.h.objs.size)) W.s.toks) H:=NV g hk2 hs2
 have hx2:((W.h.push (Eb [c0])).push (HI C W.h.objs.size)).get? (W.h.objs.size+1)=some (HI C W.h.objs.size):=wO W.h (Eb [c0])▸vO (W.h.push (Eb [c0])) (o:=HI C W.h.objs.size) rfl
 refine an (WJ (EL (ok.here g) k.k4) (Da (n:=1) (m:=1) (vJ 1)) (gt (ok.here g) k.k6) (λself=>bind_fn (ok.here g) self k.k7) ?_)
 refine FM (ρ:=[]) (W:=W.call ((W.h.push (Eb [c0])).push (HI C W.h.objs.size)) W.s.toks) ok k.fo g2 (PC A C [c0] (ao.ext x2)) (cs:=[.ref (W.h.objs.size+1),c0]) (by decide:2≤3) (by decide:3≤2+1) (λcd hcd y v hy=>Ar hy) λW3 BE l g3 I=>?_
 obtain⟨m,cd,hcd,hns,hmy⟩:=I.m
 obtain⟨v2,rfl,_⟩:=hcd.o1
 have kall: ∀b o,W.h.get? b=some o→W3.h.get? b=some o:=λb o e=>I.keep b o (hk2 b o e)
 have ko: ∀y,BE.kindOf y=sc.names.lookup y:=λy=>by unfold Env.kindOf;rw[I.i.2.scope]
 have eB:nH X W.h.objs.size (W.h.objs.size+1) C BE m c0 v2 W3.h W.h.objs.size:=⟨⟨I.i.1.kind,I.i.1.globals,I.i.1.builtins,I.i.1.glob _ k.l4,(ko _).trans k.l1,(ko _).trans k.l2,(ko _).trans k.l3⟩,⟨λb o e=>⟨vI (g.base b o e).1,kall b o (g.base b o e).1⟩,u5 hs2 I.x.size⟩,hns,hmy _ _ rfl k.l1,hmy _ _ rfl k.l2,hmy _ _ rfl k.l3,
  .mk (I.keep _ _ hx2) PySem.Within.nil (w9 _) (λz=>I.fe (W.h.objs.size+1) (vI hx2) (.inl z)) .no⟩
 obtain⟨h3,tk3,rfl⟩:=I.w
 exact YM ok k (h3:=h3) eB λh' tk' a eb' low' st'=>⟨rfl,fin h' tk' _ BE.locals a _ (λb o e=>low'.keep b o (vI e) (kall b o e)) eb' st'⟩
end
inductive RL (sc:Scope) (nl:Bool):Option Expr→Option Expr→Pos→Prop
 |stuck {e c:Option Expr} {p:Pos}:cS sc nl (.Raise e c p)=.stuck→RL sc nl e c p
 |mk (pc:Pos) (s:Str) (k:Nat) (ps q p:Pos):Ak sc Av=true→cS sc nl (.Raise (some (.Call (.Name Av pc) [.Constant (.str s) k ps] [] q)) none p)=.raise Av s→RL sc nl (some (.Call (.Name Av pc) [.Constant (.str s) k ps] [] q)) none p
theorem TL{c:Prop} [d:Decidable c]{a:CS}{P:Prop}(h1:c→(if c then a else .stuck)=a→P)(h2:(if c then a else .stuck)=.stuck→P):P:=
 match d,h1,h2 with
 |.isTrue q,h1,_=>h1 q rfl
 |.isFalse _,_,h2=>h2 rfl
theorem XH{sc:Scope}{nl:Bool}{e c:Option Expr}{p:Pos}:RL sc nl e c p:=by
 induction e using vN with
 |none=>exact .stuck rfl
 |some e=>induction e using vA with
  |Call f as ks q=>induction f using vA with
   |Name n pc=>induction as using u6 with
    |nil=>exact .stuck rfl
    |cons a as=>induction a using vA with
     |Constant cc k ps=>induction cc using zD with
      |str s=>induction as using u6 with
       |cons _ _=>exact .stuck rfl
       |nil=>induction ks using u6 with
        |cons _ _=>exact .stuck rfl
        |nil=>induction c using vN with
         |some _=>exact .stuck rfl
         |none=>
          refine TL (c:=(Ak sc n&&n==Av)=true) (a:=.raise n s) (λh e=>?_) λh=>.stuck h
          have h:=Bool.and_eq_true_iff.mp h
          cases(show n=Av from eq_of_beq h.2)
          exact .mk pc s k ps q p h.1 e
      |_=>exact .stuck rfl
     |_=>exact .stuck rfl
   |_=>exact .stuck rfl
  |_=>exact .stuck rfl
theorem T9{K:Frag}{M:fg}{h:Heap}(X₀:K.In h){C x:Addr}{od:Option Addr}{vs:Array Value}{sl:Array (Option Value)}(hx:h.get? x=some ⟨.ref C,od,.fields vs,sl⟩):Looks M h (rg (.ref x)) false∧Looks M h (iu (.ref x)) (.ref C):=
 ⟨λA Q E s k q=>by unfold rg;exact u0 (zV (k _ _ hx) (u8 q)),(jd hx).andThen .now⟩
section
variable{X:Cx}{Γ:Ctx}{n:Nat}{A:Around}{F P:Addr→Prop}{W W₀ W':Wd}{H:AH}{sc:Scope}{env:Env}{ρ:AE}{nl:Bool}
theorem Qp{C:Addr}{x:Addr}{Q:fc→Shared→Prop}{E:Value→Shared→Prop}{s:Shared}{od:Option Addr}{vs:Array Value}{sl:Array (Option Value)}{B:Around}(hB:B.handled=none)(X₀:X.K.In s.heap)(Y:FU (model X.prog X.w) s.heap C)(k8:typeIn X.K (.ref C)=some (.type "type"))(hx:s.heap.get? x=some ⟨.ref C,od,.fields vs,sl⟩)(v1:vs[1]?=some .none){env:Env}{v:Sem Value}{p:Pos}
  (he:E (.ref x) s):wpAny (model X.prog X.w) B (js env (some (pure (.ref x))) none) Q E s:=by
 obtain⟨L1,L2⟩:=T9 (M:=model X.prog X.w) X₀ hx
 have L3:Looks (model X.prog X.w) s.heap (isInstance (.ref x) (.type "BaseException")) true:=L2.andThen Y.btop
 have L4:=looks_typeIn (M:=model X.prog X.w) X₀ k8
 unfold js
 dsimp only
 refine u0 (u8 (u0 (u8 ?_)))
 refine u0 (wE ?_)
 unfold excFromValue isExcClass
 refine u0 (u0 (L1.here ?_))
 rw[if_neg vF]
 refine u8 (u0 (L3.here ?_))
 rw[if_pos rfl]
 refine u8 ?_
 refine u0 (L1.here ?_)
 rw[if_neg vF]
 unfold raisedInstance
 refine u0 (u0 (L2.here (u0 (L4.here ?_))))
 rw[if_pos (by decide)]
 refine u8 ?_
 unfold fj
 refine u0 (u0 (yI hx rfl v1 ?_))
 rw[if_neg (by decide)]
 refine u8 ?_
 unfold raiseNew
 refine u0 (qm ?_)
 rw[hB]
 exact sn he
theorem Vv(ok:AX X)(b:Aa X)(ga:AK X Γ (n+2))(ec:F7 X){e c:Option Expr}{p:Pos}:SS X Γ (n+2) sc nl (.Raise e c p):=λ{env ρ W H A} g ao i=>by
 cases XH (sc:=sc) (nl:=nl) (e:=e) (c:=c) (p:=p)with
 |stuck hs=>exact Bx hs g ao i
 |mk pc s k ps q p hg hs=>
  rw[hs]
  intro Q E hE
  obtain⟨C,M,fI,body,sc',ka⟩:=ec.at'
  rw[arm_exec_Raise]
  refine u0 (vT ?_)
  have T:wpAny (model X.prog X.w) A (eval (.Call (.Name Av pc) [.Constant (.str s) k ps] [] q) env) (λv s'=>wpAny (model X.prog X.w) A (js env (some (pure v)) none) Q E s') E W.s:=by
   rw[DX]
   refine u0 (Gk ok g i.1 (by decide+kernel) hg ka.k2 ?_)
   have hpl:(backTo q (starEach [.Constant (.str s) k ps] env)).any (·.1)=false:=rfl
   refine jg (P:=X.K.In) (by rw[hpl];rfl) (Cf (.inr (.inr ka.k3)) _) (DL hpl ?_)
   have S:=(FO ok b ga sc [.Constant (.str s) k ps]).es (pos:=q) g ao i.1
   rw[show A1 Γ (DB sc [.Constant (.str s) k ps]) ρ H=some (.ok [.str s] H)from rfl] at S
   refine S _ _ λcs W1 x1 g1 r1=>⟨ok.here g1,?_⟩
   obtain⟨c0,rfl,_⟩:=r1.1.o1
   refine YF ok ka g1 (ao.ext x1) λh' tk x L a t hk eb st=>?_
   obtain⟨hx,hw,hlx,hxL,hdict⟩:=st
   have hs:W1.h.objs.size≤h'.objs.size:=eb.size
   exact Qp (s:=(W1.call h' tk).s) (v:=pure (.ref x)) (p:=q) ao.handled (eb.kin ok) (EL (eb.kin ok) ka.k4) ka.k8 hx (Xu t a) (hE (.ref x) (W1.call h' tk) ((x1.trans (HH hk hs)).of0) (NV g1 hk hs) (.mk (O4 g1 x1.size hlx) ka.k1 hx rfl rfl (Xu t a) .none))
  show wpAny _ _ (js env (some (do let v←eval (.Call (.Name Av pc) [.Constant (.str s) k ps] [] q) env;z3 p;pure v)) none) _ _ _
  unfold js at T⊢
  exact u0 (u0 (w7 T (λv s' h=>u0 (vT (u8 h))) λ_ _ h=>h))
end
section
variable{X:Cx}{Γ:Ctx}{n:Nat}{A:Around}{F P:Addr→Prop}{W W₀ W':Wd}{H:AH}{sc:Scope}{env:Env}{ρ:AE}{nl:Bool}
theorem Re{k:Str}{x:Value}(g:Gd X W H)(f:VD X W₀ W k x){E:Value→Shared→Prop}{Q:Unit→Shared→Prop}(x0:AS X F W₀ W)
  (h: ∀W',AS X F W₀ W'→Gd X W' H→Q () W'.s):wpAny (model X.prog X.w) A (fj x none) Q E W.s:=by
 cases f with
 |mk n h2 h4 h5 h6 h7 t=>
  unfold fj
  cases t with
  |none=>
   refine u0 (yI h4 h6 h7 ?_)
   rw[if_neg (by decide)]
   exact u8 (h W x0 g)
  | @tb T oT ts nT a3 a6 a7 a8=>
   refine u0 (yI h4 h6 h7 ?_)
   rw[if_pos (show(xS T !=wJ)=true from rfl)]
   have hs:=zE (h:=W.h) (a:=T) (f:=yH (·.setIfInBounds 3 ((none:Option Addr).elim wJ λf=>bv f)))
   exact zF a6 a7 (Array.getElem?_eq_some_iff.mp a8).1 (h (W.put _ W.s.toks) (x0.tail hs nT.ge) (D1 g hs nT.isN nT.nb))
theorem Ta(ok:AX X){C M fI:Addr}{body:List Stmt}{sc':Scope}(ka:O2 X C M fI body sc')(g:Gd X W H){e:Addr}{oe:Obj}(he:W.h.get? e=some oe)(hcl:oe.cls=.ref C){Q:Bool→Shared→Prop}{E:Value→Shared→Prop}(q:Q true W.s):
  wpAny (model X.prog X.w) A (excMatches (.ref e) (.ref C)) Q E W.s:=by
 have Y:=EL (M:=model X.prog X.w) (ok.here g) ka.k4
 have L1:Looks (model X.prog X.w) W.h (isInstance (.ref C) (.type "tuple")) false:=rm (ok.here g) ka.k13
 have L2:Looks (model X.prog X.w) W.h (iu (.ref e)) (.ref C):=hcl▸((jd he).andThen .now)
 obtain⟨oc,od,cd,sl,hCo,_⟩:=Y.obj
 have L3:Looks (model X.prog X.w) W.h (rg (.ref C)) true:=λA Q E s k q=>by
  unfold rg
  exact u0 (zV (k _ _ hCo) (u8 q))
 unfold excMatches
 refine u0 (L1.here ?_)
 simp only[vM,if_false,pure_bind,yX,List.forIn_nil]
 unfold isExcClass
 refine u0 (u0 (u0 (u0 (L3.here ?_))))
 rw[if_pos rfl]
 refine Y.btop.here ?_
 simp only[eu,vM,if_false]
 refine u8 (u8 ?_)
 refine u0 (L2.here (u0 (u0 (u0 (Y.self.here ?_)))))
 simp only[if_true]
 exact u8 (u8 (u8 q))
noncomputable abbrev Vn(ex:Expr)(s:Str)(k:Nat)(pr pn pc pr2 ph pt:Pos):Stmt:=.Try [.Return (some ex) pr] [.ExceptHandler (some (.Name Av pn)) none [.Return (some (.Constant (.str s) k pc)) pr2] ph] [] [] pt
theorem Py{ex:Expr}{p:Pos}{B:Around}{M:fg}{Q:fc→Shared→Prop}{E:Value→Shared→Prop}{s:Shared}(h:wpAny M B (eval ex env) (λv s'=>Q (.ret v) s') E s):wpAny M B (y4 [.Return (some ex) p] env) Q E s:=by
 rw[C5,oi]
 refine u0 (u0 (vT ?_))
 show wpAny _ _ (eval ex env>>= λx=>pure (pe x)) _ _ _
 exact u0 (w7 h (λv s' q=>u8 (u8 q)) λ_ _ q=>q)
theorem Uq(ok:AX X){C M fI:Addr}{body:List Stmt}{sc':Scope}(ka:O2 X C M fI body sc')(hg:Ak sc Av=true){ex:Expr}{s:Str}{k:Nat}{pr pn pc pr2 ph pt:Pos}{W1:Wd}{BE:Env}{l:List Env}{Q:fc→Shared→Prop}{E:Value→Shared→Prop}{H':AH}(g1:Gd X W1 H)(i1:BP X sc BE W1 ρ)(hfr:A.frames=some (BE::l))(fr:GH X W1 (BE::l))
  (S:AC X A Ab W1 (some (.exc Av H')) (A8 X) (eval ex BE)) (fin: ∀W2 t,AS X Ab W1 W2→Gd X W2 H'→Q (.ret (.str s t)) W2.s):wpAny (model X.prog X.w) A (zB (Vn ex s k pr pn pc pr2 ph pt) BE) Q E W1.s:=by
 refine mz (Py (S _ _ λx W2 x2 g2 f2=>?_))
 cases f2 with
 | @mk e C' oe vs v n h2 h4 h5 h6 h7 t=>
  refine Of (F:=Ab) (W₀:=W1) g2 (.mk n h2 h4 h5 h6 h7 t) hfr (fr.ext x2) x2 λW3 x3 g3 f3=>?_
  have i3:=i1.ext0 x3 g1
  refine wpAny_handleBy_cons (codeAny_handlers_test ?_) (λq=>nomatch q)
  refine Gk ok g3 i3.1 (by decide+kernel) hg ka.k2 ?_
  have f3':=f3
  cases f3' with
  |mk n' h2' h4' h5' h6' h7' t'=>
   cases u7 (ka.k1.symm.trans h2')
   refine Ta ok ka g3 h4' h5' ?_
   dsimp only
   rw[if_pos rfl]
   refine codeAny_handlers_suite ?_
   refine Re (F:=Ab) (W₀:=W1) g3 f3 x3 λW4 x4 g4=>Py ?_
   show wpAny _ _ (mkText s) _ _ _
   exact gr (fin (W4.tok (W4.s.toks+1)) _ (x4.trans (AS.tok _)) (g4.tok _))
theorem Uv(ok:AX X)(b:Aa X)(ga:AK X Γ n)(ec:F7 X){a:Addr}{ps:List Str}{ds:List AV}{ex:Expr}{s:Str}{k:Nat}{pr pn pc pr2 ph pt:Pos}(fo:CZ X a ps ds [Vn ex s k pr pn pc pr2 ph pt] sc)(hg:Ak sc Av=true)
  (g:Gd X W H) (ao:A9 X W A (n+1)) {vs:List AV} {cs:List Value} (r:AN X W vs cs):AC X A Ab W (GY Γ ⟨ps,[],[.tryRet (cE sc ex) Av (.lit (.str s))]⟩ vs H) (A8 X) (w8 (.ref a) cs):=AC.run λhl=>by
 obtain⟨C,M,fI,body,sc',ka⟩:=ec.at'
 have hl:cs.length=ps.length:=r.length.trans hl
 have go:=λ(Q:Value→Shared→Prop) (E:Value→Shared→Prop) (h: ∀W1 BE l,Gd X W1 H→RB X n A sc (ps.zip vs).reverse ps ds cs W W1 BE l→wpAny (model X.prog X.w) (A.deeper BE) (zB (Vn ex s k pr pn pc pr2 ph pt) BE) (λf s'=>∃v,f=.ret v∧Q v s') (λ_ _=>False) W1.s)=>
  an (Q:=Q) (E:=E) (FM ok fo g ao (vH hl) (hl▸wM _ _) (full_ρ r hl) λW1 BE l g1 I=>by
   rw[C5]
   exact u0 (w7 (h W1 BE l g1 I) (λf s' ⟨v,e,hq⟩=>e▸u8 hq) λ_ _ h=>h.elim))
 have S:=λ{W1:Wd} {BE:Env} {l:List Env} (g1:Gd X W1 H) (I:RB X n A sc (ps.zip vs).reverse ps ds cs W W1 BE l)=>(Ay ok b ga sc ex).e (env:=BE) g1 I.ao I.i.1
 show AC X A Ab W (R.bind (R.bind (match AF Γ (cE sc ex) (ps.zip vs).reverse H with
  |some (.ok v H)=>rok (Fl.ret v,(ps.zip vs).reverse) H
  |some (.exc c' H)=>if c'=Av then(AF Γ (.lit (.str s)) (ps.zip vs).reverse H).bind λv H=>rok (Fl.ret v,(ps.zip vs).reverse) H else uZ
  |uZ=>uZ) _) _) _ _
 cases hx:AF Γ (cE sc ex) (ps.zip vs).reverse H with
 |none=>exact AC.none
 |some z=>induction z using I5.casesOn with
  |ok v H'=>
   refineλQ E hQ=>go _ _ λW1 BE l g1 I=>?_
   have S:=S g1 I
   rw[hx] at S
   exact mz (Py (S _ _ λc W2 x2 g2 r2=>⟨_,rfl,hQ c W2 (I.x.trans x2) g2 r2⟩))
  |exc c' H'=>
   by_cases hc:c'=Av
   case neg=>dsimp only;rw[if_neg hc];exact AC.none
   dsimp only
   rw[if_pos hc]
   refineλQ E hQ=>go _ _ λW1 BE l g1 I=>?_
   have S:=S g1 I
   rw[hx,hc] at S
   exact Uq ok ka hg g1 I.i I.hfr I.fr S λW2 t x2 g2=>⟨_,rfl,hQ _ W2 (I.x.trans x2) g2 (.str s t)⟩
end
end Mine.Internal
namespace Mine.Internal
open PySem PySem.W PyProof.Rows
noncomputable def KH{α:Type}(lt:Nat→Nat→Bool)(ok:Nat→Nat→Prop):ua α→(α→Prop)→Prop
 |.ret a,Q=>Q a
 |.ask i j k,Q=>ok i j∧KH lt ok (k (lt i j)) Q
theorem KH.bind{α β:Type}{lt:Nat→Nat→Bool}{ok:Nat→Nat→Prop}{f:α→ua β}{Q:β→Prop}{P:α→Prop}(hf: ∀a,P a→KH lt ok (f a) Q){t:ua α}:KH lt ok t P→KH lt ok (t.bind f) Q:=
 KasT.rec (motive:=λt=>KH lt ok t P→KH lt ok (t.bind f) Q) (λa h=>hf a h) (λi j k e h=>⟨h.1,e _ h.2⟩) t
theorem KH.mono{α:Type}{lt:Nat→Nat→Bool}{ok:Nat→Nat→Prop}{Q e:α→Prop}(B: ∀a,Q a→e a){t:ua α}:KH lt ok t Q→KH lt ok t e:=
 KasT.rec (motive:=λt=>KH lt ok t Q→KH lt ok t e) (λa h=>B a h) (λi j k u h=>⟨h.1,u _ h.2⟩) t
theorem KH.wp{α:Type}{lt:Nat→Nat→Bool}{ok:Nat→Nat→Prop}{cmp:Nat→Nat→(Bool→Shared→Prop)→Shared→Prop}{s:Shared}(hc: ∀i j,ok i j→∀C:Bool→Shared→Prop,C (lt i j) s→cmp i j C s){Q:α→Shared→Prop}{t:ua α}:KH lt ok t (λa=>Q a s)→t.kasWp cmp Q s:=
 KasT.rec (motive:=λt=>KH lt ok t (λa=>Q a s)→t.kasWp cmp Q s) (λa h=>h) (λi j k e h=>hc i j h.1 _ (e _ h.2)) t
theorem KH.ite{α:Type}{lt:Nat→Nat→Bool}{ok:Nat→Nat→Prop}{c:Prop} [d:Decidable c]{a b:ua α}{Q:α→Prop}(h1:c→KH lt ok a Q)(e: ¬c→KH lt ok b Q):KH lt ok (if c then a else b) Q:=
 match d with
 |.isTrue q=>h1 q
 |.isFalse q=>e q
noncomputable def ka(K:Nat→Int)(p:Array Nat)(i:Nat):Int:=K (p.getD i 0)
noncomputable def Up(g:Nat→Int)(m:Nat):Prop:=∀i j,i<j→j<m→g i<g j
theorem Up.one{g:Nat→Int}:Up g 1:=λi j e u=>absurd e (Nat.not_lt.mpr (u5 (w6 u) (w3 i)))
theorem Up.snoc{g:Nat→Int}{m:Nat}(h:Up g (m+1))(hl:g m<g (m+1)):Up g (m+2):=λi j e u=>by
 rcases au (w6 u)with q|rfl
 ·exact h i j e q
 ·rcases au (w6 e)with q|rfl
  ·exact w5 (h i m q (wL m)) hl
  ·exact hl
noncomputable abbrev GC(K:Nat→Int)(p:Array Nat)(m:Nat):Prop:=Up (ka K p) m
structure PM (n:Nat) (p:Array Nat):Prop where
 perm:p.Perm (wD n).toArray
section
variable{n:Nat}{K:Nat→Int}
theorem PM.size{p:Array Nat}(h:PM n p):p.size=n:=by rw[h.perm.size_eq,vV,xW]
theorem Gm{p:Array Nat}{i:Nat}(h:i<p.size):p.getD i 0=p[i]:=by simp[Array.getD,h]
theorem PM.lt{p:Array Nat}(h:PM n p){i:Nat}(hi:i<n):p.getD i 0<n:=by
 have e:i<p.size:=h.size.symm▸hi
 rw[Gm e]
 exact List.mem_range.mp (List.mem_toArray.mp (h.perm.mem_iff.mp (Array.getElem_mem e)))
theorem PM.inj{p:Array Nat}(h:PM n p){i j:Nat}(hi:i<n)(u:j<n)(e:p.getD i 0=p.getD j 0):i=j:=by
 rw[Gm (h.size.symm▸hi:i<p.size),Gm (h.size.symm▸u:j<p.size)] at e
 exact(np ((List.Perm.nodup_iff h.perm.toList).mpr List.nodup_range)).mp e
noncomputable def dA(n:Nat)(K:Nat→Int):Prop:=∀i j,i<n→j<n→K i=K j→i=j
theorem XF(inj:dA n K){p:Array Nat}(h:PM n p){i j:Nat}(hi:i<n)(B:j<n)(u:i≠j)(D: ¬ka K p j<ka K p i):ka K p i<ka K p j:=
 Int.lt_iff_le_and_ne.mpr ⟨Int.not_lt.mp D,λe=>u (h.inj hi B (inj _ _ (h.lt hi) (h.lt B) e))⟩
noncomputable abbrev SG(K:Nat→Int):Nat→Nat→Bool:=λi j=>decide (K i<K j)
noncomputable abbrev Ai(n:Nat):Nat→Nat→Prop:=λi j=>i<n∧j<n
theorem KH.q{α:Type}{p:Array Nat}(h:PM n p){i j:Nat}(hi:i<n)(u:j<n){k:Bool→ua α}{Q:α→Prop}(h1:ka K p i<ka K p j→KH (SG K) (Ai n) (k true) Q)(e: ¬ka K p i<ka K p j→KH (SG K) (Ai n) (k false) Q):KH (SG K) (Ai n) (.ask (p.getD i 0) (p.getD j 0) k) Q:=by
 refine⟨⟨h.lt hi,h.lt u⟩,?_⟩
 by_cases hc:ka K p i<ka K p j
 ·rw[show SG K (p.getD i 0) (p.getD j 0)=true from decide_eq_true hc];exact h1 hc
 ·rw[show SG K (p.getD i 0) (p.getD j 0)=false from decide_eq_false hc];exact e hc
theorem Vl{f m:Nat}(hf:f+1+m≤n):m<n:=vS (Nat.lt_add_of_pos_left (bh f)) hf
theorem sN{f m:Nat}(hf:f+1+m≤n):f+(m+1)≤n:=u5 (vH (bi f m).symm) hf
theorem S8(inj:dA n K){p:Array Nat}(h:PM n p)(f:Nat): ∀m,f+(m+1)≤n→GC K p (m+1)→KH (SG K) (Ai n) (kas_asc p f (m+1)) (λr=>m+1≤r∧r≤m+1+f∧GC K p r∧(r<m+1+f→ka K p r<ka K p (r-1))):=by
 induction f with
 |zero=>exactλm hf B=>⟨vJ _,vJ _,B,λq=>absurd q (cj _)⟩
 |succ f D=>
  intro m hf B
  have e:=bi (m+1) f
  exact KH.q h (Vl hf) (y8 (Vl hf)) (λhc=>⟨vJ _,wM _ _,B,λ_=>hc⟩) λhc=>
   KH.mono (λr u=>⟨mi u.1,u5 u.2.1 (vH e),u.2.2.1,λq=>u.2.2.2 (vS q (vH e.symm))⟩) (D (m+1) (sN hf) (B.snoc (XF inj h (y8 (Vl hf)) (Vl hf) (vR (wL m)) hc)))
theorem X2(inj:dA n K){p:Array Nat}(h:PM n p)(f:Nat): ∀m,f+(m+1)≤n→Up (λi=> -ka K p i) (m+1)→KH (SG K) (Ai n) (kas_desc f p (m+1) 0) (λr=>∃k,r=(p,k+1,0)∧k+1≤m+1+f∧Up (λi=> -ka K p i) (k+1)):=by
 induction f with
 |zero=>exactλm hf u=>⟨m,rfl,vJ _,u⟩
 |succ f B=>
  intro m hf u
  refine KH.q h (Vl hf) (y8 (Vl hf)) (λhc=>?_) λhc=>?_
  ·exact KH.mono (λr ⟨k,e,hk,hu⟩=>⟨k,e,u5 hk (vH (bi (m+1) f)),hu⟩) (B (m+1) (sN hf) (u.snoc (qd hc)))
  ·exact KH.q h (y8 (Vl hf)) (Vl hf) (λ_=>⟨m,rfl,wM _ _,u⟩) λq=>absurd (XF inj h (y8 (Vl hf)) (Vl hf) (vR (wL m)) hc) q
theorem I4{p q:Array Nat}{i j:Nat}(h:p[i]?=q[j]?):p.getD i 0=q.getD j 0:=by
 rw[di,di,h]
theorem Yt{p:Array Nat}(h:PM n p)(m:Nat):PM n (ri p 0 m):=⟨(mirror_perm _ _ _ _).trans h.perm⟩
theorem aK{p:Array Nat}(h:PM n p){m:Nat}(hm:m+1≤n)(hd:Up (λi=> -ka K p i) (m+1)):GC K (ri p 0 (m+1)) (m+1):=by
 have at': ∀i,i<m+1→ka K (ri p 0 (m+1)) i=ka K p (m-i):=λi hi=>congrArg K (I4 ((getElem?_mirror_all (h.size.symm▸hm) i).trans ((if_pos ⟨w3 _,hi⟩).trans (by rw[dc];rfl))))
 intro i j e hj
 rw[at' i (zG e hj),at' j hj]
 exact Int.lt_of_neg_lt_neg (hd (m-j) (m-i) (cw (vS e (w6 hj)) e) (bn (th m i)))
theorem uW{l r:Nat}(h:l<r):l≤(l+r)/2∧(l+r)/2<r:=by omega
noncomputable def s8(K:Nat→Int)(p:Array Nat)(k l:Nat):Prop:=l≤k∧(∀i,i<l→ka K p i<ka K p k)∧∀i,l≤i→i<k→ka K p k<ka K p i
theorem Th{p:Array Nat}(inj:dA n K)(h:PM n p){k:Nat}(J:k<n)(O:GC K p k)(f:Nat): ∀l r,r≤k→l≤r→r≤l+f→(∀i,i<l→ka K p i<ka K p k)→(∀i,r≤i→i<k→ka K p k<ka K p i)→KH (SG K) (Ai n) (kas_place p k f l r) (s8 K p k):=by
 induction f with
 |zero=>exactλl r B hl hf h1 D=>⟨u5 hl B,h1,λi hi=>D i (u5 hf hi)⟩
 |succ f Q=>
  intro l r B hl hf h1 D
  refine KH.ite (λq=>⟨u5 hl B,h1,λi hi=>D i (u5 q hi)⟩) λq=>?_
  obtain⟨m1,m2⟩:=uW (Nat.not_le.mp q)
  have mk:=vS m2 B
  have S:=zG mk J
  refine KH.q h J S (λhc=>?_) λhc=>?_
  ·exact Q l _ (yD mk) m1 (w6 (vS m2 hf)) h1 λi hi I=>(au hi).elim (λe=>w5 hc (O _ _ e I)) λe=>e▸hc
  ·have u:=XF inj h S J (vR mk) hc
   exact Q _ r B m2 (u5 hf (u5 (vH (bi l f).symm) (xB (wH m1) f))) (λi hi=>(au (w6 hi)).elim (λe=>w5 (O _ _ e mk) u) λe=>e▸u) D
theorem bG{p:Array Nat}{k l:Nat}(O:k<p.size)(B:GC K p k)(hp:s8 K p k l):GC K (te p k (k-l)) (k+1):=by
 obtain⟨l1,l2,l3⟩:=hp
 have Q:k-(k-l)=l:=ng l1
 have at':=λi=>getElem?_bubble (xs:=p) O (k-l) (th _ _) i
 rw[Q] at at'
 have b1: ∀i,i<l→ka K (te p k (k-l)) i=ka K p i:=λi hi=>congrArg K (I4 ((at' i).trans ((if_neg (vR hi)).trans (if_neg λq=>absurd q.1 (Nat.lt_asymm hi)))))
 have b2:ka K (te p k (k-l)) l=ka K p k:=congrArg K (I4 ((at' l).trans (if_pos rfl)))
 have b3: ∀i,l≤i→i<k→ka K (te p k (k-l)) (i+1)=ka K p i:=λi hi I=>congrArg K (I4 ((at' (i+1)).trans ((if_neg (y6 (bn hi))).trans (if_pos ⟨bn hi,I⟩))))
 intro i j e hj
 rcases mh j l with q|rfl|q
 ·rw[b1 i (zG e q),b1 j q];exact B i j e (vS q l1)
 ·rw[b1 i e,b2];exact l2 i e
 ·cases j with
  |zero=>exact absurd q (xN _)
  |succ j=>
   have D:=w6 q
   have u:=wQ hj
   rw[b3 j D u]
   rcases mh i l with z|rfl|z
   ·rw[b1 i z];exact B i j (vS z D) u
   ·rw[b2];exact l3 j D u
   ·cases i with
    |zero=>exact absurd z (xN _)
    |succ i=>
     have J:=wQ e
     rw[b3 i (w6 z) (zG J u)];exact B i j J u
theorem a5(inj:dA n K)(f:Nat): ∀(p:Array Nat) k,f+k=n→PM n p→GC K p k→KH (SG K) (Ai n) (kas_bin f p k) (λp'=>PM n p'∧GC K p' n):=by
 induction f with
 |zero=>exactλp k hf h e=>⟨h,(dc k).symm.trans hf▸e⟩
 |succ f D=>
  intro p k hf h e
  have B:k<n:=Vl (vH hf)
  exact KH.bind (λl hl=>D _ (k+1) ((bi f k).symm.trans hf) ⟨(bubble_perm _ _ _).trans h.perm⟩ (bG (h.size.symm▸B) e hl))
   (Th inj h B e k 0 k (vJ _) (w3 _) (vH (dc k).symm) (λi hi=>absurd hi (xN _)) λi hi u=>absurd hi (Nat.not_le.mpr u))
theorem UF(inj:dA (n+1) K):KH (SG K) (Ai (n+1)) (kas_count (n+1) (zH (wD (n+1)))) (λr=>PM (n+1) r.2∧1≤r.1∧r.1≤n+1∧GC K r.2 r.1):=by
 have e:PM (n+1) (zH (wD (n+1))):=⟨Array.Perm.refl _⟩
 have D: ∀{m:Nat},m≤0+1+n→m≤n+1:=λh=>de 1 n▸h
 refine KH.bind (λm hm=>?_) (S8 inj e n 0 (vJ _) Up.one)
 obtain⟨m1,m2,m3,m4⟩:=hm
 refine KH.ite (λ_=>⟨e,m1,D m2,m3⟩) λJ=>KH.ite (λB=>?_) λB=>?_
 ·have p1:m-1<m:=Nat.sub_lt (vS (bh 0) m1) (bh 0)
  have hc:=m3 0 (m-1) (Nat.sub_pos_of_lt B) p1
  exact KH.q e (bh n) (vS p1 (D m2)) (λ_=>⟨e,m1,D m2,m3⟩) λq=>absurd hc q
 ·cases(zN (Nat.not_lt.mp B) m1:m=1)
  cases n with
  |zero=>exact absurd rfl (λq=>J (beq_iff_eq.mpr q))
  |succ n=>
   have S:=Up.snoc (g:=λi=> -ka K (zH (wD (n+2))) i) (m:=0) Up.one (qd (m4 (by rw[dc];exact gh (bh n))))
   refine KH.bind (λr U=>?_) (X2 inj e n 1 (vJ _) S)
   obtain⟨k,rfl,e4,e5⟩:=U
   have I:k+1≤n+2:=u5 e4 (vH (de 2 n))
   exact KH.bind (f:=λm=>.ret (m,ri (zH (wD (n+2))) 0 (k+1))) (Q:=λr=>PM (n+2) r.2∧1≤r.1∧r.1≤n+2∧GC K r.2 r.1) (λO u=>show PM (n+2) _∧1≤O∧O≤n+2∧GC K _ O from⟨Yt e _,u5 (wH (w3 k)) u.1,u5 u.2.1 (vH (Nat.add_sub_of_le I)),u.2.2.1⟩) (S8 inj (Yt e (k+1)) (n+2-(k+1)) k (vH (dt I)) (aK e I e5))
theorem VJ(inj: ∀i j,i<n→j<n→K i=K j→i=j)(u:1≤n):KH (SG K) (Ai n) (sf n) (λp=>PM n p∧GC K p n):=by
 cases n with
 |zero=>exact absurd u (xN _)
 |succ n=>
  refine KH.bind (λr e=>?_) (UF inj)
  obtain⟨p1,p2,p3,p4⟩:=e
  refine KH.ite (λ_=>?_) λq=>⟨p1,zN p3 (Nat.not_lt.mp q)▸p4⟩
  rw[Nat.max_eq_left p2]
  exact a5 inj (n+1-r.1) r.2 r.1 (dt p3) p1 p4
end
end Mine.Internal
namespace Mine.Internal
open PySem PySem.W PyProof.Rows PySem.Calls Builtin
section
variable{prog:Program}{w:World}{A:Around}{E:Value→Shared→Prop}{s:Shared}{vs:List Value}{Good:Array Nat→Prop}
noncomputable abbrev IM(vs:List Value)(p:Array Nat):Array Value:=(p.toList.map λi=>vs.getD i wJ).toArray
theorem Ug(h:vs.length<2):(vs.toArray.zip vs.toArray).map (·.2)=IM vs (wD vs.length).toArray:=by
 induction vs using u6 with
 |nil=>simp[IM]
 |cons v r=>induction r using u6 with
  |nil=>simp[IM]
  |cons _ _=>exact absurd h (Nat.not_lt.mpr (yW 2 _))
theorem mH{n:Nat}(h:n<64):n≤yR:=Da (yD h)
theorem Kw{a:Addr}{n:Nat}{P:PySem.Fin→Shared→Prop}(ho:s.heap.get? a=some (ab "list" vs.toArray n))(O:vs.length<64)(J:vs.length<2→Good (wD vs.length).toArray)
  (ask: ∀h1,(∀b o,b≠a→s.heap.get? b=some o→h1.get? b=some o)→2≤vs.length→wpAny (model prog w) A (keyKind' vs.toArray) (λκ s'=>s'={s with heap:=h1}∧(sf vs.length).kasWp (rj prog w A κ vs) (λp s''=>s''={s with heap:=h1}∧p.size=vs.length∧Good p) s') (λ_ _=>False) {s with heap:=h1})
  (h: ∀p,Good p→P (.done (.ret .none)) {s with heap:=sortedHeap s.heap a vs (IM vs p)}):wpAny (model prog w) A (Builtin.«list.sort» ⟨[.ref a],[]⟩) P E s:=by
 rw[list_sort_plain]
 have ha:a<s.heap.objs.size:=vI ho
 refine u0 (listItems_at ho rfl ?_)
 refine u0 (ki ho rfl ?_)
 obtain⟨e1,U⟩: ∃e1,(s.heap.update a (ar λ_=> #[])).get? a=some (ab "list" #[] e1):=⟨_,get?_update_seq ho (λ_=> #[])⟩
 refine u0 (nu U rfl ?_)
 refine u0 (pp ?_)
 refine u0 (ce ?_)
 refine wE ?_
 have u:(((s.heap.update a (ar λ_=> #[])).push (ab "tuple" vs.toArray 0)).push (ab "list" #[] 0)).get? a=some (ab "list" #[] e1):=by
  rw[y9 _ _ _ (by rw[pf,z7];exact vR (yL ha)),y9 _ _ _ (by rw[z7];exact vR ha)]
  exact U
 show wpAny (model prog w) A _ P E {s with heap:=((s.heap.update a (ar λ_=> #[])).push (ab "tuple" vs.toArray 0)).push (ab "list" #[] 0)}
 dsimp only
 by_cases S:vs.toArray.size<2
 ·rw[if_pos S,if_pos S]
  have B:vs.length<2:=S
  refine u0 (u8 ?_)
  rw[StateT.run_pure]
  refine u0 (u8 ?_)
  dsimp only
  refine u0 (nu u rfl ?_)
  refine u0 (ki u rfl ?_ (hsz2:=by rw[Array.size_map];show(pairsOf vs).size≤_;rw[pairsOf_size];exact yM (mH O)))
  simp only[bne_self_eq_false,vM,if_false]
  refine u8 ?_
  have:=h _ (J B)
  rw[←Ug B] at this
  exact this
 ·rw[if_neg S,if_neg S]
  have B:2≤vs.length:=Nat.not_lt.mp S
  generalize Y:((s.heap.update a (ar λ_=> #[])).push (ab "tuple" vs.toArray 0)).push (ab "list" #[] 0)=h1 at u⊢
  have keep: ∀b o,b≠a→s.heap.get? b=some o→h1.get? b=some o:=λb o hb e=>by
   have Z:b<s.heap.objs.size:=vI e
   rw[←Y,y9 _ _ _ (by rw[pf,z7];exact vR (yL Z)),y9 _ _ _ (by rw[z7];exact vR Z),af _ _ _ _ hb]
   exact e
  refine u0 (w7 (ask h1 keep B) (λκ s0 hk=>?_) λ_ _ x=>x.elim)
  obtain⟨rfl,hk⟩:=hk
  refine u0 (w7 (kat_run (ks:=vs) (vs:=vs) (Q:=λD s'=>s'={s with heap:=h1}∧∃p:Array Nat,p.size=vs.length∧arrOf D=p.map (kas_item (vs.toArray.zip vs.toArray))∧failedOf D=none∧Good p)
   rfl B O (λp' D s' a1 a2 a3 a4=>⟨a4.1,p',a1,a2,a3,a4.2.2⟩) hk) ?_ λ_ _ e=>e)
  rintro⟨⟨⟩,D⟩ s' ⟨rfl,p,hp,har,hf,hg⟩
  dsimp only
  have I:=kat_snds (ks:=vs) (vs:=vs) rfl har
  have hsz:(IM vs p).size=vs.length:=by
   show(zH (p.toList.map λi=>vs.getD i wJ)).size=_
   rw[vV,vB,Array.length_toList,hp]
  refine u0 (nu u rfl ?_)
  refine u0 (ki u rfl ?_ (hsz2:=by rw[I];exact u5 (vH hsz) (yM (mH O))))
  rw[hf]
  simp only[bne_self_eq_false,vM,if_false]
  refine u8 ?_
  rw[I]
  have:=h p hg
  unfold sortedHeap at this
  rw[Y] at this
  exact this
theorem QK{l:Addr}{Q:Value→Shared→Prop}(hl:s.heap.IsList l vs.toArray)(I:vs.length<64)(u:vs.length<2→Good (wD vs.length).toArray)
  (ask: ∀h1,(∀b o,s.heap.get? b=some o→h1.get? b=some o)→2≤vs.length→wpAny (model prog w) A.in1.in1 (keyKind' vs.toArray) (λκ s'=>s'={s with heap:=h1}∧(sf vs.length).kasWp (rj prog w A.in1.in1 κ vs) (λp J=>J={s with heap:=h1}∧p.size=vs.length∧Good p) s') (λ_ _=>False) {s with heap:=h1})
  (h: ∀p,Good p→Q (.ref (s.heap.objs.size+1)) {s with heap:=sortedAll s.heap vs (IM vs p)}):wpAny (model prog w) A (w8 (.builtin "sorted") [.ref l]) Q E s:=by
 refine Calls.call_function_entry kind_sorted plain_sorted entry_sorted (args_sorted1 _) ?_
 unfold Builtin.«sorted»
 refine u0 (m:=checkCount "sorted" 1 1 _) (u8 ?_)
 refine u0 (collect_list hl ?_)
 refine u0 (ce ?_)
 have hsz:((s.heap.push (ab "list" #[] 0)).update s.heap.objs.size (ar (· ++vs.toArray))).objs.size=s.heap.objs.size+1:=by
  rw[z7,pf]
 have D:(((s.heap.push (ab "list" #[] 0)).update s.heap.objs.size (ar (· ++vs.toArray))).push (ab "list" vs.toArray 0)).get? (s.heap.objs.size+1)=some (ab "list" vs.toArray 0):=by
  rw[←hsz];exact vO _ rfl
 have keep: ∀b o,s.heap.get? b=some o→(((s.heap.push (ab "list" #[] 0)).update s.heap.objs.size (ar (· ++vs.toArray))).push (ab "list" vs.toArray 0)).get? b=some o:=λb o q=>by
  have B:b<s.heap.objs.size:=vI q
  rw[y9 _ _ _ (by rw[hsz];exact vR (yL B)),af _ _ _ _ (vR B),y9 _ _ _ (vR B)]
  exact q
 show wpAny _ _ _ _ _ {s with heap:=((s.heap.push (ab "list" #[] 0)).update s.heap.objs.size (ar (· ++vs.toArray))).push (ab "list" vs.toArray 0)}
 rw[hsz]
 refine u0 (wE (fk slot_list_sort ⟨_,D,rfl⟩ entry_list_sort (Kw (Good:=Good) D I u (λh1 O S=>ask h1 (λb o e=>O b o (vR (yL (vI e))) (keep b o e)) S) λp hp=>⟨_,rfl,?_⟩) (args_list_sort _)))
 exact u8 ⟨_,rfl,h p hp⟩
end
theorem Xs{x y:Int×Int}(h:KV x y=true)(h':KV y x=true):x=y:=by
 rw[JA] at h h'
 rcases h with h|⟨h,k⟩
 ·exact h'.elim (λq=>absurd q (Int.lt_asymm h)) λq=>absurd h (q.1▸kp _)
 ·exact h'.elim (λq=>absurd q (h▸kp _)) λq=>ll h (im k q.2)
theorem Td{l e:List (Int×Int)}(hp:l.Perm e)(h:l.Pairwise (λa b=>KV a b=true)):l=A3 e:=
 (hp.trans (P1 e).symm).eq_of_pairwise (λa b _ _ h1 u=>Xs h1 u) h (HR e)
noncomputable def BJ(p:Int×Int):AV:=.tuple [.int p.1,.int p.2]
theorem MI{v:AV}{r:List AV}{ps:List (Int×Int)}(h:D8 (v::r)=some ps): ∃p e,v=BJ p∧D8 r=some e∧ps=p::e:=by
 induction v using AV.casesOn with
 |tuple l=>induction l using u6 with
  |nil=>exact Ar h
  |cons a l=>induction a using AV.casesOn with
   |int a=>induction l using u6 with
    |nil=>exact Ar h
    |cons b l=>induction b using AV.casesOn with
     |int b=>induction l using u6 with
      |cons _ _=>exact Ar h
      |nil=>
       obtain⟨e,h1,h2⟩:=Option.map_eq_some_iff.mp h
       exact⟨(a,b),e,rfl,h1,h2.symm⟩
     |_=>exact Ar h
   |_=>exact Ar h
 |_=>exact Ar h
theorem OL{l:List AV}: ∀{ps:List (Int×Int)},D8 l=some ps→l=ps.map BJ:=by
 induction l with
 |nil=>intro ps h;cases u7 h;rfl
 |cons v r e=>
  intro ps h
  obtain⟨p,qs,rfl,h1,rfl⟩:=MI h
  rw[e h1];rfl
section
variable{X:Cx}{A:Around}{F P:Addr→Prop}{W:Wd}{H:AH}
inductive Lh (X:Cx) (W:Wd) (p:Int×Int):Value→Prop
 |mk {T:Addr} {t u:Tok} {n:Nat}:W.fz T (A7 "tuple" [.int p.1 t,.int p.2 u] n)→Lh X W p (.ref T)
theorem Lh.vr{p:Int×Int}{c:Value}(h:Lh X W p c):VR X W (BJ p) c:=by
 cases h with
 |mk h=>exact .tuple h (.cons (.int _ _) (.cons (.int _ _) .nil))
theorem MP{p:Int×Int}{c:Value}(h:VR X W (BJ p) c):Lh X W p c:=by
 refine Mine.Internal.SeqV.casesOn h.out λe rr=>?_
 obtain⟨a,b,rfl,h1,h2⟩:=rr.o2
 obtain⟨t⟩:=h1.out
 obtain⟨u⟩:=h2.out
 exact .mk e
theorem J1{ps:List (Int×Int)}: ∀{vs:List Value},AN X W (ps.map BJ) vs→∀i,i<ps.length→Lh X W (ps.getD i (0,0)) (vs.getD i .none):=by
 induction ps with
 |nil=>exactλr i h=>absurd h (xN _)
 |cons p ps e=>
  intro vs r i hi
  obtain⟨c,cs,rfl,h,q⟩:=r.out
  induction i using eh with
  |zero=>exact MP h
  |succ i=>exact e q i (wQ hi)
theorem NH{h1:Heap}(D: ∀b o,W.h.get? b=some o→h1.get? b=some o){ps:List (Int×Int)}: ∀{vs:List Value},AN X W (ps.map BJ) vs→∃u,KatTups h1 vs u∧(∀v∈u,∃i t,v=.int i t)∧u.length=ps.length:=by
 induction ps with
 |nil=>intro vs r;rw[show vs=[] from r.out];exact⟨[],trivial,(λ_ h=>nomatch h),rfl⟩
 |cons p ps I=>
  intro vs r
  obtain⟨c,cs,rfl,h,q⟩:=r.out
  obtain⟨u,q1,q2,q3⟩:=I q
  cases MP h with
  |mk B=>exact⟨.int p.1 _::u,KatTups.cons (D _ _ B.1) rfl rfl rfl q1,λv J=>(List.mem_cons.mp J).elim (λe=>⟨_,_,e⟩) (q2 v),congrArg (· +1) q3⟩
noncomputable abbrev Ot(ps:List (Int×Int)):Nat→Int:=λi=>(ps.getD i (0,0)).1
theorem Mg{α:Type}{l:List α}{d:α}{i:Nat}(h:i<l.length):l.getD i d=l[i]:=by rw[dy,wT h];rfl
theorem SM{ps:List (Int×Int)}(hd:(ps.map (·.1)).Nodup):dA ps.length (Ot ps):=λi j hi u e=>by
 have e:ps[i].1=ps[j].1:=Mg (d:=(0,0)) hi▸Mg (d:=(0,0)) u▸e
 refine(np (i:=i) (j:=j) (h₀:=(vB (as:=ps) (λx:Int×Int=>x.1)).symm▸hi) (h₁:=(vB (as:=ps) (λx:Int×Int=>x.1)).symm▸u) hd).mp ?_
 rw[fw,fw];exact e
theorem TQ{ps:List (Int×Int)}{p:Array Nat}(hp:PM ps.length p)(B:GC (Ot ps) p ps.length):p.toList.map (λi=>ps.getD i (0,0))=A3 ps:=by
 refine Td ?_ ?_
 ·have h1:(p.toList.map λi=>ps.getD i (0,0)).Perm ((wD ps.length).map λi=>ps.getD i (0,0)):=List.Perm.map _ hp.perm.toList
  have e:((wD ps.length).map λi=>ps.getD i (0,0))=ps:=List.ext_getElem (by rw[vB,xW]) λi h1 e=>by rw[fw,kz];exact Mg e
  exact h1.trans (List.Perm.of_eq e)
 ·rw[List.pairwise_map,List.pairwise_iff_getElem]
  intro i j hi u hij
  have:=B i j hij (hp.size▸u)
  unfold ka at this
  rw[Gm hi,Gm u] at this
  exact JA.mpr (.inl this)
noncomputable def Z5(W:Wd)(ps:List (Int×Int))(vs:List Value)(h':Heap)(c:Value):Prop:=∃p e,PM ps.length p∧GC (Ot ps) p ps.length∧c=.ref (W.h.objs.size+1)∧h'.get? (W.h.objs.size+1)=some (A7 "list" (IM vs p).toList e)
theorem jQ{W':Wd}{ps:List (Int×Int)}{vs:List Value}(m:A5 W W')(r:AN X W (ps.map BJ) vs){l:List Nat}(hl: ∀i∈l,i<ps.length):AN X W' ((l.map λi=>ps.getD i (0,0)).map BJ) (l.map λi=>vs.getD i wJ):=by
 induction l with
 |nil=>exact .nil
 |cons i l u=>exact .cons (VR.more m (J1 r i (hl i (.head _))).vr) (u λj e=>hl j (.tail _ e))
theorem XU{ps:List (Int×Int)}{vs:List Value}{h1:Heap}{s:Shared}{B:Around}(hs:s.heap=h1)(I: ∀b o,W.h.get? b=some o→h1.get? b=some o)(r:AN X W (ps.map BJ) vs)(inj:dA ps.length (Ot ps)){i j:Nat}(hi:i<ps.length)(u:j<ps.length){C:Bool→Shared→Prop}(e:C (SG (Ot ps) i j) s):
  rj X.prog X.w B (tuples' (kt "int" !=kt "tuple")) vs i j C s:=by
 subst hs
 have a1:=J1 r i hi
 have a2:=J1 r j u
 unfold rj
 revert a1 a2
 generalize vs.getD i .none=c1
 generalize vs.getD j .none=c2
 intro a1 a2
 cases a1 with
 |mk z1=>cases a2 with
  |mk z2=>
   refine kat_lt (I _ _ z1.1) rfl (I _ _ z2.1) rfl (kat_cons (my (kat_go (λD=>?_) λD=>kat_no (oneLt_int e))))
   cases inj i j hi u (eq_of_beq D)
   refine kat_yes (kat_cons (my ?_))
   rw[beq_self_eq_true]
   rw[show SG (Ot ps) i i=false from decide_eq_false (kp _)] at e
   exact kat_yes (kat_nil e)
theorem PA(g:Gd X W H){a:Addr}{vs:List Value}{ps:List (Int×Int)}(hl:W.h.IsList a vs.toArray)(r:AN X W (ps.map BJ) vs)(Y:ps.length<64)(hd:(ps.map (·.1)).Nodup):
  AC X A F W (rok (.list ((A3 ps).map BJ)) H) (A8 X) (w8 (.builtin "sorted") [.ref a]):=by
 have u:vs.length=ps.length:=r.length.trans (vB _)
 refine AC.grow g (Z5 W ps vs) (λh' k c x S=>?_) λQ E h=>?_
 ·obtain⟨p,e,h1,D,rfl,h3⟩:=S
  refine .list (Ju h3 (w9 _)) ?_
  rw[←TQ h1 D]
  exact jQ (x.more0 g) r λi hi=>List.mem_range.mp (List.mem_toArray.mp (h1.perm.mem_iff.mp (Array.mem_toList_iff.mp hi)))
 ·refine QK (Good:=λp=>PM ps.length p∧GC (Ot ps) p ps.length) hl (u.symm▸Y) (λhs=>?_) (λh1 I D=>?_) λp hp=>?_
  ·rw[u] at hs⊢
   exact⟨⟨Array.Perm.refl _⟩,λi j B O=>absurd (vY (Nat.succ_le_of_lt B) O) (Nat.not_lt.mpr (u5 (w6 hs) (wH (w3 i))))⟩
  ·obtain⟨fs,q1,q2,q3⟩:=NH I r
   have J:1≤ps.length:=mi (u▸D)
   refine kat_kind (T:=.type "int") q1 (q3.symm▸J) (λv U=>?_) rfl ⟨rfl,?_⟩
   ·obtain⟨i,t,rfl⟩:=q2 v U
    exact ag rfl
   ·rw[u]
    exact KH.wp (lt:=SG (Ot ps)) (ok:=Ai ps.length) (λi j B C Z=>XU (W:=W) (h1:=h1) rfl I r (SM hd) B.1 B.2 Z) (KH.mono (λp hp=>⟨rfl,hp.1.size,hp⟩) (VJ (SM hd) J))
  ·obtain⟨e,he⟩:=rl W.s.heap vs (IM vs p)
   exact h _ W.s.toks _ (λb o hb=>qn hb) ⟨p,e,hp.1,hp.2,rfl,he⟩
end
noncomputable def Ey(l:List AV):Option AV:=match D8 l with
 |some ps=>if ps.length<64∧(ps.map (·.1)).Nodup then some (.list ((A3 ps).map BJ))else none
 |none=>none
noncomputable def EN:Ctx:=⟨λ_=>none,λ_ _=>none,λf vs H=>if f=nm "sorted" then(match vs with
 | [.list l]=>rof (Ey l) H
 |_=>none)else none⟩
section
variable{X:Cx}{Γ:Ctx}{n:Nat}{A:Around}{F P:Addr→Prop}{W W':Wd}{H:AH}{sc:Scope}
theorem RM{l:List AV}{v:AV}(h:Ey l=some v): ∃ps,l=ps.map BJ∧(ps.length<64∧(ps.map (·.1)).Nodup)∧.list ((A3 ps).map BJ)=v:=by
 revert h
 unfold Ey
 cases hp:D8 l with
 |none=>exact Ar
 |some ps=>exactλh=>⟨ps,OL hp,At h⟩
theorem tG(b:Aa X):AK X EN n:=by
 refine⟨λx v h=>Ar h,λf vs H _ h=>?_,λ{f vs H W cs c A} _ g ao r hc=>?_,λh=>Ar h⟩
 ·by_cases hf:f=nm "sorted"
  ·subst hf
   exact⟨.builtin "sorted",b _ _ rfl,.inl ⟨_,rfl⟩⟩
  ·exact absurd (show(if f=nm "sorted" then(match vs with| [.list l]=>rof (Ey l) H|_=>none)else none)=(none:R AV)from if_neg hf) h
 ·refine AC.guardR (c:=f=nm "sorted") (r:=match vs with| [.list l]=>rof (Ey l) H|_=>none) λhf=>?_
  subst hf
  cases u7 ((b _ _ rfl).symm.trans hc)
  induction vs using u6 with
  |nil=>exact AC.none
  |cons v vs=>induction vs using u6 with
   |cons _ _=>cases v<;>exact AC.none
   |nil=>induction v using AV.casesOn with
    |list l=>
     refine AC.rof λv u=>?_
     obtain⟨ps,rfl,hc,rfl⟩:=RM u
     obtain⟨c,rfl,h⟩:=r.o1
     refine Mine.Internal.SeqV.casesOn h.out λe rr=>?_
     exact PA g ⟨_,e.1,rfl,_,rfl⟩ rr hc.1 hc.2
    |_=>exact AC.none
noncomputable def Wd.iced(W:Wd)(H:AH):Wd:={s:=W.s,N:=λb=>W.N b∧¬∃(i:Nat) (es:List (Int×AV)),H[i]?=some (AO.dict es)∧W.β[i]?=some b,β:=[]}
noncomputable def Wd.thaw(W' W:Wd):Wd:={s:=W'.s,N:=λb=>W'.N b∨b∈W.β,β:=W.β}
theorem aV(g:Gd X W H):Gd X (W.iced H) []:=⟨g.gens,g.os,λa o h=>⟨(g.base a o h).1,λq=>(g.base a o h).2 q.1⟩,.nil,rfl,λa h=>(nomatch h),λi ao a h=>Ar h⟩
theorem bX(g:Gd X W H)(ao:A9 X W A n):A9 X (W.iced H) A n:=by
 obtain⟨l,h1,h2⟩:=ao.frames
 refine⟨ao.handled,ao.depth,ao.units,l,h1,λenv u=>?_⟩
 obtain⟨B,L,o,q1,q2,q3,q4,q5,q6⟩:=h2 env u
 exact⟨B,L,o,q1,q2,q3,q4,(λz=>nomatch z),q6,λ⟨i,es,_,e⟩=>q5 (wG e)⟩
theorem β_idx(g:Gd X W H){a:Addr}(e:a∈W.β): ∃(i:Nat) (ao:AO),W.β[i]?=some a∧H[i]?=some ao∧OR X W ao a:=by
 obtain⟨i,hi⟩:=jp e
 have hl:=wT (l:=H) (g.len▸(List.getElem?_eq_some_iff.mp hi).1)
 exact⟨i,_,hi,hl,g.objs i _ a hl hi⟩
theorem Dj(x:AS X Ab (W.iced H) W'){a:Addr}{o:Obj}(h:W.h.get? a=some o):JH X (W.iced H) W' a o:=x.keep a o h (λz=>nomatch z) λz=>z
theorem O9(g:Gd X W H)(x:AS X Ab (W.iced H) W'):AS X Ab W (W'.thaw W):=by
 refine⟨λa o h hb _=>(Dj x h).imp id λq=>⟨q.1,q.2.1.1,q.2.2⟩,λa o h hb d=>x.dicts a o h (λz=>nomatch z) d,⟨[],(vX _).symm⟩,λa h=>.inl h,λa u=>?_,x.size⟩
 have:=x.N a u
 refine⟨λq=>q.elim (λq=>(this.mp q).1) (g.isN a),λq=>?_⟩
 by_cases hb:a∈W.β
 ·exact .inr hb
 ·exact .inl (this.mpr ⟨q,λ⟨i,es,_,e⟩=>hb (wG e)⟩)
theorem Tt(g:Gd X W H)(x:AS X Ab (W.iced H) W'):A5 W (W'.thaw W):=(O9 g x).more0 g
theorem Z1(g:Gd X W H)(x:AS X Ab (W.iced H) W')(u:Gd X W' []):Gd X (W'.thaw W) H:=by
 have m:=Tt g x
 refine⟨u.gens,u.os,λb o h=>⟨(u.base b o h).1,λq=>q.elim (u.base b o h).2 λq=>(g.base b o h).2 (g.isN b q)⟩,g.nodup,g.len,λa I=>.inr I,λi ao a h1 B=>?_⟩
 have o:=g.objs i ao a h1 B
 induction ao using AO.casesOn with
 |list l=>
  refine o.more m λo' e=>?_
  obtain⟨hl,_⟩:=o.out
  obtain⟨J,h',_,k,hd⟩:=hl
  cases u7 (h'.symm.trans e)
  exact(Dj x h').elim id λ⟨⟨es,k',q0⟩,_⟩=>nomatch hd.symm.trans q0
 |dict es=>exact o.more m λo' q=>(Dj x q).elim id λ⟨_,q1,_⟩=>absurd ⟨i,_,h1,B⟩ q1.2
 |inst c ks l=>
  obtain⟨D,h,f,r⟩:=o.out
  rcases Dj x h with q|⟨_,_,_,sl,q⟩
  ·exact .inst D q f (AN.more m r)
  ·exact .inst (sl:=sl) D q f (AN.more m r)
theorem Oj(g:Gd X W H)(x:AS X Ab (W.iced H) W'){t:String}{vs:List Value}{k:Nat}{a:Addr}(h:W'.fz a (A7 t vs k)):(W'.thaw W).fz a (A7 t vs k):=by
 refine⟨h.1,λq=>q.elim h.2 λq=>?_⟩
 obtain⟨i,ao,h1,h2,o⟩:=β_idx g q
 by_cases hd: ∃es,ao=.dict es
 ·obtain⟨es,rfl⟩:=hd
  obtain⟨u,e,r⟩:=o.out
  obtain⟨o',ho,es',ep,_,hdd,_⟩:=Heap.dictOf_iff.mp u
  rcases Dj x ho with q|⟨_,q1,_⟩
  ·cases u7 ((show W'.h.get? a=some o' from q).symm.trans h.1)
   exact nomatch hdd
  ·exact q1.2 ⟨i,es,h2,h1⟩
 ·refine h.2 ((x.N a (β_lt g q)).mpr ⟨g.isN a q,λ⟨j,es,e1,e2⟩=>?_⟩)
  cases LM g.nodup e2 h1
  exact hd ⟨es,u7 (h2.symm.trans e1)⟩
theorem QN(g:Gd X W H)(x:AS X Ab (W.iced H) W'){ps:List (Int×Int)}: ∀{vs:List Value},AN X W' (ps.map BJ) vs→AN X (W'.thaw W) (ps.map BJ) vs:=by
 induction ps with
 |nil=>intro vs r;rw[show vs=[] from r.out];exact .nil
 |cons p ps u=>
  intro vs r
  obtain⟨c,cs,rfl,h,q⟩:=r.out
  refine .cons ?_ (u q)
  cases MP h with
  |mk e=>exact(Lh.mk (Oj g x e)).vr
theorem Wt{es:List (Int×AV)}{ps:List (Int×Int)}(h:CT es=some ps): ∃vals,B6 (es.map (·.2))=some vals∧(ps.length<64∧es.length≤1000000)∧((es.map (·.1)).zip vals).filter (λp=>p.2≠0)=ps:=by
 revert h
 unfold CT
 cases e:B6 (es.map (·.2))with
 |none=>exact Ar
 |some vals=>exactλh=>let q:=At h;⟨vals,rfl,q.2▸q.1,q.2⟩
noncomputable def Zs(body:List Stmt)(sc:Scope):Prop:=∀(c:Str) (ks vals:List Int),ks.length=vals.length→ks.Nodup→ks.length≤1000000→((ks.zip vals).filter λp=>p.2≠0).length<64→
   GY EN ⟨[AD],[],LZ sc false body⟩ [.obj c [Ef] [.idict ks (vals.map .int)]] []=rok (.list ((A3 ((ks.zip vals).filter λp=>p.2≠0)).map BJ)) []
theorem Wo(ok:AX X){fa:Addr}{body:List Stmt}{ds:List AV}(fo:CZ X fa [AD] ds body sc)(hb:Nn X EN n sc false body)(I:Zs body sc)(g:Gd X W H)(ao:A9 X W A (n+1)){c:Str}{a:Nat}{c0:Value}{es:List (Int×AV)}{ps:List (Int×Int)}(u:VR X W (.obj c [Ef] [.ref a]) c0)(hH:H[a]?=some (.dict es))(O:CT es=some ps):
  AC X A Ab W (rok (.list ((A3 ps).map BJ)) H) (A8 X) (w8 (.ref fa) [c0]):=by
 obtain⟨vals,hvals,hc,rfl⟩:=Wt O
 refine Mine.Internal.ObjV.casesOn u.out λ{x C dx des dn dsl} dvs h1 h2 h3 h4 h5 h6=>?_
 obtain⟨hr,rfl,hr'⟩:=h6.o1
 obtain @⟨d,ha⟩:=hr'.out
 obtain @⟨kvs,hdo,e,rr⟩:=(g.objs _ _ _ hH ha).out
 have hI:=KO rr hvals
 obtain⟨od,Y,hisd⟩:=Heap.dictOf_iff.mp hdo
 have D:(es.map (·.1)).length=vals.length:=(vB _).trans ((vB (f:=λx:Int×AV=>x.2)).symm.trans (rr.length.symm.trans hI.length))
 have Z:(es.map (·.1)).Nodup:=by
  obtain⟨_,_,_,_,_,_,hn⟩:=hisd
  exact e▸hn
 have nd: ∀b o,W.fz b o→(W.iced H).fz b o:=λb o h=>⟨h.1,λq=>h.2 q.1⟩
 have vd:VR X (W.iced H) (.idict (es.map (·.1)) (vals.map .int)) (.ref d):=.idict (Sf ok g (wG ha)) ⟨Y,λq=>q.2 ⟨_,_,hH,ha⟩⟩ hisd e (PX hI)
 have B:VR X (W.iced H) (.obj c [Ef] [.idict (es.map (·.1)) (vals.map .int)]) (.ref x):=.obj h1 h2 (nd _ _ h3) (nd _ _ h4) h5 (.cons vd .nil)
 have S:=WA ok fo hb (aV g) (bX g ao) (.cons B .nil)
 rw[I c (es.map (·.1)) vals D Z ((vB _).symm▸hc.2) hc.1] at S
 intro Q E hQ
 refine S Q E λc' W' J g' U=>hQ c' (W'.thaw W) (O9 g J) (Z1 g J g') ?_
 refine Mine.Internal.SeqV.casesOn U.out λhz rr=>?_
 exact .list (Oj g J hz) (QN g J rr)
theorem O5(ok:AX X)(b:Aa X){B:Addr}{body:List Stmt}{ds:List AV}(fo:CZ X B [AD] ds body sc)(hb:Nn X EN n sc false body)(u:Zs body sc)
  (g:Gd X W H) (ao:A9 X W A (n+1)) {vs:List AV} {cs:List Value} (r:AN X W vs cs):AC X A Ab W (JD vs H) (A8 X) (w8 (.ref B) cs):=by
 induction vs using u6 with
 |nil=>exact AC.none
 |cons v vs=>induction v using AV.casesOn with
  |obj c ks l=>induction ks using u6 with
   |nil=>exact AC.none
   |cons k ks=>induction ks using u6 with
    |cons _ _=>exact AC.none
    |nil=>induction l using u6 with
     |nil=>exact AC.none
     |cons v l=>induction v using AV.casesOn with
      |ref a=>induction l using u6 with
       |cons _ _=>exact AC.none
       |nil=>induction vs using u6 with
        |cons _ _=>exact AC.none
        |nil=>
         refine AC.guardR (c:=k=Ef) (r:=match H[a]? with|some (.dict es)=>rof ((CT es).map λps=>AV.list ((A3 ps).map λp=>.tuple [.int p.1,.int p.2])) H|_=>uZ) λJ=>?_
         subst J
         obtain⟨O,rfl,e⟩:=r.o1
         cases I:H[a]? with
         |none=>exact AC.none
         |some z=>induction z using AO.casesOn with
          |dict es=>
           refine AC.rof λv D=>?_
           obtain⟨ps,hps,rfl⟩:=Option.map_eq_some_iff.mp D
           exact Wo ok fo hb u g ao e I hps
          |_=>exact AC.none
      |_=>exact AC.none
  |_=>exact AC.none
end
noncomputable def CM:Str:=nm "Memory.written"
structure pV (X:Cx) (d:FD) (a:Addr):Prop where
 at': ∃body sc nl ds,d.ds=[]∧d.body=cB sc nl body∧CZ X a d.ps ds body sc
inductive TE (X:Cx) (T:Pr) (f:Str) (a:Addr):Prop
 |w (body:List Stmt) (sc:Scope) (ds:List AV):f=CM→CZ X a [AD] ds body sc→Zs body sc→TE X T f a
 |fn (d:FD):f≠CM→T.fn f=some d→pV X d a→TE X T f a
structure Sj (X:Cx) (T:Pr):Prop where
 glob: ∀x v,T.glob x=some v→∃c,gv X x=some c∧∀W,VR X W v c
 fn: ∀f d,T.fn f=some d→NW f=true→∃a,gv X f=some (.ref a)∧keepIn X.K (.ref a)=true∧pV X d a
 cls: ∀c d,T.cls c=some d→Nd X c d
 base: ∀c C,X.cls c=some C→NX X T C
 meth: ∀c m f C,T.meth c m=some f→X.cls c=some C→∃a,findIn X.K (.ref C) m=some (some (.ref a))∧typeIn X.K (.ref a)=some (.type "function")∧keepIn X.K (.ref a)=true∧TE X T f a
noncomputable def Un(T:Pr)(k:Nat):Ctx:=⟨T.glob,T.meth,AB T k⟩
section
variable{X:Cx}{Γ:Ctx}{n:Nat}{A:Around}{F P:Addr→Prop}{W W':Wd}{H:AH}{sc:Scope}{T:Pr}
inductive VF (sc:Scope) (nl:Bool):List Stmt→Prop
 |plain {b:List Stmt}:cB sc nl b=LZ sc nl b→VF sc nl b
 |stuck {b:List Stmt}:cB sc nl b=[.stuck]→VF sc nl b
 |mk (ex:Expr) (pr pn:Pos) (s:Str) (k:Nat) (pc pr2 ph pt:Pos):Ak sc Av=true→cB sc nl [Vn ex s k pr pn pc pr2 ph pt]=[.tryRet (cE sc ex) Av (.lit (.str s))]→VF sc nl [Vn ex s k pr pn pc pr2 ph pt]
theorem TR{c:Prop} [d:Decidable c]{a:List CS}{P:Prop}(h1:c→(if c then a else [.stuck])=a→P)(e:(if c then a else [.stuck])=[.stuck]→P):P:=
 match d,h1,e with
 |.isTrue q,h1,_=>h1 q rfl
 |.isFalse _,_,e=>e rfl
theorem kD{nl:Bool}{ex:Expr}{pr ph pt:Pos}{u:Option Expr}{B:Option Str}{hb:List Stmt}{hs:List ExceptHandler}{o f r:List Stmt}:VF sc nl (.Try [.Return (some ex) pr] (.ExceptHandler u B hb ph::hs) o f pt::r):=by
 induction u using vN with
 |none=>exact .plain rfl
 |some u=>induction u using vA with
  |Name c pn=>induction B using vN with
   |some _=>exact .plain rfl
   |none=>induction hb using u6 with
    |nil=>exact .plain rfl
    |cons st hb=>induction st using zI with
     |Return v pr2=>induction v using vN with
      |none=>exact .plain rfl
      |some v=>induction v using vA with
       |Constant D k pc=>induction D using zD with
        |str s=>induction hb using u6 with
         |cons _ _=>exact .plain rfl
         |nil=>induction hs using u6 with
          |cons _ _=>exact .plain rfl
          |nil=>induction o using u6 with
           |cons _ _=>exact .plain rfl
           |nil=>induction f using u6 with
            |cons _ _=>exact .plain rfl
            |nil=>induction r using u6 with
             |cons _ _=>exact .plain rfl
             |nil=>
              refine TR (c:=(Ak sc c&&c==Av)=true) (a:=[.tryRet (cE sc ex) c (.lit (.str s))]) (λh e=>?_) λh=>.stuck h
              have h:=Bool.and_eq_true_iff.mp h
              cases(show c=Av from eq_of_beq h.2)
              exact .mk ex pr pn s k pc pr2 ph pt h.1 e
        |_=>exact .plain rfl
       |_=>exact .plain rfl
     |_=>exact .plain rfl
  |_=>exact .plain rfl
theorem eV{nl:Bool}{body:List Stmt}:VF sc nl body:=by
 induction body using u6 with
 |nil=>exact .plain rfl
 |cons st r=>induction st using zI with
  |Try b hs o f pt=>induction b using u6 with
   |nil=>exact .plain rfl
   |cons st b=>induction st using zI with
    |Return v pr=>induction v using vN with
     |none=>exact .plain rfl
     |some ex=>induction b using u6 with
      |cons _ _=>exact .plain rfl
      |nil=>induction hs using u6 with
       |nil=>exact .plain rfl
       |cons h hs=>
        obtain⟨e,ha,hb,ph⟩:=h
        exact kD
    |_=>exact .plain rfl
  |_=>exact .plain rfl
theorem cX(ok:AX X)(b:Aa X)(ga:AK X Γ (n+2))(u:F7 X):jA X Γ (n+2):=⟨λsc nl e c p=>⟨Vv ok b ga u⟩,λsc nl B hs o f p=>⟨Bx rfl⟩⟩
theorem S5(ok:AX X)(b:Aa X)(u:F7 X)(ga:AK X Γ (n+2)){d:FD}{a:Addr}(B:pV X d a)(g:Gd X W H)(ao:A9 X W A (n+3)){vs:List AV}{cs:List Value}(r:AN X W vs cs):AC X A Ab W (GY Γ d vs H) (A8 X) (w8 (.ref a) cs):=by
 obtain⟨body,sc,nl,ds,h1,h2,fo⟩:=B.at'
 obtain⟨ps,dd,bd⟩:=d
 dsimp only at h1 h2
 subst h1 h2
 cases eV (sc:=sc) (nl:=nl) (body:=body)with
 |plain e=>
  rw[e]
  exact WA ok fo (Lc ok b ga (cX ok b ga u) body) g ao r
 |stuck e=>
  rw[e]
  exact AC.run λ_=>AC.none
 |mk ex pr pn s k pc pr2 ph pt hg e=>
  rw[e]
  exact Uv ok b ga u fo hg g ao r
theorem V6{f:Str}{vs:List AV}(h1:f≠nm "int")(D:f≠nm "abs")(h3:f≠nm "str")(e:f≠nm "len")(B:f≠nm "tuple")(u:f≠nm "list")(I:f≠nm "sum"):B7 f vs H=none:=by
 induction vs using u6 with
 |nil=>rfl
 |cons v vs=>induction vs using u6 with
  |cons _ _=>cases v<;>rfl
  |nil=>induction v using AV.casesOn with
   |int i=>exact(if_neg h1).trans ((if_neg D).trans (if_neg h3))
   |bool b=>exact if_neg h1
   |str s=>exact if_neg e
   |list l=>exact(if_neg e).trans ((if_neg B).trans ((if_neg u).trans (if_neg I)))
   |tuple l=>exact(if_neg e).trans (if_neg u)
   |ref a=>
    show(match H[a]? with|some (.list l)=>if f=nm "tuple" then(if l.length≤1000000 then rok (AV.tuple l) H else uZ)else uZ|_=>uZ)=_
    cases H[a]? with
    |none=>rfl
    |some z=>induction z using AO.casesOn with
     |list l=>exact if_neg B
     |_=>rfl
   |_=>rfl
inductive fS:Value→Prop
 |b (id:String):fS (.builtin id)
 |t (T:String):fS (.type T)
theorem V5{f:Str}{vs:List AV}(h:B7 f vs H≠none): ∃v,bB f=some v∧fS v:=by
 by_cases h1:f=nm "int"
 ·exact h1▸⟨_,rfl,.t _⟩
 by_cases e:f=nm "abs"
 ·exact e▸⟨_,rfl,.b _⟩
 by_cases h3:f=nm "str"
 ·exact h3▸⟨_,rfl,.t _⟩
 by_cases u:f=nm "len"
 ·exact u▸⟨_,rfl,.b _⟩
 by_cases D:f=nm "tuple"
 ·exact D▸⟨_,rfl,.t _⟩
 by_cases B:f=nm "list"
 ·exact B▸⟨_,rfl,.t _⟩
 by_cases I:f=nm "sum"
 ·exact I▸⟨_,rfl,.b _⟩
 exact absurd (V6 h1 e h3 u D B I) h
theorem GJ{k:Nat}{f:Str}{vs:List AV}:AB T (k+1) f vs H=if f=CM then JD vs H else match T.fn f with
  |some d=>GY (Un T k) d vs H
  |none=>match T.cls f with
   |some d=>Ej T (Un T k) f d vs H
   |none=>if f=nm "sorted" then(match vs with
     | [.list l]=>rof ((Sh l).map .list) H
     |_=>none)else B7 f vs H:=rfl
noncomputable def SV(vs:List AV)(H:AH):R AV:=match vs with
 | [.list l]=>rof ((Sh l).map .list) H
 |_=>none
theorem TM(b:Aa X)(tk:Sj X T){k:Nat}{f:Str}{vs:List AV}(e:NW f=true)(h:AB T (k+1) f vs H≠none): ∃c,gv X f=some c∧JM X c:=by
 rw[GJ,if_neg (by rintro rfl;revert e;decide+kernel)] at h
 cases hd:T.fn f with
 |some d=>
  obtain⟨a,q1,q2,_⟩:=tk.fn f d hd e
  exact⟨_,q1,.inr (.inr q2)⟩
 |none=>
  rw[hd] at h
  cases hd:T.cls f with
  |some d=>
   obtain⟨C,_,_,_,_,q⟩:=(tk.cls f d hd).at'
   exact⟨_,q.q2,.inr (.inr q.q3)⟩
  |none=>
   rw[hd] at h
   by_cases hf:f=nm "sorted"
   ·subst hf
    exact⟨_,b _ _ rfl,.inl ⟨_,rfl⟩⟩
   ·obtain⟨v,q1,q2⟩:=V5 λq=>h ((if_neg hf).trans q)
    refine⟨v,b _ _ q1,?_⟩
    cases q2 with
    |b id=>exact .inl ⟨_,rfl⟩
    |t T=>exact .inr (.inl ⟨_,rfl⟩)
theorem T6(g:Gd X W H){vs:List AV}{cs:List Value}(r:AN X W vs cs):AC X A F W (SV vs H) (A8 X) (w8 (.builtin "sorted") cs):=by
 induction vs using u6 with
 |nil=>exact AC.none
 |cons v vs=>induction v using AV.casesOn with
  |list l=>induction vs using u6 with
   |cons _ _=>exact AC.none
   |nil=>
    refine AC.rof λv I=>?_
    obtain⟨J,e,rfl⟩:=Option.map_eq_some_iff.mp I
    obtain⟨u,e⟩:=DN e
    revert e
    cases B:B6 l with
    |none=>exact Ar
    |some xs=>
     intro e
     cases u7 e
     obtain⟨c,rfl,h1⟩:=r.o1
     refine Mine.Internal.SeqV.casesOn h1.out λD rr=>?_
     exact QW g ⟨_,D.1,rfl,_,rfl⟩ rr B u
  |_=>exact AC.none
theorem VW(ok:AX X)(b:Aa X)(B:F7 X)(tk:Sj X T){k:Nat}(ga:AK X (Un T k) (2*k+2)){f:Str}{vs:List AV}{cs:List Value}{c:Value}(e:NW f=true)(g:Gd X W H)(ao:A9 X W A (2*(k+1)+2))(r:AN X W vs cs)(hc:gv X f=some c):AC X A Ab W (AB T (k+1) f vs H) (A8 X) (w8 c cs):=by
 rw[GJ,if_neg (by rintro rfl;revert e;decide+kernel)]
 cases hd:T.fn f with
 |some d=>
  obtain⟨a,q1,q2,q3⟩:=tk.fn f d hd e
  cases u7 (q1.symm.trans hc)
  exact S5 ok b B ga q3 g (ao.low (w9 _)) r
 |none=>cases hd:T.cls f with
  |some d=>exact Z2 (n:=2*k+2) ok b ga (yW 1 _) tk.glob (tk.cls f d hd) (λC u=>tk.base f C u) g ao r hc
  |none=>
   refine AC.iteR (r:=SV vs H) (λhf=>?_) λ_=>UI ok b g ao.handled r hc
   subst hf
   cases u7 ((b _ _ rfl).symm.trans hc)
   exact T6 g r
theorem ZD(ok:AX X)(b:Aa X)(D:F7 X)(tk:Sj X T)(k:Nat):AK X (Un T k) (2*k+2):=by
 induction k with
 |zero=>
  refine⟨tk.glob,λf vs H _ h=>absurd rfl h,λ_ _ _ _ _=>AC.none,λ{c m f C} hm B=>?_⟩
  obtain⟨a,q1,q2,q3,_⟩:=tk.meth c m f C hm B
  exact⟨a,q1,q2,q3,λ_ _ _=>AC.none⟩
 |succ k ga=>
  refine⟨tk.glob,λf vs H e h=>TM b tk e h,λe g ao r hc=>VW ok b D tk ga e g ao r hc,λ{c m f C} hm B=>?_⟩
  obtain⟨a,q1,q2,q3,q4⟩:=tk.meth c m f C hm B
  refine⟨a,q1,q2,q3,λ{vs H W cs A} g ao r=>?_⟩
  show AC X A Ab W (AB T (k+1) f vs H) _ _
  rw[GJ]
  induction q4 using TE.casesOn with
  |w body sc ds hw fo u=>
   rw[if_pos hw]
   have I:AK X EN (2*k+2):=tG b
   exact O5 (n:=2*k+2) ok b fo (Lc ok b I (cX ok b I D) body) u g (ao.low (w9 _)) r
  |fn d hw hd J=>
   rw[if_neg hw,hd]
   exact S5 ok b D ga J g (ao.low (w9 _)) r
end
end Mine.Internal
namespace Mine.Internal
open PySem
noncomputable abbrev qI(i:Int):Bp Nat:=.lit (.int i)
noncomputable abbrev qS(s:String):Bp Nat:=.lit (.str (nm s))
noncomputable abbrev qV(i:Nat):Bp Nat:=.var i
noncomputable abbrev qG(s:String):Bp Nat:=.glob (nm s)
noncomputable abbrev qC(f:String)(as:List (Bp Nat)):Bp Nat:=.call (nm f) as
noncomputable abbrev qM(o:Bp Nat)(m:String)(as:List (Bp Nat)):Bp Nat:=.meth o (nm m) as
noncomputable abbrev qA(o:Bp Nat)(a:String):Bp Nat:=.attr o (nm a)
noncomputable abbrev qN(x:Nat)(e:Bp Nat):ES Nat:=.assign (.name x) e
noncomputable abbrev rI(i:Int):CE:=.lit (.int i)
noncomputable abbrev rS(s:String):CE:=.lit (.str (nm s))
noncomputable abbrev rV(s:String):CE:=.var (nm s)
noncomputable abbrev rC(f:String)(as:List CE):CE:=.call (nm f) as
noncomputable def EI:List Str:=[nm "size",nm "worth",nm "low",nm "half",nm "wide",nm "n",nm "rest",nm "count",nm "place",nm "width",nm "turned",nm "spot",nm "name",nm "stem",nm "flags",nm "result",nm "told",nm "condition",nm "prefix",nm "operand",nm "names",nm "order",nm "found",nm "number",nm ".0",nm "register",nm "row",nm "read",nm "written",nm "own",nm "at",nm "is_read",nm "is_written",nm "instruction",nm "last",nm "old",nm "carry",nm "whole",nm "turn",nm "out",nm "other",nm "one",nm "is_signed",nm "is_wide",nm "divisor",nm "part",nm "state",nm "target",nm "over",nm "by",nm "source",nm "high",nm "operands",nm "base",nm "offset",nm "zero",nm "small",nm "script",nm "cell",nm "pen",nm "many",nm "digit",nm "great",nm "mixed",nm "some",nm "way",nm "home",nm "index",nm "scale",nm "bits",nm "worths",nm "changed",nm "is_changed",nm "held",nm "pair",nm "before",nm "after",nm "heard",nm "befores",nm "afters",nm "is_even",nm "sure",nm "is_still",nm "self",nm "spots",nm "octet",nm "mem",nm "total",nm "bases"]
noncomputable def CV(i:Nat):Str:=match EI[i]? with
 |some s=>s
 |uZ=>⟨#[0,i]⟩
noncomputable def pN:QR Nat→TN
 |.name x=>.name (CV x)
 |.names xs=>.names (xs.map CV)
 |.bad=>.bad
mutual
noncomputable def dE:Bp Nat→CE
 |.stuck=>.stuck
 |.lit v=>.lit v
 |.var x=>.var (CV x)
 |.glob x=>.glob x
 |.bin op l r=>.bin op (dE l) (dE r)
 |.un op x=>.un op (dE x)
 |.bool op vs=>.bool op (QJ vs)
 |.cmp l ops rs=>.cmp (dE l) ops (QJ rs)
 |.ite t a b=>.ite (dE t) (dE a) (dE b)
 |.call f as=>.call f (QJ as)
 |.meth o m as=>.meth (dE o) m (QJ as)
 |.attr o a=>.attr (dE o) a
 |.sub o i=>.sub (dE o) (dE i)
 |.slice o l h=>.slice (dE o) (dE l) (dE h)
 |.tuple es=>.tuple (QJ es)
 |.list es=>.list (QJ es)
 |.dict ks vs=>.dict ks vs
 |.comp e t k s i ls=>.comp (dE e) (pN t) k (QJ s) (QJ i) (ls.map CV)
noncomputable def QJ:List (Bp Nat)→List CE
 | []=>[]
 |e::r=>dE e::QJ r
end
noncomputable def fV:U3 Nat→AT
 |.name x=>.name (CV x)
 |.attr o a=>.attr (dE o) a
 |.sub o i=>.sub (dE o) (dE i)
 |.bad=>.bad
mutual
noncomputable def dS:ES Nat→CS
 |.stuck=>.stuck
 |.pass=>.pass
 |.expr e=>.expr (dE e)
 |.ret e=>.ret (dE e)
 |.retnew es=>.retnew (QJ es)
 |.assign t e=>.assign (fV t) (dE e)
 |.assignT ts e=>.assignT (ts.map fV) (dE e)
 |.assignR ts e=>.assignR (ts.map fV) (dE e)
 |.ite t a b=>.ite (dE t) (Zl a) (Zl b)
 |.loop t k s b=>.loop (pN t) k (QJ s) (Zl b)
 |.while t b=>.while (dE t) (Zl b)
 |.raise c s=>.raise c s
 |.tryRet e c h=>.tryRet (dE e) c (dE h)
noncomputable def Zl:List (ES Nat)→List CS
 | []=>[]
 |s::r=>dS s::Zl r
end
structure FN where
 ps:List Nat
 body:List (ES Nat)
noncomputable def Au(d:FN):FD:=⟨d.ps.map CV,[],Zl d.body⟩
theorem JV{α:Type}: ∀{l:List (Str×α)} (_:(l.map (·.1)).Nodup) {i:Nat} {f:Str} {d:α},l[i]?=some (f,d)→l.lookup f=some d
 | [],_,_,_,_,h=>by simp at h
 |(g,e)::r,hn,0,f,d,h=>by
  simp at h
  obtain⟨rfl,rfl⟩:=h
  simp
 |(g,e)::r,hn,i+1,f,d,h=>by
  rw[v8,List.nodup_cons] at hn
  have h':r[i]?=some (f,d):=by simpa using h
  have hm:f∈r.map (·.1):=List.mem_map.mpr ⟨(f,d),wG h',rfl⟩
  have:(f==g)=false:=by
   apply Bool.eq_false_iff.mpr
   intro e
   rw[eq_of_beq e] at hm
   exact hn.1 hm
  rw[bx,this]
  exact JV hn.2 h'
noncomputable def Wk:FN:=⟨[0],[.ret (.bin .Sub (.bin .LShift (qI 1) (qV 0)) (qI 1))]⟩
noncomputable def V9:FN:=⟨[1,0],[.ret (.bin .BitAnd (qV 1) (qC "mask" [(qV 0)]))]⟩
noncomputable def Nv:FN:=⟨[1,0],[qN 2 (qC "wrap" [(qV 1),(qV 0)]),
 .ite (.cmp (.bin .RShift (qV 2) (.bin .Sub (qV 0) (qI 1))) [.Eq] [(qI 1)]) [.ret (.bin .Sub (qV 2) (.bin .LShift (qI 1) (qV 0)))] [],
 .ret (qV 2)]⟩
noncomputable def Ft:FN:=⟨[1,0],[qN 3 (.bin .LShift (qI 1) (.bin .Sub (qV 0) (qI 1))),
 .ret (.cmp (.un .USub (qV 3)) [.LtE,.Lt] [(qV 1),(qV 3)])]⟩
noncomputable def JG:FN:=⟨[1,0,4],[.ret (qC "wrap" [(qC "signed" [(qV 1),(qV 0)]),(qV 4)])]⟩
noncomputable def eD:FN:=⟨[1,5],[.ret (.bin .BitAnd (.bin .RShift (qV 1) (qV 5)) (qI 1))]⟩
noncomputable def V3:FN:=⟨[1,0],[qN 6 (qC "wrap" [(qV 1),(qV 0)]),
 qN 7 (qI 0),
 .while (.cmp (qV 6) [.Gt] [(qI 0)]) [qN 6 (.bin .BitAnd (qV 6) (.bin .Sub (qV 6) (qI 1))),qN 7 (.bin .Add (qV 7) (qI 1))],
 .ret (qV 7)]⟩
noncomputable def PO:FN:=⟨[1],[.ret (.bin .Sub (qI 1) (.bin .Mod (qC "ones" [(qV 1),(qI 8)]) (qI 2)))]⟩
noncomputable def G6:FN:=⟨[1,0],[qN 2 (qC "wrap" [(qV 1),(qV 0)]),
 .ite (.cmp (qV 2) [.Eq] [(qI 0)]) [.ret (.un .USub (qI 1))] [],
 .ret (qC "ones" [(.bin .Sub (.bin .BitAnd (qV 2) (.un .USub (qV 2))) (qI 1)),(qV 0)])]⟩
noncomputable def Fk:FN:=⟨[1,0],[qN 6 (qC "wrap" [(qV 1),(qV 0)]),
 qN 8 (.un .USub (qI 1)),
 .while (.cmp (qV 6) [.Gt] [(qI 0)]) [qN 6 (.bin .RShift (qV 6) (qI 1)),qN 8 (.bin .Add (qV 8) (qI 1))],
 .ret (qV 8)]⟩
noncomputable def LB:FN:=⟨[1,9],[qN 2 (qC "wrap" [(qV 1),(.bin .Mult (qI 8) (qV 9))]),
 qN 10 (qI 0),
 .loop (.name 11) .range [(qV 9)] [qN 10 (.bin .BitOr (.bin .LShift (qV 10) (qI 8)) (.bin .BitAnd (qV 2) (qI 255))),qN 2 (.bin .RShift (qV 2) (qI 8))],
 .ret (qV 10)]⟩
noncomputable def HA:FN:=⟨[],[.ret (qM (qG "CONDITIONS") "split" [(qS " ")])]⟩
noncomputable def Jl:FN:=⟨[12],[.loop (.name 13) .plain [(.tuple [(qS "j"),(qS "set"),(qS "cmov")])] [.ite (.bool .And [(qM (qV 12) "startswith" [(qV 13)]),(.cmp (.slice (qV 12) (qC "len" [(qV 13)]) (.lit .none)) [.In] [(qC "condition_names" [])])]) [.ret (.slice (qV 12) (qC "len" [(qV 13)]) (.lit .none))] []],
 .ret (qS "")]⟩
noncomputable def Ka:FN:=⟨[12],[.ite (.bool .And [(.cmp (.slice (qV 12) (.lit .none) (qI 4)) [.In] [(.tuple [(qS "movs"),(qS "cmps"),(qS "stos"),(qS "lods"),(qS "scas")])]),(.cmp (qC "len" [(qV 12)]) [.Eq] [(qI 5)])]) [qN 8 (qM (qS "bwdq") "find" [(.sub (qV 12) (qI 4))]),.ite (.cmp (qV 8) [.GtE] [(qI 0)]) [.ret (.tuple [(.slice (qV 12) (.lit .none) (qI 4)),(.bin .LShift (qI 8) (qV 8))])] []] [],
 .ret (.tuple [(qS ""),(qI 0)])]⟩
noncomputable def dU:FN:=⟨[14,15,0],[qN 16 (qC "wrap" [(qV 15),(qV 0)]),
 .assign (.attr (qV 14) (nm "sf")) (qC "bit" [(qV 16),(.bin .Sub (qV 0) (qI 1))]),
 .assign (.attr (qV 14) (nm "zf")) (.ite (.cmp (qV 16) [.Eq] [(qI 0)]) (qI 1) (qI 0)),
 .assign (.attr (qV 14) (nm "pf")) (qC "parity" [(qV 16)]),
 .ret (qV 16)]⟩
noncomputable def H6:FN:=⟨[],[.ret (.slice (qM (qG "FLAG_NAMES") "split" []) (.lit .none) (qI 6))]⟩
noncomputable def Fe:FN:=⟨[12],[qN 17 (qC "condition_of" [(qV 12)]),
 .ite (.cmp (qV 17) [.NotEq] [(qS "")]) [.ret (qC "flags_of_condition" [(qV 17)])] [],
 .ite (.cmp (qV 12) [.In] [(.tuple [(qS "adc"),(qS "sbb"),(qS "rcl"),(qS "rcr"),(qS "cmc")])]) [.ret (.list [(qS "cf")])] [],
 .ite (.cmp (qV 12) [.In] [(.tuple [(qS "loope"),(qS "loopne")])]) [.ret (.list [(qS "zf")])] [],
 .ite (.cmp (qV 12) [.Eq] [(qS "lahf")]) [.ret (.slice (qM (qG "FLAG_NAMES") "split" []) (.lit .none) (qI 5))] [],
 .ite (.cmp (qV 12) [.Eq] [(qS "pushfq")]) [.ret (qM (qG "FLAG_NAMES") "split" [])] [],
 .ret (.ite (.cmp (.sub (qC "string_stem" [(qV 12)]) (qI 0)) [.NotEq] [(qS "")]) (.list [(qS "df")]) (.list []))]⟩
noncomputable def Ep:FN:=⟨[12],[.ite (.cmp (qV 12) [.In] [(.tuple [(qS "add"),(qS "adc"),(qS "sub"),(qS "sbb"),(qS "cmp"),(qS "neg"),(qS "and"),(qS "or"),(qS "xor"),(qS "test"),(qS "xadd"),(qS "cmpxchg")])]) [.ret (qC "six_flags" [])] [],
 .ite (.cmp (qV 12) [.In] [(.tuple [(qS "shl"),(qS "shr"),(qS "sar"),(qS "shld"),(qS "shrd"),(qS "mul"),(qS "imul"),(qS "div"),(qS "idiv")])]) [.ret (qC "six_flags" [])] [],
 .ite (.cmp (qV 12) [.In] [(.tuple [(qS "bsf"),(qS "bsr"),(qS "popcnt"),(qS "lzcnt"),(qS "tzcnt")])]) [.ret (qC "six_flags" [])] [],
 .ite (.cmp (qV 12) [.In] [(.tuple [(qS "bt"),(qS "bts"),(qS "btr"),(qS "btc")])]) [.ret (.list [(qS "cf"),(qS "pf"),(qS "af"),(qS "sf"),(qS "of")])] [],
 .ite (.cmp (qV 12) [.In] [(.tuple [(qS "inc"),(qS "dec")])]) [.ret (.slice (qC "six_flags" []) (qI 1) (.lit .none))] [],
 .ite (.cmp (qV 12) [.In] [(.tuple [(qS "rol"),(qS "ror"),(qS "rcl"),(qS "rcr")])]) [.ret (.list [(qS "cf"),(qS "of")])] [],
 .ite (.cmp (qV 12) [.In] [(.tuple [(qS "clc"),(qS "stc"),(qS "cmc")])]) [.ret (.list [(qS "cf")])] [],
 .ite (.cmp (qV 12) [.In] [(.tuple [(qS "cld"),(qS "std")])]) [.ret (.list [(qS "df")])] [],
 .ite (.cmp (qV 12) [.Eq] [(qS "sahf")]) [.ret (.slice (qM (qG "FLAG_NAMES") "split" []) (.lit .none) (qI 5))] [],
 .ite (.cmp (qV 12) [.Eq] [(qS "popfq")]) [.ret (qM (qG "FLAG_NAMES") "split" [])] [],
 .ret (.ite (.cmp (.sub (qC "string_stem" [(qV 12)]) (qI 0)) [.In] [(.tuple [(qS "cmps"),(qS "scas")])]) (qC "six_flags" []) (.list []))]⟩
noncomputable def GX:FN:=⟨[12,18],[.ite (.cmp (qV 12) [.In] [(.tuple [(qS "shl"),(qS "shr"),(qS "sar"),(qS "shld"),(qS "shrd"),(qS "rol"),(qS "ror"),(qS "rcl"),(qS "rcr")])]) [.ret (.list [])] [],
 .ite (.bool .And [(.cmp (.sub (qC "string_stem" [(qV 12)]) (qI 0)) [.NotEq] [(qS "")]),(.cmp (qV 18) [.NotEq] [(qS "")])]) [.ret (.list [])] [],
 .ret (qC "writes_flags" [(qV 12)])]⟩
noncomputable def FH:FN:=⟨[19],[.ite (.cmp (qA (qV 19) "kind") [.Eq] [(qS "reg")]) [.ret (qA (qA (qV 19) "register") "size")] [],
 .ret (.ite (.cmp (qA (qV 19) "kind") [.Eq] [(qS "mem")]) (qA (qV 19) "size") (qI 0))]⟩
noncomputable def OW:FN:=⟨[20],[qN 21 (qM (qG "FLAG_NAMES") "split" []),
 qN 22 (qI 0),
 .loop (.name 12) .plain [(qV 20)] [.ite (.cmp (qV 12) [.NotIn] [(qV 21)]) [.stuck] [],qN 22 (.bin .BitOr (qV 22) (.bin .LShift (qI 1) (qM (qV 21) "index" [(qV 12)])))],
 .ret (qV 22)]⟩
noncomputable def K7:FN:=⟨[22],[.ret (.comp (qV 23) (.name 23) .range [(qI 32)] [(.cmp (.bin .BitAnd (.bin .RShift (qV 22) (qV 23)) (qI 1)) [.Eq] [(qI 1)])] [24,23])]⟩
noncomputable def EV:FN:=⟨[19],[.ite (.cmp (qA (qV 19) "kind") [.NotEq] [(qS "reg")]) [.ret (qI 0)] [],
 qN 25 (qA (qV 19) "register"),
 .ite (.cmp (qA (qV 25) "kind") [.Eq] [(qS "gpr")]) [.ret (.bin .LShift (qI 1) (qA (qV 25) "number"))] [],
 .ite (.cmp (qA (qV 25) "kind") [.Eq] [(qS "high")]) [.ret (.bin .LShift (qI 1) (.bin .Sub (qA (qV 25) "number") (qI 4)))] [],
 .ite (.cmp (qA (qV 25) "kind") [.Eq] [(qS "xmm")]) [.ret (.bin .LShift (qI 1) (.bin .Add (qI 16) (qA (qV 25) "number")))] [],
 .ret (qI 0)]⟩
noncomputable def FI:FN:=⟨[19],[qN 22 (qI 0),
 .ite (.cmp (qA (qV 19) "kind") [.Eq] [(qS "mem")]) [.loop (.name 25) .plain [(qM (qV 19) "registers" [])] [.ite (.cmp (qA (qV 25) "kind") [.Eq] [(qS "gpr")]) [qN 22 (.bin .BitOr (qV 22) (.bin .LShift (qI 1) (qA (qV 25) "number")))] []]] [],
 .ret (qV 22)]⟩
noncomputable def IQ:FN:=⟨[26],[.ret (.bool .And [(.cmp (qC "len" [(qA (qV 26) "operands")]) [.Eq] [(qI 0)]),(.cmp (.sub (qC "string_stem" [(qA (qV 26) "name")]) (qI 0)) [.NotEq] [(qS "")])])]⟩
noncomputable def Em:FN:=⟨[26],[.ite (.bool .Or [(.cmp (qC "len" [(qA (qV 26) "operands")]) [.Eq] [(qI 0)]),(.cmp (qA (.sub (qA (qV 26) "operands") (qI 0)) "kind") [.NotIn] [(.tuple [(qS "reg"),(qS "mem")])])]) [.ret (.lit (.bool false))] [],
 .ite (.bool .And [(.cmp (qA (qV 26) "name") [.Eq] [(qS "imul")]),(.cmp (qC "len" [(qA (qV 26) "operands")]) [.Eq] [(qI 1)])]) [.ret (.lit (.bool false))] [],
 .ret (.cmp (qA (qV 26) "name") [.NotIn] [(qM (qG "ONLY_READS") "split" [])])]⟩
noncomputable def Fu:FN:=⟨[26],[.ite (.bool .Or [(.cmp (qA (qV 26) "name") [.In] [(qM (qG "FRESH") "split" [])]),(.cmp (qA (qV 26) "name") [.In] [(qM (qG "FRESH_LANES") "split" [])]),(.cmp (qA (qV 26) "name") [.Eq] [(qS "nop")]),(qM (qA (qV 26) "name") "startswith" [(qS "set")])]) [.ret (.lit (.bool false))] [],
 .ite (.cmp (qA (qV 26) "name") [.In] [(qM (qG "LOW_PARTS") "split" [])]) [.ret (.bool .And [(.cmp (qA (.sub (qA (qV 26) "operands") (qI 0)) "kind") [.Eq] [(qS "reg")]),(.cmp (qA (.sub (qA (qV 26) "operands") (qI 1)) "kind") [.Eq] [(qS "reg")])])] [],
 .ite (.cmp (qA (qV 26) "name") [.In] [(qM (qG "HALF_MOVES") "split" [])]) [.ret (.cmp (qA (.sub (qA (qV 26) "operands") (qI 0)) "kind") [.Eq] [(qS "reg")])] [],
 .ret (.un .Not (.bool .And [(.cmp (qA (qV 26) "name") [.Eq] [(qS "imul")]),(.cmp (qC "len" [(qA (qV 26) "operands")]) [.Eq] [(qI 3)])]))]⟩
noncomputable def Ei:FN:=⟨[26],[qN 12 (qA (qV 26) "name"),
 .ite (.bool .And [(.cmp (qV 12) [.In] [(qM (qG "HALVES") "split" [])]),(.cmp (qC "len" [(qA (qV 26) "operands")]) [.Eq] [(qI 1)])]) [qN 0 (qC "operand_size" [(.sub (qA (qV 26) "operands") (qI 0))]),.ite (.cmp (qV 0) [.Eq] [(qI 8)]) [.ret (.tuple [(qI 1),(qI 1)])] [],.ite (.cmp (qV 12) [.In] [(.tuple [(qS "mul"),(qS "imul")])]) [.ret (.tuple [(.ite (.cmp (qV 0) [.Eq] [(qI 16)]) (qI 5) (qI 1)),(qI 5)])] [],.ret (.tuple [(qI 5),(qI 5)])] [],
 .ite (.cmp (qV 12) [.In] [(.tuple [(qS "cbw"),(qS "cwde"),(qS "cdqe"),(qS "lahf"),(qS "cmpxchg")])]) [.ret (.tuple [(qI 1),(qI 1)])] [],
 .ite (.cmp (qV 12) [.In] [(.tuple [(qS "cwd"),(qS "cdq"),(qS "cqo")])]) [.ret (.tuple [(.ite (.cmp (qV 12) [.Eq] [(qS "cwd")]) (qI 5) (qI 1)),(qI 4)])] [],
 .ite (.cmp (qV 12) [.Eq] [(qS "sahf")]) [.ret (.tuple [(qI 1),(qI 0)])] [],
 .ite (.cmp (qV 12) [.In] [(qM (qG "STACK_NAMES") "split" [])]) [.ret (.tuple [(qI 16),(qI 16)])] [],
 .ite (.cmp (qV 12) [.Eq] [(qS "leave")]) [.ret (.tuple [(qI 32),(qI 48)])] [],
 .ite (.cmp (qV 12) [.In] [(.tuple [(qS "loop"),(qS "loope"),(qS "loopne")])]) [.ret (.tuple [(qI 2),(qI 2)])] [],
 .ite (.cmp (qV 12) [.Eq] [(qS "jrcxz")]) [.ret (.tuple [(qI 2),(qI 0)])] [],
 .ite (.cmp (qV 12) [.Eq] [(qS "cpuid")]) [.ret (.tuple [(qI 3),(qI 15)])] [],
 .ret (.ite (.cmp (qV 12) [.Eq] [(qS "syscall")]) (.tuple [(qI 0),(qI 2050)]) (.tuple [(qI 0),(qI 0)]))]⟩
noncomputable def Gq:FN:=⟨[26],[.ite (qC "is_string" [(qV 26)]) [.ret (.slice (qC "string_uses" [(qV 26)]) (.lit .none) (qI 2))] [],
 .assignT [(.name 27),(.name 28)] (qC "implied_uses" [(qV 26)]),
 .loop (.name 8) .range [(qC "len" [(qA (qV 26) "operands")])] [qN 19 (.sub (qA (qV 26) "operands") (qV 8)),qN 27 (.bin .BitOr (qV 27) (qC "address_mask" [(qV 19)])),qN 29 (qC "register_mask" [(qV 19)]),.ite (.bool .And [(.cmp (qV 8) [.Eq] [(qI 0)]),(qC "writes_first" [(qV 26)])]) [qN 28 (.bin .BitOr (qV 28) (qV 29)),.ite (.bool .Or [(qC "reads_first" [(qV 26)]),(.cmp (qC "operand_size" [(qV 19)]) [.Lt] [(qI 32)])]) [qN 27 (.bin .BitOr (qV 27) (qV 29))] []] [.ite (.cmp (qA (qV 26) "name") [.NotEq] [(qS "nop")]) [qN 27 (.bin .BitOr (qV 27) (qV 29)),.ite (.bool .And [(.cmp (qV 8) [.Eq] [(qI 1)]),(.cmp (qA (qV 26) "name") [.In] [(.tuple [(qS "xchg"),(qS "xadd")])])]) [qN 28 (.bin .BitOr (qV 28) (qV 29))] []] []]],
 .ret (.tuple [(qV 27),(qV 28)])]⟩
noncomputable def Fc:FN:=⟨[26],[.ite (qC "is_string" [(qV 26)]) [.ret (.slice (qC "string_uses" [(qV 26)]) (qI 2) (.lit .none))] [],
 qN 31 (.cmp (qA (qV 26) "name") [.In] [(.tuple [(qS "pop"),(qS "popfq"),(qS "ret"),(qS "leave")])]),
 qN 32 (.cmp (qA (qV 26) "name") [.In] [(.tuple [(qS "push"),(qS "pushfq"),(qS "call")])]),
 qN 30 (qM (qV 26) "memory_at" []),
 .ite (.bool .And [(.cmp (qV 30) [.GtE] [(qI 0)]),(.cmp (qA (qV 26) "name") [.NotIn] [(.tuple [(qS "lea"),(qS "nop")])])]) [.ite (.bool .Or [(.cmp (qV 30) [.Gt] [(qI 0)]),(.un .Not (qC "writes_first" [(qV 26)])),(qC "reads_first" [(qV 26)])]) [qN 31 (.lit (.bool true))] [],.ite (.bool .Or [(.bool .And [(.cmp (qV 30) [.Eq] [(qI 0)]),(qC "writes_first" [(qV 26)])]),(.cmp (qA (qV 26) "name") [.In] [(.tuple [(qS "xchg"),(qS "xadd")])])]) [qN 32 (.lit (.bool true))] []] [],
 .ret (.tuple [(qV 31),(qV 32)])]⟩
noncomputable def YC:FN:=⟨[33],[.assignT [(.name 27),(.name 28)] (qC "used_masks" [(qV 33)]),
 .assignT [(.name 31),(.name 32)] (qC "memory_uses" [(qV 33)]),
 .ret (.tuple [(qC "bits_of" [(qV 27)]),(qC "bits_of" [(qV 28)]),(qV 31),(qV 32)])]⟩
noncomputable def Fd:FN:=⟨[26],[.ite (.bool .Or [(.cmp (qA (qV 26) "name") [.NotIn] [(qM (qG "SHIFT_NAMES") "split" [])]),(.cmp (qC "len" [(qA (qV 26) "operands")]) [.Lt] [(qI 2)])]) [.ret (.un .USub (qI 1))] [],
 qN 34 (.sub (qA (qV 26) "operands") (.bin .Sub (qC "len" [(qA (qV 26) "operands")]) (qI 1))),
 .ite (.bool .Or [(.cmp (qA (qV 34) "kind") [.NotEq] [(qS "imm")]),(.cmp (qA (qV 34) "name") [.NotEq] [(qS "")])]) [.ret (.un .USub (qI 1))] [],
 .ret (.bin .BitAnd (qA (qV 34) "worth") (.ite (.cmp (qC "operand_size" [(.sub (qA (qV 26) "operands") (qI 0))]) [.Eq] [(qI 64)]) (qI 63) (qI 31)))]⟩
noncomputable def Id:FN:=⟨[26],[qN 7 (qC "shift_count" [(qV 26)]),
 .ite (.bool .And [(.cmp (qV 7) [.Gt] [(qI 0)]),(.cmp (qA (qV 26) "name") [.NotIn] [(.tuple [(qS "rcl"),(qS "rcr")])])]) [qN 0 (qC "operand_size" [(.sub (qA (qV 26) "operands") (qI 0))]),.ite (.bool .Or [(.cmp (qV 7) [.Lt] [(qV 0)]),(.cmp (qA (qV 26) "name") [.In] [(.tuple [(qS "shl"),(qS "shr"),(qS "sar")])])]) [.ret (qC "flag_mask" [(qC "writes_flags" [(qA (qV 26) "name")])])] []] [],
 .ret (qC "flag_mask" [(qC "sure_flags" [(qA (qV 26) "name"),(qA (qV 26) "prefix")])])]⟩
noncomputable def Fj:FN:=⟨[0],[.ite (.cmp (qV 0) [.Eq] [(qI 64)]) [.ret (qM (qG "NAMES_64") "split" [])] [],
 .ite (.cmp (qV 0) [.Eq] [(qI 32)]) [.ret (qM (qG "NAMES_32") "split" [])] [],
 .ite (.cmp (qV 0) [.Eq] [(qI 16)]) [.ret (qM (qG "NAMES_16") "split" [])] [],
 .ite (.cmp (qV 0) [.Eq] [(qI 8)]) [.ret (qM (qG "NAMES_8") "split" [])] [],
 .ret (.list [])]⟩
noncomputable def Fo:FN:=⟨[0],[.ite (.cmp (qV 0) [.Eq] [(qI 32)]) [.ret (qS "d")] [],
 .ite (.cmp (qV 0) [.Eq] [(qI 16)]) [.ret (qS "w")] [],
 .ite (.cmp (qV 0) [.Eq] [(qI 8)]) [.ret (qS "b")] [],
 .ret (qS "")]⟩
noncomputable def cU:FN:=⟨[23,0],[qN 20 (qC "early_names" [(qV 0)]),
 .ite (.bool .Or [(.cmp (qV 20) [.Eq] [(.list [])]),(.un .Not (.cmp (qI 0) [.LtE,.LtE] [(qV 23),(qI 15)]))]) [.stuck] [],
 .ite (.cmp (qV 23) [.Lt] [(qI 8)]) [.ret (qC "Register" [(.sub (qV 20) (qV 23)),(qS "gpr"),(qV 23),(qV 0)])] [],
 .ret (qC "Register" [(.bin .Add (.bin .Add (qS "r") (qC "str" [(qV 23)])) (qC "late_ending" [(qV 0)])),(qS "gpr"),(qV 23),(qV 0)])]⟩
noncomputable def VA:FN:=⟨[23],[.ite (.un .Not (.cmp (qI 4) [.LtE,.LtE] [(qV 23),(qI 7)])) [.stuck] [],
 .ret (qC "Register" [(.sub (qM (qG "HIGH_NAMES") "split" []) (.bin .Sub (qV 23) (qI 4))),(qS "high"),(qV 23),(qI 8)])]⟩
noncomputable def Oz:FN:=⟨[35,1,0],[.ite (.cmp (qV 0) [.GtE] [(qI 32)]) [.ret (qV 1)] [],
 .ret (.bin .Add (.bin .Sub (qV 35) (qC "wrap" [(qV 35),(qV 0)])) (qV 1))]⟩
noncomputable def Eu:FN:=⟨[7,0],[.ret (qC "wrap" [(qV 7),(.ite (.cmp (qV 0) [.Eq] [(qI 64)]) (qI 6) (qI 5))])]⟩
noncomputable def Lb:FN:=⟨[12,1,7,0],[.ite (.cmp (qV 12) [.Eq] [(qS "shl")]) [qN 15 (qC "wrap" [(.bin .LShift (qV 1) (qV 7)),(qV 0)]),qN 36 (.ite (.cmp (qV 7) [.Lt] [(qV 0)]) (qC "bit" [(qV 1),(.bin .Sub (qV 0) (qV 7))]) (qI 0)),.ret (.tuple [(qV 15),(qV 36),(.bin .BitXor (qC "bit" [(qV 15),(.bin .Sub (qV 0) (qI 1))]) (qV 36))])] [],
 .ite (.cmp (qV 12) [.Eq] [(qS "shr")]) [qN 36 (.ite (.cmp (qV 7) [.Lt] [(qV 0)]) (qC "bit" [(qV 1),(.bin .Sub (qV 7) (qI 1))]) (qI 0)),.ret (.tuple [(.bin .RShift (qV 1) (qV 7)),(qV 36),(qC "bit" [(qV 1),(.bin .Sub (qV 0) (qI 1))])])] [],
 qN 37 (qC "signed" [(qV 1),(qV 0)]),
 .ret (.tuple [(qC "wrap" [(.bin .RShift (qV 37) (qV 7)),(qV 0)]),(qC "wrap" [(.bin .RShift (qV 37) (.bin .Sub (qV 7) (qI 1))),(qI 1)]),(qI 0)])]⟩
noncomputable def Ff:FN:=⟨[1,38,0],[.ret (.bin .BitOr (qC "wrap" [(.bin .LShift (qV 1) (qV 38)),(qV 0)]) (.bin .RShift (qV 1) (.bin .Sub (qV 0) (qV 38))))]⟩
noncomputable def Lf:FN:=⟨[12,1,7,0],[qN 38 (.bin .Mod (qV 7) (qV 0)),
 .ite (.cmp (qV 12) [.Eq] [(qS "rol")]) [qN 15 (qC "turned_left" [(qV 1),(qV 38),(qV 0)]),qN 36 (qC "bit" [(qV 15),(qI 0)]),.ret (.tuple [(qV 15),(qV 36),(.bin .BitXor (qC "bit" [(qV 15),(.bin .Sub (qV 0) (qI 1))]) (qV 36))])] [],
 qN 15 (qC "turned_left" [(qV 1),(.bin .Mod (.bin .Sub (qV 0) (qV 38)) (qV 0)),(qV 0)]),
 qN 36 (qC "bit" [(qV 15),(.bin .Sub (qV 0) (qI 1))]),
 .ret (.tuple [(qV 15),(qV 36),(.bin .BitXor (qV 36) (qC "bit" [(qV 15),(.bin .Sub (qV 0) (qI 2))]))])]⟩
noncomputable def DJ:FN:=⟨[12,1,36,7,0],[qN 4 (.bin .Add (qV 0) (qI 1)),
 qN 38 (.bin .Mod (qV 7) (qV 4)),
 .ite (.cmp (qV 12) [.Eq] [(qS "rcr")]) [qN 38 (.bin .Mod (.bin .Sub (qV 4) (qV 38)) (qV 4))] [],
 qN 37 (qC "turned_left" [(.bin .BitOr (.bin .LShift (qV 36) (qV 0)) (qV 1)),(qV 38),(qV 4)]),
 .assignR [(.name 15),(.name 39)] (.tuple [(qC "wrap" [(qV 37),(qV 0)]),(qC "bit" [(qV 37),(qV 0)])]),
 .ite (.cmp (qV 12) [.Eq] [(qS "rcr")]) [.ret (.tuple [(qV 15),(qV 39),(.bin .BitXor (qC "bit" [(qV 1),(.bin .Sub (qV 0) (qI 1))]) (qV 36))])] [],
 .ret (.tuple [(qV 15),(qV 39),(.bin .BitXor (qC "bit" [(qV 15),(.bin .Sub (qV 0) (qI 1))]) (qV 39))])]⟩
noncomputable def Dq:FN:=⟨[12,1,40,7,0],[.ite (.cmp (qV 7) [.Gt] [(qV 0)]) [.ret (.lit .none)] [],
 .ite (.cmp (qV 12) [.Eq] [(qS "shld")]) [qN 15 (qC "wrap" [(.bin .RShift (.bin .BitOr (.bin .LShift (qV 1) (qV 0)) (qV 40)) (.bin .Sub (qV 0) (qV 7))),(qV 0)]),qN 36 (qC "bit" [(qV 1),(.bin .Sub (qV 0) (qV 7))])] [qN 15 (qC "wrap" [(.bin .RShift (.bin .BitOr (.bin .LShift (qV 40) (qV 0)) (qV 1)) (qV 7)),(qV 0)]),qN 36 (qC "bit" [(qV 1),(.bin .Sub (qV 7) (qI 1))])],
 .ret (.tuple [(qV 15),(qV 36),(.bin .BitXor (qC "bit" [(qV 15),(.bin .Sub (qV 0) (qI 1))]) (qC "bit" [(qV 1),(.bin .Sub (qV 0) (qI 1))]))])]⟩
noncomputable def Li:FN:=⟨[41,40,0,42],[.ite (qV 42) [qN 37 (.bin .Mult (qC "signed" [(qV 41),(qV 0)]) (qC "signed" [(qV 40),(qV 0)])),qN 43 (.ite (qC "fits_signed" [(qV 37),(qV 0)]) (qI 0) (qI 1))] [qN 37 (.bin .Mult (qV 41) (qV 40)),qN 43 (.ite (.cmp (.bin .RShift (qV 37) (qV 0)) [.Eq] [(qI 0)]) (qI 0) (qI 1))],
 .ret (.tuple [(qC "wrap" [(qV 37),(qV 0)]),(qC "wrap" [(.bin .RShift (qV 37) (qV 0)),(qV 0)]),(qV 43)])]⟩
noncomputable def JS:FN:=⟨[23,44,0,42],[.ite (.cmp (qV 44) [.Eq] [(qI 0)]) [.raise (nm "MachineError") (nm "divide")] [],
 .ite (.un .Not (qV 42)) [.ite (.cmp (.bin .RShift (.bin .FloorDiv (qV 23) (qV 44)) (qV 0)) [.NotEq] [(qI 0)]) [.raise (nm "MachineError") (nm "divide")] [],.ret (.tuple [(.bin .FloorDiv (qV 23) (qV 44)),(.bin .Mod (qV 23) (qV 44))])] [],
 .assignR [(.name 37),(.name 45)] (.tuple [(qC "signed" [(qV 23),(.bin .Mult (qI 2) (qV 0))]),(qC "signed" [(qV 44),(qV 0)])]),
 qN 22 (.bin .FloorDiv (qC "abs" [(qV 37)]) (qC "abs" [(qV 45)])),
 .ite (.cmp (.cmp (qV 37) [.Lt] [(qI 0)]) [.NotEq] [(.cmp (qV 45) [.Lt] [(qI 0)])]) [qN 22 (.un .USub (qV 22))] [],
 .ite (.un .Not (qC "fits_signed" [(qV 22),(qV 0)])) [.raise (nm "MachineError") (nm "divide")] [],
 .ret (.tuple [(qC "wrap" [(qV 22),(qV 0)]),(qC "wrap" [(.bin .Sub (qV 37) (.bin .Mult (qV 22) (qV 45))),(qV 0)])])]⟩
noncomputable def Lg:FN:=⟨[12,1,0],[.ite (.cmp (qV 12) [.Eq] [(qS "popcnt")]) [.ret (qC "ones" [(qV 1),(qV 0)])] [],
 .ite (.cmp (qV 1) [.Eq] [(qI 0)]) [.ret (.ite (.cmp (qV 12) [.In] [(.tuple [(qS "lzcnt"),(qS "tzcnt")])]) (qV 0) (.lit .none))] [],
 .ite (.cmp (qV 12) [.In] [(.tuple [(qS "bsf"),(qS "tzcnt")])]) [.ret (qC "lowest_bit" [(qV 1),(qV 0)])] [],
 .ite (.cmp (qV 12) [.Eq] [(qS "bsr")]) [.ret (qC "highest_bit" [(qV 1),(qV 0)])] [],
 .ret (.bin .Sub (.bin .Sub (qV 0) (qI 1)) (qC "highest_bit" [(qV 1),(qV 0)]))]⟩
noncomputable def Ji:FN:=⟨[12,1,11],[qN 41 (.bin .LShift (qI 1) (qV 11)),
 .ite (.cmp (qV 12) [.Eq] [(qS "bts")]) [.ret (.bin .BitOr (qV 1) (qV 41))] [],
 .ite (.cmp (qV 12) [.Eq] [(qS "btc")]) [.ret (.bin .BitXor (qV 1) (qV 41))] [],
 .ret (.ite (.cmp (qC "bit" [(qV 1),(qV 11)]) [.Eq] [(qI 1)]) (.bin .BitXor (qV 1) (qV 41)) (qV 1))]⟩
noncomputable def F1:FN:=⟨[14],[.assignT [(.attr (qV 14) (nm "cf")),(.attr (qV 14) (nm "pf")),(.attr (qV 14) (nm "af"))] (.tuple [(qI 0),(qI 0),(qI 0)]),
 .assignT [(.attr (qV 14) (nm "zf")),(.attr (qV 14) (nm "sf")),(.attr (qV 14) (nm "of"))] (.tuple [(qI 0),(qI 0),(qI 0)])]⟩
noncomputable def Go:FN:=⟨[46,19,0],[qN 1 (.ite (.cmp (qA (qV 19) "kind") [.Eq] [(qS "imm")]) (qA (qV 19) "worth") (qM (qV 46) "get" [(qA (qV 19) "register")])),
 .ret (qC "masked_count" [(qV 1),(qV 0)])]⟩
noncomputable def Ga:FN:=⟨[46,33],[qN 12 (qA (qV 33) "name"),
 qN 47 (.sub (qA (qV 33) "operands") (qI 0)),
 qN 0 (qM (qV 46) "size_of" [(qV 47),(qV 33)]),
 qN 7 (qC "count_told" [(qV 46),(.sub (qA (qV 33) "operands") (qI 1)),(qV 0)]),
 qN 1 (qM (qV 46) "read" [(qV 47),(qV 0)]),
 .ite (.cmp (qV 7) [.Eq] [(qI 0)]) [.expr (qM (qV 46) "write" [(qV 47),(qV 0),(qV 1)]),.ret (.lit .none)] [],
 .ite (.cmp (qV 12) [.In] [(qM (qG "SHIFTS") "split" [])]) [.assignT [(.name 15),(.name 36),(.name 48)] (qC "shifted" [(qV 12),(qV 1),(qV 7),(qV 0)]),.expr (qC "szp" [(qA (qV 46) "flags"),(qV 15),(qV 0)]),.assign (.attr (qA (qV 46) "flags") (nm "af")) (qI 0)] [.ite (.cmp (qV 12) [.In] [(qM (qG "ROTATES") "split" [])]) [.assignT [(.name 15),(.name 36),(.name 48)] (qC "rotated" [(qV 12),(qV 1),(qV 7),(qV 0)])] [.assignT [(.name 15),(.name 36),(.name 48)] (qC "rotated_through" [(qV 12),(qV 1),(qA (qA (qV 46) "flags") "cf"),(qV 7),(qV 0)])]],
 .assign (.attr (qA (qV 46) "flags") (nm "cf")) (qV 36),
 .assign (.attr (qA (qV 46) "flags") (nm "of")) (.ite (.cmp (qV 7) [.Eq] [(qI 1)]) (qV 48) (qI 0)),
 .expr (qM (qV 46) "write" [(qV 47),(qV 0),(qV 15)])]⟩
noncomputable def Fr:FN:=⟨[46,33],[.assignR [(.name 47),(.name 50),(.name 49)] (.tuple [(.sub (qA (qV 33) "operands") (qI 0)),(.sub (qA (qV 33) "operands") (qI 1)),(.sub (qA (qV 33) "operands") (qI 2))]),
 qN 0 (qM (qV 46) "size_of" [(qV 47),(qV 33)]),
 qN 7 (qC "count_told" [(qV 46),(qV 49),(qV 0)]),
 qN 1 (qM (qV 46) "read" [(qV 47),(qV 0)]),
 .ite (.cmp (qV 7) [.Eq] [(qI 0)]) [.expr (qM (qV 46) "write" [(qV 47),(qV 0),(qV 1)]),.ret (.lit .none)] [],
 qN 22 (qC "double_shifted" [(qA (qV 33) "name"),(qV 1),(qM (qV 46) "read" [(qV 50),(qV 0)]),(qV 7),(qV 0)]),
 .expr (qC "clear_flags" [(qA (qV 46) "flags")]),
 .ite (.cmp (qV 22) [.Is] [(.lit .none)]) [.ret (.lit .none)] [],
 .assignT [(.name 15),(.name 36),(.name 48)] (qV 22),
 .expr (qC "szp" [(qA (qV 46) "flags"),(qV 15),(qV 0)]),
 .assign (.attr (qA (qV 46) "flags") (nm "cf")) (qV 36),
 .assign (.attr (qA (qV 46) "flags") (nm "of")) (.ite (.cmp (qV 7) [.Eq] [(qI 1)]) (qV 48) (qI 0)),
 .expr (qM (qV 46) "write" [(qV 47),(qV 0),(qV 15)])]⟩
noncomputable def KJ:FN:=⟨[14,43],[.expr (qC "clear_flags" [(qV 14)]),
 .assign (.attr (qV 14) (nm "cf")) (qV 43),
 .assign (.attr (qV 14) (nm "of")) (qV 43)]⟩
noncomputable def G5:FN:=⟨[46,2,51,0],[.ite (.cmp (qV 0) [.Eq] [(qI 8)]) [.expr (qM (qV 46) "put" [(qC "gpr" [(qI 0),(qI 16)]),(.bin .BitOr (.bin .LShift (qV 51) (qI 8)) (qV 2))])] [.expr (qM (qV 46) "put" [(qC "gpr" [(qI 2),(qV 0)]),(qV 51)]),.expr (qM (qV 46) "put" [(qC "gpr" [(qI 0),(qV 0)]),(qV 2)])]]⟩
noncomputable def Ol:FN:=⟨[46,0],[.ite (.cmp (qV 0) [.Eq] [(qI 8)]) [.ret (qM (qV 46) "get" [(qC "gpr" [(qI 0),(qI 16)])])] [],
 .ret (.bin .BitOr (.bin .LShift (qM (qV 46) "get" [(qC "gpr" [(qI 2),(qV 0)])]) (qV 0)) (qM (qV 46) "get" [(qC "gpr" [(qI 0),(qV 0)])]))]⟩
noncomputable def Ez:FN:=⟨[46,33],[qN 52 (qA (qV 33) "operands"),
 qN 0 (qM (qV 46) "size_of" [(.sub (qV 52) (qI 0)),(qV 33)]),
 qN 41 (qM (qV 46) "read" [(.sub (qV 52) (qI 0)),(qV 0)]),
 .ite (.cmp (qC "len" [(qV 52)]) [.Eq] [(qI 1)]) [.assignT [(.name 2),(.name 51),(.name 43)] (qC "product" [(qM (qV 46) "get" [(qC "gpr" [(qI 0),(qV 0)])]),(qV 41),(qV 0),(.cmp (qA (qV 33) "name") [.Eq] [(qS "imul")])]),.expr (qC "put_halves" [(qV 46),(qV 2),(qV 51),(qV 0)])] [qN 40 (qM (qV 46) "read" [(.sub (qV 52) (qI 1)),(qV 0)]),.ite (.cmp (qC "len" [(qV 52)]) [.Eq] [(qI 3)]) [qN 41 (qM (qV 46) "read" [(.sub (qV 52) (qI 2)),(qV 0)])] [],.assignT [(.name 2),(.name 51),(.name 43)] (qC "product" [(qV 41),(qV 40),(qV 0),(.lit (.bool true))]),.expr (qM (qV 46) "write" [(.sub (qV 52) (qI 0)),(qV 0),(qV 2)])],
 .expr (qC "lay_wide" [(qA (qV 46) "flags"),(qV 43)])]⟩
noncomputable def Ea:FN:=⟨[46,33],[qN 19 (.sub (qA (qV 33) "operands") (qI 0)),
 qN 0 (qM (qV 46) "size_of" [(qV 19),(qV 33)]),
 .assignT [(.name 2),(.name 51)] (qC "quotient" [(qC "halves" [(qV 46),(qV 0)]),(qM (qV 46) "read" [(qV 19),(qV 0)]),(qV 0),(.cmp (qA (qV 33) "name") [.Eq] [(qS "idiv")])]),
 .expr (qC "put_halves" [(qV 46),(qV 2),(qV 51),(qV 0)]),
 .expr (qC "clear_flags" [(qA (qV 46) "flags")])]⟩
noncomputable def Jb:FN:=⟨[46,33],[.assignR [(.name 53),(.name 49)] (.tuple [(.sub (qA (qV 33) "operands") (qI 0)),(.sub (qA (qV 33) "operands") (qI 1))]),
 qN 0 (qM (qV 46) "size_of" [(qV 53),(qV 33)]),
 .ite (.cmp (qA (qV 49) "kind") [.Eq] [(qS "imm")]) [qN 54 (.bin .Mod (qC "wrap" [(qA (qV 49) "worth"),(qI 8)]) (qV 0))] [qN 54 (qC "signed" [(qM (qV 46) "get" [(qA (qV 49) "register")]),(qV 0)])],
 .assignR [(.name 11),(.name 8)] (.tuple [(.bin .Mod (qV 54) (qV 0)),(qI 0)]),
 .ite (.cmp (qA (qV 53) "kind") [.Eq] [(qS "mem")]) [qN 8 (qC "wrap" [(.bin .Add (qM (qV 46) "place" [(qV 53)]) (.bin .Mult (.bin .FloorDiv (qV 54) (qV 0)) (.bin .FloorDiv (qV 0) (qI 8)))),(qI 64)]),qN 1 (qM (qA (qV 46) "memory") "read" [(qV 8),(.bin .FloorDiv (qV 0) (qI 8))])] [qN 1 (qM (qV 46) "read" [(qV 53),(qV 0)])],
 qN 55 (qA (qA (qV 46) "flags") "zf"),
 .expr (qC "clear_flags" [(qA (qV 46) "flags")]),
 .assignT [(.attr (qA (qV 46) "flags") (nm "cf")),(.attr (qA (qV 46) "flags") (nm "zf"))] (.tuple [(qC "bit" [(qV 1),(qV 11)]),(qV 55)]),
 .ite (.cmp (qA (qV 33) "name") [.Eq] [(qS "bt")]) [.ret (.lit .none)] [],
 .ite (.cmp (qA (qV 53) "kind") [.Eq] [(qS "mem")]) [.expr (qM (qA (qV 46) "memory") "write" [(qV 8),(.bin .FloorDiv (qV 0) (qI 8)),(qC "with_bit" [(qA (qV 33) "name"),(qV 1),(qV 11)])])] [.expr (qM (qV 46) "write" [(qV 53),(qV 0),(qC "with_bit" [(qA (qV 33) "name"),(qV 1),(qV 11)])])]]⟩
noncomputable def IU:FN:=⟨[46,33],[.assignR [(.name 12),(.name 47)] (.tuple [(qA (qV 33) "name"),(.sub (qA (qV 33) "operands") (qI 0))]),
 qN 0 (qM (qV 46) "size_of" [(qV 47),(qV 33)]),
 qN 1 (qM (qV 46) "read" [(.sub (qA (qV 33) "operands") (qI 1)),(qV 0)]),
 qN 22 (qC "scanned" [(qV 12),(qV 1),(qV 0)]),
 .expr (qC "clear_flags" [(qA (qV 46) "flags")]),
 .ite (.cmp (qV 12) [.In] [(.tuple [(qS "lzcnt"),(qS "tzcnt")])]) [.assign (.attr (qA (qV 46) "flags") (nm "cf")) (.ite (.cmp (qV 1) [.Eq] [(qI 0)]) (qI 1) (qI 0)),.assign (.attr (qA (qV 46) "flags") (nm "zf")) (.ite (.cmp (qV 22) [.Eq] [(qI 0)]) (qI 1) (qI 0))] [.assign (.attr (qA (qV 46) "flags") (nm "zf")) (.ite (.cmp (qV 1) [.Eq] [(qI 0)]) (qI 1) (qI 0))],
 .ite (.cmp (qV 22) [.IsNot] [(.lit .none)]) [.expr (qM (qV 46) "write" [(qV 47),(qV 0),(qV 22)])] []]⟩
noncomputable def H9:FN:=⟨[46,33],[qN 19 (.sub (qA (qV 33) "operands") (qI 0)),
 qN 0 (qM (qV 46) "size_of" [(qV 19),(qV 33)]),
 .ite (.cmp (qV 0) [.Eq] [(qI 16)]) [.raise (nm "MachineError") (nm "bswap of 16 bits")] [],
 .expr (qM (qV 46) "write" [(qV 19),(qV 0),(qC "swapped" [(qM (qV 46) "read" [(qV 19),(qV 0)]),(.bin .FloorDiv (qV 0) (qI 8))])])]⟩
noncomputable def ET:FN:=⟨[46,33],[.assignR [(.name 47),(.name 50)] (.tuple [(.sub (qA (qV 33) "operands") (qI 0)),(.sub (qA (qV 33) "operands") (qI 1))]),
 .assignR [(.name 0),(.name 56)] (.tuple [(qM (qV 46) "size_of" [(qV 47),(qV 33)]),(qM (qV 46) "size_of" [(qV 50),(qV 33)])]),
 qN 1 (qM (qV 46) "read" [(qV 50),(qV 56)]),
 .ite (.cmp (qA (qV 33) "name") [.NotEq] [(qS "movzx")]) [qN 1 (qC "extended" [(qV 1),(qV 56),(qV 0)])] [],
 .expr (qM (qV 46) "write" [(qV 47),(qV 0),(qV 1)])]⟩
noncomputable def DQ:FN:=⟨[46,12],[.ite (.cmp (qV 12) [.In] [(qM (qG "CONVERSIONS") "split" [])]) [qN 0 (.bin .LShift (qI 16) (qM (qM (qG "CONVERSIONS") "split" []) "index" [(qV 12)])),qN 56 (qM (qV 46) "get" [(qC "gpr" [(qI 0),(.bin .FloorDiv (qV 0) (qI 2))])]),.expr (qM (qV 46) "put" [(qC "gpr" [(qI 0),(qV 0)]),(qC "extended" [(qV 56),(.bin .FloorDiv (qV 0) (qI 2)),(qV 0)])])] [qN 0 (.bin .LShift (qI 16) (qM (qM (qG "SPREADS") "split" []) "index" [(qV 12)])),qN 1 (qM (qV 46) "get" [(qC "gpr" [(qI 0),(qV 0)])]),.expr (qM (qV 46) "put" [(qC "gpr" [(qI 2),(qV 0)]),(qC "wrap" [(.un .USub (qC "bit" [(qV 1),(.bin .Sub (qV 0) (qI 1))])),(qV 0)])])]]⟩
noncomputable def Fm:FN:=⟨[46,33],[qN 12 (qA (qV 33) "name"),
 .ite (.bool .Or [(.cmp (qV 12) [.In] [(qM (qG "SHIFTS") "split" [])]),(.cmp (qV 12) [.In] [(qM (qG "ROTATES") "split" [])]),(.cmp (qV 12) [.In] [(qM (qG "THROUGHS") "split" [])])]) [.expr (qC "shift_deed" [(qV 46),(qV 33)])] [.ite (.cmp (qV 12) [.In] [(qM (qG "DOUBLES") "split" [])]) [.expr (qC "double_deed" [(qV 46),(qV 33)])] [.ite (.cmp (qV 12) [.In] [(.tuple [(qS "mul"),(qS "imul")])]) [.expr (qC "product_deed" [(qV 46),(qV 33)])] [.ite (.cmp (qV 12) [.In] [(.tuple [(qS "div"),(qS "idiv")])]) [.expr (qC "quotient_deed" [(qV 46),(qV 33)])] [.ite (.cmp (qV 12) [.In] [(qM (qG "BITS") "split" [])]) [.expr (qC "bit_deed" [(qV 46),(qV 33)])] [.ite (.cmp (qV 12) [.In] [(qM (qG "SCANS") "split" [])]) [.expr (qC "scan_deed" [(qV 46),(qV 33)])] [.ite (.cmp (qV 12) [.Eq] [(qS "bswap")]) [.expr (qC "swap_deed" [(qV 46),(qV 33)])] [.ite (.cmp (qV 12) [.In] [(qM (qG "WIDENINGS") "split" [])]) [.expr (qC "widening_deed" [(qV 46),(qV 33)])] [.ite (.bool .Or [(.cmp (qV 12) [.In] [(qM (qG "CONVERSIONS") "split" [])]),(.cmp (qV 12) [.In] [(qM (qG "SPREADS") "split" [])])]) [.expr (qC "conversion_deed" [(qV 46),(qV 12)])] [.ret (.lit (.bool false))]]]]]]]]],
 .ret (.lit (.bool true))]⟩
noncomputable def K8:FN:=⟨[57],[.retnew [(.comp (qC "int" [(qV 58)]) (.name 58) .plain [(.slice (qV 57) (.lit .none) (qI 60))] [] [24,58]),(qI 0),(qI 0)]]⟩
noncomputable def F9:FN:=⟨[59,60],[.ite (.cmp (.sub (qV 59) (qI 2)) [.Gt] [(qI 0)]) [qN 61 (.bin .Mod (qC "int" [(.sub (qV 59) (qI 2))]) (qV 60)),.assign (.sub (qV 59) (qI 2)) (.bin .FloorDiv (qC "int" [(.sub (qV 59) (qI 2))]) (qV 60)),.ret (qV 61)] [],
 qN 11 (.sub (qV 59) (qI 1)),
 .assign (.sub (qV 59) (qI 1)) (.bin .Add (qV 11) (qI 1)),
 qN 58 (.bin .Add (.bin .Add (.bin .Mult (qI 24107) (qV 11)) (qI 1913)) (.bin .Mod (qC "int" [(qC "sum" [(.slice (.sub (qV 59) (qI 0)) (.lit .none) (qI 1))])]) (qI 1000003))),
 .ite (.cmp (.sub (qV 59) (qI 0)) [.NotEq] [(.list [])]) [qN 58 (.sub (.sub (qV 59) (qI 0)) (.bin .Mod (qC "int" [(qV 11)]) (qC "len" [(.sub (qV 59) (qI 0))])))] [],
 .ite (.bool .And [(.cmp (qV 11) [.Lt] [(qC "len" [(.sub (qV 59) (qI 0))])]),(.cmp (qC "abs" [(qV 58)]) [.GtE] [(.bin .Pow (qI 10) (qI 18))])]) [qN 62 (.bin .Add (.bin .Mult (qI 2) (.bin .Sub (qC "abs" [(qV 58)]) (.bin .Pow (qI 10) (qI 18)))) (qC "int" [(.cmp (qV 58) [.Lt] [(qI 0)])])),.assign (.sub (qV 59) (qI 2)) (.bin .FloorDiv (qC "int" [(qV 62)]) (qV 60)),.ret (.bin .Mod (qC "int" [(qV 62)]) (qV 60))] [],
 qN 63 (.bin .Mod (qC "int" [(.bin .Pow (.bin .Add (.bin .Add (.bin .Mod (qC "int" [(qV 58)]) (qI 2147483587)) (.bin .Mult (qI 24107) (qV 11))) (qI 1913)) (qI 5))]) (qI 2147483629)),
 qN 63 (.bin .Mod (qC "int" [(.bin .Pow (.bin .Add (.bin .Add (.bin .Mult (qV 63) (.bin .Add (.bin .Mult (qI 2) (qV 11)) (qI 4001))) (.bin .Mult (.bin .Mult (qI 24107) (qV 11)) (qV 11))) (qI 47)) (qI 3))]) (qI 2147483579)),
 .ret (.bin .Mod (qC "int" [(.bin .FloorDiv (qV 63) (qI 32))]) (qV 60))]⟩
noncomputable def Je:FN:=⟨[59,64],[.ret (.sub (qV 64) (qC "_law_draw" [(qV 59),(qC "len" [(qV 64)])]))]⟩
noncomputable def E0:FN:=⟨[59,0],[qN 23 (qC "_law_draw" [(qV 59),(qI 16)]),
 .ite (.bool .And [(.cmp (qV 0) [.Eq] [(qI 8)]),(.cmp (qI 4) [.LtE,.Lt] [(qV 23),(qI 8)]),(.cmp (qC "_law_draw" [(qV 59),(qI 2)]) [.Eq] [(qI 0)])]) [.ret (qC "Reg" [(qC "high" [(qV 23)])])] [],
 .ret (qC "Reg" [(qC "gpr" [(qV 23),(qV 0)])])]⟩
noncomputable def Gw:FN:=⟨[59,0],[qN 65 (qC "_law_draw" [(qV 59),(qI 4)]),
 .ite (.cmp (qV 65) [.Lt] [(qI 2)]) [.ret (qC "_law_register" [(qV 59),(qV 0)])] [],
 qN 66 (.ite (.bool .Or [(.cmp (qV 65) [.Eq] [(qI 2)]),(.cmp (qC "_law_draw" [(qV 59),(qI 3)]) [.Gt] [(qI 0)])]) (qC "gpr" [(qC "_law_draw" [(qV 59),(qI 16)]),(qI 64)]) (.lit .none)),
 .assignT [(.name 68),(.name 67)] (.tuple [(qI 1),(.lit .none)]),
 .ite (.cmp (qV 65) [.Eq] [(qI 3)]) [qN 67 (qC "gpr" [(qC "_law_pick" [(qV 59),(.list [(qI 0),(qI 1),(qI 2),(qI 3),(qI 5),(qI 6),(qI 7),(qI 8),(qI 12),(qI 15)])]),(qI 64)]),qN 68 (qC "_law_pick" [(qV 59),(.list [(qI 1),(qI 2),(qI 4),(qI 8)])])] [],
 .ret (qC "Mem" [(qV 66),(qV 67),(qV 68),(qC "_law_pick" [(qV 59),(.list [(qI 0),(qI 8),(.un .USub (qI 8)),(qI 127),(.un .USub (.bin .Pow (qI 2) (qI 31))),(.bin .Sub (.bin .Pow (qI 2) (qI 31)) (qI 1))])]),(qV 0)])]⟩
noncomputable def Ia:FN:=⟨[59],[.ite (.cmp (qC "_law_draw" [(qV 59),(qI 2)]) [.Eq] [(qI 0)]) [.ret (qC "Reg" [(qC "gpr" [(qI 1),(qI 8)])])] [],
 .ret (qC "Imm" [(qC "_law_pick" [(qV 59),(.list [(qI 0),(qI 1),(qI 2),(qI 7),(qI 8),(qI 9),(qI 16),(qI 17),(qI 31),(qI 32),(qI 33),(qI 63),(qI 64),(qI 255)])])])]⟩
noncomputable def FK:FN:=⟨[59],[qN 65 (qC "_law_draw" [(qV 59),(qI 9)]),
 .assignR [(.name 4),(.name 0)] (.tuple [(qC "_law_pick" [(qV 59),(.list [(qI 16),(qI 32),(qI 64)])]),(qC "_law_pick" [(qV 59),(.list [(qI 8),(qI 16),(qI 32),(qI 64)])])]),
 .ite (.cmp (qV 65) [.Eq] [(qI 0)]) [qN 12 (qC "_law_pick" [(qV 59),(.list [(qS "rol"),(qS "ror"),(qS "rcl"),(qS "rcr"),(qS "shl"),(qS "shr"),(qS "sar")])]),.ret (qC "Instruction" [(qV 12),(.list [(qC "_law_target" [(qV 59),(qV 0)]),(qC "_law_count" [(qV 59)])])])] [],
 .ite (.cmp (qV 65) [.Eq] [(qI 1)]) [.ret (qC "Instruction" [(qC "_law_pick" [(qV 59),(.list [(qS "shld"),(qS "shrd")])]),(.list [(qC "_law_target" [(qV 59),(qV 4)]),(qC "_law_register" [(qV 59),(qV 4)]),(qC "_law_count" [(qV 59)])])])] [],
 .ite (.cmp (qV 65) [.Eq] [(qI 2)]) [.ret (qC "Instruction" [(qC "_law_pick" [(qV 59),(.list [(qS "mul"),(qS "imul"),(qS "div"),(qS "idiv")])]),(.list [(qC "_law_target" [(qV 59),(qV 0)])])])] [],
 .ite (.cmp (qV 65) [.Eq] [(qI 3)]) [qN 52 (.list [(qC "_law_register" [(qV 59),(qV 4)]),(qC "_law_target" [(qV 59),(qV 4)])]),.ret (qC "Instruction" [(qS "imul"),(.bin .Add (qV 52) (.ite (.cmp (qC "_law_draw" [(qV 59),(qI 2)]) [.Eq] [(qI 0)]) (.list [(qC "Imm" [(qC "_law_pick" [(qV 59),(.list [(qI 0),(qI 3),(.un .USub (qI 1)),(.bin .Sub (.bin .Pow (qI 2) (qI 31)) (qI 1))])])])]) (.list [])))])] [],
 .ite (.cmp (qV 65) [.Eq] [(qI 4)]) [qN 23 (.ite (.cmp (qC "_law_draw" [(qV 59),(qI 2)]) [.Eq] [(qI 0)]) (qC "Imm" [(qC "_law_draw" [(qV 59),(qI 256)])]) (qC "_law_register" [(qV 59),(qV 4)])),.ret (qC "Instruction" [(qC "_law_pick" [(qV 59),(.list [(qS "bt"),(qS "bts"),(qS "btr"),(qS "btc")])]),(.list [(qC "_law_target" [(qV 59),(qV 4)]),(qV 23)])])] [],
 .ite (.cmp (qV 65) [.Eq] [(qI 5)]) [qN 12 (qC "_law_pick" [(qV 59),(.list [(qS "bsf"),(qS "bsr"),(qS "popcnt"),(qS "lzcnt"),(qS "tzcnt")])]),.ret (qC "Instruction" [(qV 12),(.list [(qC "_law_register" [(qV 59),(qV 4)]),(qC "_law_target" [(qV 59),(qV 4)])])])] [],
 .ite (.cmp (qV 65) [.Eq] [(qI 6)]) [.ret (qC "Instruction" [(qS "bswap"),(.list [(qC "_law_register" [(qV 59),(qV 4)])])])] [],
 .ite (.cmp (qV 65) [.Eq] [(qI 7)]) [qN 56 (qC "_law_pick" [(qV 59),(.list [(qI 8),(qI 16)])]),.ite (.cmp (qV 4) [.LtE] [(qV 56)]) [qN 56 (qI 8)] [],.ite (.bool .And [(.cmp (qV 4) [.Eq] [(qI 64)]),(.cmp (qC "_law_draw" [(qV 59),(qI 3)]) [.Eq] [(qI 0)])]) [.ret (qC "Instruction" [(qS "movsxd"),(.list [(qC "_law_register" [(qV 59),(qI 64)]),(qC "_law_target" [(qV 59),(qI 32)])])])] [],.ret (qC "Instruction" [(qC "_law_pick" [(qV 59),(.list [(qS "movzx"),(qS "movsx")])]),(.list [(qC "_law_register" [(qV 59),(qV 4)]),(qC "_law_target" [(qV 59),(qV 56)])])])] [],
 .ret (qC "Instruction" [(qC "_law_pick" [(qV 59),(.list [(qS "cbw"),(qS "cwde"),(qS "cdqe"),(qS "cwd"),(qS "cdq"),(qS "cqo")])]),(.list [])])]⟩
noncomputable def IP:FN:=⟨[59],[qN 65 (qC "_law_draw" [(qV 59),(qI 11)]),
 .ite (.cmp (qV 65) [.Lt] [(qI 9)]) [.ret (.sub (.list [(qI 0),(qI 1),(qI 2),(qI 33),(qI 128),(qI 4294934528),(.bin .Pow (qI 2) (qI 32)),(.bin .Pow (qI 2) (qI 63)),(.bin .Sub (.bin .Pow (qI 2) (qI 64)) (qI 1))]) (qV 65))] [],
 .ret (qC "_law_draw" [(qV 59),(.bin .Pow (qI 2) (qI 64))])]⟩
noncomputable def He:FN:=⟨[23],[.ret (.comp (qV 12) (.names [30,12]) .enum [(qM (qG "FLAG_NAMES") "split" [])] [(.cmp (.bin .Mod (qC "int" [(.bin .FloorDiv (qV 23) (.bin .Pow (qI 2) (qV 30)))]) (qI 2)) [.Eq] [(qI 1)])] [24,30,12])]⟩
noncomputable def GT:FN:=⟨[46,26],[.loop (.names [30,19]) .enum [(qA (qV 26) "operands")] [.ite (.cmp (qA (qV 19) "kind") [.Eq] [(qS "mem")]) [qN 8 (qA (qV 19) "worth"),.ite (.cmp (qA (qV 19) "base") [.IsNot] [(.lit .none)]) [qN 8 (.bin .Add (qV 8) (.sub (qA (qV 46) "regs") (qA (qA (qV 19) "base") "number")))] [],.ite (.cmp (qA (qV 19) "index") [.IsNot] [(.lit .none)]) [qN 8 (.bin .Add (qV 8) (.bin .Mult (.sub (qA (qV 46) "regs") (qA (qA (qV 19) "index") "number")) (qA (qV 19) "scale")))] [],qN 49 (.sub (qA (qV 26) "operands") (.un .USub (qI 1))),.ite (.bool .And [(.cmp (.slice (qA (qV 26) "name") (.lit .none) (qI 2)) [.Eq] [(qS "bt")]),(.cmp (qA (qV 49) "kind") [.Eq] [(qS "reg")])]) [qN 0 (qA (qV 19) "size"),qN 69 (.bin .Mod (qC "int" [(.sub (qA (qV 46) "regs") (qA (qA (qV 49) "register") "number"))]) (.bin .Pow (qI 2) (qV 0))),qN 69 (.ite (.cmp (qV 69) [.GtE] [(.bin .Pow (qI 2) (.bin .Sub (qV 0) (qI 1)))]) (.bin .Sub (qV 69) (.bin .Pow (qI 2) (qV 0))) (qV 69)),qN 8 (.bin .Add (qV 8) (.bin .Mult (.bin .FloorDiv (qV 69) (qV 0)) (.bin .FloorDiv (qV 0) (qI 8))))] [],.ret (.tuple [(.bin .Mod (qC "int" [(qV 8)]) (.bin .Pow (qI 2) (qI 64))),(.bin .FloorDiv (qA (qV 19) "size") (qI 8))])] []],
 .ret (.lit .none)]⟩
noncomputable def BY:FN:=⟨[59,26],[.assignT [(.name 27),(.name 71),(.name 31),(.name 72)] (qC "uses" [(qV 26)]),
 .assignR [(.name 41),(.name 40)] (.tuple [(qC "State" [(.lit .none)]),(qC "State" [(.lit .none)])]),
 .loop (.name 23) .range [(qI 16)] [.assign (.sub (qA (qV 41) "regs") (qV 23)) (qC "_law_worth" [(qV 59)]),.assign (.sub (qA (qV 40) "regs") (qV 23)) (.sub (qA (qV 41) "regs") (qV 23)),.ite (.cmp (qV 23) [.NotIn] [(qV 27)]) [.assign (.sub (qA (qV 40) "regs") (qV 23)) (.bin .Mod (qC "int" [(.bin .Add (.bin .Add (.sub (qA (qV 41) "regs") (qV 23)) (qI 1)) (qC "_law_worth" [(qV 59)]))]) (.bin .Pow (qI 2) (qI 64)))] [],.assignT [(.sub (qA (qV 41) "xmm") (qV 23)),(.sub (qA (qV 40) "xmm") (qV 23))] (.tuple [(qV 23),(.bin .Add (.bin .Mult (qI 7) (qV 23)) (qI 1))])],
 .ite (.bool .And [(.cmp (qA (qV 26) "name") [.In] [(.tuple [(qS "div"),(qS "idiv")])]),(.cmp (qC "_law_draw" [(qV 59),(qI 3)]) [.Gt] [(qI 0)])]) [.assign (.sub (qA (qV 41) "regs") (qI 2)) (.ite (.cmp (qA (qV 26) "name") [.Eq] [(qS "idiv")]) (.bin .Mult (.bin .FloorDiv (.sub (qA (qV 41) "regs") (qI 0)) (.bin .Pow (qI 2) (qI 63))) (.bin .Sub (.bin .Pow (qI 2) (qI 64)) (qI 1))) (qI 0)),.ite (.cmp (qI 2) [.In] [(qV 27)]) [.assign (.sub (qA (qV 40) "regs") (qI 2)) (.sub (qA (qV 41) "regs") (qI 2))] []] [],
 qN 69 (qC "_law_draw" [(qV 59),(.bin .Pow (qI 2) (qI 12))]),
 .expr (qM (qA (qV 41) "flags") "unpack" [(qV 69)]),
 .expr (qM (qA (qV 40) "flags") "unpack" [(.bin .Sub (qI 4095) (qV 69))]),
 .loop (.name 12) .plain [(qC "reads_flags" [(qA (qV 26) "name")])] [.expr (qM (qA (qV 40) "flags") "put" [(qV 12),(qM (qA (qV 41) "flags") "get" [(qV 12)])])],
 qN 11 (qC "_law_spot" [(qV 41),(qV 26)]),
 .ite (.cmp (qV 11) [.IsNot] [(.lit .none)]) [qN 70 (.comp (qC "_law_worth" [(qV 59)]) (.name 38) .range [(qI 3)] [] [24,38]),.loop (.name 46) .plain [(.list [(qV 41),(qV 40)])] [.loop (.name 30) .range [(qI 3)] [.expr (qM (qA (qV 46) "memory") "write" [(.bin .Sub (.bin .Add (.sub (qV 11) (qI 0)) (.bin .Mult (qI 8) (qV 30))) (qI 8)),(qI 8),(.sub (qV 70) (qV 30))])]]] [],
 .ret (.tuple [(qV 41),(qV 40)])]⟩
noncomputable def Fs:FN:=⟨[73,11],[.ite (.cmp (qV 11) [.Is] [(.lit .none)]) [.ret (.comp (qV 74) (.name 74) .plain [(qV 73)] [] [24,74])] [],
 .ret (.comp (qV 74) (.name 74) .plain [(qV 73)] [(.cmp (.bin .Mod (qC "int" [(.bin .Sub (.sub (qV 74) (qI 0)) (.sub (qV 11) (qI 0)))]) (.bin .Pow (qI 2) (qI 64))) [.GtE] [(.sub (qV 11) (qI 1))])] [24,74])]⟩
noncomputable def EF:FN:=⟨[75,76,26,11],[.assignT [(.name 27),(.name 71),(.name 31),(.name 72)] (qC "uses" [(qV 26)]),
 .ite (.cmp (.comp (qV 23) (.name 23) .range [(qI 16)] [(.bool .And [(.cmp (qV 23) [.NotIn] [(qV 71)]),(.cmp (.sub (.sub (qV 75) (qI 0)) (qV 23)) [.NotEq] [(.sub (.sub (qV 76) (qI 0)) (qV 23))])])] [24,23]) [.NotEq] [(.list [])]) [.ret (.lit (.bool false))] [],
 .ite (.bool .Or [(.cmp (.sub (qV 75) (qI 1)) [.NotEq] [(.sub (qV 76) (qI 1))]),(.cmp (.slice (qV 75) (qI 4) (.lit .none)) [.NotEq] [(.slice (qV 76) (qI 4) (.lit .none))])]) [.ret (.lit (.bool false))] [],
 .loop (.names [30,12]) .enum [(qM (qG "FLAG_NAMES") "split" [])] [.ite (.bool .And [(.cmp (qV 12) [.NotIn] [(qC "writes_flags" [(qA (qV 26) "name")])]),(.cmp (.sub (.sub (qV 75) (qI 2)) (qV 30)) [.NotEq] [(.sub (.sub (qV 76) (qI 2)) (qV 30))])]) [.ret (.lit (.bool false))] []],
 .ite (.un .Not (qV 72)) [.ret (.cmp (.sub (qV 75) (qI 3)) [.Eq] [(.sub (qV 76) (qI 3))])] [],
 .ret (.bool .And [(.cmp (qV 11) [.IsNot] [(.lit .none)]),(.cmp (qC "_law_outside" [(.sub (qV 75) (qI 3)),(qV 11)]) [.Eq] [(qC "_law_outside" [(.sub (qV 76) (qI 3)),(qV 11)])])])]⟩
noncomputable def IT:FN:=⟨[46,26],[.tryRet (qC "rotate_deed" [(qV 46),(qV 26)]) (nm "MachineError") (qS "refused")]⟩
noncomputable def Ly:FN:=⟨[57],[qN 59 (qC "_law_pen" [(qV 57)]),
 qN 26 (qC "_law_row" [(qV 59)]),
 .assignT [(.name 27),(.name 71),(.name 31),(.name 72)] (qC "uses" [(qV 26)]),
 .ite (.bool .Or [(.cmp (qV 27) [.NotEq] [(qC "sorted" [(qV 27)])]),(.cmp (qV 71) [.NotEq] [(qC "sorted" [(qV 71)])]),(.cmp (.comp (qV 23) (.name 23) .plain [(.bin .Add (qV 27) (qV 71))] [(.un .Not (.cmp (qI 0) [.LtE,.Lt] [(qV 23),(qI 16)]))] [24,23]) [.NotEq] [(.list [])])]) [.ret (.lit (.bool false))] [],
 .assignT [(.name 41),(.name 40)] (qC "_law_states" [(qV 59),(qV 26)]),
 qN 11 (qC "_law_spot" [(qV 41),(qV 26)]),
 qN 78 (.list [(qM (qV 41) "told" []),(qM (qV 40) "told" [])]),
 qN 77 (.list [(qC "_law_heard" [(qV 41),(qV 26)]),(qC "_law_heard" [(qV 40),(qV 26)])]),
 qN 79 (.list [(qM (qV 41) "told" []),(qM (qV 40) "told" [])]),
 .ite (.cmp (qV 77) [.Eq] [(.bin .Mult (.list [(qS "refused")]) (qI 2))]) [.ret (.cmp (qV 78) [.Eq] [(qV 79)])] [],
 .ite (.cmp (qV 77) [.NotEq] [(.list [(.lit (.bool true)),(.lit (.bool true))])]) [.ret (.lit (.bool false))] [],
 .ite (.bool .Or [(.un .Not (qC "_law_kept" [(.sub (qV 78) (qI 0)),(.sub (qV 79) (qI 0)),(qV 26),(qV 11)])),(.un .Not (qC "_law_kept" [(.sub (qV 78) (qI 1)),(.sub (qV 79) (qI 1)),(qV 26),(qV 11)]))]) [.ret (.lit (.bool false))] [],
 .ite (.cmp (.comp (qV 23) (.name 23) .plain [(qV 71)] [(.cmp (.sub (.sub (.sub (qV 79) (qI 0)) (qI 0)) (qV 23)) [.NotEq] [(.sub (.sub (.sub (qV 79) (qI 1)) (qI 0)) (qV 23))])] [24,23]) [.NotEq] [(.list [])]) [.ret (.lit (.bool false))] [],
 .ite (.bool .And [(qV 72),(.cmp (.sub (.sub (qV 79) (qI 0)) (qI 3)) [.NotEq] [(.sub (.sub (qV 79) (qI 1)) (qI 3))])]) [.ret (.lit (.bool false))] [],
 qN 81 (qC "_law_flag_names" [(qC "sure_mask" [(qV 26)])]),
 .loop (.names [30,12]) .enum [(qM (qG "FLAG_NAMES") "split" [])] [qN 80 (.cmp (.sub (.sub (.sub (qV 79) (qI 0)) (qI 2)) (qV 30)) [.Eq] [(.sub (.sub (.sub (qV 79) (qI 1)) (qI 2)) (qV 30))]),qN 82 (.bool .And [(.cmp (.sub (.sub (.sub (qV 78) (qI 0)) (qI 2)) (qV 30)) [.Eq] [(.sub (.sub (.sub (qV 79) (qI 0)) (qI 2)) (qV 30))]),(.cmp (.sub (.sub (.sub (qV 78) (qI 1)) (qI 2)) (qV 30)) [.Eq] [(.sub (.sub (.sub (qV 79) (qI 1)) (qI 2)) (qV 30))])]),.ite (.bool .And [(.un .Not (qV 80)),(.bool .Or [(.cmp (qV 12) [.In] [(qV 81)]),(.un .Not (qV 82))])]) [.ret (.lit (.bool false))] []],
 .ret (.lit (.bool true))]⟩
noncomputable def HE:FN:=⟨[83],[.ret (.tuple [(qA (qV 83) "cf"),(qA (qV 83) "pf"),(qA (qV 83) "af"),(qA (qV 83) "zf"),(qA (qV 83) "sf"),(qA (qV 83) "of"),(qA (qV 83) "df")])]⟩
noncomputable def Gn:FN:=⟨[83],[qN 2 (.bin .BitOr (.bin .BitOr (.bin .BitOr (.bin .BitOr (.bin .BitOr (qI 2) (.bin .LShift (qA (qV 83) "cf") (qG "CF"))) (.bin .LShift (qA (qV 83) "pf") (qG "PF"))) (.bin .LShift (qA (qV 83) "af") (qG "AF"))) (.bin .LShift (qA (qV 83) "zf") (qG "ZF"))) (.bin .LShift (qA (qV 83) "sf") (qG "SF"))),
 .ret (.bin .BitOr (.bin .BitOr (qV 2) (.bin .LShift (qA (qV 83) "df") (qG "DF"))) (.bin .LShift (qA (qV 83) "of") (qG "OF")))]⟩
noncomputable def Et:FN:=⟨[83,23],[.assign (.attr (qV 83) (nm "cf")) (qC "bit" [(qV 23),(qG "CF")]),
 .assign (.attr (qV 83) (nm "pf")) (qC "bit" [(qV 23),(qG "PF")]),
 .assign (.attr (qV 83) (nm "af")) (qC "bit" [(qV 23),(qG "AF")]),
 .assign (.attr (qV 83) (nm "zf")) (qC "bit" [(qV 23),(qG "ZF")]),
 .assign (.attr (qV 83) (nm "sf")) (qC "bit" [(qV 23),(qG "SF")]),
 .assign (.attr (qV 83) (nm "df")) (qC "bit" [(qV 23),(qG "DF")]),
 .assign (.attr (qV 83) (nm "of")) (qC "bit" [(qV 23),(qG "OF")])]⟩
noncomputable def Hy:FN:=⟨[83,12],[qN 20 (qM (qG "FLAG_NAMES") "split" []),
 .ite (.cmp (qV 12) [.NotIn] [(qV 20)]) [.raise (nm "MachineError") (nm "flag")] [],
 .ret (.sub (qM (qV 83) "told" []) (qM (qV 20) "index" [(qV 12)]))]⟩
noncomputable def Hz:FN:=⟨[83,12,1],[.ite (.cmp (qV 12) [.NotIn] [(qM (qG "FLAG_NAMES") "split" [])]) [.raise (nm "MachineError") (nm "flag")] [],
 qN 84 (.list [(qG "CF"),(qG "PF"),(qG "AF"),(qG "ZF"),(qG "SF"),(qG "OF"),(qG "DF")]),
 qN 11 (.sub (qV 84) (qM (qM (qG "FLAG_NAMES") "split" []) "index" [(qV 12)])),
 qN 23 (.bin .BitAnd (qM (qV 83) "pack" []) (.un .Invert (.bin .LShift (qI 1) (qV 11)))),
 .expr (qM (qV 83) "unpack" [(.bin .BitOr (qV 23) (.ite (.cmp (qV 1) [.NotEq] [(qI 0)]) (.bin .LShift (qI 1) (qV 11)) (qI 0)))])]⟩
noncomputable def EP:FN:=⟨[83],[.ret (.comp (qV 25) (.name 25) .plain [(.list [(qA (qV 83) "base"),(qA (qV 83) "index")])] [(.cmp (qV 25) [.IsNot] [(.lit .none)])] [24,25])]⟩
noncomputable def Bl:FN:=⟨[83],[.loop (.names [30,19]) .enum [(qA (qV 83) "operands")] [.ite (.cmp (qA (qV 19) "kind") [.Eq] [(qS "mem")]) [.ret (qV 30)] []],
 .ret (.un .USub (qI 1))]⟩
noncomputable def Ek:FN:=⟨[83,8],[.ret (qM (qA (qV 83) "held") "get" [(qC "wrap" [(qV 8),(qI 64)]),(qI 0)])]⟩
noncomputable def Cz:FN:=⟨[83,8,85],[.assign (.sub (qA (qV 83) "held") (qC "wrap" [(qV 8),(qI 64)])) (qV 85)]⟩
noncomputable def F2:FN:=⟨[83,8,9],[qN 1 (qI 0),
 .loop (.name 30) .range [(qV 9)] [qN 1 (.bin .Add (qV 1) (.bin .LShift (qM (qV 83) "octet" [(.bin .Add (qV 8) (qV 30))]) (.bin .Mult (qI 8) (qV 30))))],
 .ret (qV 1)]⟩
noncomputable def FJ:FN:=⟨[83,8,9,1],[.loop (.name 30) .range [(qV 9)] [.expr (qM (qV 83) "set_octet" [(.bin .Add (qV 8) (qV 30)),(.bin .BitAnd (.bin .RShift (qV 1) (.bin .Mult (qI 8) (qV 30))) (qI 255))])]]⟩
noncomputable def Fh:FN:=⟨[83],[.ret (qC "tuple" [(qM (qV 83) "written" [])])]⟩
noncomputable def Ie:FN:=⟨[83,25],[.ite (.cmp (qA (qV 25) "kind") [.Eq] [(qS "gpr")]) [.ret (qC "wrap" [(.sub (qA (qV 83) "regs") (qA (qV 25) "number")),(qA (qV 25) "size")])] [],
 .ite (.cmp (qA (qV 25) "kind") [.Eq] [(qS "high")]) [.ret (qC "wrap" [(.bin .RShift (.sub (qA (qV 83) "regs") (.bin .Sub (qA (qV 25) "number") (qI 4))) (qI 8)),(qI 8)])] [],
 .ite (.cmp (qA (qV 25) "kind") [.Eq] [(qS "xmm")]) [.ret (.sub (qA (qV 83) "xmm") (qA (qV 25) "number"))] [],
 .ite (.cmp (qA (qV 25) "kind") [.Eq] [(qS "rip")]) [.ret (qA (qV 83) "rip")] [],
 .raise (nm "MachineError") (nm "register")]⟩
noncomputable def IH:FN:=⟨[83,25,1],[qN 1 (qC "wrap" [(qV 1),(qA (qV 25) "size")]),
 .ite (.cmp (qA (qV 25) "kind") [.Eq] [(qS "gpr")]) [.assign (.sub (qA (qV 83) "regs") (qA (qV 25) "number")) (qC "joined" [(.sub (qA (qV 83) "regs") (qA (qV 25) "number")),(qV 1),(qA (qV 25) "size")])] [.ite (.cmp (qA (qV 25) "kind") [.Eq] [(qS "high")]) [qN 35 (.sub (qA (qV 83) "regs") (.bin .Sub (qA (qV 25) "number") (qI 4))),.assign (.sub (qA (qV 83) "regs") (.bin .Sub (qA (qV 25) "number") (qI 4))) (.bin .Add (qV 35) (.bin .LShift (.bin .Sub (qV 1) (qC "wrap" [(.bin .RShift (qV 35) (qI 8)),(qI 8)])) (qI 8)))] [.ite (.cmp (qA (qV 25) "kind") [.Eq] [(qS "xmm")]) [.assign (.sub (qA (qV 83) "xmm") (qA (qV 25) "number")) (qV 1)] [.raise (nm "MachineError") (nm "register")]]]]⟩
noncomputable def ER:FN:=⟨[83,25,0,1],[.ite (.bool .And [(.cmp (qA (qV 25) "kind") [.Eq] [(qS "xmm")]),(.cmp (qV 0) [.Lt] [(qI 128)])]) [qN 35 (.sub (qA (qV 83) "xmm") (qA (qV 25) "number")),.assign (.sub (qA (qV 83) "xmm") (qA (qV 25) "number")) (.bin .Add (.bin .Sub (qV 35) (qC "wrap" [(qV 35),(qV 0)])) (qC "wrap" [(qV 1),(qV 0)]))] [.expr (qM (qV 83) "put" [(qV 25),(qV 1)])]]⟩
noncomputable def FG:FN:=⟨[83,86],[qN 87 (qA (qV 86) "worth"),
 .ite (.cmp (qA (qV 86) "base") [.IsNot] [(.lit .none)]) [qN 87 (.bin .Add (qV 87) (qM (qV 83) "get" [(qA (qV 86) "base")]))] [],
 .ite (.cmp (qA (qV 86) "index") [.IsNot] [(.lit .none)]) [qN 87 (.bin .Add (qV 87) (.bin .Mult (qM (qV 83) "get" [(qA (qV 86) "index")]) (qA (qV 86) "scale")))] [],
 .ret (qC "wrap" [(qV 87),(qI 64)])]⟩
noncomputable def Fg:FN:=⟨[83,86],[qN 53 (.ite (.cmp (qA (qV 86) "segment") [.Eq] [(qS "")]) (qI 0) (.sub (qA (qV 83) "segments") (qA (qV 86) "segment"))),
 .ret (qC "wrap" [(.bin .Add (qM (qV 83) "offset" [(qV 86)]) (qV 53)),(qI 64)])]⟩
noncomputable def EU:FN:=⟨[83,19,33],[.loop (.name 41) .plain [(.bin .Add (.list [(qV 19)]) (qC "list" [(qA (qV 33) "operands")]))] [.ite (.cmp (qA (qV 41) "kind") [.Eq] [(qS "reg")]) [.ret (qA (qA (qV 41) "register") "size")] [],.ite (.bool .And [(.cmp (qA (qV 41) "kind") [.Eq] [(qS "mem")]),(.cmp (qA (qV 41) "size") [.Gt] [(qI 0)])]) [.ret (qA (qV 41) "size")] []],
 .ret (qI 64)]⟩
noncomputable def Gv:FN:=⟨[83,19,0],[.ite (.cmp (qA (qV 19) "kind") [.Eq] [(qS "reg")]) [.ret (qC "wrap" [(qM (qV 83) "get" [(qA (qV 19) "register")]),(qV 0)])] [],
 .ite (.cmp (qA (qV 19) "kind") [.Eq] [(qS "mem")]) [.ret (qM (qA (qV 83) "memory") "read" [(qM (qV 83) "place" [(qV 19)]),(.bin .FloorDiv (qV 0) (qI 8))])] [],
 .ret (qC "wrap" [(qA (qV 19) "worth"),(qV 0)])]⟩
noncomputable def Fn:FN:=⟨[83,19,0,1],[.ite (.cmp (qA (qV 19) "kind") [.Eq] [(qS "reg")]) [.expr (qM (qV 83) "put_low" [(qA (qV 19) "register"),(qV 0),(qV 1)])] [.ite (.cmp (qA (qV 19) "kind") [.Eq] [(qS "mem")]) [.expr (qM (qA (qV 83) "memory") "write" [(qM (qV 83) "place" [(qV 19)]),(.bin .FloorDiv (qV 0) (qI 8)),(qV 1)])] [.raise (nm "MachineError") (nm "operand")]]]⟩
noncomputable def Gi:FN:=⟨[83],[qN 88 (.tuple [(.sub (qA (qV 83) "segments") (qS "fs")),(.sub (qA (qV 83) "segments") (qS "gs"))]),
 .ret (.tuple [(qC "tuple" [(qA (qV 83) "regs")]),(qC "tuple" [(qA (qV 83) "xmm")]),(qM (qA (qV 83) "flags") "told" []),(qM (qA (qV 83) "memory") "told" []),(qA (qV 83) "rip"),(qV 88),(qA (qV 83) "is_halted")])]⟩
noncomputable def dZ:List (Str×FN):=[(nm "mask",Wk),
 (nm "wrap",V9),
 (nm "signed",Nv),
 (nm "fits_signed",Ft),
 (nm "extended",JG),
 (nm "bit",eD),
 (nm "ones",V3),
 (nm "parity",PO),
 (nm "lowest_bit",G6),
 (nm "highest_bit",Fk),
 (nm "swapped",LB),
 (nm "condition_names",HA),
 (nm "condition_of",Jl),
 (nm "string_stem",Ka),
 (nm "szp",dU),
 (nm "six_flags",H6),
 (nm "reads_flags",Fe),
 (nm "writes_flags",Ep),
 (nm "sure_flags",GX),
 (nm "operand_size",FH),
 (nm "flag_mask",OW),
 (nm "bits_of",K7),
 (nm "register_mask",EV),
 (nm "address_mask",FI),
 (nm "is_string",IQ),
 (nm "writes_first",Em),
 (nm "reads_first",Fu),
 (nm "implied_uses",Ei),
 (nm "used_masks",Gq),
 (nm "memory_uses",Fc),
 (nm "uses",YC),
 (nm "shift_count",Fd),
 (nm "sure_mask",Id),
 (nm "early_names",Fj),
 (nm "late_ending",Fo),
 (nm "gpr",cU),
 (nm "high",VA),
 (nm "joined",Oz),
 (nm "masked_count",Eu),
 (nm "shifted",Lb),
 (nm "turned_left",Ff),
 (nm "rotated",Lf),
 (nm "rotated_through",DJ),
 (nm "double_shifted",Dq),
 (nm "product",Li),
 (nm "quotient",JS),
 (nm "scanned",Lg),
 (nm "with_bit",Ji),
 (nm "clear_flags",F1),
 (nm "count_told",Go),
 (nm "shift_deed",Ga),
 (nm "double_deed",Fr),
 (nm "lay_wide",KJ),
 (nm "put_halves",G5),
 (nm "halves",Ol),
 (nm "product_deed",Ez),
 (nm "quotient_deed",Ea),
 (nm "bit_deed",Jb),
 (nm "scan_deed",IU),
 (nm "swap_deed",H9),
 (nm "widening_deed",ET),
 (nm "conversion_deed",DQ),
 (nm "rotate_deed",Fm),
 (nm "_law_pen",K8),
 (nm "_law_draw",F9),
 (nm "_law_pick",Je),
 (nm "_law_register",E0),
 (nm "_law_target",Gw),
 (nm "_law_count",Ia),
 (nm "_law_row",FK),
 (nm "_law_worth",IP),
 (nm "_law_flag_names",He),
 (nm "_law_spot",GT),
 (nm "_law_states",BY),
 (nm "_law_outside",Fs),
 (nm "_law_kept",EF),
 (nm "_law_heard",IT),
 (nm "law",Ly),
 (nm "Flags.told",HE),
 (nm "Flags.pack",Gn),
 (nm "Flags.unpack",Et),
 (nm "Flags.get",Hy),
 (nm "Flags.put",Hz),
 (nm "Mem.registers",EP),
 (nm "Instruction.memory_at",Bl),
 (nm "Memory.octet",Ek),
 (nm "Memory.set_octet",Cz),
 (nm "Memory.read",F2),
 (nm "Memory.write",FJ),
 (nm "Memory.told",Fh),
 (nm "State.get",Ie),
 (nm "State.put",IH),
 (nm "State.put_low",ER),
 (nm "State.offset",FG),
 (nm "State.place",Fg),
 (nm "State.size_of",EU),
 (nm "State.read",Gv),
 (nm "State.write",Fn),
 (nm "State.told",Gi)]
theorem jH:(dZ.map (·.1)).Nodup:=by decide+kernel
noncomputable def c8:CD:=⟨[nm "register"],[],[.base (nm "Operand") [(rS "reg")],
 .set (nm "register") (rV "register")],false,[nm "kind",nm "register"]⟩
noncomputable def d5:CD:=⟨[nm "worth",nm "name"],[(.str (nm ""))],[.base (nm "Operand") [(rS "imm")],
 .set (nm "worth") (rV "worth"),
 .set (nm "name") (rV "name")],false,[nm "kind",nm "worth",nm "name"]⟩
noncomputable def cZ:CD:=⟨[nm "base",nm "index",nm "scale",nm "worth",nm "size",nm "segment",nm "name"],[(.int (0)),(.str (nm "")),(.str (nm ""))],[.base (nm "Operand") [(rS "mem")],
 .set (nm "base") (rV "base"),
 .set (nm "index") (rV "index"),
 .set (nm "scale") (rV "scale"),
 .set (nm "worth") (rV "worth"),
 .set (nm "size") (rV "size"),
 .set (nm "segment") (rV "segment"),
 .set (nm "name") (rV "name")],false,[nm "kind",nm "base",nm "index",nm "scale",nm "worth",nm "size",nm "segment",nm "name"]⟩
noncomputable def F0:CD:=⟨[nm "name",nm "operands",nm "prefix"],[(.str (nm ""))],[.set (nm "name") (rV "name"),
 .set (nm "operands") (rC "tuple" [(rV "operands")]),
 .set (nm "prefix") (rV "prefix")],false,[nm "name",nm "operands",nm "prefix"]⟩
noncomputable def Jn:CD:=⟨[nm "name",nm "kind",nm "number",nm "size"],[],[.set (nm "name") (rV "name"),
 .set (nm "kind") (rV "kind"),
 .set (nm "number") (rV "number"),
 .set (nm "size") (rV "size")],false,[nm "name",nm "kind",nm "number",nm "size"]⟩
noncomputable def aS:CD:=⟨[],[],[.set (nm "cf") (rI 0),
 .set (nm "pf") (rI 0),
 .set (nm "af") (rI 0),
 .set (nm "zf") (rI 0),
 .set (nm "sf") (rI 0),
 .set (nm "of") (rI 0),
 .set (nm "df") (rI 0)],true,[nm "cf",nm "pf",nm "af",nm "zf",nm "sf",nm "of",nm "df"]⟩
noncomputable def Yn:CD:=⟨[],[],[.newdict (nm "held")],false,[nm "held"]⟩
noncomputable def ZI:CD:=⟨[nm "iset"],[],[.set (nm "iset") (rV "iset"),
 .newlist (nm "regs") (.bin .Mult (.list [(rI 0)]) (rI 16)),
 .newlist (nm "xmm") (.bin .Mult (.list [(rI 0)]) (rI 16)),
 .set (nm "flags") (rC "Flags" []),
 .set (nm "memory") (rC "Memory" []),
 .set (nm "rip") (rI 0),
 .set (nm "begin") (rI 0),
 .set (nm "segments") (.dict [nm "fs",nm "gs"] [0,0]),
 .set (nm "is_halted") (.lit (.bool false))],false,[nm "iset",nm "regs",nm "xmm",nm "flags",nm "memory",nm "rip",nm "begin",nm "segments",nm "is_halted"]⟩
noncomputable def CB:CD:=⟨[nm "kind"],[],[.set (nm "kind") (rV "kind")],false,[nm "kind"]⟩
noncomputable def Qh:List (Str×CD):=[(nm "Reg",c8),(nm "Imm",d5),(nm "Mem",cZ),(nm "Instruction",F0),(nm "Register",Jn),(nm "Flags",aS),(nm "Memory",Yn),(nm "State",ZI)]
theorem Zp:(Qh.map (·.1)).Nodup:=by decide+kernel
noncomputable def PB:List (Str×AV):=[(nm "CF",.int 0),
 (nm "PF",.int 2),
 (nm "AF",.int 4),
 (nm "ZF",.int 6),
 (nm "SF",.int 7),
 (nm "DF",.int 10),
 (nm "OF",.int 11),
 (nm "CONDITIONS",.str (nm "o no b ae e ne be a s ns p np l ge le g")),
 (nm "FLAG_NAMES",.str (nm "cf pf af zf sf of df")),
 (nm "ONLY_READS",.str (nm "cmp test bt push jmp call mul div idiv int ret nop ucomiss ucomisd comiss comisd")),
 (nm "FRESH",.str (nm "mov lea movzx movsx movsxd pop popcnt lzcnt tzcnt movaps movups movapd movupd movdqa movdqu movd movq")),
 (nm "FRESH_LANES",.str (nm "pshufd pshuflw pshufhw sqrtps sqrtpd cvtps2pd cvtpd2ps cvtdq2ps cvtps2dq cvttps2dq movntps movntdq movnti")),
 (nm "LOW_PARTS",.str (nm "movss movsd")),
 (nm "HALF_MOVES",.str (nm "movlps movhps movlpd movhpd")),
 (nm "HALVES",.str (nm "mul imul div idiv")),
 (nm "STACK_NAMES",.str (nm "push pop pushfq popfq call ret")),
 (nm "SHIFT_NAMES",.str (nm "shl shr sar rol ror rcl rcr shld shrd")),
 (nm "NAMES_8",.str (nm "al cl dl bl spl bpl sil dil")),
 (nm "NAMES_16",.str (nm "ax cx dx bx sp bp si di")),
 (nm "NAMES_32",.str (nm "eax ecx edx ebx esp ebp esi edi")),
 (nm "NAMES_64",.str (nm "rax rcx rdx rbx rsp rbp rsi rdi")),
 (nm "HIGH_NAMES",.str (nm "ah ch dh bh")),
 (nm "SHIFTS",.str (nm "shl shr sar")),
 (nm "ROTATES",.str (nm "rol ror")),
 (nm "THROUGHS",.str (nm "rcl rcr")),
 (nm "DOUBLES",.str (nm "shld shrd")),
 (nm "BITS",.str (nm "bt bts btr btc")),
 (nm "SCANS",.str (nm "bsf bsr popcnt lzcnt tzcnt")),
 (nm "WIDENINGS",.str (nm "movzx movsx movsxd")),
 (nm "CONVERSIONS",.str (nm "cbw cwde cdqe")),
 (nm "SPREADS",.str (nm "cwd cdq cqo"))]
theorem XJ:(PB.map (·.1)).Nodup:=by decide+kernel
noncomputable def Ss:List (Str×Str):=[(nm "Flags.told",nm "Flags.told"),(nm "Flags.pack",nm "Flags.pack"),(nm "Flags.unpack",nm "Flags.unpack"),(nm "Flags.get",nm "Flags.get"),(nm "Flags.put",nm "Flags.put"),(nm "Mem.registers",nm "Mem.registers"),(nm "Instruction.memory_at",nm "Instruction.memory_at"),(nm "Memory.octet",nm "Memory.octet"),(nm "Memory.set_octet",nm "Memory.set_octet"),(nm "Memory.read",nm "Memory.read"),(nm "Memory.write",nm "Memory.write"),(nm "Memory.told",nm "Memory.told"),(nm "State.get",nm "State.get"),(nm "State.put",nm "State.put"),(nm "State.put_low",nm "State.put_low"),(nm "State.offset",nm "State.offset"),(nm "State.place",nm "State.place"),(nm "State.size_of",nm "State.size_of"),(nm "State.read",nm "State.read"),(nm "State.write",nm "State.write"),(nm "State.told",nm "State.told"),(nm "Memory.written",nm "Memory.written")]
noncomputable def AA:Pr:=⟨λf=>(dZ.lookup f).map Au,λc=>Qh.lookup c,λc=>if c=nm "Operand" then some CB else uZ,λx=>PB.lookup x,λc m=>Ss.lookup (I7 c m)⟩
theorem AI{i:Nat}{f:Str}{d:FN}(h:dZ[i]?=some (f,d)):AA.fn f=some (Au d):=congrArg (wK Au) (JV jH h)
theorem KL{i:Nat}{f:Str}{d:CD}(h:Qh[i]?=some (f,d)):AA.cls f=some d:=JV Zp h
theorem AY{i:Nat}{f:Str}{d:AV}(h:PB[i]?=some (f,d)):AA.glob f=some d:=JV XJ h
theorem Vi:(Ss.map (·.1)).Nodup:=by decide+kernel
theorem Ao{i:Nat}{c m f g:Str}(h:Ss[i]?=some (f,g))(e:I7 c m=f):AA.meth c m=some g:=by
 subst e;exact JV Vi h
theorem Ht{f:Str}(h:(dZ.all λp=>!(p.1==f))=true):AA.fn f=uZ:=congrArg (wK Au) (List.lookup_eq_none_iff.mpr λp hp=>by
 have:=List.all_eq_true.mp h p hp
 simp only[v4] at this
 simp only[bne_iff_ne,beq_eq_false_iff_ne,ne_eq] at this⊢
 exactλe=>this (Eq.symm e))
theorem JW{f:Str}(h:(Qh.all λp=>!(p.1==f))=true):AA.cls f=uZ:=List.lookup_eq_none_iff.mpr λp hp=>by
 have:=List.all_eq_true.mp h p hp
 simp only[v4] at this
 simp only[bne_iff_ne,beq_eq_false_iff_ne,ne_eq] at this⊢
 exactλe=>this (Eq.symm e)
theorem jC:AA.fn (nm "mask")=some (Au Wk):=AI (i:=0) rfl
theorem kT:AA.fn (nm "wrap")=some (Au V9):=AI (i:=1) rfl
theorem WP:AA.fn (nm "signed")=some (Au Nv):=AI (i:=2) rfl
theorem DU:AA.fn (nm "fits_signed")=some (Au Ft):=AI (i:=3) rfl
theorem P7:AA.fn (nm "extended")=some (Au JG):=AI (i:=4) rfl
theorem nZ:AA.fn (nm "bit")=some (Au eD):=AI (i:=5) rfl
theorem gV:AA.fn (nm "ones")=some (Au V3):=AI (i:=6) rfl
theorem YO:AA.fn (nm "parity")=some (Au PO):=AI (i:=7) rfl
theorem G3:AA.fn (nm "lowest_bit")=some (Au G6):=AI (i:=8) rfl
theorem K4:AA.fn (nm "highest_bit")=some (Au Fk):=AI (i:=9) rfl
theorem UA:AA.fn (nm "swapped")=some (Au LB):=AI (i:=10) rfl
theorem mW:AA.fn (nm "szp")=some (Au dU):=AI (i:=14) rfl
theorem OS:AA.fn (nm "six_flags")=some (Au H6):=AI (i:=15) rfl
theorem Fw:AA.fn (nm "reads_flags")=some (Au Fe):=AI (i:=16) rfl
theorem Bq:AA.fn (nm "writes_flags")=some (Au Ep):=AI (i:=17) rfl
theorem G0:AA.fn (nm "sure_flags")=some (Au GX):=AI (i:=18) rfl
theorem J0:AA.fn (nm "operand_size")=some (Au FH):=AI (i:=19) rfl
theorem UN:AA.fn (nm "bits_of")=some (Au K7):=AI (i:=21) rfl
theorem Iv:AA.fn (nm "register_mask")=some (Au EV):=AI (i:=22) rfl
theorem J9:AA.fn (nm "address_mask")=some (Au FI):=AI (i:=23) rfl
theorem Ok:AA.fn (nm "is_string")=some (Au IQ):=AI (i:=24) rfl
theorem FC:AA.fn (nm "writes_first")=some (Au Em):=AI (i:=25) rfl
theorem Fz:AA.fn (nm "reads_first")=some (Au Fu):=AI (i:=26) rfl
theorem C0:AA.fn (nm "implied_uses")=some (Au Ei):=AI (i:=27) rfl
theorem Cn:AA.fn (nm "used_masks")=some (Au Gq):=AI (i:=28) rfl
theorem De:AA.fn (nm "memory_uses")=some (Au Fc):=AI (i:=29) rfl
theorem jJ:AA.fn (nm "uses")=some (Au YC):=AI (i:=30) rfl
theorem DW:AA.fn (nm "shift_count")=some (Au Fd):=AI (i:=31) rfl
theorem Bi:AA.fn (nm "sure_mask")=some (Au Id):=AI (i:=32) rfl
theorem CC:AA.fn (nm "early_names")=some (Au Fj):=AI (i:=33) rfl
theorem CH:AA.fn (nm "late_ending")=some (Au Fo):=AI (i:=34) rfl
theorem d4:AA.fn (nm "gpr")=some (Au cU):=AI (i:=35) rfl
theorem hW:AA.fn (nm "high")=some (Au VA):=AI (i:=36) rfl
theorem We:AA.fn (nm "joined")=some (Au Oz):=AI (i:=37) rfl
theorem JN:AA.fn (nm "masked_count")=some (Au Eu):=AI (i:=38) rfl
theorem Dn:AA.fn (nm "shifted")=some (Au Lb):=AI (i:=39) rfl
theorem Kv:AA.fn (nm "turned_left")=some (Au Ff):=AI (i:=40) rfl
theorem Lu:AA.fn (nm "rotated")=some (Au Lf):=AI (i:=41) rfl
theorem DO:AA.fn (nm "rotated_through")=some (Au DJ):=AI (i:=42) rfl
theorem B8:AA.fn (nm "double_shifted")=some (Au Dq):=AI (i:=43) rfl
theorem Hb:AA.fn (nm "product")=some (Au Li):=AI (i:=44) rfl
theorem A6:AA.fn (nm "quotient")=some (Au JS):=AI (i:=45) rfl
theorem FQ:AA.fn (nm "scanned")=some (Au Lg):=AI (i:=46) rfl
theorem GM:AA.fn (nm "with_bit")=some (Au Ji):=AI (i:=47) rfl
theorem Ku:AA.fn (nm "clear_flags")=some (Au F1):=AI (i:=48) rfl
theorem Mr:AA.fn (nm "count_told")=some (Au Go):=AI (i:=49) rfl
theorem Ci:AA.fn (nm "shift_deed")=some (Au Ga):=AI (i:=50) rfl
theorem Db:AA.fn (nm "double_deed")=some (Au Fr):=AI (i:=51) rfl
theorem QM:AA.fn (nm "lay_wide")=some (Au KJ):=AI (i:=52) rfl
theorem G8:AA.fn (nm "put_halves")=some (Au G5):=AI (i:=53) rfl
theorem Pm:AA.fn (nm "halves")=some (Au Ol):=AI (i:=54) rfl
theorem Cw:AA.fn (nm "product_deed")=some (Au Ez):=AI (i:=55) rfl
theorem EQ:AA.fn (nm "quotient_deed")=some (Au Ea):=AI (i:=56) rfl
theorem D9:AA.fn (nm "bit_deed")=some (Au Jb):=AI (i:=57) rfl
theorem El:AA.fn (nm "scan_deed")=some (Au IU):=AI (i:=58) rfl
theorem IE:AA.fn (nm "swap_deed")=some (Au H9):=AI (i:=59) rfl
theorem EW:AA.fn (nm "widening_deed")=some (Au ET):=AI (i:=60) rfl
theorem DK:AA.fn (nm "conversion_deed")=some (Au DQ):=AI (i:=61) rfl
theorem Df:AA.fn (nm "rotate_deed")=some (Au Fm):=AI (i:=62) rfl
theorem UE:AA.fn (nm "_law_pen")=some (Au K8):=AI (i:=63) rfl
theorem GU:AA.fn (nm "_law_draw")=some (Au F9):=AI (i:=64) rfl
theorem Qj:AA.fn (nm "_law_pick")=some (Au Je):=AI (i:=65) rfl
theorem C1:AA.fn (nm "_law_register")=some (Au E0):=AI (i:=66) rfl
theorem Cg:AA.fn (nm "_law_target")=some (Au Gw):=AI (i:=67) rfl
theorem IB:AA.fn (nm "_law_count")=some (Au Ia):=AI (i:=68) rfl
theorem Ue:AA.fn (nm "_law_row")=some (Au FK):=AI (i:=69) rfl
theorem IX:AA.fn (nm "_law_worth")=some (Au IP):=AI (i:=70) rfl
theorem A4:AA.fn (nm "_law_spot")=some (Au GT):=AI (i:=72) rfl
theorem L8:AA.fn (nm "_law_states")=some (Au BY):=AI (i:=73) rfl
theorem Kt:AA.fn (nm "_law_outside")=some (Au Fs):=AI (i:=74) rfl
theorem Js:AA.fn (nm "_law_kept")=some (Au EF):=AI (i:=75) rfl
theorem IZ:AA.fn (nm "_law_heard")=some (Au IT):=AI (i:=76) rfl
theorem dG:AA.fn (nm "law")=some (Au Ly):=AI (i:=77) rfl
theorem M6:AA.fn (nm "Flags.told")=some (Au HE):=AI (i:=78) rfl
theorem Mc:AA.fn (nm "Flags.pack")=some (Au Gn):=AI (i:=79) rfl
theorem JU:AA.fn (nm "Flags.unpack")=some (Au Et):=AI (i:=80) rfl
theorem Nj:AA.fn (nm "Flags.get")=some (Au Hy):=AI (i:=81) rfl
theorem H5:AA.fn (nm "Flags.put")=some (Au Hz):=AI (i:=82) rfl
theorem Ip:AA.fn (nm "Mem.registers")=some (Au EP):=AI (i:=83) rfl
theorem Ac:AA.fn (nm "Instruction.memory_at")=some (Au Bl):=AI (i:=84) rfl
theorem KM:AA.fn (nm "Memory.octet")=some (Au Ek):=AI (i:=85) rfl
theorem GL:AA.fn (nm "Memory.set_octet")=some (Au Cz):=AI (i:=86) rfl
theorem Kp:AA.fn (nm "Memory.read")=some (Au F2):=AI (i:=87) rfl
theorem KP:AA.fn (nm "Memory.write")=some (Au FJ):=AI (i:=88) rfl
theorem Kr:AA.fn (nm "Memory.told")=some (Au Fh):=AI (i:=89) rfl
theorem Oe:AA.fn (nm "State.get")=some (Au Ie):=AI (i:=90) rfl
theorem PU:AA.fn (nm "State.put")=some (Au IH):=AI (i:=91) rfl
theorem Ix:AA.fn (nm "State.put_low")=some (Au ER):=AI (i:=92) rfl
theorem t_State_offset:AA.fn (nm "State.offset")=some (Au FG):=AI (i:=93) rfl
theorem Kz:AA.fn (nm "State.place")=some (Au Fg):=AI (i:=94) rfl
theorem Iu:AA.fn (nm "State.size_of")=some (Au EU):=AI (i:=95) rfl
theorem M1:AA.fn (nm "State.read")=some (Au Gv):=AI (i:=96) rfl
theorem Ky:AA.fn (nm "State.write")=some (Au Fn):=AI (i:=97) rfl
theorem Mk:AA.fn (nm "State.told")=some (Au Gi):=AI (i:=98) rfl
theorem fK:AA.cls (nm "Reg")=some c8:=KL (i:=0) rfl
theorem i5:AA.cls (nm "Imm")=some d5:=KL (i:=1) rfl
theorem eR:AA.cls (nm "Mem")=some cZ:=KL (i:=2) rfl
theorem JJ:AA.cls (nm "Instruction")=some F0:=KL (i:=3) rfl
theorem OT:AA.cls (nm "Register")=some Jn:=KL (i:=4) rfl
theorem g_CF:AA.glob (nm "CF")=some (.int 0):=AY (i:=0) rfl
theorem g_PF:AA.glob (nm "PF")=some (.int 2):=AY (i:=1) rfl
theorem g_AF:AA.glob (nm "AF")=some (.int 4):=AY (i:=2) rfl
theorem g_ZF:AA.glob (nm "ZF")=some (.int 6):=AY (i:=3) rfl
theorem g_SF:AA.glob (nm "SF")=some (.int 7):=AY (i:=4) rfl
theorem g_DF:AA.glob (nm "DF")=some (.int 10):=AY (i:=5) rfl
theorem g_OF:AA.glob (nm "OF")=some (.int 11):=AY (i:=6) rfl
theorem g_FLAG_NAMES:AA.glob (nm "FLAG_NAMES")=some (.str (nm "cf pf af zf sf of df")):=AY (i:=8) rfl
theorem g_ONLY_READS:AA.glob (nm "ONLY_READS")=some (.str (nm "cmp test bt push jmp call mul div idiv int ret nop ucomiss ucomisd comiss comisd")):=AY (i:=9) rfl
theorem g_FRESH:AA.glob (nm "FRESH")=some (.str (nm "mov lea movzx movsx movsxd pop popcnt lzcnt tzcnt movaps movups movapd movupd movdqa movdqu movd movq")):=AY (i:=10) rfl
theorem g_FRESH_LANES:AA.glob (nm "FRESH_LANES")=some (.str (nm "pshufd pshuflw pshufhw sqrtps sqrtpd cvtps2pd cvtpd2ps cvtdq2ps cvtps2dq cvttps2dq movntps movntdq movnti")):=AY (i:=11) rfl
theorem g_LOW_PARTS:AA.glob (nm "LOW_PARTS")=some (.str (nm "movss movsd")):=AY (i:=12) rfl
theorem g_HALF_MOVES:AA.glob (nm "HALF_MOVES")=some (.str (nm "movlps movhps movlpd movhpd")):=AY (i:=13) rfl
theorem g_HALVES:AA.glob (nm "HALVES")=some (.str (nm "mul imul div idiv")):=AY (i:=14) rfl
theorem g_STACK_NAMES:AA.glob (nm "STACK_NAMES")=some (.str (nm "push pop pushfq popfq call ret")):=AY (i:=15) rfl
theorem g_SHIFT_NAMES:AA.glob (nm "SHIFT_NAMES")=some (.str (nm "shl shr sar rol ror rcl rcr shld shrd")):=AY (i:=16) rfl
theorem g_NAMES_8:AA.glob (nm "NAMES_8")=some (.str (nm "al cl dl bl spl bpl sil dil")):=AY (i:=17) rfl
theorem g_NAMES_16:AA.glob (nm "NAMES_16")=some (.str (nm "ax cx dx bx sp bp si di")):=AY (i:=18) rfl
theorem g_NAMES_32:AA.glob (nm "NAMES_32")=some (.str (nm "eax ecx edx ebx esp ebp esi edi")):=AY (i:=19) rfl
theorem g_NAMES_64:AA.glob (nm "NAMES_64")=some (.str (nm "rax rcx rdx rbx rsp rbp rsi rdi")):=AY (i:=20) rfl
theorem g_HIGH_NAMES:AA.glob (nm "HIGH_NAMES")=some (.str (nm "ah ch dh bh")):=AY (i:=21) rfl
theorem g_SHIFTS:AA.glob (nm "SHIFTS")=some (.str (nm "shl shr sar")):=AY (i:=22) rfl
theorem g_ROTATES:AA.glob (nm "ROTATES")=some (.str (nm "rol ror")):=AY (i:=23) rfl
theorem g_THROUGHS:AA.glob (nm "THROUGHS")=some (.str (nm "rcl rcr")):=AY (i:=24) rfl
theorem g_DOUBLES:AA.glob (nm "DOUBLES")=some (.str (nm "shld shrd")):=AY (i:=25) rfl
theorem g_BITS:AA.glob (nm "BITS")=some (.str (nm "bt bts btr btc")):=AY (i:=26) rfl
theorem g_SCANS:AA.glob (nm "SCANS")=some (.str (nm "bsf bsr popcnt lzcnt tzcnt")):=AY (i:=27) rfl
theorem g_WIDENINGS:AA.glob (nm "WIDENINGS")=some (.str (nm "movzx movsx movsxd")):=AY (i:=28) rfl
theorem g_CONVERSIONS:AA.glob (nm "CONVERSIONS")=some (.str (nm "cbw cwde cdqe")):=AY (i:=29) rfl
theorem g_SPREADS:AA.glob (nm "SPREADS")=some (.str (nm "cwd cdq cqo")):=AY (i:=30) rfl
theorem NM:AA.meth (nm "Flags") (nm "told")=some (nm "Flags.told"):=Ao (i:=0) rfl (by decide+kernel)
theorem MU:AA.meth (nm "Flags") (nm "pack")=some (nm "Flags.pack"):=Ao (i:=1) rfl (by decide+kernel)
theorem Ja:AA.meth (nm "Flags") (nm "unpack")=some (nm "Flags.unpack"):=Ao (i:=2) rfl (by decide+kernel)
theorem N4:AA.meth (nm "Flags") (nm "get")=some (nm "Flags.get"):=Ao (i:=3) rfl (by decide+kernel)
theorem OD:AA.meth (nm "Flags") (nm "put")=some (nm "Flags.put"):=Ao (i:=4) rfl (by decide+kernel)
theorem Il:AA.meth (nm "Mem") (nm "registers")=some (nm "Mem.registers"):=Ao (i:=5) rfl (by decide+kernel)
theorem Dm:AA.meth (nm "Instruction") (nm "memory_at")=some (nm "Instruction.memory_at"):=Ao (i:=6) rfl (by decide+kernel)
theorem J7:AA.meth (nm "Memory") (nm "octet")=some (nm "Memory.octet"):=Ao (i:=7) rfl (by decide+kernel)
theorem F8:AA.meth (nm "Memory") (nm "set_octet")=some (nm "Memory.set_octet"):=Ao (i:=8) rfl (by decide+kernel)
theorem Km:AA.meth (nm "Memory") (nm "read")=some (nm "Memory.read"):=Ao (i:=9) rfl (by decide+kernel)
theorem Jf:AA.meth (nm "Memory") (nm "write")=some (nm "Memory.write"):=Ao (i:=10) rfl (by decide+kernel)
theorem Kl:AA.meth (nm "Memory") (nm "told")=some (nm "Memory.told"):=Ao (i:=11) rfl (by decide+kernel)
theorem O8:AA.meth (nm "State") (nm "get")=some (nm "State.get"):=Ao (i:=12) rfl (by decide+kernel)
theorem Nk:AA.meth (nm "State") (nm "put")=some (nm "State.put"):=Ao (i:=13) rfl (by decide+kernel)
theorem Ij:AA.meth (nm "State") (nm "put_low")=some (nm "State.put_low"):=Ao (i:=14) rfl (by decide+kernel)
theorem KG:AA.meth (nm "State") (nm "offset")=some (nm "State.offset"):=Ao (i:=15) rfl (by decide+kernel)
theorem KY:AA.meth (nm "State") (nm "place")=some (nm "State.place"):=Ao (i:=16) rfl (by decide+kernel)
theorem Ii:AA.meth (nm "State") (nm "size_of")=some (nm "State.size_of"):=Ao (i:=17) rfl (by decide+kernel)
theorem Me:AA.meth (nm "State") (nm "read")=some (nm "State.read"):=Ao (i:=18) rfl (by decide+kernel)
theorem K2:AA.meth (nm "State") (nm "write")=some (nm "State.write"):=Ao (i:=19) rfl (by decide+kernel)
theorem NJ:AA.meth (nm "State") (nm "told")=some (nm "State.told"):=Ao (i:=20) rfl (by decide+kernel)
theorem Hw:AA.meth (nm "Memory") (nm "written")=some (nm "Memory.written"):=Ao (i:=21) rfl (by decide+kernel)
theorem NK:wC (nm "cf pf af zf sf of df")=[nm "cf",nm "pf",nm "af",nm "zf",nm "sf",nm "of",nm "df"]:=by decide+kernel
theorem MX:wC (nm "cmp test bt push jmp call mul div idiv int ret nop ucomiss ucomisd comiss comisd")=[nm "cmp",nm "test",nm "bt",nm "push",nm "jmp",nm "call",nm "mul",nm "div",nm "idiv",nm "int",nm "ret",nm "nop",nm "ucomiss",nm "ucomisd",nm "comiss",nm "comisd"]:=by decide+kernel
theorem cH:wC (nm "mov lea movzx movsx movsxd pop popcnt lzcnt tzcnt movaps movups movapd movupd movdqa movdqu movd movq")=[nm "mov",nm "lea",nm "movzx",nm "movsx",nm "movsxd",nm "pop",nm "popcnt",nm "lzcnt",nm "tzcnt",nm "movaps",nm "movups",nm "movapd",nm "movupd",nm "movdqa",nm "movdqu",nm "movd",nm "movq"]:=by decide+kernel
theorem Kx:wC (nm "pshufd pshuflw pshufhw sqrtps sqrtpd cvtps2pd cvtpd2ps cvtdq2ps cvtps2dq cvttps2dq movntps movntdq movnti")=[nm "pshufd",nm "pshuflw",nm "pshufhw",nm "sqrtps",nm "sqrtpd",nm "cvtps2pd",nm "cvtpd2ps",nm "cvtdq2ps",nm "cvtps2dq",nm "cvttps2dq",nm "movntps",nm "movntdq",nm "movnti"]:=by decide+kernel
theorem Om:wC (nm "movss movsd")=[nm "movss",nm "movsd"]:=by decide+kernel
theorem NI:wC (nm "movlps movhps movlpd movhpd")=[nm "movlps",nm "movhps",nm "movlpd",nm "movhpd"]:=by decide+kernel
theorem XG:wC (nm "mul imul div idiv")=[nm "mul",nm "imul",nm "div",nm "idiv"]:=by decide+kernel
theorem Kd:wC (nm "push pop pushfq popfq call ret")=[nm "push",nm "pop",nm "pushfq",nm "popfq",nm "call",nm "ret"]:=by decide+kernel
theorem Kf:wC (nm "shl shr sar rol ror rcl rcr shld shrd")=[nm "shl",nm "shr",nm "sar",nm "rol",nm "ror",nm "rcl",nm "rcr",nm "shld",nm "shrd"]:=by decide+kernel
theorem Ua:wC (nm "al cl dl bl spl bpl sil dil")=[nm "al",nm "cl",nm "dl",nm "bl",nm "spl",nm "bpl",nm "sil",nm "dil"]:=by decide+kernel
theorem QL:wC (nm "ax cx dx bx sp bp si di")=[nm "ax",nm "cx",nm "dx",nm "bx",nm "sp",nm "bp",nm "si",nm "di"]:=by decide+kernel
theorem QF:wC (nm "eax ecx edx ebx esp ebp esi edi")=[nm "eax",nm "ecx",nm "edx",nm "ebx",nm "esp",nm "ebp",nm "esi",nm "edi"]:=by decide+kernel
theorem RY:wC (nm "rax rcx rdx rbx rsp rbp rsi rdi")=[nm "rax",nm "rcx",nm "rdx",nm "rbx",nm "rsp",nm "rbp",nm "rsi",nm "rdi"]:=by decide+kernel
theorem MG:wC (nm "ah ch dh bh")=[nm "ah",nm "ch",nm "dh",nm "bh"]:=by decide+kernel
theorem X6:wC (nm "shl shr sar")=[nm "shl",nm "shr",nm "sar"]:=by decide+kernel
theorem Ut:wC (nm "rol ror")=[nm "rol",nm "ror"]:=by decide+kernel
theorem Pv:wC (nm "rcl rcr")=[nm "rcl",nm "rcr"]:=by decide+kernel
theorem Tz:wC (nm "shld shrd")=[nm "shld",nm "shrd"]:=by decide+kernel
theorem gT:wC (nm "bt bts btr btc")=[nm "bt",nm "bts",nm "btr",nm "btc"]:=by decide+kernel
theorem aU:wC (nm "bsf bsr popcnt lzcnt tzcnt")=[nm "bsf",nm "bsr",nm "popcnt",nm "lzcnt",nm "tzcnt"]:=by decide+kernel
theorem OP:wC (nm "movzx movsx movsxd")=[nm "movzx",nm "movsx",nm "movsxd"]:=by decide+kernel
theorem K1:wC (nm "cbw cwde cdqe")=[nm "cbw",nm "cwde",nm "cdqe"]:=by decide+kernel
theorem Uc:wC (nm "cwd cdq cqo")=[nm "cwd",nm "cdq",nm "cqo"]:=by decide+kernel
theorem YT:AA.fn (nm "len")=uZ:=Ht (by decide+kernel)
theorem Wy:AA.cls (nm "len")=uZ:=JW (by decide+kernel)
theorem WD:AA.fn (nm "int")=uZ:=Ht (by decide+kernel)
theorem XT:AA.cls (nm "int")=uZ:=JW (by decide+kernel)
theorem jI:AA.fn (nm "abs")=uZ:=Ht (by decide+kernel)
theorem f0:AA.cls (nm "abs")=uZ:=JW (by decide+kernel)
theorem V8:AA.fn (nm "sum")=uZ:=Ht (by decide+kernel)
theorem Yo:AA.cls (nm "sum")=uZ:=JW (by decide+kernel)
theorem J6:AA.fn (nm "tuple")=uZ:=Ht (by decide+kernel)
theorem JE:AA.cls (nm "tuple")=uZ:=JW (by decide+kernel)
theorem bE:AA.fn (nm "list")=uZ:=Ht (by decide+kernel)
theorem a9:AA.cls (nm "list")=uZ:=JW (by decide+kernel)
theorem gG:AA.fn (nm "str")=uZ:=Ht (by decide+kernel)
theorem eX:AA.cls (nm "str")=uZ:=JW (by decide+kernel)
theorem kS:AA.fn (nm "Reg")=uZ:=Ht (by decide+kernel)
theorem kO:AA.fn (nm "Imm")=uZ:=Ht (by decide+kernel)
theorem gH:AA.fn (nm "Mem")=uZ:=Ht (by decide+kernel)
theorem KD:AA.fn (nm "Instruction")=uZ:=Ht (by decide+kernel)
theorem N1:AA.fn (nm "Register")=uZ:=Ht (by decide+kernel)
end Mine.Internal
namespace Mine.Internal
open PySem PySem.W PyProof.Rows
noncomputable def Y5(P:wR)(a:Addr):Obj:=((Rm P 136).get a).getD default
noncomputable def pY:List Addr:=[80,87,94,101,108,115,122,129,136,143,150,157,164,171,262,269,283,290,298,522,529,534,541,548,555,562,569,583,590,597,604,611,618,681,688,695,702,803,920,927,934,941,948,955,962,969,976,983,990,997,1004,1011,1018,1025,1032,1039,1046,1053,1060,1067,1074,1081,1088,1093,1100,1107,1114,1121,1128,1135,1142,1147,1154,1159,1164,1169,1176,1181,192,199,206,227,234,441,487,723,730,737,744,789,824,831,838,850,857,864,871,878,899]
noncomputable def pW:List (Addr×Addr):=[(371,354),(405,388),(458,422),(511,475),(670,632),(244,185),(792,716),(909,817),(336,312)]
noncomputable def r6:List Addr:=36::pW.map (·.2)
noncomputable def M7:List Addr:=761::pY++r6
noncomputable def iA:List Addr:=[0,1,2,3,70,71,45,46]++M7++M7.map (· -1)++M7.map (· -7)++pW.map (·.1)++pW.map (·.1-1)
noncomputable def kZ(P:wR):Frag:=iA.map λa=>(a,Y5 P a)
noncomputable def n9:Option Obj→Bool
 |some ⟨_,_,.freed,_⟩=>false
 |some _=>true
 |none=>false
theorem mF(P:wR):iA.all (λa=>oy a 1182&&n9 ((Rm P 136).get a))=true:=by kernel_rfl
theorem qY{t:BT}{a:Nat}(h:n9 (t.get a)=true)(l:a<1182):(absHeap t 1182 {}).get? a=some ((t.get a).getD default):=by
 revert h
 cases u:t.get a with
 |none=>exactλh=>nomatch h
 |some o=>
  intro h
  rw[abs_get l u]
  obtain⟨c,d,e,sl⟩:=o
  cases e<;>first|rfl|exact nomatch h
theorem UW(P:wR)(a:Addr)(h:a∈iA):(hZ P).get? a=some (Y5 P a):=
 have q:=Bool.and_eq_true_iff.mp (List.all_eq_true.mp (mF P) a h)
 qY q.2 (zQ q.1)
theorem rX(P:wR):(kZ P).In (hZ P):=Frag.in_of (as:=iA) (by kernel_rfl) (by
 unfold kZ
 rw[bj]
 exact List.map_inj_left.mpr (UW P))
noncomputable def nU(P:wR)(a:Addr):Array DictEntry:=match(Y5 P a).data with
 |.dict es _=>es
 |_=> #[]
noncomputable def tN(P:wR)(a:Addr):Nat:=match(Y5 P a).data with
 |.dict _ n=>n
 |_=>0
theorem h9{P:wR}{a:Addr}(h:a∈iA)(e:(Y5 P a).data=.dict (nU P a) (tN P a))(s:(nU P a).toList.all (λe=>match e.key with|.str _ _=>true|_=>false)=true):(hZ P).Ns a λx=>nsFind (nU P a) x:=
 ⟨_,_,_,UW P a h,e,(λe u=>by
  have:=List.all_eq_true.mp s e (Array.mem_toList_iff.mpr u)
  revert this
  cases e.key<;>first|exactλ_=>⟨_,_,rfl⟩|exactλh=>nomatch h),λ_=>rfl⟩
noncomputable def qE:List ((Addr×Addr)×Str×CD):=pW.zip (Qh++[(nm "Operand",CB)])
noncomputable def j5:List (Str×Addr):=qE.map λy=>(y.2.1,y.1.1)
noncomputable def NF(w:World)(os:OsState):Cx:=⟨I2,w,hZ w.params,#[],os,λc=>j5.lookup c,λc=>if c=Av then some 71 else none,kZ w.params,λx=>nsFind (nU w.params mainGlobals) x,λx=>nsFind (nU w.params builtinsNs) x⟩
theorem GI{α:Type}{x:Str}{a:α}{l:List (Str×α)}(h:l.lookup x=some a):(x,a)∈l:=
 let⟨_,_,e,_⟩:=List.lookup_eq_some_iff.mp h
 e▸yU _ (.head _)
theorem Zj{α β:Type}{l:List α}{f g:α→β}(h:l.map f=l.map g){a:α}(m:a∈l):f a=g a:=List.map_inj_left.mp h a m
noncomputable def qR(K:Frag)(C:Addr):=(findIn K (.ref C) "__getattribute__",findIn K (.ref C) "__getattr__",hasDictIn K C,findIn K (.ref C) "__setattr__",plainOver K C)
theorem oI(P:wR):j5.map (λp=>qR (kZ P) p.2)=j5.map λ_=>(some (some (.builtin "object.__getattribute__")),some none,true,some (some (.builtin "object.__setattr__")),true):=by kernel_rfl
theorem mD(w:World)(os:OsState):AX (NF w os):=
 ⟨rX _,h9 (by decide) (by kernel_rfl) (by kernel_rfl),h9 (by decide) (by kernel_rfl) (by kernel_rfl),⟨_,h9 (a:=cStatics) (by decide) (by kernel_rfl) (by kernel_rfl),by kernel_rfl⟩,⟨_,UW _ _ (by decide)⟩,λc C e=>
  have h:=Zj (oI w.params) (GI e)
  ⟨congrArg (·.1) h,congrArg (·.2.1) h,congrArg (·.2.2.1) h,congrArg (·.2.2.2.1) h,congrArg (·.2.2.2.2) h⟩⟩
theorem uJ{c:Prop} [d:Decidable c]{a b:Option Value}{v:Value}{Q:Prop}(p:c→a=some v→Q)(q:b=some v→Q)(h:(if c then a else b)=some v):Q:=match d,h with
 |.isTrue e,h=>p e h
 |.isFalse _,h=>q h
theorem mV(w:World)(os:OsState):Aa (NF w os):=by
 intro f v
 unfold bB
 iterate 10 (refine uJ (λe h=>?_) ?_; · subst e;exact y3 (by kernel_rfl) h)
 exactλh=>nomatch h
noncomputable def V0:Value→Option AV
 |.int i _=>some (.int i)
 |.str s _=>some (.str s)
 |.none=>some .none
 |_=>none
theorem cM{X:Cx}{W:Wd}{c:Value}{v:AV}:V0 c=some v→VR X W v c:=by
 cases c<;>intro h<;>first|exact u7 h▸ .int _ _|exact u7 h▸ .str _ _|exact u7 h▸ .none|exact nomatch h
theorem Wa{X:Cx}{W:Wd}: ∀{l:List Value} {ds:List AV},l.map V0=ds.map some→AN X W ds l
 | [],[],_=>.nil
 |c::l,v::ds,h=>.cons (cM (wF h).1) (Wa (wF h).2)
noncomputable def sM(w:World)(os:OsState)(x:Str):Value:=(gv (NF w os) x).getD .none
theorem iI(w:World)(os:OsState):PB.map (λp=>(gv (NF w os) p.1,V0 (sM w os p.1)))=PB.map λp=>(some (sM w os p.1),some p.2):=by kernel_rfl
noncomputable def P8(P:wR)(a:Addr):lm:=match(Y5 P a).data with
 |.func fd=>fd
 |_=>⟨Str.empty,Str.empty,⟨[],[],none,[],[],none,[]⟩,.stmts [],⟨.module,[],false,false,[]⟩,0,[],.none,.none,.none,.none,none,.none,.none,0⟩
noncomputable def H8(P:wR)(a:Addr):List Stmt:=match(P8 P a).body with
 |.stmts b=>b
 |_=>[]
noncomputable def U4(P:wR)(a:Addr):Scope:=(P8 P a).scope
noncomputable def bW(P:wR)(a:Addr):List Str:=(P8 P a).params.args.map (·.arg)
noncomputable def pP(P:wR)(a:Addr):Array Value:=match(Y5 P a).data with
 |.fields vs=>vs
 |.seq vs _=>vs
 |_=> #[]
noncomputable def uI(P:wR)(a:Addr):Tok:=match((pP P a)[1]?:Option Value)with
 |some (.str _ t)=>t
 |_=>0
noncomputable abbrev tR(sc:Scope)(ps:List Str)(ds:List AV):Prop:=ps.Nodup∧(∀x∈ps,sc.names.lookup x=some .local∨sc.names.lookup x=some .cell)∧sc.kind=.function∧sc.isCoroutine=false∧sc.isGenerator=false∧
 ((sc.names.filter λp=>p.2== .cell).map (·.1)).Nodup∧(∀p∈sc.names,p.2=.cell→(p.1==("__classdict__":Str))=false)∧(∀p∈sc.names,p.2≠.free)∧ds.length≤ps.length
noncomputable def oA(P:wR)(a:Addr):Bool:=match(P8 P a).defaults with
 |.none=>true
 |_=>false
noncomputable def lT(P:wR)(a:Addr):List Value:=bif oA P a then [] else(pP P (a-7)).toList
noncomputable def fR(P:wR)(a:Addr):List AV:=(lT P a).filterMap V0
structure Fv where
 d:Data
 b:FuncBody
 g:Nat
 u:Nat
 c:List (Str×Addr)
 k:Value
 e:Data
 q:Option Value
 p:Arguments
 z:Bool
 r:Value
 s:Data
 t:List (Option AV)
noncomputable def fF(P:wR)(a:Addr):Fv:=⟨(Y5 P a).data,(P8 P a).body,(P8 P a).globals,(P8 P a).builtins,(P8 P a).closure,(P8 P a).code,(Y5 P (a-1)).data,(pP P (a-1))[1]?,(P8 P a).params,decide (tR (U4 P a) (bW P a) (fR P a)),(P8 P a).defaults,bif oA P a then .plain else(Y5 P (a-7)).data,(lT P a).map V0⟩
noncomputable def gF(P:wR)(a:Addr):Fv:=⟨.func (P8 P a),.stmts (H8 P a),mainGlobals,builtinsNs,[],.ref (a-1),.fields (pP P (a-1)),some (.str (P8 P a).qualname (uI P (a-1))),⟨[],(P8 P a).params.args,none,[],[],none,(P8 P a).params.defaults⟩,true,bif oA P a then .none else .ref (a-7),bif oA P a then .plain else .seq (lT P a).toArray 0,(fR P a).map some⟩
theorem tH(P:wR):M7.map (fF P)=M7.map (gF P):=by kernel_rfl
theorem Z8(w:World)(os:OsState){a:Addr}(h:a∈M7):CZ (NF w os) a (bW w.params a) (fR w.params a) (H8 w.params a) (U4 w.params a):=
 have q:=Zj (tH w.params) h
 have m:a∈iA:=v5 _ (v5 _ (v5 _ (v5 _ (yU _ h))))
 have B:a-1∈iA:=v5 _ (v5 _ (v5 _ (yU _ (yN h))))
 have z:=of_decide_eq_true (congrArg Fv.z q)
 ⟨⟨_,_,_,_,(lT w.params a).toArray,UW _ _ m,congrArg Fv.d q,congrArg Fv.b q,rfl,congrArg Fv.g q,congrArg Fv.u q,congrArg Fv.c q,⟨_,_,_,_,congrArg Fv.k q,UW _ _ B,congrArg Fv.e q,congrArg Fv.q q⟩,congrArg Fv.p q,rfl,by
   have e1:=congrArg Fv.r q
   have e2:=congrArg Fv.s q
   dsimp only[fF,gF] at e1 e2
   cases h':oA w.params a with
   |true=>rw[h'] at e1;exact .inl ⟨e1,by unfold lT;rw[h'];rfl⟩
   |false=>
    rw[h'] at e1 e2
    exact .inr ⟨_,_,0,e1,UW _ _ (v5 _ (v5 _ (yU _ (yN h)))),e2⟩,λW=>Wa (congrArg Fv.t q)⟩,
  ⟨z.2.2.1,z.2.2.2.1,z.2.2.2.2.1,z.2.2.2.2.2.1,z.2.2.2.2.2.2.1,z.2.2.2.2.2.2.2.1⟩,z.1,z.2.1,z.2.2.2.2.2.2.2.2⟩
noncomputable def Ra:List (Addr×Str×FN):=pY.zip dZ
noncomputable def sE(w:World)(os:OsState)(P:wR)(x:Addr×Str×FN):=(bW P x.1,cB (U4 P x.1) (x9 x.1 1093) (H8 P x.1),keepIn (kZ P) (.ref x.1),typeIn (kZ P) (.ref x.1),bif NW x.2.1 then gv (NF w os) x.2.1 else some (.ref x.1))
theorem rJ(w:World)(os:OsState):Ra.map (sE w os w.params)=Ra.map λx=>((Au x.2.2).ps,(Au x.2.2).body,true,some (.type "function"),some (.ref x.1)):=by kernel_rfl
theorem lD:dZ=Ra.map (·.2):=by kernel_rfl
theorem nX:pY=Ra.map (·.1):=by kernel_rfl
theorem Yq(w:World)(os:OsState){f:Str}{d:FD}(h:AA.fn f=some d): ∃a,keepIn (kZ w.params) (.ref a)=true∧typeIn (kZ w.params) (.ref a)=some (.type "function")∧(a,f)∈Ra.map (λx=>(x.1,x.2.1))∧
  (NW f=true→gv (NF w os) f=some (.ref a))∧pV (NF w os) d a:=by
 cases e:dZ.lookup f with
 |none=>exact nomatch (congrArg (wK Au) e).symm.trans h
 |some I=>
  have hd:Au I=d:=u7 ((congrArg (wK Au) e).symm.trans h)
  obtain⟨⟨a,g⟩,hx,hg⟩:=List.mem_map.mp (lD▸GI e)
  subst hg
  have q:=Zj (rJ w os) hx
  have D:a∈pY:=nX▸yN hx
  have B:a∈M7:=.tail _ (v5 _ D)
  have p1:bW w.params a=d.ps:=(congrArg (·.1) q).trans (congrArg FD.ps hd)
  have p2:cB (U4 w.params a) (x9 a 1093) (H8 w.params a)=d.body:=(congrArg (·.2.1) q).trans (congrArg FD.body hd)
  refine⟨a,congrArg (·.2.2.1) q,congrArg (·.2.2.2.1) q,yN (f:=λx=>(x.1,x.2.1)) hx,λu=>?_,?_⟩
  ·have:=congrArg (·.2.2.2.2) q
   dsimp only[sE] at this
   rw[u] at this
   exact this
  ·exact⟨⟨_,_,_,_,(congrArg FD.ds hd).symm,p2.symm,p1▸Z8 w os B⟩⟩
noncomputable def Xw(K:Frag)(C:Addr)(d:CD):List (Option (Option (Option Value))):=d.body.map λs=>(HF s).map (findIn K (.ref C))
noncomputable def Qi(d:CD):List (Option (Option (Option Value))):=d.body.map λs=>(HF s).map λ_=>some none
theorem VY{K:Frag}{C:Addr}{d:CD}(h:Xw K C d=Qi d): ∀s∈d.body,∀k,HF s=some k→findIn K (.ref C) k=some none:=λs hs k e=>by
 have q:=Zj h hs
 rw[e] at q
 exact u7 q
structure Cv where
 a:Option Addr
 b:Option Value
 c:Bool
 d:Bool
 e:Option (Option Value)
 f:Option Value
 g:Bool
 h:Option NameKind
 i:List IS
 j:List (Option (Option (Option Value)))
 k:Bool
 l:Option CFound
 m:Bool
 n:Option (Option Value)
 o:List Str
 p:List AV
 q:Bool
noncomputable def fC(w:World)(os:OsState)(P:wR)(y:(Addr×Addr)×Str×CD):Cv:=⟨j5.lookup y.2.1,gv (NF w os) y.2.1,keepIn (kZ P) (.ref y.1.1),makesIn (kZ P) y.1.1,findIn (kZ P) (.ref y.1.1) "__init__",typeIn (kZ P) (.ref y.1.2),keepIn (kZ P) (.ref y.1.2),
 (U4 P y.1.2).names.lookup AD,(H8 P y.1.2).map (WU (U4 P y.1.2)),Xw (kZ P) y.1.1 y.2.2,readsIn (kZ P) y.1.1 (.type "type"),findCls (kZ P) (.ref y.1.1) (.type "type") "__init__",handedIn (.ref y.1.2),specialIn (kZ P) (.ref y.1.1) "__getattribute__",bW P y.1.2,fR P y.1.2,decide (y.1.2∈M7)⟩
noncomputable def gC(y:(Addr×Addr)×Str×CD):Cv:=⟨some y.1.1,some (.ref y.1.1),true,true,some (some (.ref y.1.2)),some (.type "function"),true,some .local,y.2.2.body,Qi y.2.2,true,some (.val (.ref y.1.2)),true,some (some (.builtin "type.__getattribute__")),AD::y.2.2.ps,y.2.2.ds,true⟩
theorem tZ(w:World)(os:OsState):qE.map (fC w os w.params)=qE.map gC:=by kernel_rfl
theorem rR:Qh++[(nm "Operand",CB)]=qE.map (·.2):=by kernel_rfl
theorem fP(P:wR):j5.map (λp=>Xw (kZ P) p.2 CB)=j5.map λ_=>Qi CB:=by kernel_rfl
theorem Rq(w:World)(os:OsState){c:Str}{d:CD}(h:(c,d)∈Qh++[(nm "Operand",CB)]):Nd (NF w os) c d:=by
 obtain⟨⟨⟨C,fI⟩,_⟩,hx,rfl⟩:=List.mem_map.mp (rR▸h)
 have q:=Zj (tZ w os) hx
 have p1:bW w.params fI=AD::d.ps:=congrArg Cv.o q
 have p2:fR w.params fI=d.ds:=congrArg Cv.p q
 exact⟨C,fI,_,_,_,congrArg Cv.a q,congrArg Cv.b q,congrArg Cv.c q,congrArg Cv.d q,congrArg Cv.e q,congrArg Cv.f q,congrArg Cv.g q,p1▸p2▸Z8 w os (of_decide_eq_true (congrArg Cv.q q)),congrArg Cv.h q,(congrArg Cv.i q).symm,VY (congrArg Cv.j q),congrArg Cv.k q,congrArg Cv.l q,congrArg Cv.m q,congrArg Cv.n q⟩
noncomputable def cY:CE:=.tuple [.var (nm "place"),.sub (.attr (.var AD) Ef) (.var (nm "place"))]
noncomputable def P0:CE:=.cmp (.sub (.attr (.var AD) Ef) (.var (nm "place"))) [.NotEq] [.lit (.int 0)]
noncomputable def oC:List CS:=[.ret (.call (nm "sorted") [.comp cY (.name (nm "place")) .plain [.attr (.var AD) Ef] [P0] [nm ".0",nm "place"]])]
theorem JC: ∀(ps:List (Int×Int)),D8 (ps.map BJ)=some ps
 | []=>rfl
 |p::r=>congrArg (wK (p:: ·)) (JC r)
theorem Eo: ∀{ks vals:List Int} {p:Int×Int},ks.Nodup→p∈ks.zip vals→Ah (ks.zip (vals.map .int)) p.1=some (.int p.2)
 |k::ks,v::vals,p,u,h=>by
  have u:=List.nodup_cons.mp u
  rcases List.mem_cons.mp h with h|h
  ·rw[h]
   exact congrArg (wK (·.2)) (ie (p:=λq:Int×AV=>decide (q.1=k)) (a:=(k,AV.int v)) (decide_eq_true rfl))
  ·exact(congrArg (wK (·.2)) (ig (p:=λq:Int×AV=>decide (q.1=p.1)) (a:=(k,AV.int v)) λe=>u.1 ((of_decide_eq_true e:k=p.1)▸(ak (a:=p.1) (b:=p.2) h).1))).trans (Eo u.2 h)
noncomputable def mG(c:Str)(ks vals:List Int):AV:=.obj c [Ef] [.idict ks (vals.map .int)]
noncomputable def jT(c:Str)(ks vals:List Int)(k:Int):AE:=[(nm "place",.int k),(AD,mG c ks vals)]
theorem Z4{c:Str}{ks vals:List Int}{p:Int×Int}{H:AH}(e:ks.Nodup)(h:p∈ks.zip vals):DI EN [P0] (jT c ks vals p.1) H=rok (decide (p.2≠0)) H:=
 (show _=((rof (Ah (ks.zip (vals.map .int)) p.1) H).bind λa H=>EX EN a [.NotEq] [.lit (.int 0)] (jT c ks vals p.1) H).bind λv H=>match AQ v with
  |some true=>DI EN [] (jT c ks vals p.1) H
  |some false=>rok false H
  |none=>none by kernel_rfl!).trans (by
   rw[Eo e h]
   show(match(some (!decide (p.2=0)):Option Bool)with
    |some true=>(rok true H:R Bool)
    |some false=>rok false H
    |none=>none)=_
   rw[show decide (p.2≠0)=!decide (p.2=0)from decide_not]
   cases decide (p.2=0)<;>rfl)
theorem iO{c:Str}{ks vals:List Int}{p:Int×Int}{H:AH}(e:ks.Nodup)(h:p∈ks.zip vals):AF EN cY (jT c ks vals p.1) H=rok (BJ p) H:=
 (show _=((rok (.int p.1) H).bind λv H=>(((rof (Ah (ks.zip (vals.map .int)) p.1) H).bind λv H=>(rok [] H).bind λvs H=>rok (v::vs) H).bind λvs H=>rok (v::vs) H)).bind λvs H=>rok (.tuple vs) H by kernel_rfl!).trans (by
   rw[Eo e h];rfl)
theorem SU{c:Str}{ks vals:List Int}{H:AH}(e:ks.Nodup): ∀{l:List (Int×Int)},(∀p∈l,p∈ks.zip vals)→
  compLoop (λρ H=>DI EN [P0] ρ H) (λρ H=>AF EN cY ρ H) (.name (nm "place")) [(AD,mG c ks vals)] (l.map λp=>.int p.1) H=rok ((l.filter λp=>p.2≠0).map BJ) H
 | [],_=>rfl
 |p::l,h=>by
  have h1:=h p (.head _)
  have u:=SU (c:=c) (H:=H) e (l:=l) λq B=>h q (.tail _ B)
  show(DI EN [P0] (jT c ks vals p.1) H).bindN (λb H=>match b with
   |true=>(AF EN cY (jT c ks vals p.1) H).bindN λv H=>(compLoop _ _ _ _ (l.map λp=>.int p.1) H).bindN λvs H=>rok (v::vs) H
   |false=>compLoop _ _ _ _ (l.map λp=>.int p.1) H)=rok ((match decide (p.2≠0)with|true=>p::l.filter _|false=>l.filter _).map BJ) H
  rw[Z4 e h1]
  cases decide (p.2≠0)with
  |true=>
   show(AF EN cY (jT c ks vals p.1) H).bindN _=_
   rw[iO e h1]
   show R.bindN (compLoop _ _ _ _ _ _) _=_
   rw[u]
   rfl
  |false=>exact u
theorem o6{α β:Type}{x y:R α}{f:α→AH→R β}{z:R β}(e:x=y)(h:y.bindN f=z):x.bindN f=z:=e▸h
theorem kR(sc:Scope)(body:List Stmt)(hb:LZ sc false body=oC):Zs body sc:=λc ks vals hl B h1 D=>by
 rw[hb]
 have u:(ks.zip vals).map (·.1)=ks:=fv (vH hl)
 have I:ks.map AV.int=(ks.zip vals).map λp=>AV.int p.1:=(congrArg (sj AV.int) u).symm.trans bj
 have e:(((ks.zip vals).filter λp=>p.2≠0).map (·.1)).Nodup:=List.Nodup.sublist (List.Sublist.map _ List.filter_sublist) (Eq.mpr (congrArg List.Nodup u) B)
 have e1:AF EN (.comp cY (.name (nm "place")) .plain [.attr (.var AD) Ef] [P0] [nm ".0",nm "place"]) [(AD,mG c ks vals)] []=rok (.list (((ks.zip vals).filter λp=>p.2≠0).map BJ)) []:=by
  show(match(if ks.length≤1000000 then some (ks.map AV.int)else none)with
   |none=>none
   |some items=>R.bindN (compLoop (λρ H=>DI EN [P0] ρ H) (λρ H=>AF EN cY ρ H) (.name (nm "place")) (Cs [nm ".0",nm "place"] [(AD,mG c ks vals)]) items []) λl H=>if l.length≤1000000 then rok (AV.list l) H else none)=_
  rw[if_pos h1,I]
  exact o6 (SU B λp hp=>hp) (if_pos (u5 (yD (by rw[vB];exact D)) (by decide)))
 have e2:Ey (((ks.zip vals).filter λp=>p.2≠0).map BJ)=some (.list ((A3 ((ks.zip vals).filter λp=>p.2≠0)).map BJ)):=by
  unfold Ey
  rw[JC]
  exact if_pos ⟨D,e⟩
 show R.bind (R.bind (R.bind (R.bindN (R.bind (AF EN (.comp cY (.name (nm "place")) .plain [.attr (.var AD) Ef] [P0] [nm ".0",nm "place"]) [(AD,mG c ks vals)] []) λv H=>(rok [] H).bind λvs H=>rok (v::vs) H) λvs H=>EN.call (nm "sorted") vs H) _) _) _=_
 rw[e1]
 show R.bind (R.bind (R.bind (rof (Ey (((ks.zip vals).filter λp=>p.2≠0).map BJ)) []) _) _) _=_
 rw[e2]
 rfl
noncomputable def Y9(c key:Str):Option Str:=bif key.cps.toList.take (c.cps.toList.length+1)==c.cps.toList++[46] then some ⟨(key.cps.toList.drop (c.cps.toList.length+1)).toArray⟩ else none
theorem jK(c m:Str):Y9 c (I7 c m)=some m:=by
 have e:(I7 c m).cps.toList=(c.cps.toList++[46])++m.cps.toList:=by
  show(c.cps++(nm ".").cps++m.cps).toList=_
  rw[kh,kh]
  rfl
 unfold Y9
 rw[e,show c.cps.toList.length+1=(c.cps.toList++[46]).length from(wY (as:=c.cps.toList) (bs:=[46])).symm,List.take_left,List.drop_left,beq_self_eq_true]
 rfl
noncomputable def Rh(f:Str):Addr:=((Ra.map λx=>(x.2.1,x.1)).lookup f).getD 761
noncomputable def fM(P:wR)(x:(Str×Addr)×Str×Str):=(Y9 x.1.1 x.2.1).map λm=>(findIn (kZ P) (.ref x.1.2) m,(bif x.2.2==CM then none else dZ.lookup x.2.2).isSome,typeIn (kZ P) (.ref (Rh x.2.2)),keepIn (kZ P) (.ref (Rh x.2.2)))
noncomputable def gM(x:(Str×Addr)×Str×Str):=(Y9 x.1.1 x.2.1).map λ_=>(some (some (xS (Rh x.2.2))),!(x.2.2==CM),some (kt "function"),true)
noncomputable def mT:List ((Str×Addr)×Str×Str):=j5.flatMap λp=>Ss.map λq=>(p,q)
theorem uY(P:wR):mT.map (fM P)=mT.map gM:=by kernel_rfl
theorem qQ(P:wR):LZ (U4 P 761) false (H8 P 761)=oC:=by kernel_rfl
theorem pB(P:wR):bW P 761=[AD]:=by kernel_rfl
theorem eK(x:Addr×Str×FN)(h:x∈Ra):Rh x.2.1=x.1:=Zj (f:=λx:Addr×Str×FN=>Rh x.2.1) (g:=(·.1)) (by kernel_rfl) h
theorem oK:Rh CM=761:=by kernel_rfl
theorem lR(w:World)(os:OsState):Sj (NF w os) AA where
 glob:=λx v h=>
  have q:=Zj (iI w os) (GI h)
  ⟨_,congrArg (·.1) q,λW=>cM (congrArg (·.2) q)⟩
 fn:=λf d h B=>
  let⟨a,h1,_,_,h4,h5⟩:=Yq w os h
  ⟨a,h4 B,h1,h5⟩
 cls:=λc d h=>Rq w os (v5 _ (GI h))
 base:=λc C h D d hd=>by
  have hd:(if D=nm "Operand" then some CB else uZ)=some d:=hd
  by_cases e:D=nm "Operand"
  ·rw[if_pos e] at hd
   cases hd
   subst e
   exact⟨Rq w os (yU _ (.head _)),VY (Zj (fP w.params) (GI h))⟩
  ·rw[if_neg e] at hd
   cases hd
 meth:=λc m f C hm I=>by
  have q:=Zj (uY w.params) (List.mem_flatMap.mpr ⟨_,GI I,yN (GI hm)⟩)
  unfold fM gM at q
  dsimp only at q
  rw[jK] at q
  have q:=u7 q
  refine⟨Rh f,congrArg (·.1) q,congrArg (·.2.2.1) q,congrArg (·.2.2.2) q,?_⟩
  have q2:=congrArg (·.2.1) q
  dsimp only at q2
  by_cases hw:f=CM
  ·subst hw
   rw[oK]
   exact .w _ _ _ rfl (pB w.params▸Z8 w os (.head _)) (kR _ _ (qQ w.params))
  ·rw[show(f==CM)=false from beq_eq_false_iff_ne.mpr hw] at q2
   obtain⟨d,hd⟩:=Option.isSome_iff_exists.mp q2
   have hd:AA.fn f=some (Au d):=congrArg (wK Au) hd
   obtain⟨a,_,_,h3,_,h5⟩:=Yq w os hd
   obtain⟨x,hx,u⟩:=List.mem_map.mp h3
   cases u
   rw[eK x hx]
   exact .fn _ hw hd h5
structure Ev where
 a:Option Value
 b:Bool
 c:Bool
 d:Bool
 e:Option (Option Value)
 f:Option Value
 g:Option Value
 h:Option NameKind
 i:Option NameKind
 j:Option NameKind
 k:Bool
 l:Option (Option Value)
 m:Option (Option Value)
 n:Option (Option Value)
 o:Option Value
 p:Option CFound
 q:Option Bool
 r:List Str
 s:List AV
 t:List Stmt
theorem uC(w:World)(os:OsState):(⟨gv (NF w os) Av,keepIn (kZ w.params) (.ref 71),ZN (kZ w.params) 71,Jr (kZ w.params) 71 46,findIn (kZ w.params) (.ref 71) "__init__",typeIn (kZ w.params) (.ref 36),typeIn (kZ w.params) (.ref 71),(U4 w.params 36).names.lookup AD,(U4 w.params 36).names.lookup BR,(U4 w.params 36).names.lookup QT,
  Ak (U4 w.params 36) Io,findIn (kZ w.params) (.ref 71) "__setattr__",findIn (kZ w.params) (.ref 71) BR,findIn (kZ w.params) (.ref 71) QT,gv (NF w os) Io,findCls (kZ w.params) (.type "Exception") (.type "type") J5,instIn (kZ w.params) (.ref 71) (.type "tuple"),bW w.params 36,fR w.params 36,H8 w.params 36⟩:Ev)=
 ⟨some (.ref 71),true,true,true,some (some (.ref 36)),some (.type "function"),some (.type "type"),some .local,some .local,some .local,true,some (some (.builtin "object.__setattr__")),some none,some none,some (.type "Exception"),some (.val (.builtin "Exception.__init__")),some false,[AD,BR,QT],[.none],
  [.Expr (.Call (.Attribute (.Name Io ⟨8,8,8,17⟩) J5 ⟨8,8,8,26⟩) [.Name AD ⟨8,27,8,31⟩,.Name BR ⟨8,33,8,37⟩] [] ⟨8,8,8,38⟩) ⟨8,8,8,38⟩,.Assign [.Attribute (.Name AD ⟨9,8,9,12⟩) BR ⟨9,8,9,17⟩] (.Name BR ⟨9,20,9,24⟩) ⟨9,8,9,24⟩,
   .Assign [.Attribute (.Name AD ⟨10,8,10,12⟩) QT ⟨10,8,10,15⟩] (.Name QT ⟨10,18,10,20⟩) ⟨10,8,10,20⟩]⟩:=by kernel_rfl
theorem r7:36∈M7:=of_decide_eq_true (by kernel_rfl)
theorem lG(w:World)(os:OsState):F7 (NF w os):=
 have q:=uC w os
 have r:bW w.params 36=[AD,BR,QT]:=congrArg Ev.r q
 have s:fR w.params 36=[.none]:=congrArg Ev.s q
 ⟨71,46,36,H8 w.params 36,U4 w.params 36,show(if Av=Av then some 71 else none)=some 71 from if_pos rfl,(by have e:=congrArg Ev.a q;dsimp only at e;exact e),congrArg Ev.b q,congrArg Ev.c q,congrArg Ev.d q,congrArg Ev.e q,congrArg Ev.f q,congrArg Ev.g q,by rw[←r,←s];exact Z8 w os r7,congrArg Ev.h q,congrArg Ev.i q,congrArg Ev.j q,congrArg Ev.k q,congrArg Ev.l q,congrArg Ev.m q,congrArg Ev.n q,(by have e:=congrArg Ev.o q;dsimp only at e;exact e),congrArg Ev.p q,congrArg Ev.q q,
  ⟨_,_,_,_,_,_,_,_,_,_,_,_,_,_,rfl,congrArg Ev.t q⟩⟩
theorem kC(w:World)(os:OsState)(k:Nat):AK (NF w os) (Un AA k) (2*k+2):=ZD (mD w os) (mV w os) (lG w os) (lR w os) k
end Mine.Internal
namespace Mine.Internal
open PySem
noncomputable abbrev ok{α:Type}(a:α)(H:AH):R α:=some (.ok a H)
noncomputable abbrev KU(m:Nat):Ctx:=⟨AA.glob,AA.meth,AB AA m⟩
noncomputable abbrev AJ:=List (Nat×AV)
noncomputable section
noncomputable def Ov(x:Nat):AJ→Option AV
 | []=>uZ
 |(y,v)::r=>match x9 x y with
  |true=>some v
  |false=>Ov x r
noncomputable def MC(x:Nat)(v:AV):AJ→AJ
 | []=>[(x,v)]
 |(y,w)::r=>match x9 x y with
  |true=>(y,v)::r
  |false=>(y,w)::MC x v r
noncomputable def aF(x:Nat):List Nat→Bool
 | []=>false
 |y::r=>match x9 x y with
  |true=>true
  |false=>aF x r
noncomputable def Ib(ls:List Nat):AJ→AJ
 | []=>[]
 |(y,v)::r=>match aF y ls with
  |true=>Ib ls r
  |false=>(y,v)::Ib ls r
noncomputable def GK:List Nat→List AV→AJ→Option AJ
 | [],[],r=>some r
 |x::xs,v::vs,r=>GK xs vs (MC x v r)
 |_,_,_=>uZ
noncomputable def SQ(t:QR Nat)(v:AV)(r:AJ):Option AJ:=match t,v with
 |.name x,v=>some (MC x v r)
 |.names xs,.tuple l=>GK xs l r
 |_,_=>uZ
noncomputable def UZ(x:Nat)(v:AV):AJ→(AJ→Prop)→Prop
 | [],F=>F [(x,v)]
 |(y,w)::r,F=>match x9 x y with
  |true=>F ((y,v)::r)
  |false=>UZ x v r λe=>F ((y,w)::e)
noncomputable def Mb:List Nat→List AV→AJ→(AJ→Prop)→Prop
 | [],[],r,F=>F r
 |x::xs,v::vs,r,F=>UZ x v r λr=>Mb xs vs r F
 |_,_,_,_=>True
noncomputable def YK(t:QR Nat)(v:AV)(r:AJ)(F:AJ→Prop):Prop:=match t,v with
 |.name x,v=>UZ x v r F
 |.names xs,.tuple l=>Mb xs l r F
 |_,_=>True
noncomputable def Ng(ls:List Nat):AJ→(AJ→Prop)→Prop
 | [],F=>F []
 |(y,v)::r,F=>match aF y ls with
  |true=>Ng ls r F
  |false=>Ng ls r λe=>F ((y,v)::e)
noncomputable def Uk:List AV→Nat→Bool
 | [],_=>true
 |_::_,0=>false
 |_::r,n+1=>Uk r n
inductive kU where
 |call|exc|tt|ff|at|dem
noncomputable def tX:Str→AH→Prop:=λ_ _=>True
noncomputable def tO{α:Type}(o:Option α)(K:α→Prop):Prop:=match o with
 |some v=>K v
 |uZ=>True
noncomputable def kI(v:AV)(A B:Prop):Prop:=match v with
 |.bool true=>A
 |.bool false=>B
 |_=>True
noncomputable def nK(op:Operator)(a b:AV)(K:AV→Prop):Prop:=match a,b with
 |.int x,.int y=>(match op with
  |.Add=>K (.int (x+y))
  |.Sub=>K (.int (x-y))
  |.Mult=>(x.natAbs<2^64∨y.natAbs<2^64)→K (.int (x*y))
  |.FloorDiv=>y≠0→y.natAbs<2^300→K (.int (x.fdiv y))
  |.Mod=>y≠0→K (.int (x.fmod y))
  |.Pow=>0≤y→y≤1000→x.natAbs<2^64→K (.int (x^y.toNat))
  |.LShift=>0≤y→y≤1000→x.natAbs<2^300→K (.int (x*2^y.toNat))
  |.RShift=>0≤y→K (.int (x.fdiv (2^y.toNat)))
  |.BitAnd=>K (.int (vP x y))
  |.BitOr=>K (.int (vG x y))
  |.BitXor=>K (.int (qf x y))
  |_=>True)
 |a,b=>∀c,DF op a b=some c→K c
noncomputable def sI(op:UnaryOp)(a:AV)(K:AV→Prop):Prop:=match op,a with
 |.USub,.int x=>K (.int (-x))
 |.Invert,.int x=>K (.int (xV x))
 |.Not,.bool b=>K (.bool (match b with|true=>false|false=>true))
 |_,_=>True
noncomputable abbrev ZR(op:CmpOp)(a b:AV)(c:Bool):Prop:=match a,b with
 |.int x,.int y=>(match op,c with
  |.Lt,true=>x<y
  |.Lt,false=>y≤x
  |.LtE,true=>x≤y
  |.LtE,false=>y<x
  |.Gt,true=>y<x
  |.Gt,false=>x≤y
  |.GtE,true=>y≤x
  |.GtE,false=>x<y
  |.Eq,true=>x=y
  |.Eq,false=>x≠y
  |.NotEq,true=>x≠y
  |.NotEq,false=>x=y
  |op,c=>cmpA op (.int x) (.int y)=some c)
 |a,b=>cmpA op a b=some c
noncomputable def oJ(op:CmpOp)(a b:AV)(K:Bool→Prop):Prop:=∀q:kU,match q with
 |.tt=>ZR op a b true→K true
 |.ff=>ZR op a b false→K false
 |_=>True
noncomputable def Jt(l:List AV)(i:Int):Option AV:=match i with
 |.ofNat n=>(match oy n 1000 with
  |true=>l[n]?
  |false=>uZ)
 |_=>uZ
noncomputable def mY(o i:AV)(H:AH)(K:AV→Prop):Prop:=∀q:kU,match q with
 |.at=>(match o,i with
  |.list l,.int i=>tO (Jt l i) K
  |.tuple l,.int i=>tO (Jt l i) K
  |_,_=>True)
 |.dem=>∀v,Bb o i H=some v→K v
 |_=>True
noncomputable def eJ(r:R AV)(K:AV→AH→Prop)(X:Str→AH→Prop):Prop:=∀q:kU,match q with
 |.call=>∀v H',r=ok v H'→K v H'
 |.exc=>∀c H',r=some (.exc c H')→X c H'
 |_=>True
noncomputable def Af(m:Nat)(o:AV)(f:Str)(H0:AH)(vs:List AV)(H:AH)(v:AV)(H':AH):Prop:=E8 o H0=true∧Gb (KU m) o f vs H=ok v H'
noncomputable def BI(x f:Str)(l:List AV):Prop:=∃s,AA.glob x=some (.str s)∧∀m H,Gb (KU m) (.str s) f [] H=ok (.list l) H
noncomputable def oR(o:Bp Nat)(f:Str)(as:List (Bp Nat))(K:AV→Prop)(B:Prop):Prop:=match o,as with
 |.glob x,[]=>∀l,BI x f l→K (.list l)
 |_,_=>B
noncomputable def VS(k:IK)(vs:List AV)(H:AH)(G:List AV→Prop):Prop:=∀q:kU,match q with
 |.at=>(match k,vs with
  |.plain,[.list l]=>(match Uk l 100 with|true=>G l|false=>True)
  |.plain,[.tuple l]=>(match Uk l 100 with|true=>G l|false=>True)
  |_,_=>True)
 |.dem=>∀l,BF k vs H=some l→G l
 |_=>True
noncomputable def tQ{α:Type}(F:(α→AH→Prop)→Prop)(K:α→AH→Prop):Prop:=∀q:kU,match q with
 |.at=>F K
 |.dem=>∀a H,(∀K,F K→K a H)→K a H
 |_=>True
noncomputable def Yc(l:List AV)(P:Prop):Prop:=∀q:kU,match q with
 |.at=>(match Uk l 100 with|true=>P|false=>True)
 |.dem=>l.length≤1000000→P
 |_=>True
noncomputable def Ex(e:AJ→AH→(Bool→AH→Prop)→Prop)(elt:AJ→AH→(AV→AH→Prop)→Prop)(t:QR Nat)(r:AJ):List AV→AH→(List AV→AH→Prop)→Prop
 | [],H,K=>K [] H
 |x::xs,H,K=>YK t x r λu=>e u H λb H=>match b with
  |true=>elt u H λv H=>Ex e elt t r xs H λvs H=>K (v::vs) H
  |false=>Ex e elt t r xs H K
mutual
noncomputable def tE(m:Nat):Bp Nat→AJ→AH→(AV→AH→Prop)→(Str→AH→Prop)→Prop
 |.stuck,_,_,_,_=>True
 |.lit v,_,H,K,_=>K v H
 |.var x,r,H,K,_=>tO (Ov x r) λv=>K v H
 |.glob x,_,H,K,_=>∀v,AA.glob x=some v→K v H
 |.bin op a b,r,H,K,X=>tE m a r H (λu H=>tE m b r H (λw H=>nK op u w λc=>K c H) X) X
 |.un op a,r,H,K,X=>tE m a r H (λu H=>sI op u λc=>K c H) X
 |.bool op vs,r,H,K,X=>tB m op vs r H K X
 |.cmp a ops rs,r,H,K,X=>tE m a r H (λu H=>tC m u ops rs r H K X) X
 |.ite t a b,r,H,K,X=>tE m t r H (λv H=>kI v (tE m a r H K X) (tE m b r H K X)) X
 |.call f as,r,H,K,X=>ZC m as r H (λvs H=>eJ (AB AA m f vs H) K X) tX
 |.meth o f as,r,H,K,_=>oR o f as (λv=>K v H) (tE m o r H (λe H0=>ZC m as r H0 (λvs H=>∀v H',Af m e f H0 vs H v H'→K v H') tX) tX)
 |.attr o x,r,H,K,X=>tE m o r H (λe H=>∀v,Aj e x H=some v→K v H) X
 |.sub o i,r,H,K,X=>tE m o r H (λe H=>tE m i r H (λiv H=>mY e iv H λv=>K v H) X) X
 |.slice o l h,r,H,K,X=>tE m o r H (λe H=>tE m l r H (λD H=>tE m h r H (λB H=>∀v,B9 e D B=some v→K v H) X) X) X
 |.tuple es,r,H,K,X=>ZC m es r H (λvs H=>K (.tuple vs) H) X
 |.list es,r,H,K,X=>ZC m es r H (λvs H=>K (.list vs) H) X
 |.dict ks vs,_,H,K,_=>K (.dict ks (vs.map .int)) H
 |.comp elt t k src ifs ls,r,H,K,_=>ZC m src r H (λvs H=>VS k vs H λitems=>Ng ls r λr=>tQ (Ex (λr H K=>tT m ifs r H K) (λr H K=>tE m elt r H K tX) t r items H) λl H=>Yc l (K (.list l) H)) tX
noncomputable def ZC(m:Nat):List (Bp Nat)→AJ→AH→(List AV→AH→Prop)→(Str→AH→Prop)→Prop
 | [],_,H,K,_=>K [] H
 |e::es,r,H,K,X=>tE m e r H (λv H=>ZC m es r H (λvs H=>K (v::vs) H) X) X
noncomputable def tB(m:Nat)(op:BoolOp):List (Bp Nat)→AJ→AH→(AV→AH→Prop)→(Str→AH→Prop)→Prop
 | [],_,_,_,_=>True
 |e::es,r,H,K,X=>tE m e r H (λv H=>match es with
  | []=>K v H
  |_::_=>(match op with
   |.And=>kI v (tB m op es r H K X) (K v H)
   |.Or=>kI v (K v H) (tB m op es r H K X))) X
noncomputable def tC(m:Nat)(a:AV):List CmpOp→List (Bp Nat)→AJ→AH→(AV→AH→Prop)→(Str→AH→Prop)→Prop
 |op::ops,e::es,r,H,K,X=>tE m e r H (λb H=>oJ op a b λc=>match ops,es,c with
  | [],[],c=>K (.bool c) H
  |_::_,_::_,false=>K (.bool false) H
  |_::_,_::_,true=>tC m b ops es r H K X
  |_,_,_=>True) X
 |_,_,_,_,_,_=>True
noncomputable def tT(m:Nat):List (Bp Nat)→AJ→AH→(Bool→AH→Prop)→Prop
 | [],_,H,K=>K true H
 |e::es,r,H,K=>tE m e r H (λv H=>kI v (tT m es r H K) (K false H)) tX
end
noncomputable def tA(m:Nat)(t:U3 Nat)(v:AV)(r:AJ)(H:AH)(N:AJ→AH→Prop)(X:Str→AH→Prop):Prop:=match t with
 |.name x=>UZ x v r λr=>N r H
 |.attr o x=>tE m o r H (λe H=>∀H',BH e x v H=some H'→N r H') X
 |.sub o i=>tE m o r H (λe H=>tE m i r H (λiv H=>∀H',A0 e iv v H=some H'→N r H') X) X
 |.bad=>True
noncomputable def pU(m:Nat):List (U3 Nat)→List AV→AJ→AH→(AJ→AH→Prop)→(Str→AH→Prop)→Prop
 | [],[],r,H,N,_=>N r H
 |t::ts,v::vs,r,H,N,X=>tA m t v r H (λr H=>pU m ts vs r H N X) X
 |_,_,_,_,_,_=>True
noncomputable def EZ(body:AJ→AH→(AJ→AH→Prop)→Prop)(t:QR Nat):List AV→AJ→AH→(AJ→AH→Prop)→Prop
 | [],r,H,N=>N r H
 |x::xs,r,H,N=>YK t x r λe=>body e H λr H=>EZ body t xs r H N
noncomputable def KI(e:AJ→AH→(AV→AH→Prop)→Prop)(body:AJ→AH→(AJ→AH→Prop)→Prop):Nat→AJ→AH→(AJ→AH→Prop)→Prop
 |0,_,_,_=>True
 |n+1,r,H,N=>e r H λv H=>kI v (body r H λr H=>KI e body n r H N) (N r H)
noncomputable def Rv{α β:Type}:List α→List β→Bool
 | [],[]=>true
 |_::l,_::r=>Rv l r
 |_,_=>false
noncomputable def ZA{α β:Type}(l:List α)(r:List β)(P:Prop):Prop:=match Rv l r with
 |true=>P
 |false=>True
noncomputable def eN(v:AV)(K:List AV→Prop):Prop:=match v with
 |.tuple l=>K l
 |_=>True
mutual
noncomputable def tS(m:Nat):ES Nat→AJ→AH→(AJ→AH→Prop)→(AV→AH→Prop)→(Str→AH→Prop)→Prop
 |.stuck,_,_,_,_,_=>True
 |.pass,r,H,N,_,_=>N r H
 |.expr e,r,H,N,_,X=>tE m e r H (λ_ H=>N r H) X
 |.ret e,r,H,_,K,X=>tE m e r H K X
 |.retnew es,r,H,_,K,X=>ZC m es r H (λvs H=>K (.ref H.length) (H++[.list vs])) X
 |.assign t e,r,H,N,_,X=>tE m e r H (λv H=>tA m t v r H N X) X
 |.assignT ts e,r,H,N,_,X=>tE m e r H (λv H=>eN v λvs=>ZA ts vs (pU m ts vs r H N X)) X
 |.assignR ts e,r,H,N,_,X=>tE m e r H (λv H=>eN v λvs=>ZA ts vs (pU m ts.reverse vs.reverse r H N X)) X
 |.ite t a b,r,H,N,K,X=>tE m t r H (λv H=>kI v (Dz m a r H N K X) (Dz m b r H N K X)) X
 |.loop t k src body,r,H,N,K,_=>ZC m src r H (λvs H=>VS k vs H λitems=>tQ (EZ (λr H N=>Dz m body r H N K tX) t items r H) N) tX
 |.while t body,r,H,N,K,_=>tQ (KI (λr H K=>tE m t r H K tX) (λr H N=>Dz m body r H N K tX) 200 r H) N
 |.raise c _,_,H,_,_,X=>X c H
 |.tryRet e c h,r,H,_,K,X=>tE m e r H K λu H=>u=c→tE m h r H K X
noncomputable def Dz(m:Nat):List (ES Nat)→AJ→AH→(AJ→AH→Prop)→(AV→AH→Prop)→(Str→AH→Prop)→Prop
 | [],r,H,N,_,_=>N r H
 |s::b,r,H,N,K,X=>tS m s r H (λr H=>Dz m b r H N K X) K X
end
noncomputable def sK(m:Nat)(d:FN)(vs:List AV)(H:AH)(K:AV→AH→Prop)(X:Str→AH→Prop):Prop:=
 Mb d.ps vs [] λr=>Dz m d.body r H (λ_ H=>K .none H) K X
noncomputable def Al(m:Nat)(d:FN)(vs:List AV)(H:AH)(C:R AV→Prop):Prop:=sK m d vs H (λv H=>C (ok v H)) (λc H=>C (some (.exc c H)))
end
section
variable{x y:Int}{H:AH}
theorem nG(h:x.natAbs<2^64∨y.natAbs<2^64):DF .Mult (.int x) (.int y)=some (.int (x*y)):=if_pos h
theorem eS(h:y≠0∧y.natAbs<2^300):DF .FloorDiv (.int x) (.int y)=some (.int (x.fdiv y)):=if_pos h
theorem lW(h:y≠0):DF .Mod (.int x) (.int y)=some (.int (x.fmod y)):=if_neg h
theorem l7(h:0≤y∧y≤1000∧x.natAbs<2^64):DF .Pow (.int x) (.int y)=some (.int (x^y.toNat)):=if_pos h
theorem mX(h:0≤y∧y≤1000∧x.natAbs<2^300):DF .LShift (.int x) (.int y)=some (.int (x*2^y.toNat)):=if_pos h
theorem n6(h:0≤y):DF .RShift (.int x) (.int y)=some (.int (x.fdiv (2^y.toNat))):=if_pos h
theorem R9{a b:List AV}(h:a.length+b.length≤1000000):DF .Add (.list a) (.list b)=some (.list (a++b)):=if_pos h
theorem Sm:Ec (.int x) (.int y)=some (decide (x=y)):=rfl
theorem pK:cmpA .Eq (.int x) (.int y)=some (decide (x=y)):=Sm
theorem mS:cmpA .NotEq (.int x) (.int y)=some (!decide (x=y)):=by
 show(Ec (.int x) (.int y)).map _=_
 rw[Sm];rfl
theorem WQ{a b:AV}{c:Bool}(h:Ec a b=some c):cmpA .NotEq a b=some (!c):=by
 show(Ec a b).map _=_
 rw[h];rfl
theorem lC{a b:AV}(h:Ec a b=some true):cmpA .Eq a b=some true:=h
theorem dH{a b:AV}(h:Ec a b=some true):cmpA .NotEq a b=some false:=WQ h
theorem pD{a b:AV}(h:Ec a b=some false):cmpA .NotEq a b=some true:=WQ h
theorem gS{a b:AV}(h:I8 a b=some true):cmpA .NotIn a b=some false:=by
 show(I8 a b).map _=_
 rw[h];rfl
theorem kL{a b:AV}(h:I8 a b=some false):cmpA .NotIn a b=some true:=by
 show(I8 a b).map _=_
 rw[h];rfl
theorem c_eqST{a b:Str}(h:Ec (.str a) (.str b)=some true):cmpA .Eq (.str a) (.str b)=some true:=h
theorem c_eqSF{a b:Str}(h:Ec (.str a) (.str b)=some false):cmpA .Eq (.str a) (.str b)=some false:=h
theorem c_neSF{a b:Str}(h:Ec (.str a) (.str b)=some false):cmpA .NotEq (.str a) (.str b)=some true:=pD h
theorem c_inST{a:Str}{b:AV}(h:I8 (.str a) b=some true):cmpA .In (.str a) b=some true:=h
theorem c_inSF{a:Str}{b:AV}(h:I8 (.str a) b=some false):cmpA .In (.str a) b=some false:=h
theorem c_ninST{a:Str}{b:AV}(h:I8 (.str a) b=some true):cmpA .NotIn (.str a) b=some false:=gS h
theorem c_ninSF{a:Str}{b:AV}(h:I8 (.str a) b=some false):cmpA .NotIn (.str a) b=some true:=kL h
end
noncomputable def DH(a k:Str)(n s:Int):AV:=.obj (nm "Register") [nm "name",nm "kind",nm "number",nm "size"] [.str a,.str k,.int n,.int s]
theorem dT{p:Prop} [Decidable p](h:p):decide p=true:=decide_eq_true h
theorem dF{p:Prop} [Decidable p](h: ¬p):decide p=false:=decide_eq_false h
noncomputable def Dt(n:Nat)(v:AV):Prop:=∃d,DE v=some d∧d.canLay0=true∧d.depth≤n
theorem FF(n:Nat)(i:Int):Dt n (.int i):=⟨_,rfl,rfl,w3 _⟩
theorem ZP(n:Nat)(i:Bool):Dt n (.bool i):=⟨_,rfl,rfl,w3 _⟩
theorem Mm{n:Nat}: ∀{l:List AV},(∀x∈l,Dt n x)→∃ds,BA l=some ds∧wV ds=true∧ol ds≤n
 | [],_=>⟨[],rfl,rfl,w3 _⟩
 |x::r,h=>by
  obtain⟨d,a,b,c⟩:=h x xQ
  obtain⟨ds,a',b',c'⟩:=Mm λy hy=>h y (zA _ hy)
  refine⟨d::ds,by show(match DE x,BA r with|some d,some ds=>some (d::ds)|_,_=>uZ)=_;rw[a,a'],by simp only[wV,b,b',ev],?_⟩
  rw[ol]
  exact Nat.max_le.mpr ⟨c,c'⟩
theorem Bc{n:Nat}{l:List AV}(h: ∀x∈l,Dt n x):Dt (n+1) (.tuple l):=by
 obtain⟨ds,a,b,c⟩:=Mm h
 exact⟨.tuple ds,congrArg (wK gu) a,by simp only[zW,b],by rw[lr];omega⟩
theorem HU{n:Nat}{l:List AV}(h: ∀x∈l,Dt n x):Dt (n+1) (.list l):=by
 obtain⟨ds,a,b,c⟩:=Mm h
 exact⟨.list ds,congrArg (wK cn) a,by simp only[zW,b],by rw[lr];omega⟩
theorem MN{n m:Nat}{v:AV}(h:Dt n v)(hm:n≤m):Dt m v:=let⟨d,a,b,c⟩:=h;⟨d,a,b,u5 c hm⟩
theorem TG(n:Nat)(l:List Int): ∀x∈l.map AV.int,Dt n x:=λx h=>by
 obtain⟨i,_,rfl⟩:=List.mem_map.mp h
 exact FF n i
theorem Jk{v:AV}(h:Dt 64 v):Ec v v=some true:=by
 obtain⟨d,a,b,c⟩:=h
 have hs:wN d=true:=by simp only[wN,b,c,decide_true,ev]
 unfold Ec
 simp only[a,hs,ev,if_true]
 rw[SeqAt.eqv_refl d b]
theorem Hn: ∀l:List Int,BA (l.map .int)=some (l.map .int)
 | []=>rfl
 |x::r=>by
  show(match some (tg x),BA (r.map .int)with|some d,some ds=>some (d::ds)|_,_=>uZ)=_
  rw[Hn r]
  rfl
theorem Zn{l:List Int}:Ec (.list (l.map .int)) (.list [])=some (decide (l=[])):=by
 induction l using u6 with
 |nil=>rw[yO,Jk (MN (HU (n:=0) (λ_ h=>by cases h)) (by decide))];rfl
 |cons x r=>
  obtain⟨ds,a,b,c⟩:=Mm (TG 0 (x::r))
  have e:Ec (.list ((x::r).map .int)) (.list [])=some (yT (.list ds) (.list [])):=by
   have hs:wN (.list ds)=true:=by
    simp only[wN,zW,lr,b,xL]
    exact decide_eq_true (by omega)
   have u:wN (.list [])=true:=rfl
   show(match(BA ((x::r).map .int)).map cn,some (cn [])with|some d,some e=>if wN d&&wN e then some (yT d e)else uZ|_,_=>uZ)=_
   rw[a]
   show(if wN (.list ds)&&true then _ else _)=_
   rw[hs]
   rfl
  rw[e]
  induction ds using u6 with
  |nil=>
   exact nomatch (Hn (x::r)).symm.trans a
  |cons d ds=>simp[yT,PyData.eqvAll]
theorem R7: ∀l:List Int,wV (l.map .int)=true
 | []=>rfl
 |x::r=>by simp only[v8,wV,zW,R7 r,ev]
theorem PQ{x:Int}{l:List Int}:PP (.int x) (l.map .int)=some (decide (x∈l)):=by
 show(match some (tg x),BA (l.map .int)with|some d,some ds=>if wN d&&wV ds then some (ds.any λy=>yT y d)else uZ|_,_=>uZ)=_
 rw[Hn]
 show(if true&&wV (l.map .int)then _ else _)=_
 rw[R7]
 show some _=some _
 congr 1
 induction l with
 |nil=>simp
 |cons y r u=>
  rw[v8,kn,u]
  have:yT (.int y) (.int x)=decide (x=y):=by
   simp only[yT]
   by_cases h:x=y
   ·subst h;simp
   ·have h': ¬y=x:=λe=>h e.symm
    simp[h,h']
  rw[this]
  by_cases h:x=y<;>simp[h]
theorem Zb{x:Int}{l:List Int}:I8 (.int x) (.list (l.map .int))=some (decide (x∈l)):=PQ
theorem Po{x:Int}{l:List Int}:cmpA .In (.int x) (.list (l.map .int))=some (decide (x∈l)):=PQ
theorem FS{x:Int}{l:List Int}:cmpA .NotIn (.int x) (.list (l.map .int))=some (!decide (x∈l)):=by
 show(I8 _ _).map _=_
 rw[Zb];rfl
noncomputable def Bo{α:Type}(x:R α)(K:α→AH→Prop)(X:Str→AH→Prop):Prop:=match x with
 |some (.ok a H)=>K a H
 |some (.exc c H)=>X c H
 |uZ=>True
section
variable{α β:Type}{x:R α}{f:α→AH→R β}{K:β→AH→Prop}{L L':α→AH→Prop}{X:Str→AH→Prop}{H:AH}
theorem pb(h:Bo (x.bind f) K X)(e: ∀a H,Bo (f a H) K X→L a H):Bo x L X:=match x,h with
 |uZ,_=>trivial
 |some (.ok a H),h=>e a H h
 |some (.exc _ _),h=>h
theorem pn(h:Bo (x.bindN f) K X)(e: ∀a H,Bo (f a H) K X→L a H):Bo x L tX:=match x,h with
 |uZ,_=>trivial
 |some (.ok a H),h=>e a H h
 |some (.exc _ _),_=>trivial
theorem L6{o:Option α}(h:Bo (rof o H) L X){v:α}(e:o=some v):L v H:=by subst e;exact h
theorem r8{o o':Option α}(h:Bo (rof o H) L X)(e:o=o'):tO o' λv=>L v H:=by
 subst e
 induction o using vN with
 |none=>trivial
 |some v=>exact h
theorem oQ{a:α}(h:Bo x L X)(e:x=ok a H):L a H:=by subst e;exact h
theorem oX{c:Str}(h:Bo x L X)(e:x=some (.exc c H)):X c H:=by subst e;exact h
theorem jX{x:R AV}{L:AV→AH→Prop}(h:Bo x L X):eJ x L X:=λq=>match q with
 |.call=>λ_ _=>oQ h
 |.exc=>λ_ _=>oX h
 |.tt|.ff|.at|.dem=>trivial
end
theorem n0:EI.Nodup:=by decide+kernel
theorem qZ:(EI.all λs=>s.cps[0]? !=some 0)=true:=by decide+kernel
theorem Iy{i:Nat}{s:Str}(h:EI[i]?=some s):CV i=s:=by unfold CV;rw[h]
theorem I1{i:Nat}(h:EI[i]?=uZ):CV i=⟨#[0,i]⟩:=by unfold CV;rw[h]
theorem dO{i j:Nat}{s:Str}(h:EI[i]?=some s)(e:s=⟨#[0,j]⟩):False:=by
 have:=List.all_eq_true.mp qZ s (wG h)
 rw[e] at this
 cases this
theorem g6{i j:Nat}(e:CV i=CV j):i=j:=by
 cases hi:EI[i]? with
 |none=>
  cases u:EI[j]? with
  |none=>
   rw[I1 hi,I1 u] at e
   injection e with e
   injection e with e
   injection e with _ e
   injection e
  |some t=>rw[I1 hi,Iy u] at e;exact(dO u e.symm).elim
 |some s=>
  cases u:EI[j]? with
  |none=>rw[I1 u,Iy hi] at e;exact(dO hi e).elim
  |some t=>
   rw[Iy hi,Iy u] at e
   exact(mj (List.getElem?_eq_some_iff.mp hi).1 n0).mp (by rw[hi,u,e])
theorem Wg{i j:Nat}:(CV i==CV j)=x9 i j:=by
 by_cases e:i=j
 ·subst e;rw[beq_self_eq_true,rt]
 ·rw[beq_eq_false_iff_ne.mpr λq=>e (g6 q)]
  exact(Bool.eq_false_iff.mpr λq=>e (wU q)).symm
noncomputable def Er(ρ:AE)(r:AJ):Prop:=∀i,ρ.lookup (CV i)=Ov i r
theorem Wh{i x:Nat}{v:AV}: ∀{r:AJ},Ov i (MC x v r)=match x9 i x with|true=>some v|false=>Ov i r
 | []=>rfl
 |(y,w)::r=>by
  unfold MC
  cases h:x9 x y with
  |true=>
   have e:=wU h
   subst e
   show Ov i ((x,v)::r)=_
   unfold Ov
   cases x9 i x<;>rfl
  |false=>
   show Ov i ((y,w)::MC x v r)=_
   unfold Ov
   rw[Wh]
   cases h1:x9 i y with
   |false=>rfl
   |true=>
    cases u:x9 i x with
    |false=>rfl
    |true=>
     rw[←wU h1,←wU u,rt] at h
     cases h
theorem Rb{ρ:AE}{r:AJ}(h:Er ρ r){x:Nat}{v:AV}:Er ((CV x,v)::ρ) (MC x v r):=λi=>by
 rw[bx,Wg,h i,Wh]
 cases x9 i x<;>rfl
theorem KT: ∀{xs:List Nat} {vs:List AV} {ρ:AE} {r u:AJ},Er ρ r→GK xs vs r=some u→(xs.map CV).length=vs.length∧Er (((xs.map CV).zip vs).reverse++ρ) u
 | [],[],_,_,_,h,e=>by cases e;exact⟨rfl,h⟩
 |x::xs,v::vs,ρ,r,u,h,e=>by
  have:=KT (Rb h (x:=x) (v:=v)) (show GK xs vs _=_ from e)
  refine⟨congrArg (· +1) this.1,?_⟩
  rw[v8,xA,wP,xK]
  exact this.2
 | [],_::_,_,_,_,_,e=>by cases e
 |_::_,[],_,_,_,_,e=>by cases e
theorem Sb{t:QR Nat}{v:AV}{ρ:AE}{r u:AJ}(h:Er ρ r)(e:SQ t v r=some u): ∃ρ',BL (pN t) v ρ=some ρ'∧Er ρ' u:=by
 induction t using QR.casesOn with
 |name x=>cases e;exact⟨_,rfl,Rb h⟩
 |bad=>cases e
 |names xs=>
  induction v using AV.casesOn with
  |tuple l=>
   have:=KT h (show GK xs l r=_ from e)
   exact⟨_,if_pos this.1,this.2⟩
  |_=>cases e
theorem YG{x:Nat}: ∀{ls:List Nat},(ls.map CV).contains (CV x)=aF x ls
 | []=>rfl
 |y::r=>by
  rw[v8,List.contains_cons,Wg,YG]
  rw[aF]
  cases x9 x y
  ·exact yQ _
  ·rfl
theorem N2{ls:List Str}{y:Str}: ∀{ρ:AE},(Cs ls ρ).lookup y=match ls.contains y with|true=>uZ|false=>ρ.lookup y
 | []=>by cases ls.contains y<;>rfl
 |(z,v)::ρ=>by
  show ei y (ny _ _)=_
  rw[fx,bx]
  have e:=N2 (ls:=ls) (y:=y) (ρ:=ρ)
  cases h:ls.contains z with
  |true=>
   rw[if_neg (by simp)]
   refine y3 e ?_
   cases hy:y==z with
   |false=>rfl
   |true=>rw[eq_of_beq hy,h]
  |false=>
   rw[if_pos (show(!false)=true from rfl),bx]
   cases hy:y==z with
   |false=>exact e
   |true=>rw[eq_of_beq hy,h]
theorem PG{ls:List Nat}{i:Nat}: ∀{r:AJ},Ov i (Ib ls r)=match aF i ls with|true=>uZ|false=>Ov i r
 | []=>by cases aF i ls<;>rfl
 |(y,v)::r=>by
  unfold Ib
  have e:=PG (ls:=ls) (i:=i) (r:=r)
  cases h:aF y ls with
  |true=>
   refine y3 e ?_
   rw[Ov]
   cases hy:x9 i y with
   |false=>rfl
   |true=>rw[wU hy,h]
  |false=>
   show Ov i ((y,v)::Ib ls r)=_
   rw[Ov,Ov]
   cases hy:x9 i y with
   |false=>exact e
   |true=>rw[wU hy,h]
theorem aT{ρ:AE}{r:AJ}(h:Er ρ r){ls:List Nat}:Er (Cs (ls.map CV) ρ) (Ib ls r):=λi=>by
 rw[N2,PG,YG,h i]
theorem I3{x:Nat}{v:AV}: ∀{r:AJ} {F:AJ→Prop},UZ x v r F=F (MC x v r)
 | [],_=>rfl
 |(y,w)::r,F=>by
  unfold UZ MC
  cases x9 x y with
  |true=>rfl
  |false=>exact I3
theorem Hq: ∀{xs:List Nat} {vs:List AV} {r:AJ} {F:AJ→Prop},Mb xs vs r F=tO (GK xs vs r) F
 | [],[],_,_=>rfl
 |_::_,_::_,_,_=>I3.trans Hq
 | [],_::_,_,_=>rfl
 |_::_,[],_,_=>rfl
theorem Nr{t:QR Nat}{v:AV}{r:AJ}{F:AJ→Prop}:YK t v r F=tO (SQ t v r) F:=by
 induction t using QR.casesOn with
 |name x=>exact I3
 |bad=>rfl
 |names xs=>induction v using AV.casesOn with
  |tuple l=>exact Hq
  |_=>rfl
theorem Jv{ls:List Nat}: ∀{r:AJ} {F:AJ→Prop},Ng ls r F=F (Ib ls r)
 | [],_=>rfl
 |(y,v)::r,F=>by
  unfold Ng Ib
  cases aF y ls with
  |true=>exact Jv
  |false=>exact Jv
theorem jB:Er [] []:=λ_=>rfl
section
variable{K:AV→Prop}{op:CmpOp}{a b:AV}{c:Bool}
theorem j3{op:Operator}(h: ∀c,DF op a b=some c→K c):nK op a b K:=by
 induction a using AV.casesOn with
 |int x=>
  induction b using AV.casesOn with
  |int y=>
   induction op using xX with
   |Add=>exact h _ rfl
   |Sub=>exact h _ rfl
   |Mult=>exactλg=>h _ (nG g)
   |FloorDiv=>exactλg e=>h _ (eS ⟨g,e⟩)
   |Mod=>exactλg=>h _ (lW g)
   |Pow=>exactλg e u=>h _ (l7 ⟨g,e,u⟩)
   |LShift=>exactλg e u=>h _ (mX ⟨g,e,u⟩)
   |RShift=>exactλg=>h _ (n6 g)
   |BitAnd=>exact h _ rfl
   |BitOr=>exact h _ rfl
   |BitXor=>exact h _ rfl
   |_=>trivial
  |_=>exact h
 |_=>exact h
theorem m8{op:UnaryOp}(h: ∀c,rT op a=some c→K c):sI op a K:=by
 induction op using br with
 |USub=>induction a using AV.casesOn with
  |int x=>exact h _ rfl
  |_=>trivial
 |Invert=>induction a using AV.casesOn with
  |int x=>exact h _ rfl
  |_=>trivial
 |Not=>induction a using AV.casesOn with
  |bool x=>cases x<;>exact h _ rfl
  |_=>trivial
 |_=>trivial
theorem CX{p:Prop} [Decidable p](h:match c with|true=>p|false=>¬p):some (decide p)=some c:=by
 cases c
 ·rw[decide_eq_false h]
 ·rw[decide_eq_true h]
theorem bH(h:ZR op a b c):cmpA op a b=some c:=by
 induction a using AV.casesOn with
 |int x=>
  induction b using AV.casesOn with
  |int y=>
   induction op using PySem.CmpOp.casesOn with
   |Lt=>induction c using wX with
    |true=>exact CX (c:=true) h
    |false=>exact CX (c:=false) (Int.not_lt.mpr h)
   |LtE=>induction c using wX with
    |true=>exact CX (c:=true) h
    |false=>exact CX (c:=false) (Int.not_le.mpr h)
   |Gt=>induction c using wX with
    |true=>exact CX (c:=true) h
    |false=>exact CX (c:=false) (Int.not_lt.mpr h)
   |GtE=>induction c using wX with
    |true=>exact CX (c:=true) h
    |false=>exact CX (c:=false) (Int.not_le.mpr h)
   |Eq=>induction c using wX with
    |true=>exact pK.trans (CX (c:=true) h)
    |false=>exact pK.trans (CX (c:=false) h)
   |NotEq=>induction c using wX with
    |true=>exact mS.trans (congrArg (wK (!·)) (CX (p:=x=y) (c:=false) h))
    |false=>exact mS.trans (congrArg (wK (!·)) (CX (p:=x=y) (c:=true) h))
   |_=>cases c<;>exact h
  |_=>exact h
 |_=>exact h
theorem YD{l:List AV}{i:Int}{v:AV}(h:Jt l i=some v): ∃n:Nat,i=n∧n<1000∧l[n]?=some v:=by
 induction i using Int.casesOn with
 |negSucc n=>cases h
 |ofNat n=>
  have h:(match oy n 1000 with|true=>l[n]?|false=>uZ)=some v:=h
  cases hb:oy n 1000 with
  |false=>rw[hb] at h;cases h
  |true=>rw[hb] at h;exact⟨n,rfl,zQ hb,h⟩
theorem hX{o i:AV}{H:AH}(h: ∀v,Bb o i H=some v→K v):mY o i H K:=λq=>match q with
 |.dem=>h
 |.tt|.ff|.call|.exc=>trivial
 |.at=>by
  induction o using AV.casesOn with
  |list l=>
   induction i using AV.casesOn with
   |int i=>
    show tO (Jt l i) K
    cases e:Jt l i with
    |none=>trivial
    |some v=>
     obtain⟨n,rfl,hn,e⟩:=YD e
     refine h v ?_
     rw[show Bb (.list l) (.int n) H=if 0≤(n:Int)∧(n:Int)<2^60 then l[(n:Int).toNat]? else uZ from rfl,if_pos ⟨by omega,by omega⟩]
     exact e
   |_=>trivial
  |tuple l=>
   induction i using AV.casesOn with
   |int i=>
    show tO (Jt l i) K
    cases e:Jt l i with
    |none=>trivial
    |some v=>
     obtain⟨n,rfl,hn,e⟩:=YD e
     refine h v ?_
     rw[show Bb (.tuple l) (.int n) H=if-(2^60)<(n:Int)∧(n:Int)<2^60 then(az (n:Int) l.length).bind λj=>l[j]? else uZ from rfl,if_pos ⟨by omega,by omega⟩]
     have hl:=(List.getElem?_eq_some_iff.mp e).1
     have:az (n:Int) l.length=some n:=by
      unfold az
      have u: ¬(n:Int)<0:=by omega
      simp only[if_neg u]
      rw[if_pos (by rw[v7];exact⟨decide_eq_true (by omega),decide_eq_true (by omega)⟩)]
      rfl
     rw[this]
     exact e
   |_=>trivial
  |_=>trivial
theorem Ys: ∀{l:List AV} {n:Nat},Uk l n=true→l.length≤n
 | [],_,_=>w3 _
 |_::r,n+1,h=>wH (Ys (l:=r) (show Uk r n=true from h))
 |_::_,0,h=>by cases h
end
section
variable{m:Nat}{ρ:AE}{r:AJ}{H:AH}{K:AV→AH→Prop}{X:Str→AH→Prop}
theorem i8{o:Bp Nat}{f:Str}{as:List (Bp Nat)}{K:AV→Prop}{B:Prop}(h:B)(hw: ∀x,o=.glob x→as=[]→∀l,BI x f l→K (.list l)):oR o f as K B:=by
 induction o using Bp.casesOn with
 |glob x=>induction as using u6 with
  |nil=>exact hw x rfl rfl
  |cons=>exact h
 |_=>exact h
theorem VK{α:Type}{x:R α}{L:α→AH→Prop}(h: ∀a H,L a H):Bo x L tX:=match x with
 |uZ=>trivial
 |some (.exc _ _)=>trivial
 |some (.ok a H)=>h a H
theorem S7{k:IK}{vs:List AV}{G:List AV→Prop}(h: ∀l,BF k vs H=some l→G l):VS k vs H G:=λq=>match q with
 |.dem=>h
 |.tt|.ff|.call|.exc=>trivial
 |.at=>by
  have hl: ∀{l:List AV},Uk l 100=true→l.length≤1000000:=λe=>u5 (Ys e) (by decide)
  induction k using IK.casesOn with
  |plain=>
   induction vs using u6 with
   |nil=>trivial
   |cons v vs=>
    induction vs using u6 with
    |cons=>cases v<;>trivial
    |nil=>
     induction v using AV.casesOn with
     |list l=>
      show(match Uk l 100 with|true=>G l|false=>True)
      cases e:Uk l 100 with
      |false=>trivial
      |true=>exact h l (if_pos (hl e))
     |tuple l=>
      show(match Uk l 100 with|true=>G l|false=>True)
      cases e:Uk l 100 with
      |false=>trivial
      |true=>exact h l (if_pos (hl e))
     |_=>trivial
  |_=>trivial
theorem Xm{l:List AV}{P:Prop}(h:l.length≤1000000→P):Yc l P:=λq=>match q with
 |.dem=>h
 |.tt|.ff|.call|.exc=>trivial
 |.at=>by
  show(match Uk l 100 with|true=>P|false=>True)
  cases e:Uk l 100 with
  |false=>trivial
  |true=>exact h (u5 (Ys e) (by decide))
theorem Vm{α:Type}{F:(α→AH→Prop)→Prop}{K:α→AH→Prop}(h:F K):tQ F K:=λq=>match q with
 |.at=>h
 |.dem=>λ_ _ g=>g K h
 |.tt|.ff|.call|.exc=>trivial
theorem aG{op:CmpOp}{a b:AV}{G:Bool→Prop}(h: ∀c,ZR op a b c→G c):oJ op a b G:=λq=>match q with
 |.tt=>h true
 |.ff=>h false
 |.at|.dem|.call|.exc=>trivial
theorem LK{A B:Prop}{v:AV}(e:AQ v=some true→A)(hf:AQ v=some false→B):kI v A B:=by
 induction v using AV.casesOn with
 |bool b=>
  cases b
  ·exact hf rfl
  ·exact e rfl
 |_=>trivial
theorem Mo{Γ:Ctx}{elt:CE}{ifs:List CE}{u:AJ→AH→(Bool→AH→Prop)→Prop}{J:AJ→AH→(AV→AH→Prop)→Prop}{t:QR Nat}
  (I: ∀{ρ r H K},Er ρ r→Bo (DI Γ ifs ρ H) K tX→u r H K) (B: ∀{ρ r H K},Er ρ r→Bo (AF Γ elt ρ H) K tX→J r H K) (D:Er ρ r):
  ∀{items:List AV} {H:AH} {K:List AV→AH→Prop},Bo (compLoop (λρ H=>DI Γ ifs ρ H) (λρ H=>AF Γ elt ρ H) (pN t) ρ items H) K tX→Ex u J t r items H K
 | [],_,_,h=>h
 |x::xs,H,K,h=>by
  unfold Ex
  rw[Nr]
  cases e:SQ t x r with
  |none=>trivial
  |some O=>
   obtain⟨ρ',e1,er'⟩:=Sb D e
   rw[compLoop,e1] at h
   refine I er' (pn h λb H h=>?_)
   induction b using wX with
   |true=>exact B er' (pn h λv H h=>Mo I B D (pn h λvs H h=>h))
   |false=>exact Mo I B D h
end
theorem WN{m:Nat}{x f:Str}{l:List AV}{H:AH}{K:AV→AH→Prop}{X:Str→AH→Prop}{ρ:AE}(w:BI x f l)(h:Bo (AF (KU m) (.meth (.glob x) f []) ρ H) K X):K (.list l) H:=by
 obtain⟨s,e,e2⟩:=w
 have:AF (KU m) (.meth (.glob x) f []) ρ H=ok (.list l) H:=by
  show((rof (AA.glob x) H).bindN λu H=>if E8 u H then(A1 (KU m) [] ρ H).bindN λvs H=>Gb (KU m) u f vs H else uZ)=_
  rw[e]
  exact e2 m H
 rw[this] at h
 exact h
mutual
theorem A2{m:Nat}: ∀(e:Bp Nat) {ρ:AE} {r:AJ} {H:AH} {K:AV→AH→Prop} {X:Str→AH→Prop},Er ρ r→Bo (AF (KU m) (dE e) ρ H) K X→tE m e r H K X
 |.stuck,_,_,_,_,_,_,_=>trivial
 |.lit _,_,_,_,_,_,_,h=>h
 |.var x,_,_,_,_,_,B,h=>r8 h (B x)
 |.glob _,_,_,_,_,_,_,h=>λ_=>L6 h
 |.bin _ a b,_,_,_,_,_,B,h=>A2 a B (pb h λ_ _ h=>A2 b B (pb h λ_ _ h=>j3 λ_=>L6 h))
 |.un _ a,_,_,_,_,_,B,h=>A2 a B (pb h λ_ _ h=>m8 λ_=>L6 h)
 |.bool _ vs,_,_,_,_,_,B,h=>Yl vs B h
 |.cmp a _ rs,_,_,_,_,_,B,h=>A2 a B (pb h λ_ _ h=>eE rs B h)
 |.ite t a b,_,_,_,_,_,B,h=>A2 t B (pb h λ_ _ h=>LK (λe=>A2 a B (by rw[e] at h;exact h)) λe=>A2 b B (by rw[e] at h;exact h))
 |.call _ as,_,_,_,_,_,B,h=>EH as B (pn h λ_ _ h=>jX h)
 |.meth o f as,ρ,_,H0,K,X,B,h=>i8 (A2 o B (pn h λI H h=>by
   cases D:E8 I H with
   |false=>exact EH as B (VK λ_ _ _ _ q=>by have q:=q.1;rw[D] at q;cases q)
   |true=>
    rw[if_pos D] at h
    exact EH as B (pn h λvs H h v H' q=>oQ h q.2))) λx e1 e2 l w=>WN (m:=m) (ρ:=ρ) (X:=X) (K:=K) w (by subst e1;subst e2;exact h)
 |.attr o _,_,_,_,_,_,B,h=>A2 o B (pb h λ_ _ h _=>L6 h)
 |.sub o i,_,_,_,_,_,B,h=>A2 o B (pb h λ_ _ h=>A2 i B (pb h λ_ _ h=>hX λ_=>L6 h))
 |.slice o l u,_,_,_,_,_,B,h=>A2 o B (pb h λ_ _ h=>A2 l B (pb h λ_ _ h=>A2 u B (pb h λ_ _ h _=>L6 h)))
 |.tuple es,_,_,_,_,_,B,h=>EH es B (pb h λ_ _ h=>h)
 |.list es,_,_,_,_,_,B,h=>EH es B (pb h λ_ _ h=>h)
 |.dict _ _,_,_,_,_,_,_,h=>h
 |.comp elt t k src ifs ls,_,_,_,_,_,B,h=>EH src B (pn h λvs H h=>S7 λitems e=>by
   rw[e] at h
   rw[Jv]
   exact Vm (Mo (λB h=>eH ifs B h) (λB h=>A2 elt B h) (aT B) (pn h λl H h=>Xm λhl=>by rw[if_pos hl] at h;exact h)))
theorem EH{m:Nat}: ∀(e:List (Bp Nat)) {ρ:AE} {r:AJ} {H:AH} {K:List AV→AH→Prop} {X:Str→AH→Prop},Er ρ r→Bo (A1 (KU m) (QJ e) ρ H) K X→ZC m e r H K X
 | [],_,_,_,_,_,_,h=>h
 |e::es,_,_,_,_,_,er,h=>A2 e er (pb h λ_ _ h=>EH es er (pb h λ_ _ h=>h))
theorem Yl{m:Nat}{op:BoolOp}: ∀(e:List (Bp Nat)) {ρ:AE} {r:AJ} {H:AH} {K:AV→AH→Prop} {X:Str→AH→Prop},Er ρ r→Bo (Gl (KU m) op (QJ e) ρ H) K X→tB m op e r H K X
 | [],_,_,_,_,_,_,_=>trivial
 | [e],_,_,_,_,_,er,h=>A2 e er (pb h λ_ _ h=>h)
 |e::e2::es,_,_,_,_,_,er,h=>A2 e er (pb h λv H h=>by
   induction op using PySem.BoolOp.casesOn with
   |And=>exact LK (λq=>Yl (e2::es) er (by simp only[q] at h;exact h)) λq=>by simp only[q] at h;exact h
   |Or=>exact LK (λq=>by simp only[q] at h;exact h) λq=>Yl (e2::es) er (by simp only[q] at h;exact h))
theorem eE{m:Nat}{a:AV}{ops:List CmpOp}: ∀(e:List (Bp Nat)) {ρ:AE} {r:AJ} {H:AH} {K:AV→AH→Prop} {X:Str→AH→Prop},Er ρ r→Bo (EX (KU m) a ops (QJ e) ρ H) K X→tC m a ops e r H K X
 | [],_,_,_,_,_,_,_=>by cases ops<;>trivial
 |e::es,_,_,_,_,_,er,h=>match ops,h with
  | [],_=>trivial
  |op::ops,h=>A2 e er (pb h λb H h=>aG λc hc=>by
   rw[bH hc] at h
   match ops,es,c,h with
   | [],[],_,h=>exact h
   | [],_::_,_,_=>trivial
   |_::_,[],_,_=>trivial
   |_::_,_::_,false,h=>exact h
   |op::ops,e::es,true,h=>exact eE (e::es) er h)
theorem eH{m:Nat}: ∀(e:List (Bp Nat)) {ρ:AE} {r:AJ} {H:AH} {K:Bool→AH→Prop},Er ρ r→Bo (DI (KU m) (QJ e) ρ H) K tX→tT m e r H K
 | [],_,_,_,_,_,h=>h
 |e::es,_,_,_,_,er,h=>A2 e er (pb h λ_ _ h=>LK (λq=>eH es er (by rw[q] at h;exact h)) λq=>by rw[q] at h;exact h)
end
noncomputable def IF(x:R (Fl×AE))(N:AJ→AH→Prop)(K:AV→AH→Prop)(X:Str→AH→Prop):Prop:=
 Bo x (λp H=>match p.1 with|.next=>∀r,Er p.2 r→N r H|.ret v=>K v H) X
section
variable{m:Nat}{ρ:AE}{r:AJ}{H:AH}{N:AJ→AH→Prop}{K:AV→AH→Prop}{X:Str→AH→Prop}
noncomputable abbrev cN(x:R AE)(N:AJ→AH→Prop)(X:Str→AH→Prop):Prop:=Bo x (λρ H=>∀r,Er ρ r→N r H) X
theorem d9{v:AV}: ∀{t:U3 Nat} {N:AJ→AH→Prop},Er ρ r→cN (EJ (KU m) (fV t) v ρ H) N X→tA m t v r H N X
 |.name x,_,er,h=>cast I3.symm (h _ (Rb er))
 |.attr o x,_,er,h=>A2 o er (pb h λu H h H' e=>by rw[e] at h;exact h r er)
 |.sub o i,_,er,h=>A2 o er (pb h λu H h=>A2 i er (pb h λiv H h H' e=>by rw[e] at h;exact h r er))
 |.bad,_,_,_=>trivial
theorem Q0: ∀{ts:List (U3 Nat)} {vs:List AV} {ρ:AE} {r:AJ} {H:AH},Er ρ r→cN (assignAll (KU m) (ts.map fV) vs ρ H) N X→pU m ts vs r H N X
 | [],[],_,_,_,e,h=>h _ e
 |t::ts,v::vs,_,_,_,e,h=>d9 e (pb h λρ H h r e=>Q0 e h)
 | [],_::_,_,_,_,_,_=>trivial
 |_::_,[],_,_,_,_,_=>trivial
theorem Ym{α β:Type}: ∀{l:List α} {r:List β},Rv l r=true→l.length=r.length
 | [],[],_=>rfl
 |_::l,_::r,h=>congrArg (· +1) (Ym (l:=l) (r:=r) h)
 | [],_::_,h=>by cases h
 |_::_,[],h=>by cases h
theorem Xr{α β:Type}{l:List α}{r:List β}{P:Prop}(h:l.length=r.length→P):ZA l r P:=by
 unfold ZA
 cases e:Rv l r with
 |false=>trivial
 |true=>exact h (Ym e)
theorem S4{α:Type}{x:R α}{L:α→AH→Prop}(h:Bo x L X):Bo x L tX:=match x,h with
 |uZ,_=>trivial
 |some (.exc _ _),_=>trivial
 |some (.ok _ _),h=>h
theorem ZZ{ts:List (U3 Nat)}:(ts.map fV).reverse=ts.reverse.map fV:=List.map_reverse.symm
theorem Sk{Γ:Ctx}{b:List CS}{body:AJ→AH→(AJ→AH→Prop)→Prop}{t:QR Nat}(hb: ∀{ρ r H N},Er ρ r→IF (execs Γ b ρ H) N K tX→body r H N):
  ∀{items:List AV} {ρ:AE} {r:AJ} {H:AH},Er ρ r→IF (Ct (λρ H=>execs Γ b ρ H) (pN t) items ρ H) N K tX→EZ body t items r H N
 | [],_,_,_,u,h=>h _ u
 |x::xs,ρ,r,H,u,h=>by
  unfold EZ
  rw[Nr]
  cases e:SQ t x r with
  |none=>trivial
  |some B=>
   obtain⟨ρ',e1,er'⟩:=Sb u e
   unfold IF at h
   rw[Ct,e1] at h
   exact hb er' (pn h λp H h=>match p,h with
    |(.next,_),h=>λr u=>Sk hb u h
    |(.ret _,_),h=>h)
theorem PW{Γ:Ctx}{c:CE}{b:List CS}{body:AJ→AH→(AJ→AH→Prop)→Prop}{u:AJ→AH→(AV→AH→Prop)→Prop}(D: ∀{ρ r H K},Er ρ r→Bo (AF Γ c ρ H) K tX→u r H K)
  (hb: ∀{ρ r H N},Er ρ r→IF (execs Γ b ρ H) N K tX→body r H N): ∀{n:Nat} {ρ:AE} {r:AJ} {H:AH},Er ρ r→IF (DV (λρ H=>AF Γ c ρ H) (λρ H=>execs Γ b ρ H) n ρ H) N K tX→KI u body n r H N
 |0,_,_,_,_,_=>trivial
 |n+1,ρ,r,H,B,h=>D B (pn h λv H h=>LK
   (λe=>hb B (by
    rw[e] at h
    exact pn h λp H h=>match p,h with
     |(.next,_),h=>λr B=>PW D hb B h
     |(.ret _,_),h=>h))
   λe=>by rw[e] at h;exact h r B)
theorem Yb{v:AV}{G:List AV→Prop}(h: ∀l,v=.tuple l→G l):eN v G:=by
 induction v using AV.casesOn with
 |tuple l=>exact h l rfl
 |_=>trivial
end
theorem RZ{α:Type}{x:R α}{L:α→AH→Prop}{X e:Str→AH→Prop}(h:Bo x L X)(u: ∀c H,X c H→e c H):Bo x L e:=match x,h with
 |uZ,_=>trivial
 |some (.exc c H),h=>u c H h
 |some (.ok _ _),h=>h
theorem fA{x:R AV}{c:Str}{y:AH→R AV}{ρ:AE}{N:AJ→AH→Prop}{K:AV→AH→Prop}{X:Str→AH→Prop}(h:IF (match x with|some (.ok v H)=>rok (.ret v,ρ) H|some (.exc e H)=>if e=c then(y H).bind λv H=>rok (.ret v,ρ) H else uZ|uZ=>uZ) N K X):
  Bo x K λe H=>e=c→Bo (y H) K X:=match x,h with
 |uZ,_=>trivial
 |some (.ok _ _),h=>h
 |some (.exc e H),h=>λq=>by
  simp only[if_pos q] at h
  exact pb h λ_ _ h=>h
mutual
theorem mM{m:Nat}: ∀(s:ES Nat) {ρ:AE} {r:AJ} {H:AH} {N:AJ→AH→Prop} {K:AV→AH→Prop} {X:Str→AH→Prop},Er ρ r→IF (Di (KU m) (dS s) ρ H) N K X→tS m s r H N K X
 |.stuck,_,_,_,_,_,_,_,_=>trivial
 |.pass,_,_,_,_,_,_,u,h=>h _ u
 |.expr e,_,_,_,_,_,_,u,h=>A2 e u (pb h λ_ _ h=>h _ u)
 |.ret e,_,_,_,_,_,_,u,h=>A2 e u (pb h λ_ _ h=>h)
 |.retnew es,_,_,_,_,_,_,u,h=>EH es u (pb h λ_ _ h=>h)
 |.assign t e,_,_,_,_,_,_,u,h=>A2 e u (pb h λ_ _ h=>d9 u (pb h λ_ _ h=>h))
 |.assignT ts e,_,_,_,_,_,_,u,h=>A2 e u (pb h λv H h=>Yb λl q=>by
   subst q
   exact Xr λhl=>Q0 u (by simp only[vB,if_pos hl] at h;exact pb h λ_ _ h=>h))
 |.assignR ts e,_,_,_,_,_,_,u,h=>A2 e u (pb h λv H h=>Yb λl q=>by
   subst q
   exact Xr λhl=>Q0 u (by simp only[vB,if_pos hl,ZZ] at h;exact pb h λ_ _ h=>h))
 |.ite t a b,_,_,_,_,_,_,u,h=>A2 t u (pb h λ_ _ h=>LK (λe=>Hu a u (by rw[e] at h;exact h)) λe=>Hu b u (by rw[e] at h;exact h))
 |.loop t k src body,_,_,_,_,_,_,u,h=>EH src u (pn h λvs H h=>S7 λitems e=>Vm (Sk (λu h=>Hu body u h) u (by rw[e] at h;exact S4 h)))
 |.while t body,_,_,_,_,_,_,u,h=>Vm (PW (λu h=>A2 t u h) (λu h=>Hu body u h) u (S4 h))
 |.raise _ _,_,_,_,_,_,_,_,h=>h
 |.tryRet e c g,_,_,_,_,_,_,u,h=>A2 e u (RZ (fA h) λ_ _ h q=>A2 g u (h q))
theorem Hu{m:Nat}: ∀(s:List (ES Nat)) {ρ:AE} {r:AJ} {H:AH} {N:AJ→AH→Prop} {K:AV→AH→Prop} {X:Str→AH→Prop},Er ρ r→IF (execs (KU m) (Zl s) ρ H) N K X→Dz m s r H N K X
 | [],_,_,_,_,_,_,e,h=>h _ e
 |s::b,_,_,_,_,_,_,e,h=>mM s e (pb h λp H h=>match p,h with
   |(.next,_),h=>λr e=>Hu b e h
   |(.ret _,_),h=>h)
end
theorem OJ{f:Str}{d:FN}(h:AA.fn f=some (Au d)): ¬f=nm "Memory.written":=λe=>by
 rw[e,Ht (by decide+kernel)] at h
 cases h
theorem cq{m:Nat}{f:Str}{d:FN}{vs:List AV}{H:AH}{u:R AV}(h:AA.fn f=some (Au d))(k: ∀C:R AV→Prop,Al m d vs H C→C u):AB AA (m+1) f vs H=u:=by
 refine k (λx=>AB AA (m+1) f vs H=x) ?_
 unfold Al sK
 rw[Hq]
 cases e:GK d.ps vs [] with
 |none=>trivial
 |some r=>
  obtain⟨h1,B⟩:=KT jB e
  have e2:Bf (d.ps.map CV) [] vs=some (((d.ps.map CV).zip vs).reverse++[]):=by
   unfold Bf
   rw[if_pos ⟨vH h1.symm,vH h1⟩]
   simp
  have q:AB AA (m+1) f vs H=(execs (KU m) (Zl d.body) (((d.ps.map CV).zip vs).reverse++[]) H).bind λp H=>match p.1 with|.next=>rok .none H|.ret v=>rok v H:=by
   show(if f=nm "Memory.written" then _ else match AA.fn f with|some d=>GY ⟨AA.glob,AA.meth,AB AA m⟩ d vs H|uZ=>_)=_
   rw[if_neg (OJ h),h]
   show(match Bf (d.ps.map CV) [] vs with|uZ=>uZ|some ρ=>_)=_
   rw[e2]
   rfl
  refine Hu d.body B ?_
  rw[q]
  match execs (KU m) (Zl d.body) (((d.ps.map CV).zip vs).reverse++[]) H with
  |uZ=>trivial
  |some (.exc _ _)=>exact rfl
  |some (.ok (.next,_) _)=>exactλ_ _=>rfl
  |some (.ok (.ret _,_) _)=>exact rfl
section
variable{a b s c w o:Int}{i m k:Nat}
theorem Y6:(1:Int).natAbs<2^300:=by decide
theorem a_01(h:1≤s):0≤s:=u9 (by decide) h
theorem a_02(h:2≤s):0≤s:=u9 (by decide) h
theorem a_12(h:2≤s):1≤s:=u9 (by decide) h
theorem a_k(h:s≤64):s≤1000:=u9 h (by decide)
theorem a_c(h:s≤64):s≤100:=u9 h (by decide)
theorem a_k1(h:s≤1000):s-1≤1000:=u9 (yY s (by decide)) h
theorem a_k2(h:s≤64):s-1≤1000:=a_k1 (a_k h)
theorem a_p1(h:1≤s):0≤s-1:=v6 h
theorem a_p2(h:2≤s):0≤s-2:=v6 h
theorem a_p3(h:2≤s):0≤s-1:=a_p1 (a_12 h)
theorem a_d1(h:c≤s):0≤s-c:=v6 h
theorem a_d2(h: ¬s<c):0≤s-c:=v6 (Int.not_lt.mp h)
theorem a_d3(h:c<s):0≤s-c:=v6 (vU h)
theorem a_z1(h:1≤s):s≠0:=λe=>by rw[e] at h;exact absurd h (by decide)
theorem a_z2(h:2≤s):s≠0:=a_z1 (a_12 h)
theorem Kj(e:0≤w)(h1:w<k):w.natAbs<k:=Int.ofNat_lt.mp (jq e▸h1)
theorem sQ(e: -(k:Int)<w)(h1:w<k):w.natAbs<k:=by
 by_cases h:0≤w
 ·exact Kj h h1
 ·exact jl w▸Kj (Int.neg_nonneg_of_nonpos (vU (Int.not_le.mp h))) (Int.neg_lt_of_neg_lt e)
theorem n_64(e:0≤w)(h1:w<2^64):w.natAbs<2^64:=Kj e (vQ h1 (by decide))
theorem n_64'(e:0≤w)(h1:w≤64):w.natAbs<2^64:=Kj e (vL h1 (by decide))
theorem n_1(e:0≤w)(h1:w≤1):w.natAbs<2^64:=n_64' e (u9 h1 (by decide))
theorem tV(u:0≤a)(a1:a<2^64)(e:0≤b)(b1:b<2^64):(a-b).natAbs<2^300:=
 sQ (vQ (by decide) (Int.sub_le_sub u (vU b1))) (vL (yY a e) (w5 a1 (by decide)))
theorem rp{x c K:Int}(M:Int)(u:0<M)(h:0≤x∧x<M*K)(B:0≤c)(c1:c<M):0≤x-x % M+c∧x-x % M+c<M*K:=by
 have e:x-x % M=M*(x/M):=by have:=zS x M;exact Int.sub_eq_iff_eq_add.mpr this.symm
 have h1:x/M+1≤K:=zY (yB u (Int.mul_comm M K▸h.2))
 rw[e]
 exact⟨xU (wZ (vU u) (io h.1 (vU u))) B,vQ (ke c1 _) (by
  have:=wW h1 (vU u)
  rw[Int.mul_add,jh] at this
  exact this)⟩
theorem n_up{n:Nat}(h:n<2^64):n<2^300:=zG h (by decide)
theorem f_0(h:1≤s):0≤c.fmod s:=ij _ h
theorem f_1(h:1≤s):c.fmod s≤s:=vU (lg _ h)
theorem tK{x c:Int}(h:0≤x∧x<2^64)(u:0≤c)(c1:c<256):0≤x+(c-x/256 % 256)*256∧x+(c-x/256 % 256)*256<2^64:=by
 have y:=rp (x:=x/256) (K:=2^48) 256 (by decide) ⟨io h.1 (by decide),yB (by decide) h.2⟩ u c1
 have e:x+(c-x/256 % 256)*256=x % 256+(x/256-x/256 % 256+c)*256:=by
  have:=Int.emod_add_mul_ediv x 256
  lia
 rw[e]
 have z0:=cu x (show(256:Int)≠0 by decide)
 have z1:=dv x (show(0:Int)<256 by decide)
 exact⟨xU z0 (wZ y.1 (by decide)),vQ (jr z1 _) (by
  have:=xG (zY y.2) (show(0:Int)≤256 by decide)
  rw[oa,yJ,dg] at this
  exact this)⟩
theorem sT{u p:Int}(e:0≤u)(h1:u<p)(hp:p≤2^64):u.natAbs<2^64:=n_64 e (vQ h1 hp)
theorem sO{u p:Int}(e:0≤u)(h1:u<p)(hp:p≤2^64)(h:u≠0):(u-1*p).natAbs<2^64:=by
 rw[yJ]
 exact sQ (vL (qe hp) (ii (-p) (Int.lt_iff_le_and_ne.mpr ⟨e,z4 h⟩))) (w5 (mn h1) (by decide))
theorem s_1(h:2≤s):1≤s+1:=u9 (by decide) (vW h 1)
theorem s_0(h:2≤s):0≤s+1:=a_01 (s_1 h)
theorem s_z(h:2≤s):s+1≠0:=a_z1 (s_1 h)
theorem s_c(h:s≤64):s+1≤100:=u9 (vW h 1) (by decide)
theorem d_1(h:1≤s):1≤2*s:=u9 (by decide) (wW h (by decide))
theorem d_k(h:s≤64):2*s≤1000:=u9 (wW h (by decide)) (by decide)
end
section
variable{m:Nat}{H:AH}{w s n:Int}
noncomputable def W(w s:Int):Int:=w % 2^s.toNat
noncomputable def Bt(w n:Int):Int:=(w.fdiv (2^n.toNat)) % 2
noncomputable def Sg(w s:Int):Int:=if(W w s).fdiv (2^(s-1).toNat)=1 then W w s-1*2^s.toNat else W w s
theorem nE:vP w (1*2^s.toNat-1)=W w s:=by rw[yJ,W.kbt_mask];rfl
theorem wrap_s(e:0≤s)(h1:s≤1000):AB AA (m+2) (nm "wrap") [.int w,.int s] H=ok (.int (W w s)) H:=by
 rw[←nE]
 refine cq kT λC k=>k .call _ _ (cq jC λC k=>k e h1 Y6)
theorem signed_s(e:1≤s)(h1:s≤1000):AB AA (m+3) (nm "signed") [.int w,.int s] H=ok (.int (Sg w s)) H:=by
 refine cq WP λC=>?_
 unfold Sg
 by_cases h:(W w s).fdiv (2^(s-1).toNat)=1
 ·rw[if_pos h]
  simp_arith[wrap_s,Y6]
 ·rw[if_neg h]
  simp_arith[wrap_s]
theorem extended_s{v:Int}(u:1≤s)(h1:s≤1000)(e:0≤v)(h3:v≤1000):AB AA (m+4) (nm "extended") [.int w,.int s,.int v] H=ok (.int (W (Sg w s) v)) H:=by
 refine cq P7 λC=>?_
 simp_arith[wrap_s,signed_s]
theorem bit_s(e:0≤n):AB AA (m+1) (nm "bit") [.int w,.int n] H=ok (.int (Bt w n)) H:=by
 rw[show Bt w n=vP (w.fdiv (2^n.toNat)) 1 from(xZ _).symm]
 refine cq nZ λC=>?_
 simp_arith[]
theorem P9(e:1≤s)(h1:s≤1000): ∃b:Bool,∀m H,AB AA (m+1) (nm "fits_signed") [.int w,.int s] H=ok (.bool b) H:=by
 by_cases h: -(1*2^(s-1).toNat)≤w
 ·by_cases h':w<1*2^(s-1).toNat
  ·refine⟨true,λm H=>cq DU λC=>?_⟩
   simp_arith[Y6]
  ·refine⟨false,λm H=>cq DU λC=>?_⟩
   simp_arith[Y6]
 ·refine⟨false,λm H=>cq DU λC=>?_⟩
  simp_arith[Y6]
end
theorem Cl{w s:Int}:0≤W w s:=cu _ (ly (zU (by decide)))
theorem Ke{w s:Int}:W w s<2^s.toNat:=dv _ (zU (by decide))
theorem GN{a b:Nat}(h:a≤b):(2:Int) ^a≤2^b:=by
 have:=jo (n:=2) (by decide) h
 exact_mod_cast this
theorem Ce{w s:Int}(h:s≤64):W w s<2^64:=vQ Ke (GN (Int.toNat_le.mpr h))
theorem and_self{q:Int}(h:0≤q):vP q q=q:=by
 rw[gz h h,Nat.and_self]
 exact wA h
theorem N8{a b:Int}(e:0≤a)(hb:0≤b):0≤vG a b:=by
 rw[xY]
 exact v6 (u9 (xH a hb).2 (Int.le_add_of_nonneg_left e))
theorem oV{a b:Int}(e:0≤a)(hb:0≤b):vG a b≤a+b:=by
 rw[xY]
 exact yY _ (xH a hb).1
set_option tactic.hygienic true in
theorem cV{w s:Int}(u:1≤s)(h1:s≤128): -(2^128)<Sg w s∧Sg w s<2^128:=by
 unfold Sg
 have a:=Cl (w:=w) (s:=s)
 have b:=Ke (w:=w) (s:=s)
 have c:(2:Int) ^s.toNat≤2^128:=GN (Int.toNat_le.mpr h1)
 split
 ·rename_i h
  have:W w s≠0:=by
   intro e
   rw[e] at h
   simp at h
  rw[yJ]
  exact⟨vL (qe c) (ii _ (Int.lt_iff_le_and_ne.mpr ⟨a,z4 this⟩)),w5 (mn b) (by decide)⟩
 ·exact⟨vQ (by decide) a,vQ b c⟩
inductive iE:Int→Nat→Prop where
 |z:iE 0 0
 |s {r:Int} {k:Nat}:0<r→iE (vP r (r-1)) k→iE r (k+1)
theorem hf(q:Int):(2*q+1)/2=q∧¬(2*q) % 2=1:=⟨by rw[dg,Int.add_mul_ediv_left 1 q (by decide)];exact lx q,by rw[du];decide⟩
theorem So{q:Int}{k:Nat}(h:iE q k):iE (2*q) k:=by
 induction h with
 |z=>exact .z
 | @s r k e _ u=>
  refine .s (Int.mul_pos (by decide) e) ?_
  have:vP (2*r) (2*r-1)=2*vP r (r-1):=by
   rw[show 2*r-1=2*(r-1)+1 by lia,ro,if_neg (λh=>(hf r).2 h.1),ey r (by decide),(hf _).1,xM]
  rw[this]
  exact u
theorem Vo: ∀(n:Nat) (r:Int),0≤r→r<2^n→∃k,k≤n∧iE r k
 |0,r,h0,h1=>⟨0,vJ _,by
   have:r=0:=by
    simp at h1
    lia
   rw[this];exact .z⟩
 |n+1,r,h0,h1=>by
  have u:0≤r/2:=io h0 (by decide)
  obtain⟨k,B,hs⟩:=Vo n (r/2) u (by rw[ry] at h1;exact yB (by decide) h1)
  have e:=zS r 2
  by_cases hb:r % 2=1
  ·rw[hb] at e
   refine⟨k+1,wH B,?_⟩
   rw[←e]
   refine .s (vQ (by decide) (vW (wZ (by decide) u) 1)) ?_
   have:vP (2*(r/2)+1) (2*(r/2)+1-1)=2*(r/2):=by
    rw[lh,ro,if_neg (λh=>(hf (r/2)).2 h.2),(hf (r/2)).1,ey (r/2) (by decide),and_self u,xM]
   rw[this]
   exact So hs
  ·rw[(Int.emod_two_eq r).resolve_right hb,xM] at e
   exact⟨k,yM B,e▸So hs⟩
noncomputable def W7:Nat→Int→Int
 |0,c=>c
 |k+1,c=>W7 k (c+1)
section
variable{m:Nat}{K:AV→AH→Prop}{a b:AV}{H:AH}
theorem fH{r:Int}{k:Nat}(h:iE r k): ∀{e:Nat} {c:Int} (N:AJ→AH→Prop),k<e→KI (λr H K=>tE m (.cmp (qV 6) [.Gt] [qI 0]) r H K tX) (λr H N=>Dz m [qN 6 (.bin .BitAnd (qV 6) (.bin .Sub (qV 6) (qI 1))),qN 7 (.bin .Add (qV 7) (qI 1))] r H N K tX) e [(1,a),(0,b),(6,.int r),(7,.int c)] H N→N [(1,a),(0,b),(6,.int 0),(7,.int (W7 k c))] H:=by
 induction h with
 |z=>exactλ{e c} N hf q=>match e,hf,q with
  |_+1,_,q=>q .ff (y5 0)
 |s B _ u=>exactλ{e c} N hf q=>match e,hf,q with
  |_+1,hf,q=>u N (wQ hf) (q .tt B)
end
theorem QV{w s:Int}(e:0≤s)(h1:s≤64): ∃c:Int,∀m H,AB AA (m+3) (nm "ones") [.int w,.int s] H=ok (.int c) H:=
 by
 obtain⟨k,hk,hs⟩:=Vo 64 (W w s) Cl (Ce h1)
 exact⟨W7 k 0,λm H=>cq gV λC q=>q .call _ _ (wrap_s e (u9 h1 (by decide))) .dem _ _ λN=>fH hs N (vY hk (by decide))⟩
theorem Wp{w:Int}: ∃c:Int,∀m H,AB AA (m+4) (nm "parity") [.int w] H=ok (.int c) H:=by
 obtain⟨c,hc⟩:=QV (w:=w) (s:=8) (by decide) (by decide)
 refine⟨1-c.fmod 2,λm H=>?_⟩
 refine cq YO λC=>?_
 simp_arith[hc]
theorem lK{w s:Int}(e:0≤s)(h1:s≤64): ∃c:Int,∀m H,AB AA (m+4) (nm "lowest_bit") [.int w,.int s] H=ok (.int c) H:=by
 by_cases h:W w s=0
 ·refine⟨-1,λm H=>?_⟩
  refine cq G3 λC=>?_
  simp_arith[wrap_s,h]
 ·obtain⟨c,hc⟩:=QV (w:=vP (W w s) (-(W w s))-1) (s:=s) e h1
  refine⟨c,λm H=>?_⟩
  refine cq G3 λC=>?_
  simp_arith[wrap_s,h,hc]
section
variable{m:Nat}{K:AV→AH→Prop}{a b:AV}{H:AH}
theorem lH{r:Int}:r.fdiv (2^(1:Int).toNat)=r/2:=by
 rw[x7 _ (by decide)]
 rfl
theorem W8: ∀{n:Nat} {r:Int},0≤r→r<2^n→∃k,k≤n∧∀{m K a b H} {e:Nat} {c:Int} (N:AJ→AH→Prop),k<e→KI (λr H K=>tE m (.cmp (qV 6) [.Gt] [qI 0]) r H K tX) (λr H N=>Dz m [qN 6 (.bin .RShift (qV 6) (qI 1)),qN 8 (.bin .Add (qV 8) (qI 1))] r H N K tX) e [(1,a),(0,b),(6,.int r),(8,.int c)] H N→N [(1,a),(0,b),(6,.int 0),(8,.int (W7 k c))] H
 |0,r,h0,h1=>⟨0,vJ _,λ{m K a b H e c} N hf q=>by
   have:r=0:=by simp at h1;lia
   subst this
   exact match e,hf,q with
    |_+1,_,q=>q .ff (y5 0)⟩
 |n+1,r,h0,h1=>by
  by_cases u:r=0
  ·subst u
   exact⟨0,w3 _,λ{m K a b H e c} N hf q=>match e,hf,q with
    |_+1,_,q=>q .ff (y5 0)⟩
  ·have hp:0<r:=by lia
   obtain⟨k,B,hd⟩:=W8 (n:=n) (r:=r.fdiv (2^(1:Int).toNat)) (by rw[lH];lia) (by rw[lH];rw[ry] at h1;exact yB (by decide) h1)
   exact⟨k+1,wH B,λ{m K a b H e c} N hf q=>match e,hf,q with
     |_+1,hf,q=>hd N (wQ hf) (q .tt hp (by decide))⟩
end
theorem jO{w s:Int}(e:0≤s)(h1:s≤64): ∃c:Int,∀m H,AB AA (m+3) (nm "highest_bit") [.int w,.int s] H=ok (.int c) H:=
 by
 obtain⟨k,hk,hd⟩:=W8 (n:=64) (r:=W w s) Cl (Ce h1)
 exact⟨W7 k (-1),λm H=>cq K4 λC q=>q .call _ _ (wrap_s e (u9 h1 (by decide))) .dem _ _ λN=>hd N (vY hk (by decide))⟩
theorem WR: ∀(l:List AV) {t w:Int} {k:Nat},0≤t→t<2^k→k+8*l.length≤290→∃(t' O:Int) (J:AV→AV),∀{m:Nat} {K:AV→AH→Prop} {a b:AV} {H:AH} {x:AV} (N:AJ→AH→Prop),
  EZ (λr H N=>Dz m [qN 10 (.bin .BitOr (.bin .LShift (qV 10) (qI 8)) (.bin .BitAnd (qV 2) (qI 255))),qN 2 (.bin .RShift (qV 2) (qI 8))] r H N K tX) (.name 11) l [(1,a),(9,b),(2,.int w),(10,.int t),(11,x)] H N→N [(1,a),(9,b),(2,.int O),(10,.int t'),(11,J x)] H
 | [],t,w,k,h0,h1,e=>⟨t,w,id,λN q=>q⟩
 |x::l,t,w,k,h0,h1,e=>by
  simp only[xD] at e
  have B:k+8+8*l.length≤290:=u5 (vH (by rw[rq,zC,de 8])) e
  have hp:(2:Int) ^k≤2^290:=GN (u5 (wM _ _) e)
  have S:0≤t*256:=wZ h0 (by decide)
  have hb:=xH w (y:=255) (by decide)
  have Q:t*2^(8:Int).toNat=t*256:=rfl
  have D:0≤vG (t*2^(8:Int).toNat) (vP w 255):=N8 S hb.1
  have I:vG (t*2^(8:Int).toNat) (vP w 255)<2^(k+8):=by
   rw[xY,Int.pow_add,Q]
   have u:=xH (t*256) hb.1
   refine vL (yY _ u.1) (vQ (ke (vL hb.2 (show(255:Int)<256 by decide)) _) ?_)
   have:=xG (zY h1) (show(0:Int)≤256 by decide)
   rw[oa,yJ] at this
   exact this
  obtain⟨t',O,J,ht'⟩:=WR l (w:=w.fdiv (2^(8:Int).toNat)) D I B
  exact⟨t',O,λ_=>J x,λN q=>ht' N (q (by decide) (by decide) (Kj h0 (vQ h1 (u9 hp (by decide)))) (by decide))⟩
theorem iC{l:List AV}{w:Int}(u:8*l.length≤290): ∃(t:Int) (e:AV→AV→AJ),(∀a b,Ov 10 (e a b)=some (.int t))∧∀{m:Nat} {K:AV→AH→Prop} {a b:AV} {H:AH} (N:AJ→AH→Prop),
  EZ (λr H N=>Dz m [qN 10 (.bin .BitOr (.bin .LShift (qV 10) (qI 8)) (.bin .BitAnd (qV 2) (qI 255))),qN 2 (.bin .RShift (qV 2) (qI 8))] r H N K tX) (.name 11) l [(1,a),(9,b),(2,.int w),(10,.int 0)] H N→N (e a b) H:=by
 cases l with
 |nil=>exact⟨0,λa b=>[(1,a),(9,b),(2,.int w),(10,.int 0)],λ_ _=>rfl,λN q=>q⟩
 |cons x l=>
  have hb:=xH w (y:=255) (by decide)
  obtain⟨t,w',x',ht⟩:=WR (x::l) (t:=0) (w:=w) (k:=0) (by decide) (by decide) (by lia)
  exact⟨t,λa b=>[(1,a),(9,b),(2,.int w'),(10,.int t),(11,x' x)],λ_ _=>rfl,λ{m K a b H} N q=>ht (x:=x) N q⟩
theorem it_range{n:Int}{H:AH}(h:0≤n∧n≤1000000):BF .range [.int n] H=some ((wD n.toNat).map λ(i:Nat)=>.int (i:Int)):=by
 exact if_pos h
theorem UT{w v:Int}(u:0≤v)(h1:v≤8): ∃c:Int,∀m H,AB AA (m+3) (nm "swapped") [.int w,.int v] H=ok (.int c) H:=by
 obtain⟨t,r,e,ht⟩:=iC (l:=(wD v.toNat).map λ(i:Nat)=>.int (i:Int)) (w:=W w (8*v)) (by simp;lia)
 refine⟨t,λm H=>cq UA λC q=>?_⟩
 have q:=q (.inl (by decide)) .call _ _ (wrap_s (by lia) (by lia)) .dem _ (it_range ⟨u,by lia⟩) .dem _ _ λN=>ht N
 have q:tO (Ov 10 (r (.int w) (.int v))) λv=>C (ok v H):=q
 rw[e] at q
 exact q
theorem masked_s{m:Nat}{w s:Int}{H:AH}:AB AA (m+3) (nm "masked_count") [.int w,.int s] H=ok (.int (W w (if s=64 then 6 else 5))) H:=by
 refine cq JN λC=>?_
 by_cases h:s=64
 ·rw[if_pos h];simp_arith[wrap_s]
 ·rw[if_neg h];simp_arith[wrap_s]
theorem HN{m:Nat}{w t s:Int}{H:AH}(B:0≤s)(h1:s≤100)(e:0≤t)(h3:t≤s)(u:w.natAbs<2^300):AB AA (m+3) (nm "turned_left") [.int w,.int t,.int s] H=ok (.int (vG (W (w*2^t.toNat) s) (w.fdiv (2^(s-t).toNat)))) H:=by
 refine cq Kv λC=>?_
 simp_arith[wrap_s]
noncomputable abbrev T3(f:Str)(as:List AV):Prop:=∃r c o:Int,∀m H,AB AA (m+6) f as H=ok (.tuple [.int r,.int c,.int o]) H
theorem TW{a:Str}(e:a=nm "shl"∨a=nm "shr"∨a=nm "sar"){w c s:Int}(u:1≤s)(h1:s≤64)(B:1≤c)(h3:c≤64)(D:0≤w)(I:w<2^64):T3 (nm "shifted") [.str a,.int w,.int c,.int s]:=by
 have hb:=cV (w:=w) u (by lia)
 rcases e with rfl|rfl|rfl
 ·by_cases h:c<s
  ·apply vK;apply vK;apply vK;intro m H
   refine cq Dn λC=>?_
   simp_arith[wrap_s,bit_s]
  ·apply vK;apply vK;apply vK;intro m H
   refine cq Dn λC=>?_
   simp_arith[wrap_s,bit_s]
 ·by_cases h:c<s
  ·apply vK;apply vK;apply vK;intro m H
   refine cq Dn λC=>?_
   simp_arith[wrap_s,bit_s]
  ·apply vK;apply vK;apply vK;intro m H
   refine cq Dn λC=>?_
   simp_arith[wrap_s,bit_s]
 ·apply vK;apply vK;apply vK;intro m H
  refine cq Dn λC=>?_
  simp_arith[wrap_s,signed_s]
theorem Bn{c s:Int}(h:1≤s):0≤c.fmod s∧c.fmod s<s:=⟨ij _ (by lia),lg _ (by lia)⟩
theorem Uy{a:Str}(e:a=nm "rol"∨a=nm "ror"){w c s:Int}(D:2≤s)(h1:s≤64)(u:0≤w)(B:w<2^64):T3 (nm "rotated") [.str a,.int w,.int c,.int s]:=by
 have f1:=Bn (c:=c) (s:=s) (by lia)
 have f2:=Bn (c:=s-c.fmod s) (s:=s) (by lia)
 rcases e with rfl|rfl
 ·apply vK;apply vK;apply vK;intro m H
  refine cq Lu λC=>?_
  simp_arith[HN,bit_s]
 ·apply vK;apply vK;apply vK;intro m H
  refine cq Lu λC=>?_
  simp_arith[HN,bit_s]
theorem Qa{a:Str}(J:a=nm "rcl"∨a=nm "rcr"){w y c s:Int}(U:2≤s)(h1:s≤64)(e:0≤w)(I:w<2^64)(D:0≤y)(O:y≤1):T3 (nm "rotated_through") [.str a,.int w,.int y,.int c,.int s]:=by
 have f1:=Bn (c:=c) (s:=s+1) (by lia)
 have f2:=Bn (c:=s+1-c.fmod (s+1)) (s:=s+1) (by lia)
 have hp:(2:Int) ^s.toNat≤2^64:=GN (by lia)
 have u:(0:Int)<2^s.toNat:=zU (by decide)
 have hy:0≤y*2^s.toNat∧y*2^s.toNat≤2^64:=by
  exact⟨wZ D (vU u),u9 (xG O (vU u)) (by rw[yJ];exact hp)⟩
 have Q:=N8 hy.1 e
 have B:=oV hy.1 e
 have S:(vG (y*2^s.toNat) w).natAbs<2^300:=Kj Q (vL (u9 B (bl hy.2 (vU I))) (by decide))
 rcases J with rfl|rfl
 ·apply vK;apply vK;apply vK;intro m H
  refine cq DO λC=>?_
  simp_arith[HN,wrap_s,bit_s]
 ·apply vK;apply vK;apply vK;intro m H
  refine cq DO λC=>?_
  simp_arith[HN,wrap_s,bit_s]
theorem YS{a:Str}(e:a=nm "shld"∨a=nm "shrd"){w o c s:Int}(O:2≤s)(h1:s≤64)(u:1≤c)(B:0≤w)(I:w<2^64)(D:0≤o)(J:o<2^64):(c≤s∧T3 (nm "double_shifted") [.str a,.int w,.int o,.int c,.int s])∨(∀m H,AB AA (m+6) (nm "double_shifted") [.str a,.int w,.int o,.int c,.int s] H=ok .none H):=by
 by_cases hc:s<c
 ·refine .inr λm H=>?_
  refine cq B8 λC=>?_
  simp_arith[]
 ·refine .inl ⟨by lia,?_⟩
  rcases e with rfl|rfl
  ·apply vK;apply vK;apply vK;intro m H
   refine cq B8 λC=>?_
   simp_arith[wrap_s,bit_s]
  ·apply vK;apply vK;apply vK;intro m H
   refine cq B8 λC=>?_
   simp_arith[wrap_s,bit_s]
set_option tactic.hygienic true in
theorem HY{w o s:Int}{b:Bool}(u:1≤s)(h1:s≤64)(I:0≤w)(O:w<2^64)(J:0≤o)(Q:o<2^64): ∃r c o':Int,0≤c∧c<2^64∧∀m H,AB AA (m+6) (nm "product") [.int w,.int o,.int s,.bool b] H=ok (.tuple [.int r,.int c,.int o']) H:=by
 cases b with
 |true=>
  have B: ∀{w:Int},(Sg w s).natAbs<2^64:=by
   intro w
   unfold Sg
   have a:=Cl (w:=w) (s:=s)
   have b:=Ke (w:=w) (s:=s)
   have c:(2:Int) ^s.toNat≤2^64:=GN (by lia)
   split
   ·rename_i h
    have:W w s≠0:=by
     intro e
     rw[e] at h
     simp at h
    exact sO a b c this
   ·exact sT a b c
  have D:=B (w:=w)
  obtain⟨f,hf⟩:=P9 (w:=Sg w s*Sg o s) (s:=s) u (by lia)
  refine⟨W (Sg w s*Sg o s) s,W ((Sg w s*Sg o s).fdiv (2^s.toNat)) s,if f then 0 else 1,Cl,Ce h1,λm H=>?_⟩
  refine cq Hb λC=>?_
  cases f
  ·simp_arith[wrap_s,signed_s,hf]
  ·simp_arith[wrap_s,signed_s,hf]
 |false=>
  by_cases h:(w*o).fdiv (2^s.toNat)=0
  ·refine⟨W (w*o) s,W ((w*o).fdiv (2^s.toNat)) s,0,Cl,Ce h1,λm H=>?_⟩
   refine cq Hb λC=>?_
   simp_arith[wrap_s,h]
  ·refine⟨W (w*o) s,W ((w*o).fdiv (2^s.toNat)) s,1,Cl,Ce h1,λm H=>?_⟩
   refine cq Hb λC=>?_
   simp_arith[wrap_s,h]
theorem T8{a:Str}(e:a=nm "bsf"∨a=nm "bsr"∨a=nm "popcnt"∨a=nm "lzcnt"∨a=nm "tzcnt"){w s:Int}(B:1≤s)(h1:s≤64):((a=nm "bsf"∨a=nm "bsr")∧w=0∧∀m H,AB AA (m+6) (nm "scanned") [.str a,.int w,.int s] H=ok .none H)∨(∃r:Int,∀m H,AB AA (m+6) (nm "scanned") [.str a,.int w,.int s] H=ok (.int r) H):=by
 obtain⟨c1,e1⟩:=QV (w:=w) (s:=s) (by lia) h1
 obtain⟨c2,e2⟩:=lK (w:=w) (s:=s) (by lia) h1
 obtain⟨u,e3⟩:=jO (w:=w) (s:=s) (by lia) h1
 by_cases h:w=0
 ·subst h
  rcases e with rfl|rfl|rfl|rfl|rfl
  ·exact .inl ⟨.inl rfl,rfl,λm H=>by
    refine cq FQ λC=>?_
    simp_arith[]⟩
  ·exact .inl ⟨.inr rfl,rfl,λm H=>by
    refine cq FQ λC=>?_
    simp_arith[]⟩
  all_goals
   right
   apply vK;intro m H
   refine cq FQ λC=>?_
   simp_arith[e1]
 ·right
  rcases e with rfl|rfl|rfl|rfl|rfl
  all_goals
   apply vK;intro m H
   refine cq FQ λC=>?_
   simp_arith[e1,e2,e3]
theorem VQ{a:Str}(e:a=nm "bts"∨a=nm "btr"∨a=nm "btc"){w n:Int}(u:0≤n)(h1:n≤64): ∃r:Int,∀m H,AB AA (m+6) (nm "with_bit") [.str a,.int w,.int n] H=ok (.int r) H:=by
 rcases e with rfl|rfl|rfl
 ·apply vK;intro m H
  refine cq GM λC=>?_
  simp_arith[bit_s]
 ·by_cases h:Bt w n=1
  all_goals
   apply vK;intro m H
   refine cq GM λC=>?_
   simp_arith[bit_s]
 ·apply vK;intro m H
  refine cq GM λC=>?_
  simp_arith[bit_s]
theorem Yg{m:Nat}{f:Str}{vs:List AV}{H:AH}(u:(f==nm "Memory.written")=false)(h:AA.fn f=uZ)(hc:AA.cls f=uZ)(hs:(f==nm "sorted")=false):AB AA (m+1) f vs H=B7 f vs H:=by
 show(if f=nm "Memory.written" then _ else match AA.fn f with|some d=>_|uZ=>match AA.cls f with|some d=>_|uZ=>if f=nm "sorted" then _ else _)=_
 rw[if_neg (λe=>by rw[e,beq_self_eq_true] at u;cases u),h,hc]
 exact if_neg (λe=>by rw[e,beq_self_eq_true] at hs;cases hs)
theorem o7{m:Nat}{x:Int}{H:AH}:AB AA (m+1) (nm "abs") [.int x] H=ok (.int (if x<0 then-x else x)) H:=Yg (by decide+kernel) jI f0 (by decide+kernel)
theorem dL{m:Nat}{x:Int}{H:AH}:AB AA (m+1) (nm "abs") [.int x] H=ok (.int (x.natAbs:Int)) H:=by
 rw[o7,show(if x<0 then-x else x)=(x.natAbs:Int)by
  split
  ·exact(Int.ofNat_natAbs_of_nonpos (vU ‹_›)).symm
  ·exact(jq (Int.not_lt.mp ‹_›)).symm]
theorem Qf{w d s:Int}{b:Bool}(O:1≤s)(h1:s≤64)(D:0≤d)(B:d<2^s.toNat):(∀m H,AB AA (m+6) (nm "quotient") [.int w,.int d,.int s,.bool b] H=some (.exc Av H))∨(∃r c:Int,0≤c∧c<2^64∧∀m H,AB AA (m+6) (nm "quotient") [.int w,.int d,.int s,.bool b] H=ok (.tuple [.int r,.int c]) H):=by
 have hp:(2:Int) ^s.toNat≤2^64:=GN (by lia)
 have J:d<2^64:=vQ B hp
 by_cases S:d=0
 ·refine .inl λm H=>?_
  refine cq A6 λC=>?_
  simp_arith[]
 ·cases b with
  |false=>
   have hf:=Bn (c:=w) (s:=d) (by lia)
   by_cases Z:(w.fdiv d).fdiv (2^s.toNat)=0
   ·refine .inr ⟨w.fdiv d,w.fmod d,hf.1,w5 hf.2 J,λm H=>?_⟩
    refine cq A6 λC=>?_
    simp_arith[]
   ·refine .inl λm H=>?_
    refine cq A6 λC=>?_
    simp_arith[]
  |true=>
   have hd:W d s=d:=bo D B
   have hb:=cV (w:=d) O (by lia)
   have Q:Sg d s≠0:=by
    unfold Sg
    rw[hd]
    split
    ·exactλe=>absurd (Int.sub_eq_zero.mp (yJ (2^s.toNat)▸e)) (Int.ne_of_lt B)
    ·exact S
   have I:(Sg d s).natAbs<2^64:=by
    unfold Sg
    rw[hd]
    split
    ·exact sO D B hp S
    ·exact sT D B hp
   obtain⟨f,hf⟩:=P9 (w:= -(((Sg w (2*s)).natAbs:Int).fdiv ((Sg d s).natAbs:Int))) (s:=s) O (by lia)
   obtain⟨g,hg⟩:=P9 (w:=((Sg w (2*s)).natAbs:Int).fdiv ((Sg d s).natAbs:Int)) (s:=s) O (by lia)
   have U:((Sg d s).natAbs:Int)≠0:=λe=>Q (Int.natAbs_eq_zero.mp (Int.ofNat_eq_zero.mp e))
   have Y:((Sg d s).natAbs:Int).natAbs<2^300:=n_up I
   have u:= @dL
   by_cases p1:Sg w (2*s)<0
   ·by_cases p2:Sg d s<0
    ·clear hf
     cases g with
     |false=>
      refine .inl λm H=>cq A6 λC=>?_
      simp_arith[u,hg,signed_s]
     |true=>
      refine .inr ⟨W (((Sg w (2*s)).natAbs:Int).fdiv ((Sg d s).natAbs:Int)) s,W (Sg w (2*s)-(((Sg w (2*s)).natAbs:Int).fdiv ((Sg d s).natAbs:Int))*Sg d s) s,Cl,Ce h1,λm H=>cq A6 λC=>?_⟩
      simp_arith[u,hg,signed_s,wrap_s]
    ·clear hg
     cases f with
     |false=>
      refine .inl λm H=>cq A6 λC=>?_
      simp_arith[u,hf,signed_s]
     |true=>
      refine .inr ⟨W (-(((Sg w (2*s)).natAbs:Int).fdiv ((Sg d s).natAbs:Int))) s,W (Sg w (2*s)-(-(((Sg w (2*s)).natAbs:Int).fdiv ((Sg d s).natAbs:Int)))*Sg d s) s,Cl,Ce h1,λm H=>cq A6 λC=>?_⟩
      simp_arith[u,hf,signed_s,wrap_s]
   ·by_cases p2:Sg d s<0
    ·clear hg
     cases f with
     |false=>
      refine .inl λm H=>cq A6 λC=>?_
      simp_arith[u,hf,signed_s]
     |true=>
      refine .inr ⟨W (-(((Sg w (2*s)).natAbs:Int).fdiv ((Sg d s).natAbs:Int))) s,W (Sg w (2*s)-(-(((Sg w (2*s)).natAbs:Int).fdiv ((Sg d s).natAbs:Int)))*Sg d s) s,Cl,Ce h1,λm H=>cq A6 λC=>?_⟩
      simp_arith[u,hf,signed_s,wrap_s]
    ·clear hf
     cases g with
     |false=>
      refine .inl λm H=>cq A6 λC=>?_
      simp_arith[u,hg,signed_s]
     |true=>
      refine .inr ⟨W (((Sg w (2*s)).natAbs:Int).fdiv ((Sg d s).natAbs:Int)) s,W (Sg w (2*s)-(((Sg w (2*s)).natAbs:Int).fdiv ((Sg d s).natAbs:Int))*Sg d s) s,Cl,Ce h1,λm H=>cq A6 λC=>?_⟩
      simp_arith[u,hg,signed_s,wrap_s]
inductive Rg where
 |gpr (a:Str) (n s:Int)
 |high (a:Str) (n:Int)
noncomputable def Rg.av:Rg→AV
 |.gpr a n s=>DH a (nm "gpr") n s
 |.high a n=>DH a (nm "high") n 8
noncomputable def Rg.size:Rg→Int
 |.gpr _ _ s=>s
 |.high _ _=>8
noncomputable def Rg.num:Rg→Int
 |.gpr _ n _=>n
 |.high _ n=>n-4
noncomputable def Sz(s:Int):Prop:=s=8∨s=16∨s=32∨s=64
noncomputable def Rg.OK:Rg→Prop
 |.gpr _ n s=>0≤n∧n<16∧Sz s
 |.high _ n=>4≤n∧n<8
noncomputable def HX(r:AV):AV:=.obj (nm "Reg") [nm "kind",nm "register"] [.str (nm "reg"),r]
noncomputable def NZ(w:Int):AV:=.obj (nm "Imm") [nm "kind",nm "worth",nm "name"] [.str (nm "imm"),.int w,.str (nm "")]
noncomputable def B0(b i:AV)(sc d s:Int):AV:=.obj (nm "Mem") [nm "kind",nm "base",nm "index",nm "scale",nm "worth",nm "size",nm "segment",nm "name"] [.str (nm "mem"),b,i,.int sc,.int d,.int s,.str (nm ""),.str (nm "")]
noncomputable def AG(a:Str)(l:List AV):AV:=.obj (nm "Instruction") [nm "name",nm "operands",nm "prefix"] [.str a,.tuple l,.str (nm "")]
inductive AP where
 |reg (g:Rg)
 |imm (w:Int)
 |mem (b i:Option (Str×Int)) (sc d s:Int)
noncomputable def B5:Option (Str×Int)→AV
 |uZ=>.none
 |some (a,n)=>DH a (nm "gpr") n 64
noncomputable def AP.av:AP→AV
 |.reg g=>HX g.av
 |.imm w=>NZ w
 |.mem b i sc d s=>B0 (B5 b) (B5 i) sc d s
noncomputable def UC(o:Option (Str×Int)):Prop:=∀p∈o,0≤p.2∧p.2<16
noncomputable def AP.OK:AP→Prop
 |.reg g=>g.OK
 |.imm _=>True
 |.mem b i sc _ s=>UC b∧UC i∧Sz s∧0<sc∧sc<10
noncomputable def Be(b:Nat):AV:=.obj (nm "Memory") [nm "held"] [.ref (b+3)]
noncomputable def Ae(b:Nat):AV:=.obj (nm "State") [nm "iset",nm "regs",nm "xmm",nm "flags",nm "memory",nm "rip",nm "begin",nm "segments",nm "is_halted"] [.none,.ref b,.ref (b+1),.mobj (nm "Flags") (b+2),Be b,.int 0,.int 0,.dict [nm "fs",nm "gs"] [.int 0,.int 0],.bool false]
structure St where
 regs:Int→Int
 xmm:Int→Int
 fl:Nat→Int
 mem:List (Int×Int)
noncomputable def BZ(r:Int→Int):List AV:=(wD 16).map λ(i:Nat)=>.int (r (i:Int))
noncomputable def aC:List Str:=[nm "cf",nm "pf",nm "af",nm "zf",nm "sf",nm "of",nm "df"]
noncomputable def Ps(f:Nat→Int):List AV:=(wD 7).map λi=>.int (f i)
noncomputable def Ds(l:List (Int×Int)):List (Int×AV):=l.map λp=>(p.1,.int p.2)
noncomputable def up(H:AH)(b:Nat)(s:St):AH:=(((H.set b (.list (BZ s.regs))).set (b+1) (.list (BZ s.xmm))).set (b+2) (.inst (nm "Flags") aC (Ps s.fl))).set (b+3) (.dict (Ds s.mem))
noncomputable def Dh(r:Int→Int)(n v:Int):Int→Int:=λi=>if i=n then v else r i
noncomputable def DC(r:Nat→Int)(n:Nat)(v:Int):Nat→Int:=λi=>if i=n then v else r i
noncomputable def NL(s:St)(k:Nat)(v:Int):St:={s with fl:=DC s.fl k v}
noncomputable def rK(s:St)(n v:Int):St:={s with regs:=Dh s.regs n v}
section
variable{H:AH}{b:Nat}{s:St}{x:Str}
theorem g9(h:b+3<H.length):(up H b s)[b]?=some (.list (BZ s.regs)):=by
 simp only[up,xI]
 simp
 lia
theorem mJ(h:b+3<H.length):(up H b s)[b+1]?=some (.list (BZ s.xmm)):=by
 simp only[up,xI]
 simp
 lia
theorem fD(h:b+3<H.length):(up H b s)[b+2]?=some (.inst (nm "Flags") aC (Ps s.fl)):=by
 simp only[up,xI]
 simp
 lia
theorem ZM(h:b+3<H.length):(up H b s)[b+3]?=some (.dict (Ds s.mem)):=by
 simp only[up,xI]
 simp
 lia
theorem nM{r:Int→Int}:(up H b s).set b (.list (BZ r))=up H b {s with regs:=r}:=by
 apply zT
 intro j
 simp only[up,xI,am]
 by_cases e:b=j
 ·simp only[e,if_true]
  simp
 ·simp only[e,if_false]
theorem lM{f:Nat→Int}:(up H b s).set (b+2) (.inst (nm "Flags") aC (Ps f))=up H b {s with fl:=f}:=by
 apply zT
 intro j
 simp only[up,xI,am]
 by_cases e:b+2=j
 ·subst e
  simp
 ·simp only[e,if_false]
theorem lJ{l:List (Int×Int)}:(up H b s).set (b+3) (.dict (Ds l))=up H b {s with mem:=l}:=by
 apply zT
 intro j
 simp only[up,xI,am]
 by_cases e:b+3=j
 ·simp only[e,if_true]
 ·simp only[e,if_false]
theorem Nm{r:Int→Int}{n:Int}(e:0≤n)(h1:n<16):(BZ r)[n.toNat]?=some (.int (r n)):=by
 unfold BZ
 rw[xJ,ae (by lia)]
 simp only[aj]
 rw[wA e]
theorem OF{r:Int→Int}{n v:Int}(u:0≤n)(h1:n<16):(BZ r).set n.toNat (.int v)=BZ (Dh r n v):=by
 apply zT
 intro j
 unfold BZ Dh
 rw[xI,xJ,xJ]
 by_cases e:n.toNat=j
 ·subst e
  rw[if_pos rfl,if_pos (by simp;lia),ae (by lia)]
  simp only[aj,wA u,if_true]
 ·rw[if_neg e]
  by_cases hl:j<16
  ·rw[ae hl]
   simp only[aj]
   rw[if_neg (by lia)]
  ·rw[List.getElem?_eq_none (by simp;lia)]
   rfl
theorem iT{H:AH}{a:Nat}{l:List AV}{i:Int}(h:H[a]?=some (.list l)):Bb (.ref a) (.int i) H=if 0≤i∧i<2^60 then l[i.toNat]? else uZ:=by
 show(match H[a]? with|some (.list l)=>if 0≤i∧i<2^60 then l[i.toNat]? else uZ|some (.dict es)=>Ah es i|_=>uZ)=_
 rw[h]
theorem iN{H:AH}{a:Nat}{l:List AV}{k:Int}{v:AV}(h:H[a]?=some (.list l)):A0 (.ref a) (.int k) v H=if 0≤k∧k<l.length∧l.length≤1000000 then some (H.set a (.list (l.set k.toNat v)))else uZ:=by
 show(match H[a]? with|some (.list l)=>if 0≤k∧k<l.length∧l.length≤1000000 then some (H.set a (.list (l.set k.toNat v)))else uZ|some (.dict es)=>if es.length≤1000000 then some (H.set a (.dict (BN es k v)))else uZ|_=>uZ)=_
 rw[h]
theorem rH{H:AH}{a:Nat}{es:List (Int×AV)}{k:Int}{v:AV}(h:H[a]?=some (.dict es)):A0 (.ref a) (.int k) v H=if es.length≤1000000 then some (H.set a (.dict (BN es k v)))else uZ:=by
 show(match H[a]? with|some (.list l)=>if 0≤k∧k<l.length∧l.length≤1000000 then some (H.set a (.list (l.set k.toNat v)))else uZ|some (.dict es)=>if es.length≤1000000 then some (H.set a (.dict (BN es k v)))else uZ|_=>uZ)=_
 rw[h]
theorem sub_reg{n:Int}(hb:b+3<H.length)(e:0≤n)(h1:n<16):Bb (.ref b) (.int n) (up H b s)=some (.int (s.regs n)):=by
 rw[iT (g9 hb),if_pos ⟨e,by lia⟩,Nm e h1]
theorem put_reg{n v:Int}(hb:b+3<H.length)(e:0≤n)(h1:n<16):A0 (.ref b) (.int n) (.int v) (up H b s)=some (up H b (rK s n v)):=by
 rw[iN (g9 hb),if_pos ⟨e,by simp[BZ];lia,by simp[BZ]⟩,OF e h1,nM];rfl
theorem GG{x:Str}{k:Nat}(hb:b+3<H.length)(h: ∀f,C4 aC (Ps f) x=some (.int (f k))):Aj (.mobj (nm "Flags") (b+2)) x (up H b s)=some (.int (s.fl k)):=by
 show(match(up H b s)[b+2]? with|some (.inst e ks vs)=>if e=nm "Flags" then C4 ks vs x else uZ|_=>uZ)=_
 rw[fD hb]
 exact(if_pos rfl).trans (h _)
theorem GP{x:Str}{k:Nat}{v:Int}(hb:b+3<H.length)(h: ∀f,Jc aC (Ps f) x (.int v)=some (Ps (DC f k v))):BH (.mobj (nm "Flags") (b+2)) x (.int v) (up H b s)=some (up H b (NL s k v)):=by
 show(match(up H b s)[b+2]? with|some (.inst e ks vs)=>if e=nm "Flags"∧ks.length≤1000 then(Jc ks vs x (.int v)).map λvs'=>(up H b s).set (b+2) (.inst e ks vs')else uZ|_=>uZ)=_
 rw[fD hb]
 refine(if_pos ⟨rfl,by decide⟩).trans ?_
 rw[h,aj,lM];rfl
theorem at_cf(hb:b+3<H.length):Aj (.mobj (nm "Flags") (b+2)) (nm "cf") (up H b s)=some (.int (s.fl 0)):=GG hb λ_=>rfl
theorem at_pf(hb:b+3<H.length):Aj (.mobj (nm "Flags") (b+2)) (nm "pf") (up H b s)=some (.int (s.fl 1)):=GG hb λ_=>rfl
theorem at_af(hb:b+3<H.length):Aj (.mobj (nm "Flags") (b+2)) (nm "af") (up H b s)=some (.int (s.fl 2)):=GG hb λ_=>rfl
theorem at_zf(hb:b+3<H.length):Aj (.mobj (nm "Flags") (b+2)) (nm "zf") (up H b s)=some (.int (s.fl 3)):=GG hb λ_=>rfl
theorem at_sf(hb:b+3<H.length):Aj (.mobj (nm "Flags") (b+2)) (nm "sf") (up H b s)=some (.int (s.fl 4)):=GG hb λ_=>rfl
theorem at_of(hb:b+3<H.length):Aj (.mobj (nm "Flags") (b+2)) (nm "of") (up H b s)=some (.int (s.fl 5)):=GG hb λ_=>rfl
theorem at_df(hb:b+3<H.length):Aj (.mobj (nm "Flags") (b+2)) (nm "df") (up H b s)=some (.int (s.fl 6)):=GG hb λ_=>rfl
variable{v:Int}
theorem sa_cf(hb:b+3<H.length):BH (.mobj (nm "Flags") (b+2)) (nm "cf") (.int v) (up H b s)=some (up H b (NL s 0 v)):=GP hb λ_=>rfl
theorem sa_pf(hb:b+3<H.length):BH (.mobj (nm "Flags") (b+2)) (nm "pf") (.int v) (up H b s)=some (up H b (NL s 1 v)):=GP hb λ_=>rfl
theorem sa_af(hb:b+3<H.length):BH (.mobj (nm "Flags") (b+2)) (nm "af") (.int v) (up H b s)=some (up H b (NL s 2 v)):=GP hb λ_=>rfl
theorem sa_zf(hb:b+3<H.length):BH (.mobj (nm "Flags") (b+2)) (nm "zf") (.int v) (up H b s)=some (up H b (NL s 3 v)):=GP hb λ_=>rfl
theorem sa_sf(hb:b+3<H.length):BH (.mobj (nm "Flags") (b+2)) (nm "sf") (.int v) (up H b s)=some (up H b (NL s 4 v)):=GP hb λ_=>rfl
theorem sa_of(hb:b+3<H.length):BH (.mobj (nm "Flags") (b+2)) (nm "of") (.int v) (up H b s)=some (up H b (NL s 5 v)):=GP hb λ_=>rfl
theorem sa_df(hb:b+3<H.length):BH (.mobj (nm "Flags") (b+2)) (nm "df") (.int v) (up H b s)=some (up H b (NL s 6 v)):=GP hb λ_=>rfl
theorem jM(hb:b+3<H.length):E8 (.mobj (nm "Flags") (b+2)) (up H b s)=true:=by
 show(match(up H b s)[b+2]? with|some (.inst e _ _)=>e==nm "Flags"|_=>false)=true
 rw[fD hb]
 exact beq_self_eq_true _
theorem m9(hb:b+3<H.length):E8 (.ref (b+3)) (up H b s)=true:=by
 show(match(up H b s)[b+3]? with|some (.dict _)=>true|_=>false)=true
 rw[ZM hb]
end
section
variable{H:AH}{b:Nat}{a k:Str}{n z:Int}{r p q:AV}{l as:List AV}{j:Nat}
theorem rg_kind:Aj (DH a k n z) (nm "kind") H=some (.str k):=id rfl
theorem rg_num:Aj (DH a k n z) (nm "number") H=some (.int n):=id rfl
theorem rg_size:Aj (DH a k n z) (nm "size") H=some (.int z):=id rfl
theorem or_kind:Aj (HX r) (nm "kind") H=some (.str (nm "reg")):=id rfl
theorem or_reg:Aj (HX r) (nm "register") H=some r:=id rfl
theorem oi_kind:Aj (NZ n) (nm "kind") H=some (.str (nm "imm")):=id rfl
theorem oi_worth:Aj (NZ n) (nm "worth") H=some (.int n):=id rfl
theorem oi_name:Aj (NZ n) (nm "name") H=some (.str (nm "")):=id rfl
variable{sc d s:Int}
theorem om_kind:Aj (B0 p q sc d s) (nm "kind") H=some (.str (nm "mem")):=id rfl
theorem om_base:Aj (B0 p q sc d s) (nm "base") H=some p:=id rfl
theorem om_index:Aj (B0 p q sc d s) (nm "index") H=some q:=id rfl
theorem om_scale:Aj (B0 p q sc d s) (nm "scale") H=some (.int sc):=id rfl
theorem om_worth:Aj (B0 p q sc d s) (nm "worth") H=some (.int d):=id rfl
theorem om_size:Aj (B0 p q sc d s) (nm "size") H=some (.int s):=id rfl
theorem om_seg:Aj (B0 p q sc d s) (nm "segment") H=some (.str (nm "")):=id rfl
theorem in_name:Aj (AG a l) (nm "name") H=some (.str a):=id rfl
theorem in_ops:Aj (AG a l) (nm "operands") H=some (.tuple l):=id rfl
theorem in_pre:Aj (AG a l) (nm "prefix") H=some (.str (nm "")):=id rfl
theorem st_regs:Aj (Ae b) (nm "regs") H=some (.ref b):=id rfl
theorem st_xmm:Aj (Ae b) (nm "xmm") H=some (.ref (b+1)):=id rfl
theorem st_flags:Aj (Ae b) (nm "flags") H=some (.mobj (nm "Flags") (b+2)):=id rfl
theorem st_mem:Aj (Ae b) (nm "memory") H=some (Be b):=id rfl
theorem st_rip:Aj (Ae b) (nm "rip") H=some (.int 0):=id rfl
theorem st_halt:Aj (Ae b) (nm "is_halted") H=some (.bool false):=id rfl
theorem st_segs:Aj (Ae b) (nm "segments") H=some (.dict [nm "fs",nm "gs"] [.int 0,.int 0]):=id rfl
theorem me_held:Aj (Be b) (nm "held") H=some (.ref (b+3)):=id rfl
variable{v:AV}{H0 H1 H2:AH}{t:St}
theorem Nt{c:Str}{ks:List Str}{vs:List AV}{x f:Str}(h:AA.meth c x=some f)(e:AB AA j f (.obj c ks vs::as) H=ok v H1):Af j (.obj c ks vs) x H0 as H v H1:=⟨rfl,by
 show(match AA.meth c x with|some f=>AB AA j f (.obj c ks vs::as) H|uZ=>uZ)=_
 rw[h];exact e⟩
theorem Yk{x f:Str}(hb:b+3<H.length)(h:AA.meth (nm "Flags") x=some f)(e:AB AA j f (.mobj (nm "Flags") (b+2)::as) H2=ok v H1):Af j (.mobj (nm "Flags") (b+2)) x (up H b t) as H2 v H1:=⟨jM hb,by
 show(match AA.meth (nm "Flags") x with|some f=>AB AA j f (.mobj (nm "Flags") (b+2)::as) H2|uZ=>uZ)=_
 rw[h];exact e⟩
theorem ms_get(e:AB AA j (nm "State.get") (Ae b::as) H=ok v H1):Af j (Ae b) (nm "get") H0 as H v H1:=Nt O8 e
theorem ms_put(e:AB AA j (nm "State.put") (Ae b::as) H=ok v H1):Af j (Ae b) (nm "put") H0 as H v H1:=Nt Nk e
theorem ms_put_low(e:AB AA j (nm "State.put_low") (Ae b::as) H=ok v H1):Af j (Ae b) (nm "put_low") H0 as H v H1:=Nt Ij e
theorem ms_offset(e:AB AA j (nm "State.offset") (Ae b::as) H=ok v H1):Af j (Ae b) (nm "offset") H0 as H v H1:=Nt KG e
theorem ms_place(e:AB AA j (nm "State.place") (Ae b::as) H=ok v H1):Af j (Ae b) (nm "place") H0 as H v H1:=Nt KY e
theorem ms_size_of(e:AB AA j (nm "State.size_of") (Ae b::as) H=ok v H1):Af j (Ae b) (nm "size_of") H0 as H v H1:=Nt Ii e
theorem ms_read(e:AB AA j (nm "State.read") (Ae b::as) H=ok v H1):Af j (Ae b) (nm "read") H0 as H v H1:=Nt Me e
theorem ms_write(e:AB AA j (nm "State.write") (Ae b::as) H=ok v H1):Af j (Ae b) (nm "write") H0 as H v H1:=Nt K2 e
theorem ms_told(e:AB AA j (nm "State.told") (Ae b::as) H=ok v H1):Af j (Ae b) (nm "told") H0 as H v H1:=Nt NJ e
theorem mm_octet(e:AB AA j (nm "Memory.octet") (Be b::as) H=ok v H1):Af j (Be b) (nm "octet") H0 as H v H1:=Nt J7 e
theorem mm_set(e:AB AA j (nm "Memory.set_octet") (Be b::as) H=ok v H1):Af j (Be b) (nm "set_octet") H0 as H v H1:=Nt F8 e
theorem mm_read(e:AB AA j (nm "Memory.read") (Be b::as) H=ok v H1):Af j (Be b) (nm "read") H0 as H v H1:=Nt Km e
theorem mm_write(e:AB AA j (nm "Memory.write") (Be b::as) H=ok v H1):Af j (Be b) (nm "write") H0 as H v H1:=Nt Jf e
theorem mm_told(e:AB AA j (nm "Memory.told") (Be b::as) H=ok v H1):Af j (Be b) (nm "told") H0 as H v H1:=Nt Kl e
theorem mm_written(e:AB AA j (nm "Memory.written") (Be b::as) H=ok v H1):Af j (Be b) (nm "written") H0 as H v H1:=Nt Hw e
theorem mi_mem(e:AB AA j (nm "Instruction.memory_at") (AG a l::as) H=ok v H1):Af j (AG a l) (nm "memory_at") H0 as H v H1:=Nt Dm e
theorem mo_regs(e:AB AA j (nm "Mem.registers") (B0 p q sc d s::as) H=ok v H1):Af j (B0 p q sc d s) (nm "registers") H0 as H v H1:=Nt Il e
theorem mf_told(hb:b+3<H.length)(e:AB AA j (nm "Flags.told") (.mobj (nm "Flags") (b+2)::as) H2=ok v H1):Af j (.mobj (nm "Flags") (b+2)) (nm "told") (up H b t) as H2 v H1:=Yk hb NM e
theorem mf_pack(hb:b+3<H.length)(e:AB AA j (nm "Flags.pack") (.mobj (nm "Flags") (b+2)::as) H2=ok v H1):Af j (.mobj (nm "Flags") (b+2)) (nm "pack") (up H b t) as H2 v H1:=Yk hb MU e
theorem mf_unpack(hb:b+3<H.length)(e:AB AA j (nm "Flags.unpack") (.mobj (nm "Flags") (b+2)::as) H2=ok v H1):Af j (.mobj (nm "Flags") (b+2)) (nm "unpack") (up H b t) as H2 v H1:=Yk hb Ja e
theorem mf_get(hb:b+3<H.length)(e:AB AA j (nm "Flags.get") (.mobj (nm "Flags") (b+2)::as) H2=ok v H1):Af j (.mobj (nm "Flags") (b+2)) (nm "get") (up H b t) as H2 v H1:=Yk hb N4 e
theorem mf_put(hb:b+3<H.length)(e:AB AA j (nm "Flags.put") (.mobj (nm "Flags") (b+2)::as) H2=ok v H1):Af j (.mobj (nm "Flags") (b+2)) (nm "put") (up H b t) as H2 v H1:=Yk hb OD e
end
noncomputable def M5(l:List (Int×Int))(k:Int):Int:=((l.find? λp=>p.1=k).map (·.2)).getD 0
noncomputable def Hm(l:List (Int×Int))(k v:Int):List (Int×Int):=if l.any (λp=>p.1=k)then l.map (λp=>if p.1=k then(p.1,v)else p)else l++[(k,v)]
theorem Vd(l:List (Int×Int))(k:Int):(Ah (Ds l) k).getD (.int 0)=.int (M5 l k):=by
 unfold Ah Ds M5
 rw[List.find?_map]
 show(wK _ (wK _ (l.find? λp=>p.1=k))).getD _=_
 cases l.find? λp=>decide (p.1=k)<;>rfl
theorem Xx(l:List (Int×Int))(k v:Int):BN (Ds l) k (.int v)=Ds (Hm l k v):=by
 unfold BN Hm
 have e:(Ds l).any (λp=>decide (p.1=k))=l.any (λp=>decide (p.1=k)):=by
  unfold Ds
  rw[rx]
  rfl
 rw[e]
 split
 ·unfold Ds
  rw[bj,bj]
  apply jz
  intro p _
  simp only[Function.comp]
  split<;>rfl
 ·unfold Ds
  simp
noncomputable def qX(s:St)(k v:Int):St:={s with mem:=Hm s.mem k v}
section
variable{H:AH}{b:Nat}{s:St}{j:Nat}{x v:Int}
theorem md_get(hb:b+3<H.length):Af j (.ref (b+3)) (nm "get") (up H b s) [.int x,.int 0] (up H b s) (.int (M5 s.mem x)) (up H b s):=⟨m9 hb,by
 show(match(up H b s)[b+3]?,[AV.int x,AV.int 0] with|some (.dict es),[.int k,d]=>if nm "get"=nm "get" then rok ((Ah es k).getD d) (up H b s)else uZ|_,_=>uZ)=_
 rw[ZM hb]
 show(if nm "get"=nm "get" then rok ((Ah (Ds s.mem) x).getD (.int 0)) (up H b s)else uZ)=_
 rw[if_pos rfl,Vd]
 rfl⟩
theorem md_set(hb:b+3<H.length)(hl:s.mem.length≤1000):A0 (.ref (b+3)) (.int x) (.int v) (up H b s)=some (up H b (qX s x v)):=by
 rw[rH (ZM hb),if_pos (by simp[Ds];lia),Xx,lJ];rfl
end
noncomputable def Do(l:List (Int×Int)):Prop:=l.length≤60∧∀p∈l,0≤p.2∧p.2<256
theorem Mq{l:List (Int×Int)}(h:Do l)(k:Int):0≤M5 l k∧M5 l k<256:=by
 unfold M5
 cases e:l.find? λp=>decide (p.1=k)with
 |none=>simp
 |some p=>exact h.2 p (List.mem_of_find?_eq_some e)
noncomputable def kG(l:List (Int×Int))(p:Int):List Nat→Int→Int
 | [],a=>a
 |i::r,a=>kG l p r (a+M5 l (W (p+i) 64)*2^(8*(i:Int)).toNat)
noncomputable def Y2(l:List (Int×Int))(p w:Int):Int:=kG l p (wD w.toNat) 0
noncomputable def OI(p v:Int):List Nat→List (Int×Int)→List (Int×Int)
 | [],l=>l
 |i::r,l=>OI p v r (Hm l (W (p+i) 64) (vP (v.fdiv (2^(8*(i:Int)).toNat)) 255))
noncomputable def L5(l:List (Int×Int))(p w v:Int):List (Int×Int):=OI p v (wD w.toNat) l
theorem PL(l:List (Int×Int))(k v:Int):(Hm l k v).length≤l.length+1:=by
 unfold Hm
 split<;>simp
theorem Jd(p v:Int): ∀(r:List Nat) (l:List (Int×Int)),(OI p v r l).length≤l.length+r.length
 | [],l=>vJ _
 |i::r,l=>by
  rw[OI]
  have h1:=Jd p v r (Hm l (W (p+i) 64) (vP (v.fdiv (2^(8*(i:Int)).toNat)) 255))
  exact u5 h1 (u5 (xB (PL l (W (p+i) 64) (vP (v.fdiv (2^(8*(i:Int)).toNat)) 255)) _) (vH (ew _ _)))
section
variable{m j:Nat}{H:AH}{b:Nat}{s:St}{p v w:Int}
theorem octet_s(hb:b+3<H.length):AB AA (m+3) (nm "Memory.octet") [Be b,.int p] (up H b s)=ok (.int (M5 s.mem (W p 64))) (up H b s):=by
 refine cq KM λC=>?_
 simp_arith[]
theorem setoct_s(hb:b+3<H.length)(hl:s.mem.length≤1000):AB AA (m+3) (nm "Memory.set_octet") [Be b,.int p,.int v] (up H b s)=ok .none (up H b {s with mem:=Hm s.mem (W p 64) v}):=by
 refine cq GL λC=>?_
 simp_arith[]
theorem n7{K:AV→AH→Prop}{q:AV}(hb:b+3<H.length)(e:Do s.mem): ∀(l:List Nat) (i:Nat) (hl: ∀j∈i::l,j<100) (a:Int),∃x:AV,∀N:AJ→AH→Prop,
  EZ (λr H N=>Dz (j+3) [qN 1 (.bin .Add (qV 1) (.bin .LShift (qM (qV 83) "octet" [(.bin .Add (qV 8) (qV 30))]) (.bin .Mult (qI 8) (qV 30))))] r H N K tX) (.name 30) ((i::l).map λ(i:Nat)=>.int (i:Int)) [(83,Be b),(8,.int p),(9,q),(1,.int a)] (up H b s) N→
  N [(83,Be b),(8,.int p),(9,q),(1,.int (kG s.mem p (i::l) a)),(30,x)] (up H b s):=by
 intro l
 induction l with
 |nil=>
  intro i hl a
  have hi:i<100:=hl i xQ
  have hg:=Mq e (W (p+i) 64)
  exact⟨_,λN k=>k _ _ (mm_octet (octet_s hb)) (.inl (by decide)) (by lia) (by lia) (by lia)⟩
 |cons B r u=>
  intro i hl a
  have hi:i<100:=hl i xQ
  have hg:=Mq e (W (p+i) 64)
  obtain⟨x,hx⟩:=u B (λj h=>hl j (zA _ h)) (a+M5 s.mem (W (p+i) 64)*2^(8*(i:Int)).toNat)
  exact⟨x,λN k=>hx N (k _ _ (mm_octet (octet_s hb)) (.inl (by decide)) (by lia) (by lia) (by lia))⟩
theorem Yy{n:Nat}(h:0<n): ∃l,wD n=0::l∧∀j∈0::l,j<n:=by
 obtain⟨k,rfl⟩: ∃k,n=k+1:=⟨n-1,(dt h).symm⟩
 exact⟨_,ia,λj h=>List.mem_range.mp (by rw[ia];exact h)⟩
theorem memread_s(hb:b+3<H.length)(D:Do s.mem)(u:0<w)(h1:w≤64):AB AA (m+4) (nm "Memory.read") [Be b,.int p,.int w] (up H b s)=ok (.int (Y2 s.mem p w)) (up H b s):=by
 obtain⟨l,e,hl⟩:=Yy (n:=w.toNat) (Int.lt_toNat.mpr u)
 have B: ∀j∈0::l,j<100:=λj h=>vS (hl j h) (u5 (Int.toNat_le.mpr h1) (by decide))
 refine cq Kp λC k=>?_
 have k:=k .dem _ (it_range ⟨vU u,u9 h1 (by decide)⟩)
 unfold Y2
 rw[e] at k⊢
 obtain⟨x,hx⟩:=n7 (j:=m) (K:=λv H=>C (ok v H)) (q:=.int w) (p:=p) hb D l 0 B 0
 exact k .dem _ _ hx
theorem oF{K:AV→AH→Prop}{q:AV}(hb:b+3<H.length): ∀(l:List Nat) (i:Nat) (hl: ∀j∈i::l,j<100) (s:St) (e:s.mem.length+(i::l).length≤1000),∃x:AV,∀N:AJ→AH→Prop,
  EZ (λr H N=>Dz (j+3) [.expr (qM (qV 83) "set_octet" [(.bin .Add (qV 8) (qV 30)),(.bin .BitAnd (.bin .RShift (qV 1) (.bin .Mult (qI 8) (qV 30))) (qI 255))])] r H N K tX) (.name 30) ((i::l).map λ(i:Nat)=>.int (i:Int)) [(83,Be b),(8,.int p),(9,q),(1,.int v)] (up H b s) N→
  N [(83,Be b),(8,.int p),(9,q),(1,.int v),(30,x)] (up H b {s with mem:=OI p v (i::l) s.mem}):=by
 intro l
 induction l with
 |nil=>
  intro i hl s e
  simp only[xD] at e
  exact⟨_,λN k=>k (.inl (by decide)) (by lia) _ _ (mm_set (setoct_s hb (u5 (wM _ _) e)))⟩
 |cons B r u=>
  intro i hl s e
  have hp:=PL s.mem (W (p+i) 64) (vP (v.fdiv (2^(8*(i:Int)).toNat)) 255)
  simp only[xD] at e
  obtain⟨x,hx⟩:=u B (λj h=>hl j (zA _ h)) {s with mem:=Hm s.mem (W (p+i) 64) (vP (v.fdiv (2^(8*(i:Int)).toNat)) 255)} (u5 (xB hp _) (u5 (vH (ew _ _)) e))
  exact⟨x,λN k=>hx N (k (.inl (by decide)) (by lia) _ _ (mm_set (setoct_s hb (u5 (wM _ _) e))))⟩
theorem memwrite_s(hb:b+3<H.length)(I:s.mem.length≤900)(B:0<w)(h1:w≤64):AB AA (m+4) (nm "Memory.write") [Be b,.int p,.int w,.int v] (up H b s)=ok .none (up H b {s with mem:=L5 s.mem p w v}):=by
 obtain⟨l,e,hl⟩:=Yy (n:=w.toNat) (Int.lt_toNat.mpr B)
 have D: ∀j∈0::l,j<100:=λj h=>vS (hl j h) (u5 (Int.toNat_le.mpr h1) (by decide))
 have u:(0::l).length=w.toNat:=by rw[←e,xW]
 refine cq KP λC k=>?_
 have k:=k .dem _ (it_range ⟨vU B,u9 h1 (by decide)⟩)
 unfold L5
 rw[e] at k⊢
 obtain⟨x,hx⟩:=oF (j:=m) (K:=λv H=>C (ok v H)) (q:=.int w) (p:=p) (v:=v) hb l 0 D s (by rw[u];exact u5 (dp I (Int.toNat_le.mpr h1)) (by decide))
 exact k .dem _ _ hx
noncomputable def Fa(r:Int→Int):Rg→Int
 |.gpr _ n z=>W (r n) z
 |.high _ n=>W ((r (n-4)).fdiv (2^(8:Int).toNat)) 8
noncomputable def NO(e v:Int):Rg→Int
 |.gpr _ _ z=>if 32≤z then W v z else e-W e z+W v z
 |.high _ _=>e+(W v 8-W (e.fdiv (2^(8:Int).toNat)) 8)*2^(8:Int).toNat
theorem Dc{z:Int}(h:Sz z):0≤z∧z≤64:=by rcases h with rfl|rfl|rfl|rfl<;>decide
theorem get_s{g:Rg}(hb:b+3<H.length)(hg:g.OK):AB AA (m+3) (nm "State.get") [Ae b,g.av] (up H b s)=ok (.int (Fa s.regs g)) (up H b s):=by
 refine cq Oe λC=>?_
 cases g with
 |gpr a n z=>
  obtain⟨h1,h2,hz⟩:=hg
  obtain⟨z1,z2⟩:=Dc hz
  show Al _ _ [Ae b,DH a (nm "gpr") n z] _ C→_
  simp_arith[]
 |high a n=>
  obtain⟨h1,h2⟩:=hg
  have h3:0≤n-4:=v6 h1
  have e:n-4<16:=vL (yY n (by decide)) (w5 h2 (by decide))
  show Al _ _ [Ae b,DH a (nm "high") n 8] _ C→_
  simp_arith[]
theorem Vc{o z:Int}{H:AH}(e:0≤z)(h1:z≤1000):AB AA (m+3) (nm "joined") [.int o,.int v,.int z] H=ok (.int (if 32≤z then v else o-W o z+v)) H:=by
 refine cq We λC=>?_
 by_cases h:32≤z
 ·rw[if_pos h];simp_arith[]
 ·rw[if_neg h];simp_arith[]
noncomputable def JI(s:St)(g:Rg)(v:Int):St:={s with regs:=Dh s.regs g.num (NO (s.regs g.num) v g)}
theorem put_s{g:Rg}(hb:b+3<H.length)(hg:g.OK)(e: ∀i,0≤s.regs i∧s.regs i<2^64):AB AA (m+4) (nm "State.put") [Ae b,g.av,.int v] (up H b s)=ok .none (up H b (JI s g v)):=by
 refine cq PU λC=>?_
 cases g with
 |gpr a n z=>
  obtain⟨h1,h2,hz⟩:=hg
  obtain⟨z1,z2⟩:=Dc hz
  show Al _ _ [Ae b,DH a (nm "gpr") n z,.int v] _ C→_
  simp_arith[Vc]
 |high a n=>
  obtain⟨h1,h2⟩:=hg
  have h3:0≤n-4:=v6 h1
  have u:n-4<16:=vL (yY n (by decide)) (w5 h2 (by decide))
  have a1:=Cl (w:=v) (s:=8)
  have a2:=Ce (w:=v) (s:=8) (by decide)
  have a3:=Cl (w:=(s.regs (n-4)).fdiv (2^(8:Int).toNat)) (s:=8)
  have a4:=Ce (w:=(s.regs (n-4)).fdiv (2^(8:Int).toNat)) (s:=8) (by decide)
  have B:(W v 8-W ((s.regs (n-4)).fdiv (2^(8:Int).toNat)) 8).natAbs<2^300:=tV a1 a2 a3 a4
  show Al _ _ [Ae b,DH a (nm "high") n 8,.int v] _ C→_
  simp_arith[]
theorem putlow_s{g:Rg}{z:Int}(hb:b+3<H.length)(hg:g.OK)(u: ∀i,0≤s.regs i∧s.regs i<2^64):AB AA (m+5) (nm "State.put_low") [Ae b,g.av,.int z,.int v] (up H b s)=ok .none (up H b (JI s g v)):=by
 refine cq Ix λC=>?_
 have hp:=put_s (m:=m) (v:=v) hb hg u
 cases g with
 |gpr a n e=>
  show Al _ _ [Ae b,DH a (nm "gpr") n e,.int z,.int v] _ C→_
  have hp:AB AA (m+4) (nm "State.put") [Ae b,DH a (nm "gpr") n e,.int v] (up H b s)=_:=hp
  simp_arith[hp]
 |high a n=>
  show Al _ _ [Ae b,DH a (nm "high") n 8,.int z,.int v] _ C→_
  have hp:AB AA (m+4) (nm "State.put") [Ae b,DH a (nm "high") n 8,.int v] (up H b s)=_:=hp
  simp_arith[hp]
end
theorem Ad{x s:Str}{ws:List Str}(h:AA.glob x=some (.str s))(hl:(decide (s.length≤1000)&&decide ((yP s (s.length+1)).length≤1000))=true)(hw:wC s=ws):BI x (nm "split") (ws.map .str):=
 ⟨s,h,λm H=>by
  rw[v7] at hl
  show(if nm "split"=nm "split" then(if s.length≤1000∧(yP s (s.length+1)).length≤1000 then rok (AV.list ((wC s).map AV.str)) H else uZ)else uZ)=_
  rw[if_pos rfl,if_pos ⟨of_decide_eq_true hl.1,of_decide_eq_true hl.2⟩,hw]
  rfl⟩
noncomputable def AM:List Str:=[nm "cf",nm "pf",nm "af",nm "zf",nm "sf",nm "of",nm "df"]
theorem sp_FLAG_NAMES:BI (nm "FLAG_NAMES") (nm "split") (AM.map .str):=Ad g_FLAG_NAMES (by decide+kernel) NK
noncomputable def CI:List Str:=[nm "cmp",nm "test",nm "bt",nm "push",nm "jmp",nm "call",nm "mul",nm "div",nm "idiv",nm "int",nm "ret",nm "nop",nm "ucomiss",nm "ucomisd",nm "comiss",nm "comisd"]
theorem sp_ONLY_READS:BI (nm "ONLY_READS") (nm "split") (CI.map .str):=Ad g_ONLY_READS (by decide+kernel) MX
noncomputable def GW:List Str:=[nm "mov",nm "lea",nm "movzx",nm "movsx",nm "movsxd",nm "pop",nm "popcnt",nm "lzcnt",nm "tzcnt",nm "movaps",nm "movups",nm "movapd",nm "movupd",nm "movdqa",nm "movdqu",nm "movd",nm "movq"]
theorem sp_FRESH:BI (nm "FRESH") (nm "split") (GW.map .str):=Ad g_FRESH (by decide+kernel) cH
noncomputable def E4:List Str:=[nm "pshufd",nm "pshuflw",nm "pshufhw",nm "sqrtps",nm "sqrtpd",nm "cvtps2pd",nm "cvtpd2ps",nm "cvtdq2ps",nm "cvtps2dq",nm "cvttps2dq",nm "movntps",nm "movntdq",nm "movnti"]
theorem sp_FRESH_LANES:BI (nm "FRESH_LANES") (nm "split") (E4.map .str):=Ad g_FRESH_LANES (by decide+kernel) Kx
noncomputable def HJ:List Str:=[nm "movss",nm "movsd"]
theorem sp_LOW_PARTS:BI (nm "LOW_PARTS") (nm "split") (HJ.map .str):=Ad g_LOW_PARTS (by decide+kernel) Om
noncomputable def Fq:List Str:=[nm "movlps",nm "movhps",nm "movlpd",nm "movhpd"]
theorem sp_HALF_MOVES:BI (nm "HALF_MOVES") (nm "split") (Fq.map .str):=Ad g_HALF_MOVES (by decide+kernel) NI
noncomputable def Bk:List Str:=[nm "mul",nm "imul",nm "div",nm "idiv"]
theorem sp_HALVES:BI (nm "HALVES") (nm "split") (Bk.map .str):=Ad g_HALVES (by decide+kernel) XG
noncomputable def E9:List Str:=[nm "push",nm "pop",nm "pushfq",nm "popfq",nm "call",nm "ret"]
theorem sp_STACK_NAMES:BI (nm "STACK_NAMES") (nm "split") (E9.map .str):=Ad g_STACK_NAMES (by decide+kernel) Kd
noncomputable def BG:List Str:=[nm "shl",nm "shr",nm "sar",nm "rol",nm "ror",nm "rcl",nm "rcr",nm "shld",nm "shrd"]
theorem sp_SHIFT_NAMES:BI (nm "SHIFT_NAMES") (nm "split") (BG.map .str):=Ad g_SHIFT_NAMES (by decide+kernel) Kf
noncomputable def JZ:List Str:=[nm "al",nm "cl",nm "dl",nm "bl",nm "spl",nm "bpl",nm "sil",nm "dil"]
theorem sp_NAMES_8:BI (nm "NAMES_8") (nm "split") (JZ.map .str):=Ad g_NAMES_8 (by decide+kernel) Ua
noncomputable def IR:List Str:=[nm "ax",nm "cx",nm "dx",nm "bx",nm "sp",nm "bp",nm "si",nm "di"]
theorem sp_NAMES_16:BI (nm "NAMES_16") (nm "split") (IR.map .str):=Ad g_NAMES_16 (by decide+kernel) QL
noncomputable def IA:List Str:=[nm "eax",nm "ecx",nm "edx",nm "ebx",nm "esp",nm "ebp",nm "esi",nm "edi"]
theorem sp_NAMES_32:BI (nm "NAMES_32") (nm "split") (IA.map .str):=Ad g_NAMES_32 (by decide+kernel) QF
noncomputable def IJ:List Str:=[nm "rax",nm "rcx",nm "rdx",nm "rbx",nm "rsp",nm "rbp",nm "rsi",nm "rdi"]
theorem sp_NAMES_64:BI (nm "NAMES_64") (nm "split") (IJ.map .str):=Ad g_NAMES_64 (by decide+kernel) RY
noncomputable def Fx:List Str:=[nm "ah",nm "ch",nm "dh",nm "bh"]
theorem sp_HIGH_NAMES:BI (nm "HIGH_NAMES") (nm "split") (Fx.map .str):=Ad g_HIGH_NAMES (by decide+kernel) MG
noncomputable def Hs:List Str:=[nm "shl",nm "shr",nm "sar"]
theorem sp_SHIFTS:BI (nm "SHIFTS") (nm "split") (Hs.map .str):=Ad g_SHIFTS (by decide+kernel) X6
noncomputable def F6:List Str:=[nm "rol",nm "ror"]
theorem sp_ROTATES:BI (nm "ROTATES") (nm "split") (F6.map .str):=Ad g_ROTATES (by decide+kernel) Ut
noncomputable def Nc:List Str:=[nm "rcl",nm "rcr"]
theorem sp_THROUGHS:BI (nm "THROUGHS") (nm "split") (Nc.map .str):=Ad g_THROUGHS (by decide+kernel) Pv
noncomputable def RV:List Str:=[nm "shld",nm "shrd"]
theorem sp_DOUBLES:BI (nm "DOUBLES") (nm "split") (RV.map .str):=Ad g_DOUBLES (by decide+kernel) Tz
noncomputable def ZY:List Str:=[nm "bt",nm "bts",nm "btr",nm "btc"]
theorem sp_BITS:BI (nm "BITS") (nm "split") (ZY.map .str):=Ad g_BITS (by decide+kernel) gT
noncomputable def Xk:List Str:=[nm "bsf",nm "bsr",nm "popcnt",nm "lzcnt",nm "tzcnt"]
theorem sp_SCANS:BI (nm "SCANS") (nm "split") (Xk.map .str):=Ad g_SCANS (by decide+kernel) aU
noncomputable def MB:List Str:=[nm "movzx",nm "movsx",nm "movsxd"]
theorem sp_WIDENINGS:BI (nm "WIDENINGS") (nm "split") (MB.map .str):=Ad g_WIDENINGS (by decide+kernel) OP
noncomputable def Bu:List Str:=[nm "cbw",nm "cwde",nm "cdqe"]
theorem sp_CONVERSIONS:BI (nm "CONVERSIONS") (nm "split") (Bu.map .str):=Ad g_CONVERSIONS (by decide+kernel) K1
noncomputable def JK:List Str:=[nm "cwd",nm "cdq",nm "cqo"]
theorem sp_SPREADS:BI (nm "SPREADS") (nm "split") (JK.map .str):=Ad g_SPREADS (by decide+kernel) Uc
theorem SX: ∀l:List Str,ED (l.map .str)=some l
 | []=>rfl
 |x::r=>congrArg (wK (x:: ·)) (SX r)
theorem idx_s{m:Nat}{ss:List Str}{k:Str}{H0 H:AH}(h:ss.length≤1000∧k∈ss):Af m (.list (ss.map .str)) (nm "index") H0 [.str k] H (.int (ss.idxOf k:Nat)) H:=⟨rfl,by
 show(if nm "index"=nm "index" then(match ED (ss.map .str)with|some e=>if(ss.map AV.str).length≤1000∧k∈e then rok (AV.int (e.idxOf k:Nat)) H else uZ|uZ=>uZ)else uZ)=_
 rw[if_pos rfl,SX]
 exact if_pos ⟨by rw[vB];exact h.1,h.2⟩⟩
theorem VP{a b:List AV}(h:Ec (.list a) (.list b)=some false):cmpA .Eq (.list a) (.list b)=some false:=h
theorem N9{m:Nat}{f:Str}{vs:List AV}{H:AH}{d:CD}(h:AA.fn f=uZ)(hc:AA.cls f=some d)(u:(f==nm "Memory.written")=false):AB AA (m+1) f vs H=Ej AA (KU m) f d vs H:=by
 show(if f=nm "Memory.written" then _ else match AA.fn f with|some d=>_|uZ=>match AA.cls f with|some d=>Ej AA (KU m) f d vs H|uZ=>_)=_
 rw[if_neg (λe=>by rw[e,beq_self_eq_true] at u;cases u),h,hc]
theorem mE{m:Nat}{f:Str}{vs:List AV}{H H1:AH}{d:CD}{ρ:AE}{g:BC}(h:AA.fn f=uZ)(hc:AA.cls f=some d)(e:(f==nm "Memory.written")=false)(hb:Bf d.ps d.ds vs=some ρ)(hi:CR (KU m) (Mj AA) d.body ρ ([],[]) H=ok g H1)(hf:g.1=d.flds)(u:d.keeps=false):AB AA (m+1) f vs H=ok (.obj f g.1 g.2) H1:=by
 rw[N9 h hc e]
 unfold Ej
 rw[hb]
 show R.bindN (CR (KU m) (Mj AA) d.body ρ ([],[]) H) _=_
 rw[hi]
 show(if g.1=d.flds then _ else _)=_
 rw[if_pos hf,u]
 rfl
theorem Q3{Γ:Ctx}{sup:Str→List AV→BC→AH→R BC}{x:Str}{e:CE}{r:List IS}{ρ:AE}{f g:BC}{v:AV}{H H1:AH}{o:R BC}(h:AF Γ e ρ H=ok v H1)(u:Ih f x v=some g)(B:CR Γ sup r ρ g H1=o):CR Γ sup (.set x e::r) ρ f H=o:=by
 show R.bindN (R.bindN (AF Γ e ρ H) λv H=>rof (Ih f x v) H) (λf H=>CR Γ sup r ρ f H)=_
 rw[h]
 show R.bindN (rof (Ih f x v) H1) (λf H=>CR Γ sup r ρ f H)=_
 rw[u]
 exact B
section
variable{m j:Nat}{H:AH}{b:Nat}{s:St}{n z v w:Int}
theorem K9{r:AV}:AB AA (m+1) (nm "Reg") [r] H=ok (HX r) H:=(N9 kS fK (by decide+kernel)).trans rfl
theorem X1:AB AA (m+1) (nm "Imm") [.int w] H=ok (NZ w) H:=(N9 kO i5 (by decide+kernel)).trans rfl
theorem F4{a k:Str}{n z:Int}:AB AA (m+1) (nm "Register") [.str a,.str k,.int n,.int z] H=ok (DH a k n z) H:=(N9 N1 OT (by decide+kernel)).trans rfl
theorem Va{p q:AV}{sc d z:Int}:AB AA (m+1) (nm "Mem") [p,q,.int sc,.int d,.int z] H=ok (B0 p q sc d z) H:=(N9 gH eR (by decide+kernel)).trans rfl
theorem blt{f:Str}{vs:List AV}{o:R AV}(u:(f==nm "Memory.written")=false)(h:AA.fn f=uZ)(hc:AA.cls f=uZ)(hs:(f==nm "sorted")=false)(e:B7 f vs H=o):AB AA (m+1) f vs H=o:=(Yg u h hc hs).trans e
theorem tuple_s{l:List AV}(hl:l.length≤1000000):AB AA (m+1) (nm "tuple") [.list l] H=ok (.tuple l) H:=blt (by decide+kernel) J6 JE (by decide+kernel) (y3 (by kernel_rfl:_=if l.length≤1000000 then rok (AV.tuple l) H else uZ) (if_pos hl))
theorem list_t{l:List AV}(hl:l.length≤1000000):AB AA (m+1) (nm "list") [.tuple l] H=ok (.list l) H:=blt (by decide+kernel) bE a9 (by decide+kernel) (y3 (by kernel_rfl:_=if l.length≤1000000 then rok (AV.list l) H else uZ) (if_pos hl))
theorem len_t{l:List AV}(hl:l.length≤1000000):AB AA (m+1) (nm "len") [.tuple l] H=ok (.int l.length) H:=blt (by decide+kernel) YT Wy (by decide+kernel) (y3 (by kernel_rfl:_=if l.length≤1000000 then rok (AV.int l.length) H else uZ) (if_pos hl))
theorem len_l{l:List AV}(hl:l.length≤1000000):AB AA (m+1) (nm "len") [.list l] H=ok (.int l.length) H:=blt (by decide+kernel) YT Wy (by decide+kernel) (y3 (by kernel_rfl:_=if l.length≤1000000 then rok (AV.int l.length) H else uZ) (if_pos hl))
theorem nS{i:Int}(h:i.natAbs<2^64):AB AA (m+1) (nm "str") [.int i] H=ok (.str (nm (toString i))) H:=blt (by decide+kernel) gG eX (by decide+kernel) (y3 (by kernel_rfl:_=if i.natAbs<2^64 then rok (AV.str (nm (toString i))) H else uZ) (if_pos h))
theorem int_s{i:Int}:AB AA (m+1) (nm "int") [.int i] H=ok (.int i) H:=blt (by decide+kernel) WD XT (by decide+kernel) (by kernel_rfl)
theorem intB_s{i:Bool}:AB AA (m+1) (nm "int") [.bool i] H=ok (.int (if i then 1 else 0)) H:=blt (by decide+kernel) WD XT (by decide+kernel) (by kernel_rfl)
theorem EO{a:Str}{l:List AV}(hl:l.length≤1000000):AB AA (m+2) (nm "Instruction") [.str a,.list l] H=ok (AG a l) H:=
 mE KD JJ (by decide+kernel) (ρ:=[(nm "prefix",.str (nm "")),(nm "operands",.list l),(nm "name",.str a)]) rfl (Q3 rfl rfl (Q3 (y3 (by kernel_rfl:_=AB AA (m+1) (nm "tuple") [.list l] H) (tuple_s hl)) rfl (Q3 rfl rfl rfl))) rfl rfl
theorem N6{ss:List Str}{n:Int}(e:0≤n)(h1:n<1000)(h:n.toNat<ss.length): ∃a,∀H,Bb (.list (ss.map .str)) (.int n) H=some (.str a):=by
 refine⟨ss[n.toNat],λH=>?_⟩
 show(if 0≤n∧n<2^60 then(ss.map AV.str)[n.toNat]? else uZ)=_
 rw[if_pos ⟨e,by lia⟩,xJ,wT h]
 rfl
theorem jP{x y:Str}(h:x.length+y.length≤1000):DF .Add (.str x) (.str y)=some (.str (x++y)):=if_pos h
theorem bZ(e:Sz z): ∃ss:List Str,ss.length=8∧Ec (.list (ss.map .str)) (.list [])=some false∧∀m H,AB AA (m+2) (nm "early_names") [.int z] H=ok (.list (ss.map .str)) H:=by
 rcases e with rfl|rfl|rfl|rfl
 ·refine⟨JZ,rfl,by decide+kernel,λm H=>?_⟩
  refine cq CC λC=>?_
  simp_arith[g_NAMES_8,sp_NAMES_8]
 ·refine⟨IR,rfl,by decide+kernel,λm H=>?_⟩
  refine cq CC λC=>?_
  simp_arith[g_NAMES_16,sp_NAMES_16]
 ·refine⟨IA,rfl,by decide+kernel,λm H=>?_⟩
  refine cq CC λC=>?_
  simp_arith[g_NAMES_32,sp_NAMES_32]
 ·refine⟨IJ,rfl,by decide+kernel,λm H=>?_⟩
  refine cq CC λC=>?_
  simp_arith[g_NAMES_64,sp_NAMES_64]
theorem j0(e:Sz z): ∃a:Str,a.length≤1∧∀m H,AB AA (m+2) (nm "late_ending") [.int z] H=ok (.str a) H:=by
 rcases e with rfl|rfl|rfl|rfl
 ·refine⟨nm "b",by decide+kernel,λm H=>?_⟩
  refine cq CH λC=>?_
  simp_arith[]
 ·refine⟨nm "w",by decide+kernel,λm H=>?_⟩
  refine cq CH λC=>?_
  simp_arith[]
 ·refine⟨nm "d",by decide+kernel,λm H=>?_⟩
  refine cq CH λC=>?_
  simp_arith[]
 ·refine⟨nm "",by decide+kernel,λm H=>?_⟩
  refine cq CH λC=>?_
  simp_arith[]
theorem bC{n:Int}(e:8≤n)(h1:n<16):(nm "r").length+(nm (toString n)).length≤10∧(nm "r"++nm (toString n)).length≤10:=by
 obtain⟨k,rfl⟩:=gl (u9 (by decide) e)
 exact(by decide+kernel: ∀k:Nat,k<16→(nm "r").length+(nm (toString (k:Int))).length≤10∧(nm "r"++nm (toString (k:Int))).length≤10) k (Int.ofNat_lt.mp h1)
theorem CO(u:0≤n)(h1:n<16)(D:Sz z): ∃a:Str,∀m H,AB AA (m+4) (nm "gpr") [.int n,.int z] H=ok (Rg.gpr a n z).av H:=by
 obtain⟨ss,hl,I,hs⟩:=bZ D
 obtain⟨e,hel,hee⟩:=j0 D
 have c1:n≤15:=zX h1
 have J:n.natAbs<2^64:=n_64' u (u9 c1 (by decide))
 by_cases B:n<8
 ·obtain⟨a,ha⟩:=N6 (ss:=ss) u (by lia) (by rw[hl];exact(df u).mpr B)
  refine⟨a,λm H=>?_⟩
  refine cq d4 λC=>?_
  simp_arith[hs,VP I,u,c1,B,ha,F4]
 ·have O:=bC (n:=n) (Int.not_lt.mp B) h1
  refine⟨nm "r"++nm (toString n)++e,λm H=>?_⟩
  refine cq d4 λC=>?_
  simp_arith[hs,VP I,u,c1,B,hee,nS,jP,F4]
theorem ZH(e:4≤n)(h1:n<8): ∃a:Str,∀m H,AB AA (m+4) (nm "high") [.int n] H=ok (Rg.high a n).av H:=by
 obtain⟨a,ha⟩:=N6 (ss:=Fx) (n:=n-4) (v6 e) (vL (yY n (by decide:(0:Int)≤4)) (w5 h1 (by decide))) ((df (v6 e)).mpr (Int.sub_lt_sub_right h1 4))
 have c1:n≤7:=zX h1
 refine⟨a,λm H=>?_⟩
 refine cq hW λC=>?_
 simp_arith[e,c1,g_HIGH_NAMES,sp_HIGH_NAMES,ha,F4]
end
theorem Xj{x:AV}{l:List AV}(h:l.length≤999999):DF .Add (.list [x]) (.list l)=some (.list (x::l)):=by
 rw[R9 (by simp;lia)]
 rfl
section
variable{H:AH}{a b c:AV}{l:List AV}
theorem it_plain(h:l.length≤1000000):BF .plain [.list l] H=some l:=if_pos h
theorem it_plainT(h:l.length≤1000000):BF .plain [.tuple l] H=some l:=if_pos h
end
noncomputable def Y8(r:Int→Int):Option (Str×Int)→Int
 |uZ=>0
 |some (_,n)=>W (r n) 64
noncomputable def Hi(r:Int→Int)(b i:Option (Str×Int))(sc d:Int):Int:=W (W (d+Y8 r b+Y8 r i*sc) 64+0) 64
section
variable{m j:Nat}{H:AH}{b:Nat}{s:St}{n z v w:Int}
theorem Q5{a:Str}(hb:b+3<H.length)(e:0≤n)(h1:n<16):AB AA (m+3) (nm "State.get") [Ae b,DH a (nm "gpr") n 64] (up H b s)=ok (.int (W (s.regs n) 64)) (up H b s):=
 get_s (g:=.gpr a n 64) hb ⟨e,h1,.inr (.inr (.inr rfl))⟩
theorem Xb{e u:Option (Str×Int)}{sc d:Int}(hb:b+3<H.length)(D:UC e)(h1:UC u):AB AA (m+4) (nm "State.offset") [Ae b,B0 (B5 e) (B5 u) sc d z] (up H b s)=ok (.int (W (d+Y8 s.regs e+Y8 s.regs u*sc) 64)) (up H b s):=by
 refine cq t_State_offset λC=>?_
 cases u with
 |none=>
  rw[show Y8 s.regs uZ*sc=0 from lv sc,xM]
  show Al _ _ [Ae b,B0 (B5 e) .none sc d z] _ C→_
  cases e with
  |none=>
   rw[show d+Y8 s.regs uZ=d from xM d]
   show Al _ _ [Ae b,B0 .none .none sc d z] _ C→_
   simp_arith[]
  |some p=>
   obtain⟨a,n⟩:=p
   obtain⟨q1,q2⟩:0≤n∧n<16:=D (a,n) rfl
   show Al _ _ [Ae b,B0 (DH a (nm "gpr") n 64) .none sc d z] _ C→_
   simp_arith[Q5]
 |some p=>
  obtain⟨a,n⟩:=p
  obtain⟨q1,q2⟩:0≤n∧n<16:=h1 (a,n) rfl
  have l1:=n_64 Cl (Ce (w:=s.regs n) (s:=64) (by decide))
  cases e with
  |none=>
   rw[show d+Y8 s.regs uZ=d from xM d]
   show Al _ _ [Ae b,B0 .none (DH a (nm "gpr") n 64) sc d z] _ C→_
   simp_arith[Q5]
  |some p=>
   obtain⟨B,n'⟩:=p
   obtain⟨q3,q4⟩:0≤n'∧n'<16:=D (B,n') rfl
   show Al _ _ [Ae b,B0 (DH B (nm "gpr") n' 64) (DH a (nm "gpr") n 64) sc d z] _ C→_
   simp_arith[Q5]
theorem place_s{e u:Option (Str×Int)}{sc d:Int}(hb:b+3<H.length)(B:UC e)(h1:UC u):AB AA (m+5) (nm "State.place") [Ae b,B0 (B5 e) (B5 u) sc d z] (up H b s)=ok (.int (Hi s.regs e u sc d)) (up H b s):=by
 refine cq Kz λC=>?_
 simp_arith[Xb]
noncomputable def AP.size:AP→Int
 |.reg g=>g.size
 |.imm _=>0
 |.mem _ _ _ _ s=>s
noncomputable def AP.isImm:AP→Bool
 |.imm _=>true
 |_=>false
theorem Jy{g:Rg}{H:AH}:Aj g.av (nm "size") H=some (.int g.size):=by cases g<;>rfl
theorem S9{g:Rg}(h:g.OK):Sz g.size:=by
 cases g with
 |gpr=>exact h.2.2
 |high=>exact .inl rfl
theorem BO{o:AP}(h:o.OK)(hi:o.isImm=false):Sz o.size:=by
 cases o with
 |reg g=>exact S9 h
 |imm=>cases hi
 |mem=>exact h.2.2.1
theorem Am(h:Sz z):8≤z∧z≤64:=by rcases h with h|h|h|h<;>lia
theorem Rf(h:Sz z):1≤z.fdiv 8∧z.fdiv 8≤8:=by rcases h with rfl|rfl|rfl|rfl<;>decide
theorem size_of_s{o:AP}{a:Str}{l:List AV}(ho:o.OK)(hi:o.isImm=false)(hl:l.length≤100):AB AA (m+2) (nm "State.size_of") [Ae b,o.av,AG a l] H=ok (.int o.size) H:=by
 refine cq Iu λC=>?_
 have e:l.length≤999999:=u5 hl (by decide)
 have u: ∀x:AV,(x::l).length≤1000000:=λx=>wH e
 have I:l.length≤1000000:=yM e
 cases o with
 |reg g=>
  show Al _ _ [Ae b,HX g.av,AG a l] _ C→_
  have B:=u (HX g.av)
  simp_arith[list_t,Xj,it_plain,Jy]
 |imm=>cases hi
 |mem p q sc d z=>
  have D:=Am ho.2.2.1
  have J:0<z:=vQ (by decide) D.1
  show Al _ _ [Ae b,B0 (B5 p) (B5 q) sc d z,AG a l] _ C→_
  have B:=u (B0 (B5 p) (B5 q) sc d z)
  simp_arith[list_t,Xj,it_plain]
noncomputable def HV(s:St)(z:Int):AP→Int
 |.reg g=>W (Fa s.regs g) z
 |.imm w=>W w z
 |.mem b i sc d _=>Y2 s.mem (Hi s.regs b i sc d) (z.fdiv 8)
noncomputable def U5(s:St)(z v:Int):AP→St
 |.reg g=>JI s g v
 |.imm _=>s
 |.mem b i sc d _=>{s with mem:=L5 s.mem (Hi s.regs b i sc d) (z.fdiv 8) v}
structure Du (s:St):Prop where
 regs: ∀i,0≤s.regs i∧s.regs i<2^64
 mem:Do s.mem
theorem Vq(h:Sz z):0<z.fdiv 8∧z.fdiv 8≤64:=by rcases h with rfl|rfl|rfl|rfl<;>decide
theorem read_s{o:AP}(hb:b+3<H.length)(ho:o.OK)(e:Sz z)(D:Do s.mem):AB AA (m+6) (nm "State.read") [Ae b,o.av,.int z] (up H b s)=ok (.int (HV s z o)) (up H b s):=by
 obtain⟨h1,h1'⟩:=Dc e
 obtain⟨B,h2'⟩:=Vq e
 refine cq M1 λC=>?_
 cases o with
 |reg g=>
  show Al _ _ [Ae b,HX g.av,.int z] _ C→_
  have hg:g.OK:=ho
  simp_arith[get_s]
 |imm w=>
  show Al _ _ [Ae b,NZ w,.int z] _ C→_
  simp_arith[]
 |mem p q sc d u=>
  show Al _ _ [Ae b,B0 (B5 p) (B5 q) sc d u,.int z] _ C→_
  have k1:=ho.1
  have k2:=ho.2.1
  simp_arith[place_s,memread_s]
theorem write_s{o:AP}(hb:b+3<H.length)(ho:o.OK)(hi:o.isImm=false)(e:Sz z)(hs:Du s):AB AA (m+6) (nm "State.write") [Ae b,o.av,.int z,.int v] (up H b s)=ok .none (up H b (U5 s z v o)):=by
 obtain⟨B,h2'⟩:=Vq e
 have h3:s.mem.length≤900:=u5 hs.mem.1 (by decide)
 have D:=hs.regs
 refine cq Ky λC=>?_
 cases o with
 |reg g=>
  show Al _ _ [Ae b,HX g.av,.int z,.int v] _ C→_
  have hg:g.OK:=ho
  simp_arith[putlow_s]
 |imm w=>cases hi
 |mem p q sc d u=>
  show Al _ _ [Ae b,B0 (B5 p) (B5 q) sc d u,.int z,.int v] _ C→_
  have k1:=ho.1
  have k2:=ho.2.1
  simp_arith[place_s,memwrite_s]
end
theorem lent1{m:Nat}{a:AV}{H:AH}:AB AA (m+1) (nm "len") [.tuple [a]] H=ok (.int 1) H:=len_t (show 1≤1000000 by decide)
theorem lent2{m:Nat}{a b:AV}{H:AH}:AB AA (m+1) (nm "len") [.tuple [a,b]] H=ok (.int 2) H:=len_t (show 2≤1000000 by decide)
theorem lent3{m:Nat}{a b c:AV}{H:AH}:AB AA (m+1) (nm "len") [.tuple [a,b,c]] H=ok (.int 3) H:=len_t (show 3≤1000000 by decide)
theorem sok_fset{s:St}{k:Nat}{v:Int}(h:Du s):Du (NL s k v):=⟨h.1,h.2⟩
theorem sok_fl{s:St}{f:Nat→Int}(h:Du s):Du {s with fl:=f}:=⟨h.1,h.2⟩
theorem Px{l:List (Nat×Int)}(h:(l.all λp=>oy p.1 6)=true): ∀p∈l,p.1<6:=λp hp=>zQ (List.all_eq_true.mp h p hp)
theorem Vp{l:List (Nat×Int)}(h:(l.all λp=>x9 p.1 0||x9 p.1 5)=true): ∀p∈l,p.1=0∨p.1=5:=λp hp=>(Bool.or_eq_true_iff.mp (List.all_eq_true.mp h p hp)).imp wU wU
theorem hY{l:List Nat}{i:Nat}(h:l.any (x9 i)=true):i∈l:=by
 obtain⟨j,hj,e⟩:=List.any_eq_true.mp h
 rw[wU e];exact hj
theorem fZ{l:List (Nat×Int)}(h:((wD 6).all λi=>(l.map (·.1)).any (x9 i))=true): ∀i,i<6→i∈l.map (·.1):=λi hi=>hY (List.all_eq_true.mp h i (List.mem_range.mpr hi))
noncomputable def Ed(l:List (Nat×Int))(f:Nat→Int):Nat→Int:=l.foldl (λf q=>DC f q.1 q.2) f
theorem Ee{a g B:Int}(e:0≤a∧a<B)(hg:0≤g∧g<256):0≤a+g*B∧a+g*B<256*B:=
 have u:0≤B:=vU (vL e.1 e.2)
 ⟨xU e.1 (wZ hg.1 u),vQ (jr e.2 _) (by
  have:=xG (zY hg.2) u
  rw[oa,yJ,dg] at this
  exact this)⟩
theorem i6{l:List (Int×Int)}(h:Do l){p w:Int}(hw:w=1∨w=2∨w=4∨w=8):0≤Y2 l p w∧Y2 l p w<2^(8*w).toNat:=by
 have g (k:Nat):=Mq h (W (p+k) 64)
 have o1:=Ee (a:=0) (B:=1) (by decide) (g 0)
 have o2:=Ee o1 (g 1)
 have e:=Ee (Ee o2 (g 2)) (g 3)
 rcases hw with rfl|rfl|rfl|rfl
 ·exact o1
 ·exact o2
 ·exact e
 ·exact Ee (Ee (Ee (Ee e (g 4)) (g 5)) (g 6)) (g 7)
theorem Yx{s:St}{z:Int}{o:AP}(hs:Du s)(u:Sz z):0≤HV s z o∧HV s z o<2^z.toNat:=by
 cases o with
 |reg g=>exact⟨Cl,Ke⟩
 |imm w=>exact⟨Cl,Ke⟩
 |mem b i sc d B=>
  have:=i6 hs.mem (p:=Hi s.regs b i sc d) (w:=z.fdiv 8) (by rcases u with rfl|rfl|rfl|rfl<;>decide)
  have e:(8*z.fdiv 8).toNat=z.toNat:=by rcases u with rfl|rfl|rfl|rfl<;>rfl
  rw[e] at this
  exact this
theorem FB{s:St}{z:Int}{o:AP}(hs:Du s)(e:Sz z):0≤HV s z o∧HV s z o<2^64:=by
 have h:=Yx (o:=o) hs e
 exact⟨h.1,vQ h.2 (GN (Int.toNat_le.mpr (Am e).2))⟩
theorem len1{α:Type}{a:α}:[a].length≤100:=(show 1≤100 by decide)
theorem len2{α:Type}{a b:α}:[a,b].length≤100:=(show 2≤100 by decide)
theorem len3{α:Type}{a b c:α}:[a,b,c].length≤100:=(show 3≤100 by decide)
theorem clear_s{m b:Nat}{H:AH}{s:St}(hb:b+3<H.length):AB AA (m+1) (nm "clear_flags") [.mobj (nm "Flags") (b+2)] (up H b s)=ok .none (up H b {s with fl:=Ed [(0,0),(1,0),(2,0),(3,0),(4,0),(5,0)] s.fl}):=by
 refine cq Ku λC=>?_
 simp_arith[]
theorem c9{r z:Int}(e:1≤z)(h1:z≤64): ∃p:Int,∀m H b s,b+3<H.length→AB AA (m+5) (nm "szp") [.mobj (nm "Flags") (b+2),.int r,.int z] (up H b s)=ok (.int (W r z)) (up H b {s with fl:=Ed [(4,Bt (W r z) (z-1)),(3,if W r z=0 then 1 else 0),(1,p)] s.fl}):=by
 obtain⟨p,hp⟩:=Wp (w:=W r z)
 refine⟨p,λm H b s hb=>?_⟩
 refine cq mW λC=>?_
 by_cases h:W r z=0
 ·rw[if_pos h];simp_arith[hp]
 ·rw[if_neg h];simp_arith[hp]
theorem lay_s{m b:Nat}{H:AH}{s:St}{w:Int}(hb:b+3<H.length):AB AA (m+2) (nm "lay_wide") [.mobj (nm "Flags") (b+2),.int w] (up H b s)=ok .none (up H b {s with fl:=Ed [(0,0),(1,0),(2,0),(3,0),(4,0),(5,0),(0,w),(5,w)] s.fl}):=by
 refine cq QM λC=>?_
 simp_arith[clear_s]
noncomputable def UP(s:St)(z:Int):AP→Int
 |.reg g=>W (Fa s.regs g) (if z=64 then 6 else 5)
 |.imm w=>W w (if z=64 then 6 else 5)
 |.mem .. =>0
noncomputable def AP.isMem:AP→Bool
 |.mem .. =>true
 |_=>false
theorem Xn{s:St}{z:Int}{o:AP}:0≤UP s z o∧UP s z o<64:=by
 have: ∀w:Int,0≤W w (if z=64 then 6 else 5)∧W w (if z=64 then 6 else 5)<64:=by
  intro w
  refine⟨Cl,?_⟩
  split
  ·exact Ke
  ·exact vQ Ke (by decide)
 cases o with
 |reg g=>exact this _
 |imm w=>exact this _
 |mem=>exact⟨y5 0,(by decide:(0:Int)<64)⟩
theorem count_s{m b:Nat}{H:AH}{s:St}{z:Int}{o:AP}(hb:b+3<H.length)(ho:o.OK)(hi:o.isMem=false):AB AA (m+4) (nm "count_told") [Ae b,o.av,.int z] (up H b s)=ok (.int (UP s z o)) (up H b s):=by
 refine cq Mr λC=>?_
 cases o with
 |reg g=>
  show Al _ _ [Ae b,HX g.av,.int z] _ C→_
  have hg:g.OK:=ho
  simp_arith[get_s,masked_s]
 |imm w=>
  show Al _ _ [Ae b,NZ w,.int z] _ C→_
  simp_arith[masked_s]
 |mem=>cases hi
noncomputable abbrev FZ(f:String)(m b:Nat)(H:AH)(s:St)(r:AV)(t:St):Prop:=AB AA m (nm f) [Ae b,r] (up H b s)=ok .none (up H b t)
theorem Z3{a:Str}(hn:a=nm "shl"∨a=nm "shr"∨a=nm "sar"∨a=nm "rol"∨a=nm "ror"∨a=nm "rcl"∨a=nm "rcr"){o1 o2:AP}(k1:o1.OK)(i1:o1.isImm=false)(k2:o2.OK)(i2:o2.isMem=false){w c y:Int}(hw:0≤w∧w<2^64)(hc:0≤c∧c<64)(hy:0≤y∧y≤1):
  ∃(fl:List (Nat×Int)) (v:Int),(∀p∈fl,p.1<6)∧(a=nm "rol"∨a=nm "ror"∨a=nm "rcl"∨a=nm "rcr"→∀p∈fl,p.1=0∨p.1=5)∧(c≠0→0∈fl.map (·.1)∧5∈fl.map (·.1))∧(c≠0→a=nm "shl"∨a=nm "shr"∨a=nm "sar"→∀i,i<6→i∈fl.map (·.1))∧
   ∀m H b s,b+3<H.length→Du s→HV s o1.size o1=w→UP s o1.size o2=c→(a=nm "rcl"∨a=nm "rcr"→s.fl 0=y)→FZ "shift_deed" (m+10) b H s (AG a [o1.av,o2.av]) (U5 {s with fl:=Ed fl s.fl} o1.size v o1):=by
 have hz:=BO k1 i1
 have hz2:=Am hz
 have hl:[o1.av,o2.av].length≤100:=by simp
 have rd: ∀m H b s,b+3<H.length→Du s→HV s o1.size o1=w→AB AA (m+9) (nm "State.read") [Ae b,o1.av,.int o1.size] (up H b s)=ok (.int w) (up H b s):=λm H b s hb hs e=>by
  rw[read_s hb k1 hz hs.mem,e]
 have J: ∀m H b s,b+3<H.length→UP s o1.size o2=c→AB AA (m+9) (nm "count_told") [Ae b,o2.av,.int o1.size] (up H b s)=ok (.int c) (up H b s):=λm H b s hb e=>by
  rw[count_s hb k2 i2,e]
 have hl0:o1.isImm=false:=i1
 by_cases O:c=0
 ·refine⟨[],w,Px rfl,λ_=>Vp rfl,λh=>absurd O h,λh=>absurd O h,λm H b s hb hs e1 e2 e3=>?_⟩
  have B:=hs.mem
  unfold FZ
  refine cq Ci λC=>?_
  simp_arith[rd,J]
 ·have U:1≤c:=by lia
  have Y:c≤64:=by lia
  by_cases D:a=nm "shl"∨a=nm "shr"∨a=nm "sar"
  ·obtain⟨r,cy,Q,hr⟩:=TW D (by lia:1≤o1.size) (by lia) U Y hw.1 hw.2
   obtain⟨p,hp⟩:=c9 (r:=r) (z:=o1.size) (by lia) (by lia)
   refine⟨[(4,Bt (W r o1.size) (o1.size-1)),(3,if W r o1.size=0 then 1 else 0),(1,p),(2,0),(0,cy),(5,if c=1 then Q else 0)],r,Px rfl,?_,λ_=>⟨hY rfl,hY rfl⟩,λ_ _=>fZ rfl,λm H b s hb hs e1 e2 e3=>?_⟩
   ·rcases D with rfl|rfl|rfl<;>exactλh=>absurd h (by decide+kernel)
   ·have B:=hs.mem
    have u:cmpA .In (.str a) (.list (Hs.map .str))=some true:=by rcases D with rfl|rfl|rfl<;>kernel_rfl!
    unfold FZ
    refine cq Ci λC=>?_
    by_cases h1:c=1
    ·rw[if_pos h1]
     simp_arith[rd,J,u,hr,hp]
    ·rw[if_neg h1]
     simp_arith[rd,J,u,hr,hp]
  ·have I:cmpA .In (.str a) (.list (Hs.map .str))=some false:=by
    rcases hn with rfl|rfl|rfl|rfl|rfl|rfl|rfl<;>first|kernel_rfl!|exact absurd (by simp) D
   by_cases S:a=nm "rol"∨a=nm "ror"
   ·obtain⟨r,cy,Q,hr⟩:=Uy S (c:=c) (by lia:2≤o1.size) (by lia) hw.1 hw.2
    refine⟨[(0,cy),(5,if c=1 then Q else 0)],r,Px rfl,λ_=>Vp rfl,λ_=>⟨hY rfl,hY rfl⟩,λ_ h=>absurd h D,λm H b s hb hs e1 e2 e3=>?_⟩
    have B:=hs.mem
    have u:cmpA .In (.str a) (.list (F6.map .str))=some true:=by rcases S with rfl|rfl<;>kernel_rfl!
    unfold FZ
    refine cq Ci λC=>?_
    by_cases h1:c=1
    ·rw[if_pos h1]
     simp_arith[rd,J,I,u,hr]
    ·rw[if_neg h1]
     simp_arith[rd,J,I,u,hr]
   ·have Z:a=nm "rcl"∨a=nm "rcr":=by
     rcases hn with h|h|h|h|h|h|h
     ·exact absurd (.inl h) D
     ·exact absurd (.inr (.inl h)) D
     ·exact absurd (.inr (.inr h)) D
     ·exact absurd (.inl h) S
     ·exact absurd (.inr h) S
     ·exact .inl h
     ·exact .inr h
    obtain⟨r,cy,Q,hr⟩:=Qa Z (c:=c) (by lia:2≤o1.size) (by lia) hw.1 hw.2 hy.1 hy.2
    refine⟨[(0,cy),(5,if c=1 then Q else 0)],r,Px rfl,λ_=>Vp rfl,λ_=>⟨hY rfl,hY rfl⟩,λ_ h=>absurd h D,λm H b s hb hs e1 e2 e3=>?_⟩
    have B:=hs.mem
    have u:cmpA .In (.str a) (.list (F6.map .str))=some false:=by rcases Z with rfl|rfl<;>kernel_rfl!
    have e4:Aj (.mobj (nm "Flags") (b+2)) (nm "cf") (up H b s)=some (.int y):=by rw[at_cf hb,e3 Z]
    unfold FZ
    refine cq Ci λC=>?_
    by_cases h1:c=1
    ·rw[if_pos h1]
     simp_arith[rd,J,e4,I,u,hr]
    ·rw[if_neg h1]
     simp_arith[rd,J,e4,I,u,hr]
theorem read_e{m b:Nat}{H:AH}{s:St}{o:AP}{z w:Int}(hb:b+3<H.length)(ho:o.OK)(B:Sz z)(u:Do s.mem)(e:HV s z o=w):AB AA (m+6) (nm "State.read") [Ae b,o.av,.int z] (up H b s)=ok (.int w) (up H b s):=by rw[read_s hb ho B u,e]
theorem count_e{m b:Nat}{H:AH}{s:St}{o:AP}{z w:Int}(hb:b+3<H.length)(ho:o.OK)(hi:o.isMem=false)(e:UP s z o=w):AB AA (m+4) (nm "count_told") [Ae b,o.av,.int z] (up H b s)=ok (.int w) (up H b s):=by rw[count_s hb ho hi,e]
theorem get_g{m b:Nat}{H:AH}{s:St}{a:Str}{n z:Int}(hb:b+3<H.length)(e:0≤n∧n<16)(u:Sz z):AB AA (m+3) (nm "State.get") [Ae b,(Rg.gpr a n z).av] (up H b s)=ok (.int (W (s.regs n) z)) (up H b s):=get_s (g:=.gpr a n z) hb ⟨e.1,e.2,u⟩
theorem get_e{m b:Nat}{H:AH}{s:St}{a:Str}{n z x:Int}(hb:b+3<H.length)(u:0≤n∧n<16)(B:Sz z)(e:W (s.regs n) z=x):AB AA (m+3) (nm "State.get") [Ae b,(Rg.gpr a n z).av] (up H b s)=ok (.int x) (up H b s):=by rw[get_g hb u B,e]
noncomputable def VL(s:St)(z:Int)(v:Option Int)(o:AP):St:=match v with
 |some v=>U5 s z v o
 |uZ=>s
theorem YL{a:Str}(Q:a=nm "shld"∨a=nm "shrd"){o1 o2 o3:AP}(k1:o1.OK)(O:o1.isImm=false)(k2:o2.OK)(k3:o3.OK)(Z:o3.isMem=false)(S:o1.size≠8){w x c:Int}(hw:0≤w∧w<2^64)(J:0≤x∧x<2^64)(hc:0≤c∧c<64):
  ∃(fl:List (Nat×Int)) (v:Option Int),(∀p∈fl,p.1<6)∧(c≠0→∀i,i<6→i∈fl.map (·.1))∧
   ∀m H b s,b+3<H.length→Du s→HV s o1.size o1=w→HV s o1.size o2=x→UP s o1.size o3=c→FZ "double_deed" (m+10) b H s (AG a [o1.av,o2.av,o3.av]) (VL {s with fl:=Ed fl s.fl} o1.size v o1):=by
 have B:=BO k1 O
 have u:=Am B
 obtain⟨z8,z64⟩:=u
 have z0:=(Dc B).1
 have u:=Am B
 have hl:[o1.av,o2.av,o3.av].length≤100:=by simp
 by_cases I:c=0
 ·refine⟨[],some w,Px rfl,λh=>absurd I h,λm H b s hb hs e1 e2 e3=>?_⟩
  have e:=hs.mem
  unfold FZ
  refine cq Db λC=>?_
  simp_arith[]
 ·rcases YS Q (w:=w) (o:=x) (c:=c) (s:=o1.size) (by lia) (by lia) (by lia) hw.1 hw.2 J.1 J.2 with⟨U,r,cy,Y,D⟩|D
  ·obtain⟨p,hp⟩:=c9 (r:=r) (z:=o1.size) (by lia) (by lia)
   refine⟨[(0,0),(1,0),(2,0),(3,0),(4,0),(5,0),(4,Bt (W r o1.size) (o1.size-1)),(3,if W r o1.size=0 then 1 else 0),(1,p),(0,cy),(5,if c=1 then Y else 0)],some r,Px rfl,λ_=>fZ rfl,λm H b s hb hs e1 e2 e3=>?_⟩
   ·have e:=hs.mem
    unfold FZ
    refine cq Db λC=>?_
    by_cases h1:c=1
    all_goals
     first|rw[if_pos h1]|rw[if_neg h1]
     simp_arith[D,hp]
  ·refine⟨[(0,0),(1,0),(2,0),(3,0),(4,0),(5,0)],uZ,Px rfl,λ_=>fZ rfl,λm H b s hb hs e1 e2 e3=>?_⟩
   ·have e:=hs.mem
    unfold FZ
    refine cq Db λC=>?_
    simp_arith[D]
noncomputable def HP(s:St)(l:List (Rg×Int)):St:=l.foldl (λs p=>JI s p.1 p.2) s
set_option tactic.hygienic true in
theorem b8{s:St}{g:Rg}{v:Int}(hg:g.OK)(h:Du s):Du (JI s g v):=by
 refine⟨λi=>?_,h.mem⟩
 show 0≤Dh s.regs g.num (NO (s.regs g.num) v g) i∧Dh s.regs g.num (NO (s.regs g.num) v g) i<2^64
 unfold Dh
 split
 ·have u:=h.regs g.num
  have a1: ∀z:Int,0≤W v z:=λz=>Cl
  cases g with
  |gpr a n z=>
   have B:=Am hg.2.2
   simp only[NO,Rg.num] at u⊢
   have b1:=Ce (w:=v) (s:=z) B.2
   split
   ·exact⟨a1 z,b1⟩
   ·rename_i e
    have q1:W (s.regs n) z=s.regs n % 2^z.toNat:=rfl
    have q2:0≤W v z:=Cl
    have q3:W v z<2^z.toNat:=Ke
    rcases hg.2.2 with rfl|rfl|rfl|rfl
    ·exact rp (K:=2^56) (2^(8:Int).toNat) (by decide) u q2 q3
    ·exact rp (K:=2^48) (2^(16:Int).toNat) (by decide) u q2 q3
    ·exact absurd (by decide) e
    ·exact absurd (by decide) e
  |high a n=>
   simp only[NO,Rg.num] at u⊢
   rw[show W ((s.regs (n-4)).fdiv (2^(8:Int).toNat)) 8=s.regs (n-4)/256 % 256 from congrArg (· % 256) (x7 _ (by decide))]
   exact tK u Cl Ke
 ·exact h.regs i
theorem HL{z l h:Int}(e:Sz z)(D:0≤h∧h<2^64): ∃ws:List (Rg×Int),(∀p∈ws,p.1.OK)∧((z=8∧∃a v,ws=[(.gpr a 0 16,v)])∨(z≠8∧∃a u v J,ws=[(.gpr a 2 z,v),(.gpr u 0 z,J)]))∧∀m H b s,b+3<H.length→Du s→AB AA (m+6) (nm "put_halves") [Ae b,.int l,.int h,.int z] (up H b s)=ok .none (up H b (HP s ws)):=by
 have B:=Am e
 obtain⟨Y,z64⟩:=B
 have z0:=(Dc e).1
 have B:=Am e
 have U:h.natAbs<2^300:=n_up (n_64 D.1 D.2)
 have o1: ∀a,(Rg.gpr a 0 16).OK:=λa=>⟨by decide,by decide,.inr (.inl rfl)⟩
 have o2: ∀a,(Rg.gpr a 2 z).OK:=λa=>⟨by decide,by decide,e⟩
 have o3: ∀a,(Rg.gpr a 0 z).OK:=λa=>⟨by decide,by decide,e⟩
 by_cases I:z=8
 ·obtain⟨a,ha⟩:=CO (n:=0) (z:=16) (by decide) (by decide) (.inr (.inl rfl))
  refine⟨[(.gpr a 0 16,vG (h*2^(8:Int).toNat) l)],by simpa using o1 a,.inl ⟨I,a,_,rfl⟩,λm H b s hb hs=>?_⟩
  have O:=hs.regs
  have ho:=o1 a
  refine cq G8 λC=>?_
  simp_arith[ha]
 ·obtain⟨a,ha⟩:=CO (n:=2) (z:=z) (by decide) (by decide) e
  obtain⟨u,ha'⟩:=CO (n:=0) (z:=z) (by decide) (by decide) e
  refine⟨[(.gpr a 2 z,h),(.gpr u 0 z,l)],?_,.inr ⟨I,a,u,_,_,rfl⟩,λm H b s hb hs=>?_⟩
  ·intro p hp
   simp at hp
   rcases hp with rfl|rfl
   ·exact o2 a
   ·exact o3 u
  have O:=hs.regs
  have ho:=o2 a
  have S:=o3 u
  have Q:=(b8 (v:=h) ho hs).regs
  refine cq G8 λC=>?_
  simp_arith[ha,ha']
theorem WW{z v2 v0:Int}(u:Sz z): ∃v:Int,∀m H b s,b+3<H.length→(z≠8→W (s.regs 2) z=v2)→W (s.regs 0) (if z=8 then 16 else z)=v0→AB AA (m+5) (nm "halves") [Ae b,.int z] (up H b s)=ok (.int v) (up H b s):=by
 have e:=Am u
 obtain⟨O,z64⟩:=e
 have z0:=(Dc u).1
 have e:=Am u
 by_cases B:z=8
 ·obtain⟨a,ha⟩:=CO (n:=0) (z:=16) (by decide) (by decide) (.inr (.inl rfl))
  refine⟨v0,λm H b s hb e2 D=>?_⟩
  rw[if_pos B] at D
  have I:Sz 16:=.inr (.inl rfl)
  refine cq Pm λC=>?_
  simp_arith[ha]
 ·obtain⟨a,ha⟩:=CO (n:=2) (z:=z) (by decide) (by decide) u
  obtain⟨J,ha'⟩:=CO (n:=0) (z:=z) (by decide) (by decide) u
  refine⟨vG (v2*2^z.toNat) v0,λm H b s hb e2 D=>?_⟩
  rw[if_neg B] at D
  have e2:=e2 B
  have q1:0≤v2:=by rw[←e2];exact Cl
  have q2:v2<2^64:=by rw[←e2];exact Ce e.2
  refine cq Pm λC=>?_
  simp_arith[ha,ha']
noncomputable def ZO(w:Int):List (Nat×Int):=[(0,0),(1,0),(2,0),(3,0),(4,0),(5,0),(0,w),(5,w)]
theorem OM{s:St}: ∀{l:List (Rg×Int)},(HP s l).fl=s.fl:=by
 intro l
 induction l generalizing s with
 |nil=>rfl
 |cons p r e=>exact(e (s:=JI s p.1 p.2)).trans rfl
theorem Rj{a:Str}(U:a=nm "mul"∨a=nm "imul"){o1:AP}(k1:o1.OK)(S:o1.isImm=false){w x:Int}(hw:0≤w∧w<2^64)(J:0≤x∧x<2^64):
  ∃(D:Int) (ws:List (Rg×Int)),(∀p∈ws,p.1.OK)∧((o1.size=8∧∃a v,ws=[(.gpr a 0 16,v)])∨(o1.size≠8∧∃a Y v Q,ws=[(.gpr a 2 o1.size,v),(.gpr Y 0 o1.size,Q)]))∧
   ∀m H b s,b+3<H.length→Du s→HV s o1.size o1=w→W (s.regs 0) o1.size=x→FZ "product_deed" (m+10) b H s (AG a [o1.av]) {HP s ws with fl:=Ed (ZO D) s.fl}:=by
 have u:=BO k1 S
 have B:=Am u
 obtain⟨Z,z64⟩:=B
 have z0:=(Dc u).1
 have B:=Am u
 have hl:[o1.av].length≤100:=by simp
 obtain⟨ga,hga⟩:=CO (n:=0) (z:=o1.size) (by decide) (by decide) u
 obtain⟨r,h,D,I,hh1,hr⟩:=HY (w:=x) (o:=w) (s:=o1.size) (b:=a=nm "imul") (u9 (by decide) Z) z64 J.1 J.2 hw.1 hw.2
 obtain⟨ws,ok1,ok2,hp⟩:=HL (l:=r) (h:=h) u ⟨I,hh1⟩
 refine⟨D,ws,ok1,ok2,λm H b s hb hs e1 e2=>?_⟩
 have O:=hs.mem
 unfold FZ
 refine cq Cw λC=>?_
 rw[←OM (l:=ws)]
 rcases U with rfl|rfl
 ·have e: ∀m H,AB AA (m+6) (nm "product") [.int x,.int w,.int o1.size,.bool false] H=ok (.tuple [.int r,.int h,.int D]) H:=by
   have:decide (nm "mul"=nm "imul")=false:=by decide+kernel
   rw[this] at hr
   exact hr
  simp_arith[hga,e,hp]
 ·have e: ∀m H,AB AA (m+6) (nm "product") [.int x,.int w,.int o1.size,.bool true] H=ok (.tuple [.int r,.int h,.int D]) H:=by
   have:decide (nm "imul"=nm "imul")=true:=by decide+kernel
   rw[this] at hr
   exact hr
  simp_arith[hga,e,hp]
theorem XY{s:St}{z v:Int}{o:AP}:(U5 s z v o).fl=s.fl:=by cases o<;>rfl
theorem Pu{o1 o2:AP}(k1:o1.OK)(J:o1.isImm=false)(k2:o2.OK){w x:Int}(hw:0≤w∧w<2^64)(D:0≤x∧x<2^64):
  ∃(B v:Int),∀m H b s,b+3<H.length→Du s→HV s o1.size o1=w→HV s o1.size o2=x→FZ "product_deed" (m+10) b H s (AG (nm "imul") [o1.av,o2.av]) {U5 s o1.size v o1 with fl:=Ed (ZO B) s.fl}:=by
 have u:=BO k1 J
 have e:=Am u
 obtain⟨O,z64⟩:=e
 have z0:=(Dc u).1
 have e:=Am u
 have hl:[o1.av,o2.av].length≤100:=by simp
 obtain⟨r,h,B,hh0,hh1,hr⟩:=HY (w:=w) (o:=x) (s:=o1.size) (b:=true) (u9 (by decide) O) z64 hw.1 hw.2 D.1 D.2
 refine⟨B,r,λm H b s hb hs e1 e2=>?_⟩
 have I:=hs.mem
 unfold FZ
 refine cq Cw λC=>?_
 rw[←XY (s:=s) (z:=o1.size) (v:=r) (o:=o1)]
 simp_arith[hr]
theorem QY{o1 o2 o3:AP}(k1:o1.OK)(J:o1.isImm=false)(k2:o2.OK)(k3:o3.OK){w x:Int}(hw:0≤w∧w<2^64)(D:0≤x∧x<2^64):
  ∃(B v:Int),∀m H b s,b+3<H.length→Du s→HV s o1.size o3=w→HV s o1.size o2=x→FZ "product_deed" (m+10) b H s (AG (nm "imul") [o1.av,o2.av,o3.av]) {U5 s o1.size v o1 with fl:=Ed (ZO B) s.fl}:=by
 have u:=BO k1 J
 have e:=Am u
 obtain⟨O,z64⟩:=e
 have z0:=(Dc u).1
 have e:=Am u
 have hl:[o1.av,o2.av,o3.av].length≤100:=by simp
 obtain⟨r,h,B,hh0,hh1,hr⟩:=HY (w:=w) (o:=x) (s:=o1.size) (b:=true) (u9 (by decide) O) z64 hw.1 hw.2 D.1 D.2
 refine⟨B,r,λm H b s hb hs e1 e2=>?_⟩
 have I:=hs.mem
 unfold FZ
 refine cq Cw λC=>?_
 rw[←XY (s:=s) (z:=o1.size) (v:=r) (o:=o1)]
 simp_arith[hr]
theorem eZ{a:Str}(Q:a=nm "div"∨a=nm "idiv"){o1:AP}(k1:o1.OK)(U:o1.isImm=false){w v2 v0:Int}(hw:0≤w∧w<2^o1.size.toNat):
  (∀m H b s,b+3<H.length→Du s→HV s o1.size o1=w→(o1.size≠8→W (s.regs 2) o1.size=v2)→W (s.regs 0) (if o1.size=8 then 16 else o1.size)=v0→AB AA (m+10) (nm "quotient_deed") [Ae b,AG a [o1.av]] (up H b s)=some (.exc Av (up H b s)))∨
  ∃ws:List (Rg×Int),(∀p∈ws,p.1.OK)∧((o1.size=8∧∃a v,ws=[(.gpr a 0 16,v)])∨(o1.size≠8∧∃a Y v S,ws=[(.gpr a 2 o1.size,v),(.gpr Y 0 o1.size,S)]))∧
   ∀m H b s,b+3<H.length→Du s→HV s o1.size o1=w→(o1.size≠8→W (s.regs 2) o1.size=v2)→W (s.regs 0) (if o1.size=8 then 16 else o1.size)=v0→FZ "quotient_deed" (m+10) b H s (AG a [o1.av]) {HP s ws with fl:=Ed [(0,0),(1,0),(2,0),(3,0),(4,0),(5,0)] s.fl}:=by
 have u:=BO k1 U
 have D:=Am u
 obtain⟨Z,z64⟩:=D
 have z0:=(Dc u).1
 have D:=Am u
 have hl:[o1.av].length≤100:=by simp
 obtain⟨v,hv⟩:=WW (v2:=v2) (v0:=v0) u
 have ht: ∀{c:Bool},(a=nm "div"→c=false)→(a=nm "idiv"→c=true)→cmpA .Eq (.str a) (.str (nm "idiv"))=some c:=by
  intro c h1 h2
  rcases Q with rfl|rfl
  ·rw[h1 rfl];exact c_eqSF (by decide+kernel)
  ·rw[h2 rfl];exact c_eqST (by decide+kernel)
 obtain⟨c,hc⟩: ∃c,cmpA .Eq (.str a) (.str (nm "idiv"))=some c:=by
  rcases Q with rfl|rfl
  ·exact⟨false,c_eqSF (by decide+kernel)⟩
  ·exact⟨true,c_eqST (by decide+kernel)⟩
 rcases Qf (w:=v) (d:=w) (s:=o1.size) (b:=c) (u9 (by decide) Z) z64 hw.1 hw.2 with I|⟨r,h,J,hh1,I⟩
 ·left
  intro m H b s hb hs e1 e2 O
  have B:=hs.mem
  refine cq EQ λC=>?_
  have e:=λm=>hv m H b s hb e2 O
  cases c<;>simp_arith[e,hc,I]
 ·right
  obtain⟨ws,ok1,ok2,hp⟩:=HL (l:=r) (h:=h) u ⟨J,hh1⟩
  refine⟨ws,ok1,ok2,λm H b s hb hs e1 e2 O=>?_⟩
  have B:=hs.mem
  unfold FZ
  refine cq EQ λC=>?_
  rw[←OM (l:=ws)]
  have e:=λm=>hv m H b s hb e2 O
  cases c<;>simp_arith[e,hc,I,hp]
theorem I9{x:Int}{f:Nat→Int}:Ed [(0,0),(1,0),(2,0),(3,0),(4,0),(5,0),(0,x),(3,f 3)] f=Ed [(0,x),(1,0),(2,0),(4,0),(5,0)] f:=by
 funext i
 show DC (DC (DC (DC (DC (DC (DC (DC f 0 0) 1 0) 2 0) 3 0) 4 0) 5 0) 0 x) 3 (f 3) i=DC (DC (DC (DC (DC f 0 x) 1 0) 2 0) 4 0) 5 0 i
 unfold DC
 by_cases h3:i=3
 ·subst h3;simp
 ·by_cases e:i=0
  ·subst e;simp
  ·simp only[h3,e,if_false]
noncomputable def Og(x:Int):List (Nat×Int):=[(0,x),(1,0),(2,0),(4,0),(5,0)]
noncomputable def KC(s:St)(z:Int):AP→Int
 |.reg g=>Sg (Fa s.regs g) z
 |.imm w=>(W w 8).fmod z
 |.mem .. =>0
theorem Yj{a:Str}(O:a=nm "bt"∨a=nm "bts"∨a=nm "btr"∨a=nm "btc"){g:Rg}{o2:AP}(k1:(AP.reg g).OK)(k2:o2.OK)(i2:o2.isMem=false){w off:Int}:
  ∃(x:Int) (v:Option Int),(a=nm "bt"→v=uZ)∧∀m H b s,b+3<H.length→Du s→HV s g.size (.reg g)=w→KC s g.size o2=off→FZ "bit_deed" (m+10) b H s (AG a [(AP.reg g).av,o2.av]) (VL {s with fl:=Ed (Og x) s.fl} g.size v (.reg g)):=by
 have Y:=S9 k1
 have Q:=Am Y
 obtain⟨z8,z64⟩:=Q
 have z1:1≤g.size:=u9 (by decide) z8
 have Q:=Am Y
 have hl:[(AP.reg g).av,o2.av].length≤100:=by simp
 have hf:=Bn (c:=off) (s:=g.size) z1
 have hf0:=hf.1
 have Z:off.fmod g.size≤64:=u9 (vU hf.2) z64
 have hi1:(AP.reg g).isImm=false:=rfl
 have hsz:(AP.reg g).size=g.size:=rfl
 have D: ∀{m b:Nat} {H:AH} {a:Str} {l:List AV},l.length≤100→AB AA (m+2) (nm "State.size_of") [Ae b,HX g.av,AG a l] H=ok (.int g.size) H:=λh=>size_of_s (o:=.reg g) k1 rfl h
 have u: ∀{m b:Nat} {H:AH} {s:St},b+3<H.length→Do s.mem→HV s g.size (.reg g)=w→AB AA (m+6) (nm "State.read") [Ae b,HX g.av,.int g.size] (up H b s)=ok (.int w) (up H b s):=λhb hk e=>read_e (o:=.reg g) hb k1 Y hk e
 have B: ∀{m b:Nat} {H:AH} {s:St} {v:Int},b+3<H.length→Du s→AB AA (m+6) (nm "State.write") [Ae b,HX g.av,.int g.size,.int v] (up H b s)=ok .none (up H b (U5 s g.size v (.reg g))):=λhb hs=>write_s (o:=.reg g) hb k1 rfl Y hs
 rcases O with rfl|O
 ·refine⟨Bt w (off.fmod g.size),uZ,λ_=>rfl,λm H b s hb hs e1 e2=>?_⟩
  have J:=hs.mem
  unfold FZ
  refine cq D9 λC=>?_
  rw[Og,←I9]
  cases o2 with
  |reg I=>
   have e2:Sg (Fa s.regs I) g.size=off:=e2
   have kg:I.OK:=k2
   subst e2
   show Al _ _ [Ae b,AG _ [HX g.av,HX I.av]] _ C→_
   simp_arith[D,u,B]
  |imm S=>
   have e2:(W S 8).fmod g.size=off:=e2
   subst e2
   show Al _ _ [Ae b,AG _ [HX g.av,NZ S]] _ C→_
   simp_arith[D,u,B]
  |mem=>cases i2
 ·obtain⟨v,hv⟩:=VQ O (w:=w) (n:=off.fmod g.size) hf0 Z
  have U:cmpA .Eq (.str a) (.str (nm "bt"))=some false:=by
   rcases O with rfl|rfl|rfl<;>exact c_eqSF (by decide+kernel)
  refine⟨Bt w (off.fmod g.size),some v,?_,λm H b s hb hs e1 e2=>?_⟩
  ·intro h;subst h;rcases O with h|h|h<;>exact absurd h (by decide+kernel)
  have J:=hs.mem
  unfold FZ
  refine cq D9 λC=>?_
  rw[Og,←I9]
  cases o2 with
  |reg I=>
   have e2:Sg (Fa s.regs I) g.size=off:=e2
   have kg:I.OK:=k2
   subst e2
   show Al _ _ [Ae b,AG _ [HX g.av,HX I.av]] _ C→_
   simp_arith[D,u,B,hv,U]
  |imm S=>
   have e2:(W S 8).fmod g.size=off:=e2
   subst e2
   show Al _ _ [Ae b,AG _ [HX g.av,NZ S]] _ C→_
   simp_arith[D,u,B,hv,U]
  |mem=>cases i2
theorem Yh{a:Str}(O:a=nm "bt"∨a=nm "bts"∨a=nm "btr"∨a=nm "btc"){p q:Option (Str×Int)}{sc d z:Int}{o2:AP}(k1:(AP.mem p q sc d z).OK)(k2:o2.OK)(i2:o2.isMem=false){w off pl:Int}:
  ∃(x:Int) (v:Option Int),(a=nm "bt"→v=uZ)∧∀m H b s,b+3<H.length→Du s→Hi s.regs p q sc d=pl→KC s z o2=off→Y2 s.mem (W (pl+off.fdiv z*z.fdiv 8) 64) (z.fdiv 8)=w→
   FZ "bit_deed" (m+10) b H s (AG a [(AP.mem p q sc d z).av,o2.av]) {s with fl:=Ed (Og x) s.fl,mem:=match v with|some v=>L5 s.mem (W (pl+off.fdiv z*z.fdiv 8) 64) (z.fdiv 8) v|uZ=>s.mem}:=by
 have hz:Sz z:=k1.2.2.1
 have S:=Am hz
 obtain⟨z8,z64⟩:=S
 have z1:1≤z:=u9 (by decide) z8
 have S:=Am hz
 have hz3:=Rf hz
 have zdn:(z.fdiv 8).natAbs<2^64:=n_64' (a_01 hz3.1) (u9 hz3.2 (by decide))
 have zn:z.natAbs<2^300:=n_up (n_64' (a_01 z1) z64)
 have q1:=k1.1
 have q2:=k1.2.1
 have hl:[(AP.mem p q sc d z).av,o2.av].length≤100:=by simp
 have hf:=Bn (c:=off) (s:=z) z1
 have hf0:=hf.1
 have hf1:off.fmod z≤64:=u9 (vU hf.2) z64
 have hi1:(AP.mem p q sc d z).isImm=false:=rfl
 have hsz:(AP.mem p q sc d z).size=z:=rfl
 have B: ∀{m b:Nat} {H:AH} {a:Str} {l:List AV},l.length≤100→AB AA (m+2) (nm "State.size_of") [Ae b,B0 (B5 p) (B5 q) sc d z,AG a l] H=ok (.int z) H:=λh=>size_of_s (o:=.mem p q sc d z) k1 rfl h
 have hpl: ∀{m b:Nat} {H:AH} {s:St},b+3<H.length→AB AA (m+5) (nm "State.place") [Ae b,B0 (B5 p) (B5 q) sc d z] (up H b s)=ok (.int (Hi s.regs p q sc d)) (up H b s):=λhb=>place_s hb q1 q2
 obtain⟨U,Q⟩:=Vq hz
 have u: ∀{m b:Nat} {H:AH} {s:St} {x:Int},b+3<H.length→Do s.mem→Y2 s.mem x (z.fdiv 8)=w→AB AA (m+4) (nm "Memory.read") [Be b,.int x,.int (z.fdiv 8)] (up H b s)=ok (.int w) (up H b s):=λhb hk e=>by rw[memread_s hb hk U Q,e]
 have D: ∀{m b:Nat} {H:AH} {s:St} {x v:Int},b+3<H.length→Du s→AB AA (m+4) (nm "Memory.write") [Be b,.int x,.int (z.fdiv 8),.int v] (up H b s)=ok .none (up H b {s with mem:=L5 s.mem x (z.fdiv 8) v}):=λhb hk=>memwrite_s hb (u5 hk.mem.1 (by decide)) U Q
 rcases O with rfl|O
 ·refine⟨Bt w (off.fmod z),uZ,λ_=>rfl,λm H b s hb hs e0 e2 e1=>?_⟩
  have J:=hs.mem
  unfold FZ
  refine cq D9 λC=>?_
  rw[Og,←I9]
  cases o2 with
  |reg I=>
   have e2:Sg (Fa s.regs I) z=off:=e2
   have kg:I.OK:=k2
   subst e0
   subst e2
   show Al _ _ [Ae b,AG _ [B0 (B5 p) (B5 q) sc d z,HX I.av]] _ C→_
   simp_arith[B,hpl,u,D]
  |imm Y=>
   have e2:(W Y 8).fmod z=off:=e2
   subst e0
   subst e2
   show Al _ _ [Ae b,AG _ [B0 (B5 p) (B5 q) sc d z,NZ Y]] _ C→_
   simp_arith[B,hpl,u,D]
  |mem=>cases i2
 ·obtain⟨v,hv⟩:=VQ O (w:=w) (n:=off.fmod z) hf0 hf1
  have Z:cmpA .Eq (.str a) (.str (nm "bt"))=some false:=by
   rcases O with rfl|rfl|rfl<;>exact c_eqSF (by decide+kernel)
  refine⟨Bt w (off.fmod z),some v,?_,λm H b s hb hs e0 e2 e1=>?_⟩
  ·intro h;subst h;rcases O with h|h|h<;>exact absurd h (by decide+kernel)
  have J:=hs.mem
  have hml:s.mem.length≤900:=u5 hs.mem.1 (by decide)
  unfold FZ
  refine cq D9 λC=>?_
  rw[Og,←I9]
  cases o2 with
  |reg I=>
   have e2:Sg (Fa s.regs I) z=off:=e2
   have kg:I.OK:=k2
   subst e0
   subst e2
   show Al _ _ [Ae b,AG _ [B0 (B5 p) (B5 q) sc d z,HX I.av]] _ C→_
   simp_arith[B,hpl,u,D,hv,Z]
  |imm Y=>
   have e2:(W Y 8).fmod z=off:=e2
   subst e0
   subst e2
   show Al _ _ [Ae b,AG _ [B0 (B5 p) (B5 q) sc d z,NZ Y]] _ C→_
   simp_arith[B,hpl,u,D,hv,Z]
  |mem=>cases i2
theorem gK{a:Str}(U:a=nm "bsf"∨a=nm "bsr"∨a=nm "popcnt"∨a=nm "lzcnt"∨a=nm "tzcnt"){o1 o2:AP}(k1:o1.OK)(Y:o1.isImm=false)(k2:o2.OK){w:Int}:
  ∃(fl:List (Nat×Int)) (v:Option Int),(∀p∈fl,p.1<6)∧(∀i,i<6→i∈fl.map (·.1))∧(v=uZ→a=nm "bsf"∨a=nm "bsr")∧
   ∀m H b s,b+3<H.length→Du s→HV s o1.size o2=w→FZ "scan_deed" (m+10) b H s (AG a [o1.av,o2.av]) (VL {s with fl:=Ed fl s.fl} o1.size v o1):=by
 have S:=BO k1 Y
 have D:=Am S
 obtain⟨z8,Q⟩:=D
 have z1:1≤o1.size:=u9 (by decide) z8
 have z0:=a_01 z1
 have D:=Am S
 have hl:[o1.av,o2.av].length≤100:=by simp
 have O: ∀(l:List (Nat×Int)) (i:Nat),i<6→i∈((0,0)::(1,0)::(2,0)::(3,0)::(4,0)::(5,(0:Int))::l).map (·.1):=by
  intro l i hi
  show i∈[0,1,2,3,4,5]++l.map (·.1)
  exact v5 _ ((by decide: ∀i:Nat,i<6→i∈[0,1,2,3,4,5]) i hi)
 rcases T8 U (w:=w) (s:=o1.size) z1 Q with⟨J,hw0,hr⟩|⟨r,hr⟩
 ·refine⟨[(0,0),(1,0),(2,0),(3,0),(4,0),(5,0),(3,1)],uZ,by simp,O _,λ_=>J,λm H b s hb hs e1=>?_⟩
  have u:=hs.mem
  unfold FZ
  refine cq El λC=>?_
  subst hw0
  rcases J with rfl|rfl
  all_goals
   simp_arith[hr]
 ·have e:(a=nm "bsf"∨a=nm "bsr"∨a=nm "popcnt")∨(a=nm "lzcnt"∨a=nm "tzcnt"):=by
   rcases U with h|h|h|h|h
   ·exact .inl (.inl h)
   ·exact .inl (.inr (.inl h))
   ·exact .inl (.inr (.inr h))
   ·exact .inr (.inl h)
   ·exact .inr (.inr h)
  rcases e with Z|hB
  ·refine⟨[(0,0),(1,0),(2,0),(3,0),(4,0),(5,0),(3,if w=0 then 1 else 0)],some r,by simp,O _,(λh=>by cases h),λm H b s hb hs e1=>?_⟩
   have u:=hs.mem
   have B:I8 (.str a) (.tuple [.str (nm "lzcnt"),.str (nm "tzcnt")])=some false:=by
    rcases Z with rfl|rfl|rfl<;>decide+kernel
   unfold FZ
   refine cq El λC=>?_
   by_cases I:w=0
   all_goals
    first|rw[if_pos I]|rw[if_neg I]
    simp_arith[hr,c_inSF B]
  ·refine⟨[(0,0),(1,0),(2,0),(3,0),(4,0),(5,0),(0,if w=0 then 1 else 0),(3,if r=0 then 1 else 0)],some r,by simp,O _,(λh=>by cases h),λm H b s hb hs e1=>?_⟩
   have u:=hs.mem
   have B:I8 (.str a) (.tuple [.str (nm "lzcnt"),.str (nm "tzcnt")])=some true:=by
    rcases hB with rfl|rfl<;>decide+kernel
   unfold FZ
   refine cq El λC=>?_
   by_cases I:w=0
   all_goals
    by_cases h1:r=0
    all_goals
     first|rw[if_pos I]|rw[if_neg I]
     first|rw[if_pos h1]|rw[if_neg h1]
     simp_arith[hr,c_inST B]
theorem gY{o1:AP}(k1:o1.OK)(J:o1.isImm=false){w:Int}:
  (o1.size=16∧∀m H b s,b+3<H.length→AB AA (m+10) (nm "swap_deed") [Ae b,AG (nm "bswap") [o1.av]] (up H b s)=some (.exc Av (up H b s)))∨
  ∃v:Int,∀m H b s,b+3<H.length→Du s→HV s o1.size o1=w→FZ "swap_deed" (m+10) b H s (AG (nm "bswap") [o1.av]) (U5 s o1.size v o1):=by
 have B:=BO k1 J
 have e:=Am B
 obtain⟨O,z64⟩:=e
 have z1:1≤o1.size:=u9 (by decide) O
 have z0:=a_01 z1
 have e:=Am B
 have u:=Rf B
 have hl:[o1.av].length≤100:=by simp
 by_cases D:o1.size=16
 ·refine .inl ⟨D,λm H b s hb=>?_⟩
  refine cq IE λC=>?_
  simp_arith[]
 ·obtain⟨v,hv⟩:=UT (w:=w) (v:=o1.size.fdiv 8) (a_01 u.1) u.2
  refine .inr ⟨v,λm H b s hb hs e1=>?_⟩
  have I:=hs.mem
  unfold FZ
  refine cq IE λC=>?_
  simp_arith[hv]
theorem ZG{a:Str}(Q:a=nm "movzx"∨a=nm "movsx"∨a=nm "movsxd"){o1 o2:AP}(k1:o1.OK)(O:o1.isImm=false)(k2:o2.OK)(Y:o2.isImm=false){w:Int}:
  ∃v:Int,∀m H b s,b+3<H.length→Du s→HV s o2.size o2=w→FZ "widening_deed" (m+10) b H s (AG a [o1.av,o2.av]) (U5 s o1.size v o1):=by
 have I:=BO k1 O
 have u:=Am I
 obtain⟨S,z64⟩:=u
 have z1:1≤o1.size:=u9 (by decide) S
 have z0:=a_01 z1
 have u:=Am I
 have D:=BO k2 Y
 obtain⟨U,y64⟩:=Am D
 have Z:1≤o2.size:=u9 (by decide) U
 have hl:[o1.av,o2.av].length≤100:=by simp
 by_cases J:a=nm "movzx"
 ·refine⟨w,λm H b s hb hs e1=>?_⟩
  have e:=hs.mem
  subst J
  unfold FZ
  refine cq EW λC=>?_
  simp_arith[]
 ·have B:cmpA .NotEq (.str a) (.str (nm "movzx"))=some true:=by
   rcases Q with rfl|rfl|rfl
   ·exact absurd rfl J
   ·exact c_neSF (by decide+kernel)
   ·exact c_neSF (by decide+kernel)
  refine⟨W (Sg w o2.size) o1.size,λm H b s hb hs e1=>?_⟩
  have e:=hs.mem
  unfold FZ
  refine cq EW λC=>?_
  simp_arith[B]
theorem M3{a:Str}{i x:Int}(u:cmpA .In (.str a) (.list (Bu.map .str))=some true)(ix: ∀{j H0 H},Af j (.list (Bu.map .str)) (nm "index") H0 [.str a] H (.int i) H)(J:0≤i)(h1:i≤1000)(z1:Sz (16*2^i.toNat))(z2:Sz ((16*2^i.toNat:Int).fdiv 2)):
  ∃(l:Str) (v:Int),∀m H b s,b+3<H.length→Du s→s.regs 0=x→AB AA (m+10) (nm "conversion_deed") [Ae b,.str a] (up H b s)=ok .none (up H b (JI s (.gpr l 0 (16*2^i.toNat)) v)):=by
 obtain⟨B,g0⟩:=CO (n:=0) (by decide) (by decide) z2
 obtain⟨a1,g1⟩:=CO (n:=0) (by decide) (by decide) z1
 refine⟨a1,W (Sg (W x ((16*2^i.toNat:Int).fdiv 2)) ((16*2^i.toNat:Int).fdiv 2)) (16*2^i.toNat),λm H b s hb hs e=>cq DK λC=>?_⟩
 subst e
 obtain⟨q1,q2⟩:=Am z1
 obtain⟨q3,q4⟩:=Am z2
 have q5:1≤(16*2^i.toNat:Int).fdiv 2:=u9 (by decide) q3
 have q6:0≤(16*2^i.toNat:Int):=u9 (by decide) q1
 have D:=hs.regs
 have k1:(Rg.gpr a1 0 (16*2^i.toNat)).OK:=⟨by decide,by decide,z1⟩
 have I:(0:Int)≤0∧(0:Int)<16:=⟨by decide,by decide⟩
 simp_arith[ix,u,g0,g1]
theorem NT{a:Str}{i x:Int}(u:cmpA .In (.str a) (.list (Bu.map .str))=some false)(ix: ∀{j H0 H},Af j (.list (JK.map .str)) (nm "index") H0 [.str a] H (.int i) H)(J:0≤i)(h1:i≤1000)(z1:Sz (16*2^i.toNat)):
  ∃(l:Str) (v:Int),∀m H b s,b+3<H.length→Du s→s.regs 0=x→AB AA (m+10) (nm "conversion_deed") [Ae b,.str a] (up H b s)=ok .none (up H b (JI s (.gpr l 2 (16*2^i.toNat)) v)):=by
 obtain⟨B,g0⟩:=CO (n:=0) (by decide) (by decide) z1
 obtain⟨a1,g1⟩:=CO (n:=2) (by decide) (by decide) z1
 refine⟨a1,W (-(Bt (W x (16*2^i.toNat)) (16*2^i.toNat-1))) (16*2^i.toNat),λm H b s hb hs e=>cq DK λC=>?_⟩
 subst e
 obtain⟨q1,q2⟩:=Am z1
 have q5:1≤(16*2^i.toNat:Int):=u9 (by decide) q1
 have q6:0≤(16*2^i.toNat:Int):=u9 (by decide) q1
 have D:=hs.regs
 have k1:(Rg.gpr a1 2 (16*2^i.toNat)).OK:=⟨by decide,by decide,z1⟩
 have I:(0:Int)≤0∧(0:Int)<16:=⟨by decide,by decide⟩
 simp_arith[ix,u,g0,g1]
noncomputable def eW(a:Str):Int:=if a=nm "cbw"∨a=nm "cwd" then 0 else if a=nm "cwde"∨a=nm "cdq" then 1 else 2
noncomputable def U8(a:Str):Int:=16*2^(eW a).toNat
theorem kB{a:Str}(e:a=nm "cbw"∨a=nm "cwde"∨a=nm "cdqe"∨a=nm "cwd"∨a=nm "cdq"∨a=nm "cqo"){x:Int}:
  ∃(l:Str) (v:Int),∀m H b s,b+3<H.length→Du s→s.regs 0=x→AB AA (m+10) (nm "conversion_deed") [Ae b,.str a] (up H b s)=ok .none (up H b (JI s (.gpr l (if a=nm "cbw"∨a=nm "cwde"∨a=nm "cdqe" then 0 else 2) (U8 a)) v)):=by
 rcases e with rfl|rfl|rfl|rfl|rfl|rfl
 ·rw[if_pos (by decide+kernel)];exact M3 (i:=eW (nm "cbw")) (by kernel_rfl!) ⟨rfl,by kernel_rfl!⟩ (by decide+kernel) (by decide+kernel) (.inr (.inl (by decide+kernel))) (.inl (by decide+kernel))
 ·rw[if_pos (by decide+kernel)];exact M3 (i:=eW (nm "cwde")) (by kernel_rfl!) ⟨rfl,by kernel_rfl!⟩ (by decide+kernel) (by decide+kernel) (.inr (.inr (.inl (by decide+kernel)))) (.inr (.inl (by decide+kernel)))
 ·rw[if_pos (by decide+kernel)];exact M3 (i:=eW (nm "cdqe")) (by kernel_rfl!) ⟨rfl,by kernel_rfl!⟩ (by decide+kernel) (by decide+kernel) (.inr (.inr (.inr (by decide+kernel)))) (.inr (.inr (.inl (by decide+kernel))))
 ·rw[if_neg (by decide+kernel)];exact NT (i:=eW (nm "cwd")) (by kernel_rfl!) ⟨rfl,by kernel_rfl!⟩ (by decide+kernel) (by decide+kernel) (.inr (.inl (by decide+kernel)))
 ·rw[if_neg (by decide+kernel)];exact NT (i:=eW (nm "cdq")) (by kernel_rfl!) ⟨rfl,by kernel_rfl!⟩ (by decide+kernel) (by decide+kernel) (.inr (.inr (.inl (by decide+kernel))))
 ·rw[if_neg (by decide+kernel)];exact NT (i:=eW (nm "cqo")) (by kernel_rfl!) ⟨rfl,by kernel_rfl!⟩ (by decide+kernel) (by decide+kernel) (.inr (.inr (.inr (by decide+kernel))))
theorem Ca{a f:Str}(h:(f=nm "shift_deed"∧(a=nm "shl"∨a=nm "shr"∨a=nm "sar"∨a=nm "rol"∨a=nm "ror"∨a=nm "rcl"∨a=nm "rcr"))∨(f=nm "double_deed"∧(a=nm "shld"∨a=nm "shrd"))∨(f=nm "product_deed"∧(a=nm "mul"∨a=nm "imul"))∨(f=nm "quotient_deed"∧(a=nm "div"∨a=nm "idiv"))∨(f=nm "bit_deed"∧(a=nm "bt"∨a=nm "bts"∨a=nm "btr"∨a=nm "btc"))∨(f=nm "scan_deed"∧(a=nm "bsf"∨a=nm "bsr"∨a=nm "popcnt"∨a=nm "lzcnt"∨a=nm "tzcnt"))∨(f=nm "swap_deed"∧a=nm "bswap")∨(f=nm "widening_deed"∧(a=nm "movzx"∨a=nm "movsx"∨a=nm "movsxd"))){m b:Nat}{l:List AV}{H H':AH}(e:AB AA (m+1) f [Ae b,AG a l] H=ok .none H'):AB AA (m+2) (nm "rotate_deed") [Ae b,AG a l] H=ok (.bool true) H':=by
 refine cq Df λC=>?_
 rcases h with⟨rfl,h⟩|⟨rfl,h⟩|⟨rfl,h⟩|⟨rfl,h⟩|⟨rfl,h⟩|⟨rfl,h⟩|⟨rfl,h⟩|⟨rfl,h⟩
 ·rcases h with rfl|rfl|rfl|rfl|rfl|rfl|rfl<;>simp_arith[e]
 ·rcases h with rfl|rfl<;>simp_arith[e]
 ·rcases h with rfl|rfl<;>simp_arith[e]
 ·rcases h with rfl|rfl<;>simp_arith[e]
 ·rcases h with rfl|rfl|rfl|rfl<;>simp_arith[e]
 ·rcases h with rfl|rfl|rfl|rfl|rfl<;>simp_arith[e]
 ·subst h;simp_arith[e]
 ·rcases h with rfl|rfl|rfl<;>simp_arith[e]
theorem cW{a f:Str}(h:(f=nm "quotient_deed"∧(a=nm "div"∨a=nm "idiv"))∨(f=nm "swap_deed"∧a=nm "bswap")){m b:Nat}{l:List AV}{H H':AH}(e:AB AA (m+1) f [Ae b,AG a l] H=some (.exc Av H')):AB AA (m+2) (nm "rotate_deed") [Ae b,AG a l] H=some (.exc Av H'):=by
 refine cq Df λC=>?_
 rcases h with⟨rfl,h⟩|⟨rfl,h⟩
 ·rcases h with rfl|rfl<;>simp_arith[e]
 ·subst h;simp_arith[e]
theorem gW{a:Str}(h:a=nm "cbw"∨a=nm "cwde"∨a=nm "cdqe"∨a=nm "cwd"∨a=nm "cdq"∨a=nm "cqo"){m b:Nat}{l:List AV}{H H':AH}(e:AB AA (m+1) (nm "conversion_deed") [Ae b,.str a] H=ok .none H'):AB AA (m+2) (nm "rotate_deed") [Ae b,AG a l] H=ok (.bool true) H':=by
 refine cq Df λC=>?_
 rcases h with rfl|rfl|rfl|rfl|rfl|rfl<;>simp_arith[e]
set_option genInjectivity true in
inductive Tg where
 |reg (g:Rg)
 |mem (a w:Int)
noncomputable def KW(s:St)(p:Tg×Int):St:=match p.1 with
 |.reg g=>JI s g p.2
 |.mem a w=>{s with mem:=L5 s.mem a w p.2}
structure Nf where
 fl:List (Nat×Int)
 wr:List (Tg×Int)
noncomputable def Nf.app(N:Nf)(s:St):St:=N.wr.foldl KW {s with fl:=Ed N.fl s.fl}
structure DA where
 rd:Int→Prop
 ch:Int→Prop
 cf:Prop
 isch:Bool
 wf:Nat→Prop
 sure:Nat→Prop
noncomputable def Se(T:DA)(V s:St):Prop:=(∀n,T.rd n→s.regs n=V.regs n)∧(T.cf→s.fl 0=V.fl 0)∧s.mem=V.mem
noncomputable abbrev Mf(m b:Nat)(H:AH)(s:St)(r:AV):R AV:=AB AA m (nm "rotate_deed") [Ae b,r] (up H b s)
structure bM (T:DA) (spot:Option (Int×Int)) (N:Nf):Prop where
 reg: ∀g v,(Tg.reg g,v)∈N.wr→g.OK∧T.ch g.num∧(32≤g.size∨T.rd g.num)
 mem: ∀a w v,(Tg.mem a w,v)∈N.wr→T.isch=true∧spot=some (a,w)
 all: ∀n,T.ch n→T.rd n∨∃g v,(Tg.reg g,v)∈N.wr∧g.num=n
 fl: ∀p∈N.fl,T.wf p.1
 sure: ∀i,i<7→T.sure i→i∈N.fl.map (·.1)
 len:N.wr.length≤4
noncomputable def Bg(T:DA)(spot:Option (Int×Int))(V:St)(r:AV):Prop:=
 (∀m H b s,b+3<H.length→Du s→Se T V s→Mf (m+20) b H s r=some (.exc Av (up H b s)))∨
 ∃N:Nf,bM T spot N∧∀m H b s,b+3<H.length→Du s→Se T V s→Mf (m+20) b H s r=ok (.bool true) (up H b (N.app s))
noncomputable def Bh(rd:Int→Prop)(o:AP):Prop:=match o with
 |.mem b i _ _ _=>(∀p∈b,rd p.2)∧(∀p∈i,rd p.2)
 |_=>True
noncomputable def BS(rd:Int→Prop)(o:AP):Prop:=match o with
 |.reg g=>rd g.num
 |_=>True
section
variable{T:DA}{V s:St}
theorem R6(h:Se T V s){b:Option (Str×Int)}(hb: ∀p∈b,T.rd p.2):Y8 s.regs b=Y8 V.regs b:=by
 cases b with
 |none=>rfl
 |some p=>
  obtain⟨a,n⟩:=p
  show W (s.regs n) 64=W (V.regs n) 64
  rw[h.1 n (hb (a,n) rfl)]
theorem NY(h:Se T V s){b i:Option (Str×Int)}{sc d z:Int}(e:Bh T.rd (.mem b i sc d z)):Hi s.regs b i sc d=Hi V.regs b i sc d:=by
 unfold Hi
 rw[R6 h e.1,R6 h e.2]
theorem JT(h:Se T V s){g:Rg}(hg:T.rd g.num):Fa s.regs g=Fa V.regs g:=by
 cases g with
 |gpr a n z=>show W (s.regs n) z=W (V.regs n) z;rw[h.1 n hg]
 |high a n=>show W ((s.regs (n-4)).fdiv _) 8=W ((V.regs (n-4)).fdiv _) 8;rw[h.1 (n-4) hg]
theorem BK(h:Se T V s){o:AP}{z:Int}(e:Bh T.rd o)(ho:BS T.rd o):HV s z o=HV V z o:=by
 cases o with
 |reg g=>show W (Fa s.regs g) z=W (Fa V.regs g) z;rw[JT h ho]
 |imm w=>rfl
 |mem b i sc d u=>show Y2 s.mem (Hi s.regs b i sc d) _=Y2 V.mem (Hi V.regs b i sc d) _;rw[NY h e,h.2.2]
theorem Rp(h:Se T V s){o:AP}{z:Int}(ho:BS T.rd o):UP s z o=UP V z o:=by
 cases o with
 |reg g=>show W (Fa s.regs g) _=W (Fa V.regs g) _;rw[JT h ho]
 |imm w=>rfl
 |mem=>rfl
theorem KF(h:Se T V s){o:AP}{z:Int}(ho:BS T.rd o):KC s z o=KC V z o:=by
 cases o with
 |reg g=>show Sg (Fa s.regs g) _=Sg (Fa V.regs g) _;rw[JT h ho]
 |imm w=>rfl
 |mem=>rfl
noncomputable def kN(V:St)(z:Int):AP→Tg
 |.reg g=>.reg g
 |.imm _=>.mem 0 0
 |.mem b i sc d _=>.mem (Hi V.regs b i sc d) (z.fdiv 8)
theorem bF(h:Se T V s){o:AP}{z v:Int}(hi:o.isImm=false)(e:Bh T.rd o)(f:Nat→Int):U5 {s with fl:=f} z v o=KW {s with fl:=f} (kN V z o,v):=by
 cases o with
 |reg g=>rfl
 |imm=>cases hi
 |mem b i sc d u=>
  show{({s with fl:=f}:St)with mem:=L5 s.mem (Hi s.regs b i sc d) (z.fdiv 8) v}={({s with fl:=f}:St)with mem:=L5 s.mem (Hi V.regs b i sc d) (z.fdiv 8) v}
  rw[NY h e]
end
noncomputable def Fp(V:St):AP→Option (Int×Int)
 |.mem b i sc d z=>some (Hi V.regs b i sc d,z.fdiv 8)
 |_=>uZ
noncomputable def E1(T:DA)(o:AP):Prop:=Bh T.rd o∧(match o with
 |.reg g=>(∀n,T.ch n↔n=g.num)∧(32≤g.size∨T.rd g.num)
 |.mem .. =>T.isch=true∧∀n,¬T.ch n
 |.imm _=>False)
theorem kM{T:DA}{V:St}{o:AP}(k:o.OK)(hd:E1 T o){fl:List (Nat×Int)}{v:Option Int}(B:v=uZ→BS T.rd o)(hf: ∀p∈fl,T.wf p.1)(hs: ∀i,i<7→T.sure i→i∈fl.map (·.1)):bM T (Fp V o) ⟨fl,match v with|some v=>[(kN V o.size o,v)]|uZ=>[]⟩:=by
 refine⟨λg w hg=>?_,λa w x hm=>?_,λn e=>?_,hf,hs,by cases v<;>simp⟩
 ·cases v with
  |none=>cases hg
  |some v=>
   simp only[aw,el] at hg
   cases o with
   |reg u=>
    have:g=u:=by have:=hg.1;simp only[kN,Tg.reg.injEq] at this;exact this
    subst this
    exact⟨k,(hd.2.1 _).mpr rfl,hd.2.2⟩
   |imm=>exact absurd hd.2 (λh=>h)
   |mem=>have:=hg.1;simp only[kN] at this;cases this
 ·cases v with
  |none=>cases hm
  |some v=>
   simp only[aw,el] at hm
   cases o with
   |reg u=>have:=hm.1;simp only[kN] at this;cases this
   |imm=>exact absurd hd.2 (λh=>h)
   |mem b i sc d z=>
    have:=hm.1
    simp only[kN,Tg.mem.injEq] at this
    exact⟨hd.2.1,by rw[this.1,this.2];rfl⟩
 ·cases o with
  |reg g=>
   cases v with
   |none=>exact .inl (by rw[(hd.2.1 n).mp e];exact B rfl)
   |some v=>exact .inr ⟨g,v,List.mem_singleton.mpr rfl,((hd.2.1 n).mp e).symm⟩
  |imm=>exact absurd hd.2 (λh=>h)
  |mem=>exact absurd e (hd.2.2 n)
theorem iG{T:DA}{V s:St}(h:Se T V s){o:AP}{z:Int}(hi:o.isImm=false)(e:Bh T.rd o){fl:List (Nat×Int)}{v:Option Int}:Nf.app ⟨fl,match v with|some v=>[(kN V z o,v)]|uZ=>[]⟩ s=VL {s with fl:=Ed fl s.fl} z v o:=by
 cases v with
 |none=>rfl
 |some v=>exact(bF h hi e _).symm
theorem CN{T:DA}{V:St}{a:Str}{o:AP}{l:List AV}{f:String}(k:o.OK)(i:o.isImm=false)(hd:E1 T o){fl:List (Nat×Int)}{v:Option Int}(D:v=uZ→BS T.rd o)(hf: ∀p∈fl,T.wf p.1)(hs: ∀i,i<7→T.sure i→i∈fl.map (·.1))
  (u: ∀{m b:Nat} {H H':AH},AB AA (m+1) (nm f) [Ae b,AG a l] H=ok .none H'→AB AA (m+2) (nm "rotate_deed") [Ae b,AG a l] H=ok (.bool true) H')
  (B: ∀m H b s,b+3<H.length→Du s→Se T V s→FZ f (m+10) b H s (AG a l) (VL {s with fl:=Ed fl s.fl} o.size v o)):Bg T (Fp V o) V (AG a l):=
 .inr ⟨_,kM k hd D hf hs,λm H b s hb I e=>by
  rw[iG e i hd.1]
  exact u (m:=m+18) (B (m+9) H b s hb I e)⟩
theorem Oh{T:DA}{V:St}:Se T V V:=⟨λ_ _=>rfl,λ_=>rfl,rfl⟩
set_option tactic.hygienic true in
theorem P4{T:DA}{V:St}{a:Str}(I:a=nm "shl"∨a=nm "shr"∨a=nm "sar"∨a=nm "rol"∨a=nm "ror"∨a=nm "rcl"∨a=nm "rcr"){o1 o2:AP}(k1:o1.OK)(B:o1.isImm=false)(k2:o2.OK)(Z:o2.isMem=false)(hV:Du V)(J:0≤V.fl 0∧V.fl 0≤1)(hd:E1 T o1)(GV:BS T.rd o1)(Q:BS T.rd o2)
  (hc:a=nm "rcl"∨a=nm "rcr"→T.cf) (hw: ∀i,T.wf i↔if a=nm "shl"∨a=nm "shr"∨a=nm "sar" then i<6 else i=0∨i=5) (hs: ∀i,T.sure i→UP V o1.size o2≠0∧T.wf i):Bg T (Fp V o1) V (AG a [o1.av,o2.av]):=by
 have S:=BO k1 B
 obtain⟨fl,v,f1,f2,f3,f4,U⟩:=Z3 I k1 B k2 Z (FB (s:=V) (o:=o1) hV S) (Xn (s:=V) (z:=o1.size) (o:=o2)) J
 refine CN (fl:=fl) (v:=some v) (f:="shift_deed") k1 B hd (λh=>by cases h) ?_ ?_ ?_ ?_
 ·intro p hp
  rw[hw]
  split
  ·exact f1 p hp
  ·rename_i u
   refine f2 ?_ p hp
   rcases I with h|h|h|h|h|h|h
   ·exact absurd (.inl h) u
   ·exact absurd (.inr (.inl h)) u
   ·exact absurd (.inr (.inr h)) u
   ·exact .inl h
   ·exact .inr (.inl h)
   ·exact .inr (.inr (.inl h))
   ·exact .inr (.inr (.inr h))
 ·intro i hi hsi
  obtain⟨O,e⟩:=hs i hsi
  rw[hw] at e
  split at e
  ·rename_i u
   exact f4 O u i e
  ·rcases e with rfl|rfl
   ·exact(f3 O).1
   ·exact(f3 O).2
 ·intro m b H H' h
  exact Ca (.inl ⟨rfl,I⟩) h
 ·intro m H b s hb Y D
  exact U m H b s hb Y (BK D hd.1 GV) (Rp D Q) (λh=>D.2.1 (hc h))
theorem Nl{T:DA}{V:St}{a:Str}(O:a=nm "shld"∨a=nm "shrd"){o1 o2 o3:AP}(k1:o1.OK)(u:o1.isImm=false)(k2:o2.OK)(k3:o3.OK)(S:o3.isMem=false)(D:o1.size≠8)(Q:Du V)(hd:E1 T o1)(GV:BS T.rd o1)(e:Bh T.rd o2∧BS T.rd o2)(I:BS T.rd o3)
  (hw: ∀i,T.wf i↔i<6) (hs: ∀i,T.sure i→UP V o1.size o3≠0∧T.wf i):Bg T (Fp V o1) V (AG a [o1.av,o2.av,o3.av]):=by
 have J:=BO k1 u
 obtain⟨fl,v,f1,f2,U⟩:=YL O k1 u k2 k3 S D (FB (s:=V) (o:=o1) Q J) (FB (s:=V) (o:=o2) Q J) (Xn (s:=V) (z:=o1.size) (o:=o3))
 refine CN (fl:=fl) (v:=v) (f:="double_deed") k1 u hd (λh=>GV) (λp hp=>(hw _).mpr (f1 p hp)) ?_ ?_ ?_
 ·intro i hi hsi
  obtain⟨Z,hwi⟩:=hs i hsi
  exact f2 Z i ((hw i).mp hwi)
 ·intro m b H H' h
  exact Ca (.inr (.inl ⟨rfl,O⟩)) h
 ·intro m H b s hb Y B
  exact U m H b s hb Y (BK B hd.1 GV) (BK B e.1 e.2) (Rp B I)
theorem MV{w:Int}{i:Nat}(h:i<6):i∈(ZO w).map (·.1):=(by decide: ∀i:Nat,i<6→i∈[0,1,2,3,4,5,0,5]) i h
theorem QD{w:Int}: ∀p∈ZO w,p.1<6:=λp hp=>(by decide: ∀i∈[0,1,2,3,4,5,0,5],i<6) p.1 (show p.1∈(ZO w).map (·.1)from yN hp)
theorem Sy{s:St}{z v:Int}{o:AP}{f:Nat→Int}:{U5 s z v o with fl:=f}=U5 {s with fl:=f} z v o:=by cases o<;>rfl
theorem QO{T:DA}{V:St}{o1 o2:AP}(k1:o1.OK)(u:o1.isImm=false)(k2:o2.OK)(I:Du V)(hd:E1 T o1)(GV:BS T.rd o1)(e:Bh T.rd o2∧BS T.rd o2)(hw: ∀i,T.wf i↔i<6)(hs: ∀i,T.sure i→T.wf i):Bg T (Fp V o1) V (AG (nm "imul") [o1.av,o2.av]):=by
 have B:=BO k1 u
 obtain⟨O,v,he⟩:=Pu k1 u k2 (FB (s:=V) (o:=o1) I B) (FB (s:=V) (o:=o2) I B)
 refine CN (fl:=ZO O) (v:=some v) (f:="product_deed") k1 u hd (λh=>GV) (λp hp=>(hw _).mpr (QD p hp)) (λi hi h=>MV ((hw i).mp (hs i h))) ?_ ?_
 ·intro m b H H' h
  exact Ca (.inr (.inr (.inl ⟨rfl,.inr rfl⟩))) h
 ·intro m H b s hb J D
  have:=he m H b s hb J (BK D hd.1 GV) (BK D e.1 e.2)
  rw[Sy] at this
  exact this
theorem RQ{T:DA}{V:St}{o1 o2 o3:AP}(k1:o1.OK)(B:o1.isImm=false)(k2:o2.OK)(k3:o3.OK)(J:Du V)(hd:E1 T o1)(u:Bh T.rd o2∧BS T.rd o2)(e:Bh T.rd o3∧BS T.rd o3)(hw: ∀i,T.wf i↔i<6)(hs: ∀i,T.sure i→T.wf i):Bg T (Fp V o1) V (AG (nm "imul") [o1.av,o2.av,o3.av]):=by
 have D:=BO k1 B
 obtain⟨Q,v,he⟩:=QY k1 B k2 k3 (FB (s:=V) (o:=o3) J D) (FB (s:=V) (o:=o2) J D)
 refine CN (fl:=ZO Q) (v:=some v) (f:="product_deed") k1 B hd (λh=>by cases h) (λp hp=>(hw _).mpr (QD p hp)) (λi hi h=>MV ((hw i).mp (hs i h))) ?_ ?_
 ·intro m b H H' h
  exact Ca (.inr (.inr (.inl ⟨rfl,.inr rfl⟩))) h
 ·intro m H b s hb O I
  have:=he m H b s hb O (BK I e.1 e.2) (BK I u.1 u.2)
  rw[Sy] at this
  exact this
theorem UX{T:DA}{V:St}{a:Str}(B:a=nm "bsf"∨a=nm "bsr"∨a=nm "popcnt"∨a=nm "lzcnt"∨a=nm "tzcnt"){o1 o2:AP}(k1:o1.OK)(u:o1.isImm=false)(k2:o2.OK)(hd:E1 T o1)(GV:a=nm "bsf"∨a=nm "bsr"→BS T.rd o1)(e:Bh T.rd o2∧BS T.rd o2)(hw: ∀i,T.wf i↔i<6)(hs: ∀i,T.sure i→T.wf i):Bg T (Fp V o1) V (AG a [o1.av,o2.av]):=by
 obtain⟨fl,v,f1,f2,f3,I⟩:=gK B k1 u k2 (w:=HV V o1.size o2)
 refine CN (fl:=fl) (v:=v) (f:="scan_deed") k1 u hd (λh=>GV (f3 h)) (λp hp=>(hw _).mpr (f1 p hp)) (λi hi h=>f2 i ((hw i).mp (hs i h))) ?_ ?_
 ·intro m b H H' h
  exact Ca (.inr (.inr (.inr (.inr (.inr (.inl ⟨rfl,B⟩)))))) h
 ·intro m H b s hb J D
  exact I m H b s hb J (BK D e.1 e.2)
theorem Uj{T:DA}{V:St}{o1:AP}(k1:o1.OK)(u:o1.isImm=false)(hd:E1 T o1)(GV:BS T.rd o1)(hs: ∀i,¬T.sure i):Bg T (Fp V o1) V (AG (nm "bswap") [o1.av]):=by
 rcases gY k1 u (w:=HV V o1.size o1)with⟨_,e⟩|⟨v,e⟩
 ·exact .inl λm H b s hb B D=>cW (.inr ⟨rfl,rfl⟩) (e (m+9) H b s hb)
 ·refine CN (fl:=[]) (v:=some v) (f:="swap_deed") k1 u hd (λh=>GV) (by simp) (λi hi h=>absurd h (hs i)) ?_ ?_
  ·intro m b H H' h
   exact Ca (.inr (.inr (.inr (.inr (.inr (.inr (.inl ⟨rfl,rfl⟩))))))) h
  ·intro m H b s hb B D
   exact e m H b s hb B (BK D hd.1 GV)
theorem QS{T:DA}{V:St}{a:Str}(u:a=nm "movzx"∨a=nm "movsx"∨a=nm "movsxd"){o1 o2:AP}(k1:o1.OK)(B:o1.isImm=false)(k2:o2.OK)(O:o2.isImm=false)(hd:E1 T o1)(e:Bh T.rd o2∧BS T.rd o2)(hs: ∀i,¬T.sure i):Bg T (Fp V o1) V (AG a [o1.av,o2.av]):=by
 obtain⟨v,D⟩:=ZG u k1 B k2 O (w:=HV V o2.size o2)
 refine CN (fl:=[]) (v:=some v) (f:="widening_deed") k1 B hd (λh=>by cases h) (by simp) (λi hi h=>absurd h (hs i)) ?_ ?_
 ·intro m b H H' h
  exact Ca (.inr (.inr (.inr (.inr (.inr (.inr (.inr ⟨rfl,u⟩))))))) h
 ·intro m H b s hb I J
  exact D m H b s hb I (BK J e.1 e.2)
theorem Nx{T:DA}{V:St}{a:Str}(I:a=nm "bt"∨a=nm "bts"∨a=nm "btr"∨a=nm "btc"){g:Rg}{o2:AP}(k1:(AP.reg g).OK)(k2:o2.OK)(U:o2.isMem=false)(hd:a≠nm "bt"→E1 T (.reg g))(D:a=nm "bt"→∀n,¬T.ch n)(GV:T.rd g.num)(B:BS T.rd o2)(hw: ∀i,T.wf i↔i=0∨i=1∨i=2∨i=4∨i=5)(hs: ∀i,T.sure i→T.wf i):Bg T uZ V (AG a [(AP.reg g).av,o2.av]):=by
 obtain⟨x,v,hv,he⟩:=Yj I k1 k2 U (w:=HV V g.size (.reg g)) (off:=KC V g.size o2)
 have Q: ∀p∈Og x,T.wf p.1:=by
  intro p hp
  rw[hw]
  simp[Og] at hp
  rcases hp with rfl|rfl|rfl|rfl|rfl<;>simp
 have S: ∀i,i<7→T.sure i→i∈(Og x).map (·.1):=by
  intro i hi h
  rcases(hw i).mp (hs i h)with rfl|rfl|rfl|rfl|rfl<;>simp[Og]
 by_cases e:a=nm "bt"
 ·refine .inr ⟨⟨Og x,[]⟩,⟨(λ_ _ h=>by cases h),(λ_ _ _ h=>by cases h),λn h=>absurd h (D e n),Q,S,by simp⟩,λm H b s hb J u=>?_⟩
  have h1:=he (m+9) H b s hb J (BK u (o:=.reg g) trivial GV) (KF u B)
  rw[hv e] at h1
  exact Ca (.inr (.inr (.inr (.inr (.inl ⟨rfl,I⟩))))) h1
 ·have O:=hd e
  exact CN (o:=.reg g) (V:=V) (fl:=Og x) (v:=v) (f:="bit_deed") k1 rfl O (λ_=>GV) Q S (λh=>Ca (.inr (.inr (.inr (.inr (.inl ⟨rfl,I⟩))))) h)
   (λm H b s hb J u=>he m H b s hb J (BK u (o:=.reg g) trivial GV) (KF u B))
theorem ON{T:DA}{V:St}{a:Str}(J:a=nm "bt"∨a=nm "bts"∨a=nm "btr"∨a=nm "btc"){p q:Option (Str×Int)}{sc d z:Int}{o2:AP}(k1:(AP.mem p q sc d z).OK)(k2:o2.OK)(Y:o2.isMem=false)(GV:Bh T.rd (.mem p q sc d z))(I: ∀n,¬T.ch n)(B:a≠nm "bt"→T.isch=true)(D:BS T.rd o2)(hw: ∀i,T.wf i↔i=0∨i=1∨i=2∨i=4∨i=5)(hs: ∀i,T.sure i→T.wf i):
  Bg T (some (W (Hi V.regs p q sc d+(KC V z o2).fdiv z*z.fdiv 8) 64,z.fdiv 8)) V (AG a [(AP.mem p q sc d z).av,o2.av]):=by
 obtain⟨x,v,hv,he⟩:=Yh J k1 k2 Y (pl:=Hi V.regs p q sc d) (off:=KC V z o2) (w:=Y2 V.mem (W (Hi V.regs p q sc d+(KC V z o2).fdiv z*z.fdiv 8) 64) (z.fdiv 8))
 have O: ∀p∈Og x,T.wf p.1:=by
  intro p hp
  rw[hw]
  simp[Og] at hp
  rcases hp with rfl|rfl|rfl|rfl|rfl<;>simp
 have Q: ∀i,i<7→T.sure i→i∈(Og x).map (·.1):=by
  intro i hi h
  rcases(hw i).mp (hs i h)with rfl|rfl|rfl|rfl|rfl<;>simp[Og]
 refine .inr ⟨⟨Og x,match v with|some v=>[(.mem (W (Hi V.regs p q sc d+(KC V z o2).fdiv z*z.fdiv 8) 64) (z.fdiv 8),v)]|uZ=>[]⟩,⟨?_,?_,λn h=>absurd h (I n),O,Q,by cases v<;>simp⟩,λm H b s hb S u=>?_⟩
 ·intro g w h
  cases v with
  |none=>cases h
  |some v=>simp at h
 ·intro Z w w' h
  cases v with
  |none=>cases h
  |some v=>
   simp only[aw,el,Tg.mem.injEq] at h
   refine⟨B (λe=>?_),by rw[h.1.1,h.1.2]⟩
   have:=hv e
   cases this
 ·have h1:=he (m+9) H b s hb S (NY u GV) (KF u D) (by rw[u.2.2])
  have U:=Ca (.inr (.inr (.inr (.inr (.inl ⟨rfl,J⟩))))) h1
  rw[show Mf (m+20) b H s _=_ from U]
  cases v<;>rfl
theorem XK{s:St}: ∀{ws:List (Rg×Int)},(ws.map λp=>((Tg.reg p.1,p.2):Tg×Int)).foldl KW s=HP s ws:=by
 intro ws
 unfold HP
 rw[List.foldl_map]
 rfl
theorem Uz{f:Nat→Int}: ∀{ws:List (Rg×Int)} {s:St},{HP s ws with fl:=f}=HP {s with fl:=f} ws:=by
 intro ws
 induction ws with
 |nil=>intro s;rfl
 |cons p r e=>intro s;exact e (s:=JI s p.1 p.2)
theorem MQ{T:DA}{V:St}{a:Str}{l:List AV}{spot:Option (Int×Int)}{fl:List (Nat×Int)}{ws:List (Rg×Int)}(hl:ws.length≤4)(hw: ∀p∈ws,p.1.OK∧T.ch p.1.num∧(32≤p.1.size∨T.rd p.1.num))(u: ∀n,T.ch n→T.rd n∨∃p∈ws,p.1.num=n)(hf: ∀p∈fl,T.wf p.1)(hs: ∀i,i<7→T.sure i→i∈fl.map (·.1))
  (I: ∀m H b s,b+3<H.length→Du s→Se T V s→Mf (m+20) b H s (AG a l)=ok (.bool true) (up H b {HP s ws with fl:=Ed fl s.fl})):Bg T spot V (AG a l):=by
 refine .inr ⟨⟨fl,ws.map λp=>(Tg.reg p.1,p.2)⟩,⟨?_,?_,?_,hf,hs,by simpa using hl⟩,λm H b s hb J B=>?_⟩
 ·intro g v h
  obtain⟨p,hp,e⟩:=List.mem_map.mp h
  simp only[el,Tg.reg.injEq] at e
  rw[←e.1]
  exact hw p hp
 ·intro x y v h
  obtain⟨p,hp,e⟩:=List.mem_map.mp h
  simp at e
 ·intro n D
  rcases u n D with h|⟨p,hp,e⟩
  ·exact .inl h
  ·exact .inr ⟨p.1,p.2,List.mem_map.mpr ⟨p,hp,rfl⟩,e⟩
 ·rw[I m H b s hb J B,Uz]
  unfold Nf.app
  rw[XK]
theorem RK{T:DA}{V:St}{a:Str}(U:a=nm "mul"∨a=nm "imul"){o1:AP}{spot:Option (Int×Int)}(k1:o1.OK)(Q:o1.isImm=false)(hV:Du V)(GV:Bh T.rd o1∧BS T.rd o1)(B:T.rd 0)(h2:o1.size=16→T.rd 2)(e: ∀n,T.ch n↔n=0∨(n=2∧o1.size≠8))(hw: ∀i,T.wf i↔i<6)(hs: ∀i,T.sure i→T.wf i):Bg T spot V (AG a [o1.av]):=by
 have D:=BO k1 Q
 have J:=Am D
 obtain⟨Z,ws,q1,q2,he⟩:=Rj U k1 Q (FB (s:=V) (o:=o1) hV D) (x:=W (V.regs 0) o1.size) ⟨Cl,Ce J.2⟩
 refine MQ (fl:=ZO Z) (ws:=ws) (by rcases q2 with⟨_,l,v,rfl⟩|⟨_,l,l',v,v',rfl⟩<;>simp) (λp hp=>⟨q1 p hp,?_⟩) ?_ (λp hp=>(hw _).mpr (QD p hp)) (λi hi h=>MV ((hw i).mp (hs i h))) λm H b s hb Y S=>?_
 ·rcases q2 with⟨u,l,v,rfl⟩|⟨u,l,l',v,v',rfl⟩
  ·simp at hp
   subst hp
   exact⟨(e 0).mpr (.inl rfl),.inr B⟩
  ·simp at hp
   rcases hp with rfl|rfl
   ·refine⟨(e 2).mpr (.inr ⟨rfl,u⟩),?_⟩
    rcases D with h|h|h|h
    ·exact absurd h u
    ·exact .inr (h2 h)
    ·exact .inl (by show 32≤o1.size;omega)
    ·exact .inl (by show 32≤o1.size;omega)
   ·exact⟨(e 0).mpr (.inl rfl),.inr B⟩
 ·intro n O
  rcases(e n).mp O with rfl|⟨rfl,u⟩
  ·exact .inl B
  ·right
   rcases q2 with⟨I,_⟩|⟨_,l,l',v,v',rfl⟩
   ·exact absurd I u
   ·exact⟨_,xQ,rfl⟩
 ·exact Ca (.inr (.inr (.inl ⟨rfl,U⟩))) (he (m+9) H b s hb Y (BK S GV.1 GV.2) (by rw[S.1 0 B]))
theorem Tq{T:DA}{V:St}{a:Str}(J:a=nm "div"∨a=nm "idiv"){o1:AP}{spot:Option (Int×Int)}(k1:o1.OK)(U:o1.isImm=false)(hV:Du V)(GV:Bh T.rd o1∧BS T.rd o1)(D:T.rd 0)(I:o1.size≠8→T.rd 2)(e: ∀n,T.ch n↔n=0∨(n=2∧o1.size≠8))(hw: ∀i,T.wf i↔i<6)(hs: ∀i,T.sure i→T.wf i):Bg T spot V (AG a [o1.av]):=by
 have Z:=BO k1 U
 have Y: ∀p∈[((0,0):Nat×Int),(1,0),(2,0),(3,0),(4,0),(5,0)],T.wf p.1:=by
  exactλp hp=>(hw _).mpr ((by decide: ∀p∈[((0,0):Nat×Int),(1,0),(2,0),(3,0),(4,0),(5,0)],p.1<6) p hp)
 rcases eZ J k1 U (Yx (s:=V) (o:=o1) hV Z) (v2:=W (V.regs 2) o1.size) (v0:=W (V.regs 0) (if o1.size=8 then 16 else o1.size))with O|⟨ws,q1,q2,O⟩
 ·exact .inl λm H b s hb Q u=>cW (.inl ⟨rfl,J⟩) (O (m+9) H b s hb Q (BK u GV.1 GV.2) (λh=>by rw[u.1 2 (I h)]) (by rw[u.1 0 D]))
 ·refine MQ (ws:=ws) (by rcases q2 with⟨_,l,v,rfl⟩|⟨_,l,l',v,v',rfl⟩<;>simp) (λp hp=>⟨q1 p hp,?_⟩) ?_ Y (λi hi h=>?_) λm H b s hb Q u=>Ca (.inr (.inr (.inr (.inl ⟨rfl,J⟩)))) (O (m+9) H b s hb Q (BK u GV.1 GV.2) (λh=>by rw[u.1 2 (I h)]) (by rw[u.1 0 D]))
  ·rcases q2 with⟨B,l,v,rfl⟩|⟨B,l,l',v,v',rfl⟩
   ·simp at hp
    subst hp
    exact⟨(e 0).mpr (.inl rfl),.inr D⟩
   ·simp at hp
    rcases hp with rfl|rfl
    ·exact⟨(e 2).mpr (.inr ⟨rfl,B⟩),.inr (I B)⟩
    ·exact⟨(e 0).mpr (.inl rfl),.inr D⟩
  ·intro n S
   rcases(e n).mp S with rfl|⟨rfl,B⟩
   ·exact .inl D
   ·exact .inl (I B)
  ·exact(by decide: ∀i:Nat,i<6→i∈[0,1,2,3,4,5]) i ((hw i).mp (hs i h))
theorem UO{T:DA}{V:St}{a:Str}(u:a=nm "cbw"∨a=nm "cwde"∨a=nm "cdqe"∨a=nm "cwd"∨a=nm "cdq"∨a=nm "cqo")(B:T.rd 0)(D:a=nm "cwd"→T.rd 2)(e: ∀n,T.ch n↔n=(if a=nm "cbw"∨a=nm "cwde"∨a=nm "cdqe" then 0 else 2))(hs: ∀i,¬T.sure i):Bg T uZ V (AG a []):=by
 obtain⟨l,v,he⟩:=kB u (x:=V.regs 0)
 refine MQ (fl:=[]) (ws:=[(.gpr l (if a=nm "cbw"∨a=nm "cwde"∨a=nm "cdqe" then 0 else 2) (U8 a),v)]) (by simp) ?_ ?_ (by simp) (λi hi h=>absurd h (hs i)) λm H b s hb I J=>gW u (he (m+9) H b s hb I (J.1 0 B))
 ·intro p hp
  simp only[aw] at hp
  subst hp
  refine⟨?_,(e _).mpr rfl,?_⟩
  ·rcases u with rfl|rfl|rfl|rfl|rfl|rfl
   ·rw[if_pos (by decide+kernel),show U8 (nm "cbw")=16 by decide+kernel];exact⟨by decide,by decide,.inr (.inl rfl)⟩
   ·rw[if_pos (by decide+kernel),show U8 (nm "cwde")=32 by decide+kernel];exact⟨by decide,by decide,.inr (.inr (.inl rfl))⟩
   ·rw[if_pos (by decide+kernel),show U8 (nm "cdqe")=64 by decide+kernel];exact⟨by decide,by decide,.inr (.inr (.inr rfl))⟩
   ·rw[if_neg (by decide+kernel),show U8 (nm "cwd")=16 by decide+kernel];exact⟨by decide,by decide,.inr (.inl rfl)⟩
   ·rw[if_neg (by decide+kernel),show U8 (nm "cdq")=32 by decide+kernel];exact⟨by decide,by decide,.inr (.inr (.inl rfl))⟩
   ·rw[if_neg (by decide+kernel),show U8 (nm "cqo")=64 by decide+kernel];exact⟨by decide,by decide,.inr (.inr (.inr rfl))⟩
  ·rcases u with rfl|rfl|rfl|rfl|rfl|rfl
   ·right;rw[if_pos (by decide+kernel)];exact B
   ·left;show(32:Int)≤U8 (nm "cwde");decide+kernel
   ·left;show(32:Int)≤U8 (nm "cdqe");decide+kernel
   ·right;rw[if_neg (by decide+kernel)];exact D rfl
   ·left;show(32:Int)≤U8 (nm "cdq");decide+kernel
   ·left;show(32:Int)≤U8 (nm "cqo");decide+kernel
 ·intro n hn'
  exact .inr ⟨_,List.mem_singleton.mpr rfl,((e n).mp hn').symm⟩
section
variable{H:AH}{m:Nat}{a b c:AV}{l:List AV}{k:Nat}
theorem rng3:BF .range [.int 3] H=some [.int 0,.int 1,.int 2]:=id rfl
theorem lent0:AB AA (m+1) (nm "len") [.tuple []] H=ok (.int 0) H:=len_t (show 0≤1000000 by decide)
theorem enu0:BF .enum [.tuple []] H=some []:=id rfl
theorem enu1:BF .enum [.tuple [a]] H=some [.tuple [.int 0,a]]:=id rfl
theorem enu2:BF .enum [.tuple [a,b]] H=some [.tuple [.int 0,a],.tuple [.int 1,b]]:=id rfl
theorem enu3:BF .enum [.tuple [a,b,c]] H=some [.tuple [.int 0,a],.tuple [.int 1,b],.tuple [.int 2,c]]:=id rfl
end
noncomputable def Pb:AP→Str
 |.reg _=>nm "reg"
 |.imm _=>nm "imm"
 |.mem .. =>nm "mem"
theorem kind_s{o:AP}{H:AH}:Aj o.av (nm "kind") H=some (.str (Pb o)):=by cases o<;>rfl
noncomputable def Gh(n:Int):Int:=1*2^n.toNat
noncomputable def NP:AP→Int
 |.reg g=>Gh g.num
 |_=>0
noncomputable def d8:AP→Int
 |.mem uZ uZ _ _ _=>0
 |.mem (some p) uZ _ _ _=>vG 0 (Gh p.2)
 |.mem uZ (some q) _ _ _=>vG 0 (Gh q.2)
 |.mem (some p) (some q) _ _ _=>vG (vG 0 (Gh p.2)) (Gh q.2)
 |_=>0
section
variable{m:Nat}{H:AH}{o:AP}
theorem own_s(ho:o.OK):AB AA (m+1) (nm "register_mask") [o.av] H=ok (.int (NP o)) H:=by
 refine cq Iv λC=>?_
 cases o with
 |reg g=>
  cases g with
  |gpr a n z=>
   obtain⟨h1,h2,_⟩:=ho
   have h3:n≤1000:=u9 (vU h2) (by decide)
   show Al _ _ [HX (DH a (nm "gpr") n z)] _ C→_
   simp_arith[Y6]
  |high a n=>
   obtain⟨h1,h2⟩:=ho
   have h3:0≤n-4:=v6 h1
   have e:n-4≤1000:=by omega
   show Al _ _ [HX (DH a (nm "high") n 8)] _ C→_
   simp_arith[Y6]
 |imm w=>show Al _ _ [NZ w] _ C→_;simp_arith[]
 |mem p q sc d z=>show Al _ _ [B0 (B5 p) (B5 q) sc d z] _ C→_;simp_arith[]
noncomputable def sD:Option (Str×Int)→List AV
 |uZ=>[]
 |some (a,n)=>[DH a (nm "gpr") n 64]
theorem Vz{p q:Option (Str×Int)}{sc d z:Int}:AB AA (m+1) (nm "Mem.registers") [B0 (B5 p) (B5 q) sc d z] H=ok (.list (sD p++sD q)) H:=by
 refine cq Ip λC=>?_
 cases p with
 |none=>
  cases q with
  |none=>show Al _ _ [B0 .none .none sc d z] _ C→_;simp_arith[]
  |some q=>obtain⟨b,k⟩:=q;show Al _ _ [B0 .none (DH b (nm "gpr") k 64) sc d z] _ C→_;simp_arith[]
 |some p=>
  obtain⟨a,n⟩:=p
  cases q with
  |none=>show Al _ _ [B0 (DH a (nm "gpr") n 64) .none sc d z] _ C→_;simp_arith[]
  |some q=>obtain⟨b,k⟩:=q;show Al _ _ [B0 (DH a (nm "gpr") n 64) (DH b (nm "gpr") k 64) sc d z] _ C→_;simp_arith[]
theorem qH{n:Int}(h:0≤n∧n<16):n≤1000:=u9 (vU h.2) (by decide)
theorem ad_s(ho:o.OK):AB AA (m+2) (nm "address_mask") [o.av] H=ok (.int (d8 o)) H:=by
 refine cq J9 λC=>?_
 cases o with
 |reg g=>show Al _ _ [HX g.av] _ C→_;simp_arith[]
 |imm w=>show Al _ _ [NZ w] _ C→_;simp_arith[]
 |mem p q sc d z=>
  obtain⟨hp,hq,_⟩:=ho
  cases p with
  |none=>
   have e:= @Vz m H uZ q sc d z
   cases q with
   |none=>
    have e:AB AA (m+1) (nm "Mem.registers") [B0 .none .none sc d z] H=ok (.list []) H:=e
    show Al _ _ [B0 .none .none sc d z] _ C→_
    simp_arith[e]
   |some q=>
    obtain⟨b,k⟩:=q
    have h1:=hq (b,k) rfl
    have B:=qH h1
    obtain⟨h3,h4⟩:0≤k∧k<16:=h1
    have e:AB AA (m+1) (nm "Mem.registers") [B0 .none (DH b (nm "gpr") k 64) sc d z] H=ok (.list [DH b (nm "gpr") k 64]) H:=e
    show Al _ _ [B0 .none (DH b (nm "gpr") k 64) sc d z] _ C→_
    simp_arith[e,Y6]
  |some p=>
   obtain⟨a,n⟩:=p
   have u:=hp (a,n) rfl
   have D:=qH u
   obtain⟨I,g4⟩:0≤n∧n<16:=u
   have e:= @Vz m H (some (a,n)) q sc d z
   cases q with
   |none=>
    have e:AB AA (m+1) (nm "Mem.registers") [B0 (DH a (nm "gpr") n 64) .none sc d z] H=ok (.list [DH a (nm "gpr") n 64]) H:=e
    show Al _ _ [B0 (DH a (nm "gpr") n 64) .none sc d z] _ C→_
    simp_arith[e,Y6]
   |some q=>
    obtain⟨b,k⟩:=q
    have h1:=hq (b,k) rfl
    have B:=qH h1
    obtain⟨h3,h4⟩:0≤k∧k<16:=h1
    have e:AB AA (m+1) (nm "Mem.registers") [B0 (DH a (nm "gpr") n 64) (DH b (nm "gpr") k 64) sc d z] H=ok (.list [DH a (nm "gpr") n 64,DH b (nm "gpr") k 64]) H:=e
    show Al _ _ [B0 (DH a (nm "gpr") n 64) (DH b (nm "gpr") k 64) sc d z] _ C→_
    simp_arith[e,Y6]
theorem osz_s:AB AA (m+1) (nm "operand_size") [o.av] H=ok (.int o.size) H:=by
 refine cq J0 λC=>?_
 cases o with
 |reg g=>show Al _ _ [HX g.av] _ C→_;simp_arith[Jy]
 |imm w=>show Al _ _ [NZ w] _ C→_;simp_arith[]
 |mem p q sc d z=>show Al _ _ [B0 (B5 p) (B5 q) sc d z] _ C→_;simp_arith[]
end
noncomputable def AZ(M:Int):List Int:=((wD 32).map λ(i:Nat)=>(i:Int)).filter λn=>Bt M n=1
theorem MT{m:Nat}{M:Int}{H:AH}: ∀(l:List Int),(∀n∈l,0≤n)→∀K:List AV→AH→Prop,Ex (λr H K=>tT m [.cmp (.bin .BitAnd (.bin .RShift (qV 22) (qV 23)) (qI 1)) [.Eq] [(qI 1)]] r H K) (λr H K=>tE m (qV 23) r H K tX) (.name 23) [(22,.int M)] (l.map .int) H K→K ((l.filter λn=>Bt M n=1).map .int) H
 | [],_,_,k=>k
 |n::r,h,K,k=>by
  have u:=h n xQ
  have e:=λk B=>h k (zA _ B)
  by_cases hb:Bt M n=1
  ·rw[gj (p:=λn=>decide (Bt M n=1)) (decide_eq_true hb)]
   exact MT r e (λvs H=>K (.int n::vs) H) (k u .tt ((xZ _).trans hb))
  ·rw[gk (p:=λn=>decide (Bt M n=1)) (λq=>hb (of_decide_eq_true q))]
   exact MT r e K (k u .ff (λq=>hb ((xZ _).symm.trans q)))
theorem Vj{M:Int}:((AZ M).map AV.int).length≤1000000:=by
 rw[vB]
 exact u5 (yA _ _) (by rw[vB,xW];decide)
theorem fE{m:Nat}{M:Int}{H:AH}:AB AA (m+1) (nm "bits_of") [.int M] H=ok (.list ((AZ M).map .int)) H:=
 cq UN λC k=>k .dem (((wD 32).map λ(i:Nat)=>(i:Int)).map .int) (by kernel_rfl) .dem _ _ (λK=>MT _ (λn e=>by
  obtain⟨i,_,rfl⟩:=List.mem_map.mp e
  exact yC i) K) .dem Vj
noncomputable def O1:List Str:=[nm "shl",nm "shr",nm "sar",nm "rol",nm "ror",nm "rcl",nm "rcr"]
noncomputable def ME:List Str:=[nm "shld",nm "shrd"]
noncomputable def U6:List Str:=[nm "mul",nm "imul",nm "div",nm "idiv"]
noncomputable def GS:List Str:=[nm "bt",nm "bts",nm "btr",nm "btc"]
noncomputable def Q2:List Str:=[nm "bsf",nm "bsr",nm "popcnt",nm "lzcnt",nm "tzcnt"]
noncomputable def Na:List Str:=[nm "movzx",nm "movsx",nm "movsxd"]
noncomputable def U2:List Str:=[nm "cbw",nm "cwde",nm "cdqe",nm "cwd",nm "cdq",nm "cqo"]
noncomputable def Az:List Str:=O1++ME++U6++GS++Q2++Na++U2++[nm "bswap"]
noncomputable def Aq(a:Str)(b:AV):Bool:=I8 (.str a) b==some false
noncomputable def D0(a:Str)(b:AV):Bool:=I8 (.str a) b==some true
theorem Ag{a:Str}{b:AV}(h:Aq a b=true):I8 (.str a) b=some false:=eq_of_beq h
theorem DR{a:Str}{b:AV}(h:D0 a b=true):I8 (.str a) b=some true:=eq_of_beq h
noncomputable def IY(a b:Str):Bool:=Ec (.str a) (.str b)==some false
theorem Cd{a b:Str}(h:IY a b=true):Ec (.str a) (.str b)=some false:=eq_of_beq h
noncomputable def mU:AV:=.tuple [.str (nm "movs"),.str (nm "cmps"),.str (nm "stos"),.str (nm "lods"),.str (nm "scas")]
noncomputable def D2(a:Str):Bool:=(Aq (bb a uZ (some 4)) mU||a==nm "movsx"||a==nm "movsxd")&&decide (a.length≤1000)&&!Txt.startswith a (nm "j")&&!Txt.startswith a (nm "set")&&!Txt.startswith a (nm "cmov")
 &&Aq a (.tuple [.str (nm "pop"),.str (nm "popfq"),.str (nm "ret"),.str (nm "leave")])&&Aq a (.tuple [.str (nm "push"),.str (nm "pushfq"),.str (nm "call")])&&Aq a (.tuple [.str (nm "lea"),.str (nm "nop")])&&Aq a (.tuple [.str (nm "xchg"),.str (nm "xadd")])&&IY a (nm "nop")
 &&Aq a (.tuple [.str (nm "loope"),.str (nm "loopne")])&&IY a (nm "lahf")&&IY a (nm "pushfq")
 &&Aq a (.tuple [.str (nm "add"),.str (nm "adc"),.str (nm "sub"),.str (nm "sbb"),.str (nm "cmp"),.str (nm "neg"),.str (nm "and"),.str (nm "or"),.str (nm "xor"),.str (nm "test"),.str (nm "xadd"),.str (nm "cmpxchg")])
 &&Aq a (.list (HJ.map .str))&&Aq a (.list (Fq.map .str))&&Aq a (.list (E4.map .str))
theorem RG:Az.all D2=true:=by decide+kernel
theorem C2{a:Str}(h:a∈Az):D2 a=true:=List.all_eq_true.mp RG a h
theorem dX{α:Type}{P:α→Prop}{a:α}{l:List α}(h:P a)(r: ∀x∈l,P x): ∀x∈a::l,P x:=λx e=>by
 cases e with
 |head=>exact h
 |tail _ e=>exact r x e
theorem eC{α:Type}{P:α→Prop}: ∀x∈([]:List α),P x:=λ_ h=>by cases h
theorem sw_f{m:Nat}{s t:Str}{H0 H:AH}(h:jk s t=false):Af m (.str s) (nm "startswith") H0 [.str t] H (.bool false) H:=⟨rfl,by
 rw[show Gb (KU m) (.str s) (nm "startswith") [.str t] H=rok (.bool (jk s t)) H by kernel_rfl,h]
 rfl⟩
section
variable{m:Nat}{H:AH}{a:Str}
theorem stem_s(e:a∈Az):AB AA (m+2) (nm "string_stem") [.str a] H=ok (.tuple [.str (nm ""),.int 0]) H:=
 (show∀x∈Az,∀m H,AB AA (m+2) (nm "string_stem") [.str x] H=ok (.tuple [.str (nm ""),.int 0]) H by
  unfold Az O1 ME U6 GS Q2 Na U2
  simp only[fy,il]
  repeat' (first|exact eC|refine dX ?_ ?_|(intro m H;kernel_rfl!))) a e m H
theorem cond_s(e:a∈Az):AB AA (m+3) (nm "condition_of") [.str a] H=ok (.str (nm "")) H:=
 (show∀x∈Az,∀m H,AB AA (m+3) (nm "condition_of") [.str x] H=ok (.str (nm "")) H by
  unfold Az O1 ME U6 GS Q2 Na U2
  simp only[fy,il]
  repeat' (first|exact eC|refine dX ?_ ?_|(intro m H;kernel_rfl!))) a e m H
theorem isstr_s{l:List AV}(u:a∈Az)(hl:l.length≤100):AB AA (m+3) (nm "is_string") [AG a l] H=ok (.bool false) H:=by
 refine cq Ok λC=>?_
 by_cases e:l=[]
 ·subst e
  simp_arith[stem_s]
 ·have: ¬((l.length:Int)=0):=by
   cases l with
   |nil=>exact absurd rfl e
   |cons=>simp;omega
  simp_arith[len_t,this]
theorem CL{o:AP}{l:List AV}{n:Int}(hi:o.isImm=false)(u: ∀m H,AB AA (m+1) (nm "len") [.tuple (o.av::l)] H=ok (.int n) H)(D:n≠0)(h1:a=nm "imul"→n≠1)(e:I8 (.str a) (.list (CI.map .str))=some false)(h3:a=nm "imul"∨IY a (nm "imul")=true):AB AA (m+2) (nm "writes_first") [AG a (o.av::l)] H=ok (.bool true) H:=by
 refine cq FC λC=>?_
 have B:cmpA .NotIn (.str (Pb o)) (.tuple [.str (nm "reg"),.str (nm "mem")])=some false:=by
  cases o with
  |reg=>exact(c_ninST (by decide+kernel):cmpA .NotIn (.str (nm "reg")) (.tuple [.str (nm "reg"),.str (nm "mem")])=some false)
  |imm=>cases hi
  |mem=>exact(c_ninST (by decide+kernel):cmpA .NotIn (.str (nm "mem")) (.tuple [.str (nm "reg"),.str (nm "mem")])=some false)
 rcases h3 with rfl|h3
 ·have h1:=h1 rfl
  simp_arith[u,kind_s,B,c_ninSF e]
 ·have h3:=Cd h3
  simp_arith[u,kind_s,B,c_ninSF e]
theorem Oy{o:AP}{l:List AV}{n:Int}(hi:o.isImm=false)(e: ∀m H,AB AA (m+1) (nm "len") [.tuple (o.av::l)] H=ok (.int n) H)(B:n≠0)(h1:(a=nm "imul"∧n=1)∨(I8 (.str a) (.list (CI.map .str))=some true∧IY a (nm "imul")=true)):AB AA (m+2) (nm "writes_first") [AG a (o.av::l)] H=ok (.bool false) H:=by
 refine cq FC λC=>?_
 have u:cmpA .NotIn (.str (Pb o)) (.tuple [.str (nm "reg"),.str (nm "mem")])=some false:=by
  cases o with
  |reg=>exact(c_ninST (by decide+kernel):cmpA .NotIn (.str (nm "reg")) (.tuple [.str (nm "reg"),.str (nm "mem")])=some false)
  |imm=>cases hi
  |mem=>exact(c_ninST (by decide+kernel):cmpA .NotIn (.str (nm "mem")) (.tuple [.str (nm "reg"),.str (nm "mem")])=some false)
 rcases h1 with⟨rfl,rfl⟩|⟨h1,h3⟩
 ·simp_arith[e,kind_s,u]
 ·have h3:=Cd h3
  simp_arith[e,kind_s,u,c_ninST h1]
theorem Oi{l:List AV}(h:I8 (.str a) (.list (GW.map .str))=some true):AB AA (m+2) (nm "reads_first") [AG a l] H=ok (.bool false) H:=by
 refine cq Fz λC=>?_
 simp_arith[c_inST h]
theorem CP{l:List AV}{n:Int}(I:a∈Az)(h:I8 (.str a) (.list (GW.map .str))=some false)(u: ∀m H,AB AA (m+1) (nm "len") [.tuple l] H=ok (.int n) H)(h3:a=nm "imul"∨IY a (nm "imul")=true):AB AA (m+2) (nm "reads_first") [AG a l] H=ok (.bool (!(decide (a=nm "imul")&&decide (n=3)))) H:=by
 have hc:=C2 I
 simp only[D2,v7,xP,decide_eq_true_eq,beq_iff_eq,v4] at hc
 have k1:=Ag hc.2
 have k2:=Ag hc.1.2
 have k3:=Ag hc.1.1.2
 have k4:=Cd hc.1.1.1.1.1.1.1.2
 have k5:=hc.1.1.1.1.1.1.1.1.1.1.1.1.1.2
 refine cq Fz λC=>?_
 rcases h3 with rfl|h3
 ·by_cases D:n=3
  ·rw[decide_eq_true D];simp_arith[sw_f,u]
  ·rw[decide_eq_false D];simp_arith[sw_f,u]
 ·have J:=Cd h3
  have B: ¬a=nm "imul":=by
   intro e
   subst e
   exact absurd h3 (by decide+kernel)
  rw[decide_eq_false B];simp_arith[sw_f,u]
end
noncomputable def K5(wf rf:Bool)(ir:Int)(o:AP):Int:=if wf&&!(rf||decide (o.size<32))then vG ir (d8 o)else vG (vG ir (d8 o)) (NP o)
noncomputable def OB(wf:Bool)(iw:Int)(o:AP):Int:=if wf then vG iw (NP o)else iw
noncomputable def Uh(r:Int)(o:AP):Int:=vG (vG r (d8 o)) (NP o)
section
variable{a:Str}{o0 o1 o2:AP}{wf rf:Bool}{ir iw:Int}
theorem eY{m:Nat}{H:AH}(B:a∈Az)(D:o0.OK)(hi: ∀m H,AB AA (m+3) (nm "implied_uses") [AG a [o0.av]] H=ok (.tuple [.int ir,.int iw]) H)(hw: ∀m H,AB AA (m+3) (nm "writes_first") [AG a [o0.av]] H=ok (.bool wf) H)(e: ∀m H,AB AA (m+3) (nm "reads_first") [AG a [o0.av]] H=ok (.bool rf) H):
  AB AA (m+5) (nm "used_masks") [AG a [o0.av]] H=ok (.tuple [.int (K5 wf rf ir o0),.int (OB wf iw o0)]) H:=by
 have hc:=C2 B
 simp only[D2,v7,xP,decide_eq_true_eq,beq_iff_eq,v4] at hc
 have k1:=Ag hc.1.1.1.1.1.1.1.1.2
 have k2:=Cd hc.1.1.1.1.1.1.1.2
 have hl:[o0.av].length≤100:=by simp
 refine cq Cn λC=>?_
 unfold K5 OB
 cases wf with
 |false=>simp_arith[isstr_s,hi,hw,ad_s,own_s,c_inSF k1,vM,yK]
 |true=>
  cases rf with
  |true=>simp_arith[isstr_s,hi,hw,e,ad_s,own_s,xL,gx,vM]
  |false=>
   by_cases u:o0.size<32
   ·rw[decide_eq_true u];simp_arith[isstr_s,hi,hw,e,ad_s,own_s,osz_s,xL,yQ,vM]
   ·rw[decide_eq_false u];simp_arith[isstr_s,hi,hw,e,ad_s,own_s,osz_s,xL,yQ,vM]
theorem jD{m:Nat}{H:AH}(B:a∈Az)(I:o0.OK)(D:o1.OK)(hi: ∀m H,AB AA (m+3) (nm "implied_uses") [AG a [o0.av,o1.av]] H=ok (.tuple [.int ir,.int iw]) H)(hw: ∀m H,AB AA (m+3) (nm "writes_first") [AG a [o0.av,o1.av]] H=ok (.bool wf) H)(e: ∀m H,AB AA (m+3) (nm "reads_first") [AG a [o0.av,o1.av]] H=ok (.bool rf) H):
  AB AA (m+5) (nm "used_masks") [AG a [o0.av,o1.av]] H=ok (.tuple [.int (Uh (K5 wf rf ir o0) o1),.int (OB wf iw o0)]) H:=by
 have hc:=C2 B
 simp only[D2,v7,xP,decide_eq_true_eq,beq_iff_eq,v4] at hc
 have k1:=Ag hc.1.1.1.1.1.1.1.1.2
 have k2:=Cd hc.1.1.1.1.1.1.1.2
 have hl:[o0.av,o1.av].length≤100:=by simp
 refine cq Cn λC=>?_
 unfold Uh K5 OB
 cases wf with
 |false=>simp_arith[isstr_s,hi,hw,ad_s,own_s,c_inSF k1,vM,yK]
 |true=>
  cases rf with
  |true=>simp_arith[isstr_s,hi,hw,e,ad_s,own_s,c_inSF k1,xL,gx,vM]
  |false=>
   by_cases u:o0.size<32
   ·rw[decide_eq_true u];simp_arith[isstr_s,hi,hw,e,ad_s,own_s,osz_s,c_inSF k1,xL,yQ,vM]
   ·rw[decide_eq_false u];simp_arith[isstr_s,hi,hw,e,ad_s,own_s,osz_s,c_inSF k1,xL,yQ,vM]
theorem gP{m:Nat}{H:AH}(B:a∈Az)(J:o0.OK)(D:o1.OK)(I:o2.OK)(hi: ∀m H,AB AA (m+3) (nm "implied_uses") [AG a [o0.av,o1.av,o2.av]] H=ok (.tuple [.int ir,.int iw]) H)(hw: ∀m H,AB AA (m+3) (nm "writes_first") [AG a [o0.av,o1.av,o2.av]] H=ok (.bool wf) H)(e: ∀m H,AB AA (m+3) (nm "reads_first") [AG a [o0.av,o1.av,o2.av]] H=ok (.bool rf) H):
  AB AA (m+5) (nm "used_masks") [AG a [o0.av,o1.av,o2.av]] H=ok (.tuple [.int (Uh (Uh (K5 wf rf ir o0) o1) o2),.int (OB wf iw o0)]) H:=by
 have hc:=C2 B
 simp only[D2,v7,xP,decide_eq_true_eq,beq_iff_eq,v4] at hc
 have k1:=Ag hc.1.1.1.1.1.1.1.1.2
 have k2:=Cd hc.1.1.1.1.1.1.1.2
 have hl:[o0.av,o1.av,o2.av].length≤100:=by simp
 refine cq Cn λC=>?_
 unfold Uh K5 OB
 cases wf with
 |false=>simp_arith[isstr_s,hi,hw,ad_s,own_s,c_inSF k1,vM,yK]
 |true=>
  cases rf with
  |true=>simp_arith[isstr_s,hi,hw,e,ad_s,own_s,c_inSF k1,xL,gx,vM]
  |false=>
   by_cases u:o0.size<32
   ·rw[decide_eq_true u];simp_arith[isstr_s,hi,hw,e,ad_s,own_s,osz_s,c_inSF k1,xL,yQ,vM]
   ·rw[decide_eq_false u];simp_arith[isstr_s,hi,hw,e,ad_s,own_s,osz_s,c_inSF k1,xL,yQ,vM]
end
theorem Cq{M n:Int}:n∈AZ M↔0≤n∧n<32∧Bt M n=1:=by
 unfold AZ
 rw[List.mem_filter]
 constructor
 ·rintro⟨h,h'⟩
  obtain⟨i,hi,rfl⟩:=List.mem_map.mp h
  have:=List.mem_range.mp hi
  exact⟨yC i,Int.ofNat_lt.mpr this,by simpa using h'⟩
 ·rintro⟨e,h1,h2⟩
  exact⟨List.mem_map.mpr ⟨n.toNat,List.mem_range.mpr ((df e).mpr h1),wA e⟩,by simpa using h2⟩
theorem M4(X:Nat){n:Int}(u:0≤n):Bt (X:Int) n=1↔X.testBit n.toNat=true:=by
 rw[Nat.testBit_eq_decide_div_mod_eq,decide_eq_true_eq]
 unfold Bt
 rw[x7 _ (vU (zU (by decide)))]
 have e:(X:Int)/2^n.toNat % 2=((X/2^n.toNat % 2:Nat):Int):=by
  rw[Int.natCast_emod,Int.natCast_ediv,oq]
  rfl
 rw[e]
 exact⟨λh=>Int.ofNat.inj h,λh=>congrArg ra h⟩
theorem lZ{a b:Int}(e:0≤a)(hb:0≤b):vG a b=((a.toNat|||b.toNat:Nat):Int):=by
 rw[xY,gz e hb]
 have h:a.toNat+b.toNat=(a.toNat|||b.toNat)+(a.toNat&&&b.toNat):=by
  exact(oz a.toNat b.toNat).symm
 have h:=congrArg ra h
 exact Int.sub_eq_iff_eq_add.mpr (wA e▸wA hb▸h)
theorem Ew{a b n:Int}(B:0≤a)(hb:0≤b)(e:0≤n):Bt (vG a b) n=1↔Bt a n=1∨Bt b n=1:=by
 rw[lZ B hb,M4 _ e,Nat.testBit_or]
 have h1:=M4 a.toNat e
 have u:=M4 b.toNat e
 rw[wA B] at h1
 rw[wA hb] at u
 rw[h1,u,xP]
theorem CF{k:Int}:0≤Gh k:=by
 unfold Gh
 rw[yJ]
 exact vU (zU (by decide))
theorem CJ{k n:Int}(B:0≤k)(u:0≤n):Bt (Gh k) n=1↔n=k:=by
 have e:Gh k=((2^k.toNat:Nat):Int):=by
  unfold Gh
  rw[yJ,oq]
  rfl
 rw[e,M4 _ u,Nat.testBit_two_pow]
 rw[decide_eq_true_eq]
 exact⟨λh=>(wA u).symm.trans ((congrArg ra h.symm).trans (wA B)),λh=>h▸rfl⟩
theorem iL{n:Int}: ¬Bt 0 n=1:=by
 unfold Bt
 simp
section
variable{m:Nat}{H:AH}{a:Str}{o0 o1 o2:AP}
theorem WY{o:AP}(h:o.isMem=true):cmpA .Eq (.str (Pb o)) (.str (nm "mem"))=some true:=by
 cases o with
 |reg g=>cases h
 |imm w=>cases h
 |mem=>kernel_rfl!
theorem Q8{l:List AP}(u:o0.isMem=true)(hl:l.length≤2):AB AA (m+1) (nm "Instruction.memory_at") [AG a (o0.av::l.map AP.av)] H=ok (.int 0) H:=by
 have e:=WY u
 refine cq Ac λC=>?_
 rcases l with _|⟨x,_|⟨y,_|⟨z,l⟩⟩⟩
 ·show Al _ _ [AG a [o0.av]] _ C→_
  simp_arith[kind_s,e]
 ·show Al _ _ [AG a [o0.av,x.av]] _ C→_
  simp_arith[kind_s,e]
 ·show Al _ _ [AG a [o0.av,x.av,y.av]] _ C→_
  simp_arith[kind_s,e]
 ·simp at hl
theorem H4{o:AP}(h:o.isMem=false):cmpA .Eq (.str (Pb o)) (.str (nm "mem"))=some false:=by
 cases o with
 |reg g=>exact(c_eqSF (by decide+kernel):cmpA .Eq (.str (nm "reg")) (.str (nm "mem"))=some false)
 |imm w=>exact(c_eqSF (by decide+kernel):cmpA .Eq (.str (nm "imm")) (.str (nm "mem"))=some false)
 |mem=>cases h
theorem SL{l:List AP}(B:o0.isMem=false)(h1:o1.isMem=true)(hl:l.length≤1):AB AA (m+1) (nm "Instruction.memory_at") [AG a (o0.av::o1.av::l.map AP.av)] H=ok (.int 1) H:=by
 have e:=WY h1
 have u:=H4 B
 refine cq Ac λC=>?_
 rcases l with _|⟨y,_|⟨z,l⟩⟩
 ·show Al _ _ [AG a [o0.av,o1.av]] _ C→_
  simp_arith[kind_s,e,u]
 ·show Al _ _ [AG a [o0.av,o1.av,y.av]] _ C→_
  simp_arith[kind_s,e,u]
 ·simp at hl
theorem XB(e:o0.isMem=false):AB AA (m+1) (nm "Instruction.memory_at") [AG a [o0.av]] H=ok (.int (-1)) H:=by
 refine cq Ac λC=>?_
 simp_arith[kind_s,H4 e]
theorem Ww(e:o0.isMem=false)(h1:o1.isMem=false):AB AA (m+1) (nm "Instruction.memory_at") [AG a [o0.av,o1.av]] H=ok (.int (-1)) H:=by
 refine cq Ac λC=>?_
 simp_arith[kind_s,H4 e,H4 h1]
theorem XZ(u:o0.isMem=false)(h1:o1.isMem=false)(e:o2.isMem=false):AB AA (m+1) (nm "Instruction.memory_at") [AG a [o0.av,o1.av,o2.av]] H=ok (.int (-1)) H:=by
 refine cq Ac λC=>?_
 simp_arith[kind_s,H4 u,H4 h1,H4 e]
theorem X4:AB AA (m+1) (nm "Instruction.memory_at") [AG a []] H=ok (.int (-1)) H:=by
 refine cq Ac λC=>?_
 simp_arith[]
theorem FR{l:List AV}{t:Int}{wf rf:Bool}(D:a∈Az)(hl:l.length≤100)(I:t= -1∨t=0∨t=1)(e: ∀m H,AB AA (m+1) (nm "Instruction.memory_at") [AG a l] H=ok (.int t) H)(hw:t≠ -1→∀m H,AB AA (m+3) (nm "writes_first") [AG a l] H=ok (.bool wf) H)(u:t≠ -1→∀m H,AB AA (m+3) (nm "reads_first") [AG a l] H=ok (.bool rf) H): ∃ir:Bool,∀m H,AB AA (m+5) (nm "memory_uses") [AG a l] H=ok (.tuple [.bool ir,.bool (decide (t=0)&&wf)]) H:=by
 have hc:=C2 D
 simp only[D2,v7,xP,decide_eq_true_eq,beq_iff_eq,v4] at hc
 have B:=Ag hc.1.1.1.1.1.1.1.1.1.1.1.2
 have k1:=Ag hc.1.1.1.1.1.1.1.1.1.1.2
 have k2:=Ag hc.1.1.1.1.1.1.1.1.1.2
 have k3:=Ag hc.1.1.1.1.1.1.1.1.2
 rcases I with rfl|rfl|rfl
 ·refine⟨false,λm H=>?_⟩
  refine cq De λC=>?_
  simp_arith[isstr_s,e,c_inSF B,c_inSF k1,yK]
 ·have hw:=hw (by decide)
  have u:=u (by decide)
  refine⟨!wf||rf,λm H=>?_⟩
  refine cq De λC=>?_
  cases wf<;>cases rf<;>simp_arith[isstr_s,e,hw,u,c_inSF B,c_inSF k1,c_ninSF k2,c_inSF k3,xL,gx,Bool.or_true,yQ,qq,eu,bm]
 ·have hw:=hw (by decide)
  have u:=u (by decide)
  refine⟨true,λm H=>?_⟩
  refine cq De λC=>?_
  simp_arith[isstr_s,e,hw,u,c_inSF B,c_inSF k1,c_ninSF k2,c_inSF k3,yK]
theorem NN{l:List AV}{R Wm:Int}{ir ic:Bool}(h1: ∀m H,AB AA (m+5) (nm "used_masks") [AG a l] H=ok (.tuple [.int R,.int Wm]) H)(e: ∀m H,AB AA (m+5) (nm "memory_uses") [AG a l] H=ok (.tuple [.bool ir,.bool ic]) H):AB AA (m+7) (nm "uses") [AG a l] H=ok (.tuple [.list ((AZ R).map .int),.list ((AZ Wm).map .int),.bool ir,.bool ic]) H:=by
 refine cq jJ λC=>?_
 simp_arith[h1,e,fE]
noncomputable def DT(a:Str):Bool:=Aq a (.tuple [.str (nm "cbw"),.str (nm "cwde"),.str (nm "cdqe"),.str (nm "lahf"),.str (nm "cmpxchg")])&&Aq a (.tuple [.str (nm "cwd"),.str (nm "cdq"),.str (nm "cqo")])&&IY a (nm "sahf")&&Aq a (.list (E9.map .str))&&IY a (nm "leave")&&Aq a (.tuple [.str (nm "loop"),.str (nm "loope"),.str (nm "loopne")])&&IY a (nm "jrcxz")&&IY a (nm "cpuid")&&IY a (nm "syscall")
theorem Q6{l:List AV}{n:Int}(hf:DT a=true)(B: ∀m H,AB AA (m+1) (nm "len") [.tuple l] H=ok (.int n) H)(e:Aq a (.list (Bk.map .str))=true∨(D0 a (.list (Bk.map .str))=true∧n≠1)):AB AA (m+3) (nm "implied_uses") [AG a l] H=ok (.tuple [.int 0,.int 0]) H:=by
 simp only[DT,v7] at hf
 have u:=Ag hf.1.1.1.1.1.1.1.1
 have k1:=Ag hf.1.1.1.1.1.1.1.2
 have k2:=Cd hf.1.1.1.1.1.1.2
 have k3:=Ag hf.1.1.1.1.1.2
 have k4:=Cd hf.1.1.1.1.2
 have k5:=Ag hf.1.1.1.2
 have k6:=Cd hf.1.1.2
 have k7:=Cd hf.1.2
 have k8:=Cd hf.2
 refine cq C0 λC=>?_
 rcases e with e|⟨e,hn1⟩
 ·have e:=Ag e
  simp_arith[c_inSF e,c_inSF u,c_inSF k1,c_inSF k3,c_inSF k5]
 ·have e:=DR e
  simp_arith[c_inST e,B,c_inSF u,c_inSF k1,c_inSF k3,c_inSF k5]
theorem aE(B:a=nm "mul"∨a=nm "imul"∨a=nm "div"∨a=nm "idiv"):AB AA (m+3) (nm "implied_uses") [AG a [o0.av]] H=ok (.tuple [.int (if o0.size=8 then 1 else if a=nm "mul"∨a=nm "imul" then(if o0.size=16 then 5 else 1)else 5),.int (if o0.size=8 then 1 else 5)]) H:=by
 refine cq C0 λC=>?_
 by_cases e:o0.size=8
 ·rw[if_pos e,if_pos e];rcases B with rfl|rfl|rfl|rfl<;>simp_arith[osz_s]
 ·by_cases u:o0.size=16
  ·rw[if_neg e,if_neg e,if_pos u]
   rcases B with rfl|rfl|rfl|rfl
   ·rw[if_pos (by decide+kernel)];simp_arith[osz_s]
   ·rw[if_pos (by decide+kernel)];simp_arith[osz_s]
   ·rw[if_neg (by decide+kernel)];simp_arith[osz_s]
   ·rw[if_neg (by decide+kernel)];simp_arith[osz_s]
  ·rw[if_neg e,if_neg e,if_neg u]
   rcases B with rfl|rfl|rfl|rfl
   ·rw[if_pos (by decide+kernel)];simp_arith[osz_s]
   ·rw[if_pos (by decide+kernel)];simp_arith[osz_s]
   ·rw[if_neg (by decide+kernel)];simp_arith[osz_s]
   ·rw[if_neg (by decide+kernel)];simp_arith[osz_s]
theorem aN(e:a=nm "cbw"∨a=nm "cwde"∨a=nm "cdqe"∨a=nm "cwd"∨a=nm "cdq"∨a=nm "cqo"):AB AA (m+3) (nm "implied_uses") [AG a []] H=ok (.tuple [.int (if a=nm "cwd" then 5 else 1),.int (if a=nm "cbw"∨a=nm "cwde"∨a=nm "cdqe" then 1 else 4)]) H:=by
 refine cq C0 λC=>?_
 rcases e with rfl|rfl|rfl|rfl|rfl|rfl
 ·rw[if_neg (by decide+kernel),if_pos (by decide+kernel)];simp_arith[]
 ·rw[if_neg (by decide+kernel),if_pos (by decide+kernel)];simp_arith[]
 ·rw[if_neg (by decide+kernel),if_pos (by decide+kernel)];simp_arith[]
 ·rw[if_pos (by decide+kernel),if_neg (by decide+kernel)];simp_arith[]
 ·rw[if_neg (by decide+kernel),if_neg (by decide+kernel)];simp_arith[]
 ·rw[if_neg (by decide+kernel),if_neg (by decide+kernel)];simp_arith[]
theorem kF{ir iw:Int}(e:a∈Az)(hi: ∀m H,AB AA (m+3) (nm "implied_uses") [AG a []] H=ok (.tuple [.int ir,.int iw]) H):AB AA (m+5) (nm "used_masks") [AG a []] H=ok (.tuple [.int ir,.int iw]) H:=by
 have hl:([]:List AV).length≤100:=by simp
 refine cq Cn λC=>?_
 simp_arith[isstr_s,hi]
end
noncomputable def FY:List Str:=[nm "cf",nm "pf",nm "af",nm "zf",nm "sf",nm "of"]
noncomputable def oS:List Str:=[nm "cf",nm "pf",nm "af",nm "sf",nm "of"]
noncomputable def p0:List Str:=[nm "cf",nm "of"]
section
variable{m:Nat}{H:AH}{a:Str}
theorem gE:B9 (.list (AM.map .str)) .none (.int 6)=some (.list (FY.map .str)):=id rfl
theorem d6:AB AA (m+1) (nm "six_flags") [] H=ok (.list (FY.map .str)) H:=by
 refine cq OS λC=>?_
 simp_arith[gE]
noncomputable def Nb:AV:=.tuple [.str (nm "shl"),.str (nm "shr"),.str (nm "sar"),.str (nm "shld"),.str (nm "shrd"),.str (nm "mul"),.str (nm "imul"),.str (nm "div"),.str (nm "idiv")]
noncomputable def U1:AV:=.tuple [.str (nm "bsf"),.str (nm "bsr"),.str (nm "popcnt"),.str (nm "lzcnt"),.str (nm "tzcnt")]
noncomputable def eA:AV:=.tuple [.str (nm "bt"),.str (nm "bts"),.str (nm "btr"),.str (nm "btc")]
noncomputable def p9:AV:=.tuple [.str (nm "rol"),.str (nm "ror"),.str (nm "rcl"),.str (nm "rcr")]
theorem Rn(e:a∈Az):I8 (.str a) (.tuple [.str (nm "add"),.str (nm "adc"),.str (nm "sub"),.str (nm "sbb"),.str (nm "cmp"),.str (nm "neg"),.str (nm "and"),.str (nm "or"),.str (nm "xor"),.str (nm "test"),.str (nm "xadd"),.str (nm "cmpxchg")])=some false:=by
 have hc:=C2 e
 simp only[D2,v7,xP,decide_eq_true_eq,beq_iff_eq,v4] at hc
 exact Ag hc.1.1.1.2
theorem FP(e:a∈Az)(h:D0 a Nb=true∨(Aq a Nb=true∧D0 a U1=true)):AB AA (m+3) (nm "writes_flags") [.str a] H=ok (.list (FY.map .str)) H:=by
 have k:=Rn e
 refine cq Bq λC=>?_
 rcases h with h|⟨h,h'⟩
 ·have h:=DR h
  unfold Nb at h
  simp_arith[c_inSF k,c_inST h,d6]
 ·have h:=Ag h
  have h':=DR h'
  unfold Nb at h
  unfold U1 at h'
  simp_arith[c_inSF k,c_inSF h,c_inST h',d6]
theorem eO(u:a∈Az)(h:Aq a Nb=true∧Aq a U1=true∧D0 a eA=true):AB AA (m+3) (nm "writes_flags") [.str a] H=ok (.list (oS.map .str)) H:=by
 have k:=Rn u
 have h1:=Ag h.1
 have e:=Ag h.2.1
 have h3:=DR h.2.2
 unfold Nb at h1
 unfold U1 at e
 unfold eA at h3
 refine cq Bq λC=>?_
 simp_arith[c_inSF k,c_inSF h1,c_inSF e,c_inST h3]
theorem iZ(D:a∈Az)(h:Aq a Nb=true∧Aq a U1=true∧Aq a eA=true∧Aq a (.tuple [.str (nm "inc"),.str (nm "dec")])=true∧D0 a p9=true):AB AA (m+3) (nm "writes_flags") [.str a] H=ok (.list (p0.map .str)) H:=by
 have k:=Rn D
 have h1:=Ag h.1
 have e:=Ag h.2.1
 have h3:=Ag h.2.2.1
 have B:=Ag h.2.2.2.1
 have u:=DR h.2.2.2.2
 unfold Nb at h1
 unfold U1 at e
 unfold eA at h3
 unfold p9 at u
 refine cq Bq λC=>?_
 simp_arith[c_inSF k,c_inSF h1,c_inSF e,c_inSF h3,c_inSF B,c_inST u]
noncomputable def kW(a:Str):Bool:=Aq a Nb&&Aq a U1&&Aq a eA&&Aq a (.tuple [.str (nm "inc"),.str (nm "dec")])&&Aq a p9&&Aq a (.tuple [.str (nm "clc"),.str (nm "stc"),.str (nm "cmc")])&&Aq a (.tuple [.str (nm "cld"),.str (nm "std")])&&IY a (nm "sahf")&&IY a (nm "popfq")
theorem QH(D:a∈Az)(h:kW a=true):AB AA (m+3) (nm "writes_flags") [.str a] H=ok (.list []) H:=by
 have k:=Rn D
 simp only[kW,v7] at h
 have h1:=Ag h.1.1.1.1.1.1.1.1
 have e:=Ag h.1.1.1.1.1.1.1.2
 have h3:=Ag h.1.1.1.1.1.1.2
 have B:=Ag h.1.1.1.1.1.2
 have u:=Ag h.1.1.1.1.2
 have I:=Ag h.1.1.1.2
 have J:=Ag h.1.1.2
 have O:=Cd h.1.2
 have Q:=Cd h.2
 unfold Nb at h1
 unfold U1 at e
 unfold eA at h3
 unfold p9 at u
 refine cq Bq λC=>?_
 simp_arith[c_inSF k,c_inSF h1,c_inSF e,c_inSF h3,c_inSF B,c_inSF u,c_inSF I,c_inSF J,stem_s]
noncomputable def Pt:AV:=.tuple [.str (nm "adc"),.str (nm "sbb"),.str (nm "rcl"),.str (nm "rcr"),.str (nm "cmc")]
theorem iV(e:a∈Az)(h:D0 a Pt=true):AB AA (m+4) (nm "reads_flags") [.str a] H=ok (.list [.str (nm "cf")]) H:=by
 have h1:=DR h
 unfold Pt at h1
 refine cq Fw λC=>?_
 simp_arith[cond_s,c_inST h1]
theorem DZ(e:a∈Az)(h:Aq a Pt=true):AB AA (m+4) (nm "reads_flags") [.str a] H=ok (.list []) H:=by
 have h1:=Ag h
 have hc:=C2 e
 simp only[D2,v7,xP,decide_eq_true_eq,beq_iff_eq,v4] at hc
 have k1:=Ag hc.1.1.1.1.1.1.2
 have k2:=Cd hc.1.1.1.1.1.2
 have k3:=Cd hc.1.1.1.1.2
 unfold Pt at h1
 refine cq Fw λC=>?_
 simp_arith[cond_s,c_inSF h1,c_inSF k1,stem_s]
end
section
variable{m:Nat}{H:AH}{a:Str}{o0 o1 o2:AP}
theorem Zw:AB AA (m+1) (nm "flag_mask") [.list []] H=ok (.int 0) H:=by kernel_rfl!
theorem oE:AB AA (m+1) (nm "flag_mask") [.list (p0.map .str)] H=ok (.int 33) H:=by kernel_rfl!
theorem nP:AB AA (m+1) (nm "flag_mask") [.list (oS.map .str)] H=ok (.int 55) H:=by kernel_rfl!
theorem g7:AB AA (m+1) (nm "flag_mask") [.list (FY.map .str)] H=ok (.int 63) H:=by kernel_rfl!
noncomputable def NR(wl:List Str)(M:Int):Prop:=(wl=[]∧M=0)∨(wl=p0∧M=33)∨(wl=oS∧M=55)∨(wl=FY∧M=63)
theorem ZK{wl:List Str}{M:Int}(h:NR wl M):AB AA (m+1) (nm "flag_mask") [.list (wl.map .str)] H=ok (.int M) H:=by
 rcases h with⟨rfl,rfl⟩|⟨rfl,rfl⟩|⟨rfl,rfl⟩|⟨rfl,rfl⟩
 ·exact Zw
 ·exact oE
 ·exact nP
 ·exact g7
noncomputable def Lq:AV:=.tuple [.str (nm "shl"),.str (nm "shr"),.str (nm "sar"),.str (nm "shld"),.str (nm "shrd"),.str (nm "rol"),.str (nm "ror"),.str (nm "rcl"),.str (nm "rcr")]
theorem YX(h:D0 a Lq=true):AB AA (m+3) (nm "sure_flags") [.str a,.str (nm "")] H=ok (.list []) H:=by
 have h:=DR h
 unfold Lq at h
 refine cq G0 λC=>?_
 simp_arith[c_inST h]
theorem l5{wl:List Str}(e:a∈Az)(h:Aq a Lq=true)(hw: ∀m H,AB AA (m+3) (nm "writes_flags") [.str a] H=ok (.list (wl.map .str)) H):AB AA (m+4) (nm "sure_flags") [.str a,.str (nm "")] H=ok (.list (wl.map .str)) H:=by
 have h:=Ag h
 unfold Lq at h
 refine cq G0 λC=>?_
 simp_arith[c_inSF h,stem_s,hw]
theorem Zi{l:List AV}(h:Aq a (.list (BG.map .str))=true):AB AA (m+1) (nm "shift_count") [AG a l] H=ok (.int (-1)) H:=by
 have h:=Ag h
 refine cq DW λC=>?_
 simp_arith[c_ninSF h]
theorem sG{w z:Int}:vP w (if z=64 then 63 else 31)=W w (if z=64 then 6 else 5):=by
 split
 ·exact sb w
 ·exact sd w
theorem jN(h:D0 a (.list (BG.map .str))=true)(h1:o1.isMem=false):AB AA (m+2) (nm "shift_count") [AG a [o0.av,o1.av]] H=ok (.int (match o1 with|.imm w=>W w (if o0.size=64 then 6 else 5)|_=> -1)) H:=by
 have h:=DR h
 refine cq DW λC=>?_
 cases o1 with
 |reg g=>
  show Al _ _ [AG a [o0.av,HX g.av]] _ C→_
  simp_arith[]
 |imm w=>
  show Al _ _ [AG a [o0.av,NZ w]] _ C→C (ok (.int (W w (if o0.size=64 then 6 else 5))) H)
  rw[←sG]
  by_cases e:o0.size=64
  ·rw[if_pos e];simp_arith[osz_s]
  ·rw[if_neg e];simp_arith[osz_s]
 |mem=>cases h1
theorem i7(h:D0 a (.list (BG.map .str))=true)(h1:o2.isMem=false):AB AA (m+2) (nm "shift_count") [AG a [o0.av,o1.av,o2.av]] H=ok (.int (match o2 with|.imm w=>W w (if o0.size=64 then 6 else 5)|_=> -1)) H:=by
 have h:=DR h
 refine cq DW λC=>?_
 cases o2 with
 |reg g=>
  show Al _ _ [AG a [o0.av,o1.av,HX g.av]] _ C→_
  simp_arith[]
 |imm w=>
  show Al _ _ [AG a [o0.av,o1.av,NZ w]] _ C→C (ok (.int (W w (if o0.size=64 then 6 else 5))) H)
  rw[←sG]
  by_cases e:o0.size=64
  ·rw[if_pos e];simp_arith[osz_s]
  ·rw[if_neg e];simp_arith[osz_s]
 |mem=>cases h1
theorem DM{l:List AV}{wl:List Str}{M:Int}(hf:NR wl M)(e:a∈Az)(h:Aq a (.list (BG.map .str))=true)(h':Aq a Lq=true)(hw: ∀m H,AB AA (m+3) (nm "writes_flags") [.str a] H=ok (.list (wl.map .str)) H):AB AA (m+5) (nm "sure_mask") [AG a l] H=ok (.int M) H:=by
 refine cq Bi λC=>?_
 have hs:=λm H=>l5 (H:=H) (m:=m) e h' hw
 simp_arith[Zi,hs,ZK hf]
theorem Sv{l:List AV}{wl:List Str}{M c:Int}(hf:NR wl M)(h':D0 a Lq=true)(e:D0 a (.tuple [.str (nm "rcl"),.str (nm "rcr")])=true∨Aq a (.tuple [.str (nm "rcl"),.str (nm "rcr")])=true)(hsh:D0 a (.tuple [.str (nm "shl"),.str (nm "shr"),.str (nm "sar")])=true∨Aq a (.tuple [.str (nm "shl"),.str (nm "shr"),.str (nm "sar")])=true)(hw: ∀m H,AB AA (m+3) (nm "writes_flags") [.str a] H=ok (.list (wl.map .str)) H)(hc: ∀m H,AB AA (m+2) (nm "shift_count") [AG a (o0.av::l)] H=ok (.int c) H):
  ∃u:Int,(u=0∨(u=M∧0<c))∧∀m H,AB AA (m+5) (nm "sure_mask") [AG a (o0.av::l)] H=ok (.int u) H:=by
 by_cases B:0<c
 ·rcases e with e|e
  ·have e:=DR e
   refine⟨0,.inl rfl,λm H=>?_⟩
   refine cq Bi λC=>?_
   simp_arith[hc,c_ninST e,YX,Zw]
  ·have e:=Ag e
   rcases hsh with hsh|hsh
   ·have hsh:=DR hsh
    refine⟨M,.inr ⟨rfl,B⟩,λm H=>?_⟩
    refine cq Bi λC=>?_
    by_cases D:c<o0.size
    ·simp_arith[hc,c_ninSF e,osz_s,hw,ZK hf]
    ·simp_arith[hc,c_ninSF e,osz_s,c_inST hsh,hw,ZK hf]
   ·have hsh:=Ag hsh
    by_cases D:c<o0.size
    ·refine⟨M,.inr ⟨rfl,B⟩,λm H=>?_⟩
     refine cq Bi λC=>?_
     simp_arith[hc,c_ninSF e,osz_s,hw,ZK hf]
    ·refine⟨0,.inl rfl,λm H=>?_⟩
     refine cq Bi λC=>?_
     simp_arith[hc,c_ninSF e,osz_s,c_inSF hsh,YX,Zw]
 ·refine⟨0,.inl rfl,λm H=>?_⟩
  refine cq Bi λC=>?_
  simp_arith[hc,YX,Zw]
end
noncomputable def FW(M:Int):Prop:=0≤M∧∀n,0≤n→Bt M n=1→n<16
noncomputable def Sub(A B:Int):Prop:=∀n,0≤n→Bt A n=1→Bt B n=1
theorem BU{A B:Int}(a:FW A)(b:FW B):FW (vG A B):=⟨N8 a.1 b.1,λn e h=>((Ew a.1 b.1 e).mp h).elim (a.2 n e) (b.2 n e)⟩
theorem Aw:FW 0:=⟨by decide,λn _ h=>absurd h iL⟩
theorem LD{k:Int}(u:0≤k)(h1:k<16):FW (Gh k):=⟨CF,λn e h=>by rw[(CJ u e).mp h];exact h1⟩
theorem lP{A:Int}:Sub A A:=λ_ _ h=>h
theorem B4{A B C:Int}(h:Sub A B)(h':Sub B C):Sub A C:=λn e x=>h' n e (h n e x)
theorem KS{A B:Int}(a:0≤A)(b:0≤B):Sub A (vG A B):=λn e h=>(Ew a b e).mpr (.inl h)
theorem KR{A B:Int}(a:0≤A)(b:0≤B):Sub B (vG A B):=λn e h=>(Ew a b e).mpr (.inr h)
theorem GA{g:Rg}(h:g.OK):0≤g.num∧g.num<16:=by
 cases g with
 |gpr a n z=>exact⟨h.1,h.2.1⟩
 |high a n=>
  have h1:4≤n:=h.1
  have e:n<8:=h.2
  exact⟨by show 0≤n-4;omega,by show n-4<16;omega⟩
theorem Gj{o:AP}(h:o.OK):FW (NP o):=by
 cases o with
 |reg g=>exact LD (GA h).1 (GA h).2
 |imm=>exact Aw
 |mem=>exact Aw
theorem GO{o:AP}(h:o.OK):FW (d8 o):=by
 cases o with
 |reg g=>exact Aw
 |imm=>exact Aw
 |mem p q sc d z=>
  cases p with
  |none=>
   cases q with
   |none=>exact Aw
   |some q=>exact BU Aw (LD (h.2.1 q rfl).1 (h.2.1 q rfl).2)
  |some p=>
   cases q with
   |none=>exact BU Aw (LD (h.1 p rfl).1 (h.1 p rfl).2)
   |some q=>exact BU (BU Aw (LD (h.1 p rfl).1 (h.1 p rfl).2)) (LD (h.2.1 q rfl).1 (h.2.1 q rfl).2)
theorem Ch{M n:Int}(h:FW M)(e:0≤n)(hb:Bt M n=1):n∈AZ M:=Cq.mpr ⟨e,by have:=h.2 n e hb;omega,hb⟩
theorem Ms{M:Int}(h:FW M): ∀n∈AZ M,0≤n∧n<16:=λn e=>by
 have:=Cq.mp e
 exact⟨this.1,h.2 n this.1 this.2.2⟩
theorem Cj{o:AP}{R:Int}(h:o.OK)(B:FW R)(hs:Sub (d8 o) R):Bh (λn=>n∈AZ R) o:=by
 cases o with
 |reg g=>exact trivial
 |imm=>exact trivial
 |mem p q sc d z=>
  constructor
  ·rintro x hx
   have u:p=some x:=hx
   subst u
   have e:=h.1 x rfl
   refine Ch B e.1 (hs _ e.1 ?_)
   cases q with
   |none=>exact(Ew (by decide) CF e.1).mpr (.inr ((CJ e.1 e.1).mpr rfl))
   |some q=>exact(Ew (N8 (by decide) CF) CF e.1).mpr (.inl ((Ew (by decide) CF e.1).mpr (.inr ((CJ e.1 e.1).mpr rfl))))
  ·rintro x hx
   have u:q=some x:=hx
   subst u
   have e:=h.2.1 x rfl
   refine Ch B e.1 (hs _ e.1 ?_)
   cases p with
   |none=>exact(Ew (by decide) CF e.1).mpr (.inr ((CJ e.1 e.1).mpr rfl))
   |some p=>exact(Ew (N8 (by decide) CF) CF e.1).mpr (.inr ((CJ e.1 e.1).mpr rfl))
theorem BQ{o:AP}{R:Int}(h:o.OK)(e:FW R)(hs:Sub (NP o) R):BS (λn=>n∈AZ R) o:=by
 cases o with
 |reg g=>exact Ch e (GA h).1 (hs _ (GA h).1 ((CJ (GA h).1 (GA h).1).mpr rfl))
 |imm=>exact trivial
 |mem=>exact trivial
theorem EK{wf rf:Bool}{ir:Int}{o:AP}(h:FW ir)(ho:o.OK):FW (K5 wf rf ir o):=by
 unfold K5
 split
 ·exact BU h (GO ho)
 ·exact BU (BU h (GO ho)) (Gj ho)
theorem D3{r:Int}{o:AP}(h:FW r)(ho:o.OK):FW (Uh r o):=BU (BU h (GO ho)) (Gj ho)
theorem Es{wf:Bool}{iw:Int}{o:AP}(h:FW iw)(ho:o.OK):FW (OB wf iw o):=by
 unfold OB
 split
 ·exact BU h (Gj ho)
 ·exact h
theorem fX{wf rf:Bool}{ir:Int}{o:AP}(h:FW ir)(ho:o.OK):Sub ir (K5 wf rf ir o):=by
 unfold K5
 split
 ·exact KS h.1 (GO ho).1
 ·exact B4 (KS h.1 (GO ho).1) (KS (BU h (GO ho)).1 (Gj ho).1)
theorem Qz{wf rf:Bool}{ir:Int}{o:AP}(h:FW ir)(ho:o.OK):Sub (d8 o) (K5 wf rf ir o):=by
 unfold K5
 split
 ·exact KR h.1 (GO ho).1
 ·exact B4 (KR h.1 (GO ho).1) (KS (BU h (GO ho)).1 (Gj ho).1)
theorem DS{wf rf:Bool}{ir:Int}{o:AP}(h:FW ir)(ho:o.OK)(hc:wf=false∨rf=true∨o.size<32):Sub (NP o) (K5 wf rf ir o):=by
 unfold K5
 rw[if_neg]
 ·exact KR (BU h (GO ho)).1 (Gj ho).1
 ·rcases hc with rfl|rfl|hc
  ·simp
  ·simp
  ·simp[hc]
theorem B2{r:Int}{o:AP}(h:FW r)(ho:o.OK):Sub r (Uh r o):=B4 (KS h.1 (GO ho).1) (KS (BU h (GO ho)).1 (Gj ho).1)
theorem Hv{r:Int}{o:AP}(h:FW r)(ho:o.OK):Sub (d8 o) (Uh r o):=B4 (KR h.1 (GO ho).1) (KS (BU h (GO ho)).1 (Gj ho).1)
theorem CG{r:Int}{o:AP}(h:FW r)(ho:o.OK):Sub (NP o) (Uh r o):=KR (BU h (GO ho)).1 (Gj ho).1
theorem Qo{n:Int}: ¬n∈AZ 0:=λh=>iL (Cq.mp h).2.2
theorem gD{g:Rg}(h:g.OK)(n:Int):n∈AZ (OB true 0 (.reg g))↔n=g.num:=by
 have e:=GA h
 show n∈AZ (vG 0 (Gh g.num))↔_
 constructor
 ·intro u
  have:=Cq.mp u
  rcases(Ew (by decide) CF this.1).mp this.2.2 with h'|h'
  ·exact absurd h' iL
  ·exact(CJ e.1 this.1).mp h'
 ·rintro rfl
  exact Ch (BU Aw (LD e.1 e.2)) e.1 ((Ew (by decide) CF e.1).mpr (.inr ((CJ e.1 e.1).mpr rfl)))
theorem Wc{p q:Option (Str×Int)}{sc d z n:Int}: ¬n∈AZ (OB true 0 (.mem p q sc d z)):=by
 show¬n∈AZ (vG 0 0)
 rw[show vG 0 0=0 by decide+kernel]
 exact Qo
noncomputable def eM(R Wm:Int)(ic cf:Bool)(Mw M:Int):DA:=⟨λn=>n∈AZ R,λn=>n∈AZ Wm,cf=true,ic,λi=>Mw.toNat.testBit i=true,λi=>M.toNat.testBit i=true⟩
theorem Qu(i:Nat):(63:Int).toNat.testBit i=true↔i<6:=by
 show(2^6-1).testBit i=true↔_
 rw[Nat.testBit_two_pow_sub_one,decide_eq_true_eq]
theorem dD{k i:Nat}(h:k<64)(hi: ¬i<6):k.testBit i=false:=Nat.testBit_lt_two_pow (vS h (jo (n:=2) (by decide) (by omega:6≤i)))
theorem r9(i:Nat):(33:Int).toNat.testBit i=true↔i=0∨i=5:=by
 by_cases h:i<6
 ·exact(by decide: ∀i:Nat,i<6→((33:Int).toNat.testBit i=true↔i=0∨i=5)) i h
 ·exact⟨λq=>absurd ((dD (k:=33) (by decide) h).symm.trans q) vF,λq=>absurd (q.elim (λe=>e▸(by decide:0<6)) λe=>e▸(by decide:5<6)) h⟩
theorem nA(i:Nat):(55:Int).toNat.testBit i=true↔i=0∨i=1∨i=2∨i=4∨i=5:=by
 by_cases h:i<6
 ·exact(by decide: ∀i:Nat,i<6→((55:Int).toNat.testBit i=true↔i=0∨i=1∨i=2∨i=4∨i=5)) i h
 ·exact⟨λq=>absurd ((dD (k:=55) (by decide) h).symm.trans q) vF,λq=>absurd (by rcases q with e|e|e|e|e<;>exact e▸(by decide)) h⟩
theorem pI(i:Nat): ¬(0:Int).toNat.testBit i=true:=by simp
structure Zo (a:Str) (l:List AV) (R Wm:Int) (ic cf:Bool) (wl:List Str) (Mw M:Int):Prop where
 name:a∈Az
 uses: ∃ir:Bool,∀m H,AB AA (m+7) (nm "uses") [AG a l] H=ok (.tuple [.list ((AZ R).map .int),.list ((AZ Wm).map .int),.bool ir,.bool ic]) H
 rf: ∀m H,AB AA (m+4) (nm "reads_flags") [.str a] H=ok (.list (if cf then [.str (nm "cf")] else [])) H
 wf: ∀m H,AB AA (m+3) (nm "writes_flags") [.str a] H=ok (.list (wl.map .str)) H
 fm:NR wl Mw
 sm: ∀m H,AB AA (m+5) (nm "sure_mask") [AG a l] H=ok (.int M) H
 smM:M=0∨M=Mw
 r16:FW R
 w16:FW Wm
noncomputable def R0(V:St)(a:Str):List AP→Option (Int×Int)
 |.mem p q sc d z::r=>if a∈GS then(match r with
   | [o2]=>some (W (Hi V.regs p q sc d+(KC V z o2).fdiv z*z.fdiv 8) 64,z.fdiv 8)
   |_=>uZ)
  else some (Hi V.regs p q sc d,z.fdiv 8)
 |_=>uZ
noncomputable def Cc(a:Str)(l:List AP):Prop:=∃(R Wm:Int) (ic cf:Bool) (wl:List Str) (Mw M:Int),Zo a (l.map AP.av) R Wm ic cf wl Mw M∧(ic=true→∃o r,l=o::r∧o.isMem=true)∧∀V,Du V→0≤V.fl 0∧V.fl 0≤1→Bg (eM R Wm ic cf Mw M) (R0 V a l) V (AG a (l.map AP.av))
theorem FT{V:St}{a:Str}{o:AP}{r:List AP}(h: ¬a∈GS)(hi:o.isImm=false):R0 V a (o::r)=Fp V o:=by
 cases o with
 |reg=>rfl
 |imm=>rfl
 |mem=>exact if_neg h
theorem By{p:Str→Bool}{l:List Str}(h:l.all p=true){a:Str}(e:a∈l):p a=true:=List.all_eq_true.mp h a e
theorem iF{a:Str}(h:a∈O1):a=nm "shl"∨a=nm "shr"∨a=nm "sar"∨a=nm "rol"∨a=nm "ror"∨a=nm "rcl"∨a=nm "rcr":=by simpa [O1] using h
theorem fW{a:Str}(h:a∈GS):a=nm "bt"∨a=nm "bts"∨a=nm "btr"∨a=nm "btc":=by simpa [GS] using h
theorem jG{a:Str}(h:a∈Q2):a=nm "bsf"∨a=nm "bsr"∨a=nm "popcnt"∨a=nm "lzcnt"∨a=nm "tzcnt":=by simpa [Q2] using h
theorem eT{a:Str}(h:a∈Na):a=nm "movzx"∨a=nm "movsx"∨a=nm "movsxd":=by simpa [Na] using h
theorem jV{a:Str}(h:a∈U2):a=nm "cbw"∨a=nm "cwde"∨a=nm "cdqe"∨a=nm "cwd"∨a=nm "cdq"∨a=nm "cqo":=by simpa [U2] using h
theorem j7{a:Str}(h:a∈U6):a=nm "mul"∨a=nm "imul"∨a=nm "div"∨a=nm "idiv":=by simpa [U6] using h
theorem eU{a:Str}(h:a∈ME):a=nm "shld"∨a=nm "shrd":=by simpa [ME] using h
theorem OY{a:Str}{o1 o2:AP}{wf rf:Bool}(e:a∈Az)(k1:o1.OK)(k2:o2.OK)(O:o1.isImm=false)(hf:DT a=true)(D:Aq a (.list (Bk.map .str))=true∨D0 a (.list (Bk.map .str))=true)
  (hw: ∀m H,AB AA (m+3) (nm "writes_first") [AG a [o1.av,o2.av]] H=ok (.bool wf) H) (u: ∀m H,AB AA (m+3) (nm "reads_first") [AG a [o1.av,o2.av]] H=ok (.bool rf) H):
  ∃ir:Bool,∀m H,AB AA (m+7) (nm "uses") [AG a [o1.av,o2.av]] H=ok (.tuple [.list ((AZ (Uh (K5 wf rf 0 o1) o2)).map .int),.list ((AZ (OB wf 0 o1)).map .int),.bool ir,.bool (o1.isMem&&wf)]) H:=by
 have hl:[o1.av,o2.av].length≤100:=by simp
 have hi:=λm H=>Q6 (m:=m) (H:=H) (a:=a) (l:=[o1.av,o2.av]) (n:=2) hf (λm H=>lent2) (D.imp id λh=>⟨h,by decide⟩)
 have I:=λm H=>jD (m:=m) (H:=H) e k1 k2 hi hw u
 obtain⟨t,J,hat,ht0⟩: ∃t:Int,(t= -1∨t=0∨t=1)∧(∀m H,AB AA (m+1) (nm "Instruction.memory_at") [AG a [o1.av,o2.av]] H=ok (.int t) H)∧(decide (t=0))=o1.isMem:=by
  by_cases h1:o1.isMem=true
  ·exact⟨0,.inr (.inl rfl),λm H=>Q8 (l:=[o2]) h1 (by simp),by rw[h1];rfl⟩
  ·have h1:o1.isMem=false:=by simpa using h1
   by_cases B:o2.isMem=true
   ·exact⟨1,.inr (.inr rfl),λm H=>SL (l:=[]) h1 B (by simp),by rw[h1];rfl⟩
   ·exact⟨-1,.inl rfl,λm H=>Ww h1 (by simpa using B),by rw[h1];rfl⟩
 obtain⟨ir,hmu⟩:=FR e hl J hat (λ_=>hw) (λ_=>u)
 rw[ht0] at hmu
 exact⟨ir,λm H=>NN I hmu⟩
theorem eI{a:Str}{o1:AP}{wf rf:Bool}{e iw:Int}(B:a∈Az)(k1:o1.OK)(hi: ∀m H,AB AA (m+3) (nm "implied_uses") [AG a [o1.av]] H=ok (.tuple [.int e,.int iw]) H)
  (hw: ∀m H,AB AA (m+3) (nm "writes_first") [AG a [o1.av]] H=ok (.bool wf) H) (u: ∀m H,AB AA (m+3) (nm "reads_first") [AG a [o1.av]] H=ok (.bool rf) H):
  ∃ir:Bool,∀m H,AB AA (m+7) (nm "uses") [AG a [o1.av]] H=ok (.tuple [.list ((AZ (K5 wf rf e o1)).map .int),.list ((AZ (OB wf iw o1)).map .int),.bool ir,.bool (o1.isMem&&wf)]) H:=by
 have hl:[o1.av].length≤100:=by simp
 have D:=λm H=>eY (m:=m) (H:=H) B k1 hi hw u
 obtain⟨t,I,hat,ht0⟩: ∃t:Int,(t= -1∨t=0∨t=1)∧(∀m H,AB AA (m+1) (nm "Instruction.memory_at") [AG a [o1.av]] H=ok (.int t) H)∧(decide (t=0))=o1.isMem:=by
  by_cases h1:o1.isMem=true
  ·exact⟨0,.inr (.inl rfl),λm H=>Q8 (l:=[]) h1 (by simp),by rw[h1];rfl⟩
  ·have h1:o1.isMem=false:=by simpa using h1
   exact⟨-1,.inl rfl,λm H=>XB h1,by rw[h1];rfl⟩
 obtain⟨ir,hmu⟩:=FR B hl I hat (λ_=>hw) (λ_=>u)
 rw[ht0] at hmu
 exact⟨ir,λm H=>NN D hmu⟩
theorem eF{a:Str}{o1 o2 o3:AP}{wf rf:Bool}(e:a∈Az)(k1:o1.OK)(k2:o2.OK)(k3:o3.OK)(D:o3.isMem=false)(hf:DT a=true)(I:Aq a (.list (Bk.map .str))=true∨D0 a (.list (Bk.map .str))=true)
  (hw: ∀m H,AB AA (m+3) (nm "writes_first") [AG a [o1.av,o2.av,o3.av]] H=ok (.bool wf) H) (u: ∀m H,AB AA (m+3) (nm "reads_first") [AG a [o1.av,o2.av,o3.av]] H=ok (.bool rf) H):
  ∃ir:Bool,∀m H,AB AA (m+7) (nm "uses") [AG a [o1.av,o2.av,o3.av]] H=ok (.tuple [.list ((AZ (Uh (Uh (K5 wf rf 0 o1) o2) o3)).map .int),.list ((AZ (OB wf 0 o1)).map .int),.bool ir,.bool (o1.isMem&&wf)]) H:=by
 have hl:[o1.av,o2.av,o3.av].length≤100:=by simp
 have hi:=λm H=>Q6 (m:=m) (H:=H) (a:=a) (l:=[o1.av,o2.av,o3.av]) (n:=3) hf (λm H=>lent3) (I.imp id λh=>⟨h,by decide⟩)
 have J:=λm H=>gP (m:=m) (H:=H) e k1 k2 k3 hi hw u
 obtain⟨t,O,hat,ht0⟩: ∃t:Int,(t= -1∨t=0∨t=1)∧(∀m H,AB AA (m+1) (nm "Instruction.memory_at") [AG a [o1.av,o2.av,o3.av]] H=ok (.int t) H)∧(decide (t=0))=o1.isMem:=by
  by_cases h1:o1.isMem=true
  ·exact⟨0,.inr (.inl rfl),λm H=>Q8 (l:=[o2,o3]) h1 (by simp),by rw[h1];rfl⟩
  ·have h1:o1.isMem=false:=by simpa using h1
   by_cases B:o2.isMem=true
   ·exact⟨1,.inr (.inr rfl),λm H=>SL (l:=[o3]) h1 B (by simp),by rw[h1];rfl⟩
   ·exact⟨-1,.inl rfl,λm H=>XZ h1 (by simpa using B) D,by rw[h1];rfl⟩
 obtain⟨ir,hmu⟩:=FR e hl O hat (λ_=>hw) (λ_=>u)
 rw[ht0] at hmu
 exact⟨ir,λm H=>NN J hmu⟩
theorem E7{o:AP}{R:Int}{rf cf:Bool}{Mw M:Int}(k:o.OK)(i:o.isImm=false)(e:FW R)(hs:Sub (K5 true rf 0 o) R)(B:rf=true∨o.isMem=true∨o.size<32∨32≤o.size):E1 (eM R (OB true 0 o) (o.isMem&&true) cf Mw M) o:=by
 refine⟨Cj k e (B4 (Qz Aw k) hs),?_⟩
 cases o with
 |reg g=>
  refine⟨gD k,?_⟩
  by_cases u:32≤g.size
  ·exact .inl u
  ·right
   exact BQ (o:=.reg g) k e (B4 (DS Aw k (.inr (.inr (by show g.size<32;omega)))) hs)
 |imm=>cases i
 |mem=>exact⟨rfl,λn=>Wc⟩
noncomputable abbrev bI:AV:=.list (CI.map .str)
noncomputable abbrev Y3:AV:=.list (GW.map .str)
noncomputable abbrev Y7:AV:=.list (Bk.map .str)
noncomputable abbrev Gr:AV:=.list (BG.map .str)
noncomputable abbrev Ur:AV:=.tuple [.str (nm "rcl"),.str (nm "rcr")]
noncomputable abbrev TS:AV:=.tuple [.str (nm "shl"),.str (nm "shr"),.str (nm "sar")]
theorem Fb{a b:AV}: ∀m H,AB AA (m+1) (nm "len") [.tuple [a,b]] H=ok (.int 2) H:=λm H=>lent2
theorem Pj{a:AV}: ∀m H,AB AA (m+1) (nm "len") [.tuple [a]] H=ok (.int 1) H:=λm H=>lent1
theorem TH{a b c:AV}: ∀m H,AB AA (m+1) (nm "len") [.tuple [a,b,c]] H=ok (.int 3) H:=λm H=>lent3
theorem Ck{a:Str}(h:IY a (nm "imul")=true): ¬a=nm "imul":=by
 intro e
 subst e
 exact absurd h (by decide+kernel)
theorem TT{a:Str}(u:a∈O1){o1 o2:AP}(k1:o1.OK)(I:o1.isImm=false)(k2:o2.OK)(U:o2.isMem=false):Cc a [o1,o2]:=by
 have Q:=iF u
 have B:a∈Az:=by simp[Az,u]
 have f1:Aq a bI=true:=By (p:=λa=>Aq a bI) (by decide+kernel:O1.all _=true) u
 have f2:IY a (nm "imul")=true:=By (p:=λa=>IY a (nm "imul")) (by decide+kernel:O1.all _=true) u
 have f3:Aq a Y3=true:=By (p:=λa=>Aq a Y3) (by decide+kernel:O1.all _=true) u
 have f4:DT a=true:=By (p:=DT) (by decide+kernel:O1.all _=true) u
 have f5:Aq a Y7=true:=By (p:=λa=>Aq a Y7) (by decide+kernel:O1.all _=true) u
 have f6:D0 a Gr=true:=By (p:=λa=>D0 a Gr) (by decide+kernel:O1.all _=true) u
 have f7:D0 a Lq=true:=By (p:=λa=>D0 a Lq) (by decide+kernel:O1.all _=true) u
 have f8:D0 a Ur=true∨Aq a Ur=true:=by
  have:=By (p:=λa=>D0 a Ur||Aq a Ur) (by decide+kernel:O1.all _=true) u
  simpa using this
 have f9:D0 a TS=true∨Aq a TS=true:=by
  have:=By (p:=λa=>D0 a TS||Aq a TS) (by decide+kernel:O1.all _=true) u
  simpa using this
 have hw:=λm H=>CL (m:=m+1) (H:=H) (a:=a) (o:=o1) (l:=[o2.av]) I Fb (by decide) (λe=>absurd e (Ck f2)) (Ag f1) (.inr f2)
 have Y:=λm H=>CP (m:=m+1) (H:=H) (l:=[o1.av,o2.av]) B (Ag f3) Fb (.inr f2)
 simp only[Ck f2,decide_false,yK,bm] at Y
 obtain⟨ir,hu⟩:=OY B k1 k2 I f4 (.inl f5) hw Y
 obtain⟨wl,Mw,hfm,hwf,hMw⟩: ∃wl Mw,NR wl Mw∧(∀m H,AB AA (m+3) (nm "writes_flags") [.str a] H=ok (.list (wl.map .str)) H)∧(Mw=if a=nm "shl"∨a=nm "shr"∨a=nm "sar" then 63 else 33):=by
  by_cases hs:a=nm "shl"∨a=nm "shr"∨a=nm "sar"
  ·exact⟨FY,63,.inr (.inr (.inr ⟨rfl,rfl⟩)),λm H=>FP B (.inl (by rcases hs with rfl|rfl|rfl<;>decide+kernel)),by rw[if_pos hs]⟩
  ·refine⟨p0,33,.inr (.inl ⟨rfl,rfl⟩),λm H=>iZ B ?_,by rw[if_neg hs]⟩
   rcases Q with h|h|h|h|h|h|h
   ·exact absurd (.inl h) hs
   ·exact absurd (.inr (.inl h)) hs
   ·exact absurd (.inr (.inr h)) hs
   all_goals
    subst h
    decide+kernel
 obtain⟨M,Z,hsm⟩:=Sv (o0:=o1) (l:=[o2.av]) hfm f7 f8 f9 hwf (λm H=>jN (o0:=o1) f6 U)
 have J:=EK (wf:=true) (rf:=true) Aw k1
 have O:=D3 J k2
 have D: ∃cf:Bool,(∀m H,AB AA (m+4) (nm "reads_flags") [.str a] H=ok (.list (if cf then [.str (nm "cf")] else [])) H)∧(a=nm "rcl"∨a=nm "rcr"→cf=true):=by
  by_cases hc:a=nm "rcl"∨a=nm "rcr"
  ·exact⟨true,λm H=>iV B (by rcases hc with rfl|rfl<;>decide+kernel),λ_=>rfl⟩
  ·refine⟨false,λm H=>DZ B ?_,λh=>absurd h hc⟩
   rcases Q with h|h|h|h|h|h|h
   ·subst h;decide+kernel
   ·subst h;decide+kernel
   ·subst h;decide+kernel
   ·subst h;decide+kernel
   ·subst h;decide+kernel
   ·exact absurd (.inl h) hc
   ·exact absurd (.inr h) hc
 obtain⟨cf,hrf,D⟩:=D
 refine⟨_,_,o1.isMem&&true,cf,wl,Mw,M,⟨B,⟨ir,hu⟩,hrf,hwf,hfm,hsm,Z.imp id (·.1),O,Es Aw k1⟩,λh=>⟨o1,[o2],rfl,by simpa using h⟩,λV hV hy=>?_⟩
 rw[FT (λh=>absurd (By (p:=λa=>O1.all λb=>!(a==b)) (by decide+kernel:GS.all _=true) h) (by
  intro h'
  have:=List.all_eq_true.mp h' a u
  simp at this)) I]
 have S: ∀i,(eM (Uh (K5 true true 0 o1) o2) (OB true 0 o1) (o1.isMem&&true) cf Mw M).wf i↔if a=nm "shl"∨a=nm "shr"∨a=nm "sar" then i<6 else i=0∨i=5:=by
  intro i
  show Mw.toNat.testBit i=true↔_
  rw[hMw]
  split
  ·exact Qu i
  ·exact r9 i
 refine P4 Q k1 I k2 U hV hy (E7 k1 I O (B2 J k2) (.inl rfl)) (BQ k1 O (B4 (DS Aw k1 (.inr (.inl rfl))) (B2 J k2))) (BQ k2 O (CG J k2)) D S ?_
 intro i hi
 rcases Z with rfl|⟨rfl,hc⟩
 ·exact absurd hi (pI i)
 ·refine⟨?_,hi⟩
  cases o2 with
  |reg g=>exact absurd (show(0:Int)< -1 from hc) (by decide)
  |imm w=>
   have:0<UP V o1.size (.imm w):=hc
   omega
  |mem=>cases U
theorem Qy{a:Str}(u:a∈ME){o1 o2 o3:AP}(k1:o1.OK)(Q:o1.isImm=false)(Y:o1.size≠8)(k2:o2.OK)(k3:o3.OK)(S:o3.isMem=false):Cc a [o1,o2,o3]:=by
 have hn:=eU u
 have D:a∈Az:=by simp[Az,u]
 have f1:Aq a bI=true:=By (p:=λa=>Aq a bI) (by decide+kernel:ME.all _=true) u
 have f2:IY a (nm "imul")=true:=By (p:=λa=>IY a (nm "imul")) (by decide+kernel:ME.all _=true) u
 have f3:Aq a Y3=true:=By (p:=λa=>Aq a Y3) (by decide+kernel:ME.all _=true) u
 have f4:DT a=true:=By (p:=DT) (by decide+kernel:ME.all _=true) u
 have f5:Aq a Y7=true:=By (p:=λa=>Aq a Y7) (by decide+kernel:ME.all _=true) u
 have f6:D0 a Gr=true:=By (p:=λa=>D0 a Gr) (by decide+kernel:ME.all _=true) u
 have f7:D0 a Lq=true:=By (p:=λa=>D0 a Lq) (by decide+kernel:ME.all _=true) u
 have f8:Aq a Ur=true:=By (p:=λa=>Aq a Ur) (by decide+kernel:ME.all _=true) u
 have f9:Aq a TS=true:=By (p:=λa=>Aq a TS) (by decide+kernel:ME.all _=true) u
 have f10:D0 a Nb=true:=By (p:=λa=>D0 a Nb) (by decide+kernel:ME.all _=true) u
 have f11:Aq a Pt=true:=By (p:=λa=>Aq a Pt) (by decide+kernel:ME.all _=true) u
 have hw:=λm H=>CL (m:=m+1) (H:=H) (a:=a) (o:=o1) (l:=[o2.av,o3.av]) Q TH (by decide) (λe=>absurd e (Ck f2)) (Ag f1) (.inr f2)
 have Z:=λm H=>CP (m:=m+1) (H:=H) (l:=[o1.av,o2.av,o3.av]) D (Ag f3) TH (.inr f2)
 simp only[Ck f2,decide_false,yK,bm] at Z
 obtain⟨ir,hu⟩:=eF D k1 k2 k3 S f4 (.inl f5) hw Z
 have O:=λm H=>FP (m:=m) (H:=H) D (.inl f10)
 have J:NR FY 63:=.inr (.inr (.inr ⟨rfl,rfl⟩))
 obtain⟨M,hM,hsm⟩:=Sv (o0:=o1) (l:=[o2.av,o3.av]) J f7 (.inr f8) (.inr f9) O (λm H=>i7 (o0:=o1) (o1:=o2) f6 S)
 have U:=EK (wf:=true) (rf:=true) Aw k1
 have I:=D3 U k2
 have B:=D3 I k3
 refine⟨_,_,o1.isMem&&true,false,FY,63,M,⟨D,⟨ir,hu⟩,λm H=>DZ D f11,O,J,hsm,hM.imp id (·.1),B,Es Aw k1⟩,λh=>⟨o1,_,rfl,by simpa using h⟩,λV hV hy=>?_⟩
 rw[FT (λh=>absurd (By (p:=λa=>ME.all λb=>!(a==b)) (by decide+kernel:GS.all _=true) h) (by
  intro h'
  have:=List.all_eq_true.mp h' a u
  simp at this)) Q]
 have S1:=B4 (B2 U k2) (B2 I k3)
 refine Nl hn k1 Q k2 k3 S Y hV (E7 k1 Q B S1 (.inl rfl)) (BQ k1 B (B4 (DS Aw k1 (.inr (.inl rfl))) S1)) ⟨Cj k2 B (B4 (Hv U k2) (B2 I k3)),BQ k2 B (B4 (CG U k2) (B2 I k3))⟩ (BQ k3 B (CG I k3)) Qu ?_
 intro i hi
 rcases hM with rfl|⟨rfl,hc⟩
 ·exact absurd hi (pI i)
 ·refine⟨?_,hi⟩
  cases o3 with
  |reg g=>exact absurd (show(0:Int)< -1 from hc) (by decide)
  |imm w=>
   have:0<UP V o1.size (.imm w):=hc
   omega
  |mem=>cases S
theorem ND{n:Int}(e:0≤n):Bt 1 n=1↔n=0:=by
 rw[show(1:Int)=Gh 0 by decide]
 exact CJ (by decide) e
theorem a0{n:Int}(e:0≤n):Bt 4 n=1↔n=2:=by
 rw[show(4:Int)=Gh 2 by decide]
 exact CJ (by decide) e
theorem Ks{n:Int}(e:0≤n):Bt 5 n=1↔n=0∨n=2:=by
 rw[show(5:Int)=vG 1 4 by decide+kernel,Ew (by decide) (by decide) e,ND e,a0 e]
theorem PZ:FW 1:=⟨by decide,λn e h=>by have:=(ND e).mp h;omega⟩
theorem o9:FW 4:=⟨by decide,λn e h=>by have:=(a0 e).mp h;omega⟩
theorem SW:FW 5:=⟨by decide,λn e h=>by have:=(Ks e).mp h;omega⟩
theorem fT{a:Str}(e:a∈U6){o1:AP}(k1:o1.OK)(U:o1.isImm=false):Cc a [o1]:=by
 have hn:=j7 e
 have B:a∈Az:=by simp[Az,e]
 have hz:=BO k1 U
 have f5:Aq a Gr=true:=By (p:=λa=>Aq a Gr) (by decide+kernel:U6.all _=true) e
 have f6:Aq a Lq=true:=By (p:=λa=>Aq a Lq) (by decide+kernel:U6.all _=true) e
 have f3:Aq a Y3=true:=By (p:=λa=>Aq a Y3) (by decide+kernel:U6.all _=true) e
 have f10:D0 a Nb=true:=By (p:=λa=>D0 a Nb) (by decide+kernel:U6.all _=true) e
 have f11:Aq a Pt=true:=By (p:=λa=>Aq a Pt) (by decide+kernel:U6.all _=true) e
 have fi:a=nm "imul"∨(IY a (nm "imul")=true∧D0 a bI=true):=by
  rcases hn with rfl|rfl|rfl|rfl
  ·right;decide+kernel
  ·left;rfl
  ·right;decide+kernel
  ·right;decide+kernel
 have hw:=λm H=>Oy (m:=m+1) (H:=H) (a:=a) (o:=o1) (l:=[]) U Pj (by decide) (fi.imp (λh=>⟨h,rfl⟩) λh=>⟨DR h.2,h.1⟩)
 have hr:=λm H=>CP (m:=m+1) (H:=H) (l:=[o1.av]) B (Ag f3) Pj (fi.imp id (·.1))
 obtain⟨ir,hu⟩:=eI B k1 (λm H=>aE hn) hw hr
 have Q:=λm H=>FP (m:=m) (H:=H) B (.inl f10)
 have O:NR FY 63:=.inr (.inr (.inr ⟨rfl,rfl⟩))
 have Y:FW (if o1.size=8 then 1 else if a=nm "mul"∨a=nm "imul" then(if o1.size=16 then 5 else 1)else 5):=by
  split
  ·exact PZ
  ·split
   ·split
    ·exact SW
    ·exact PZ
   ·exact SW
 have W0:FW (if o1.size=8 then 1 else 5):=by
  split
  ·exact PZ
  ·exact SW
 have D:=EK (wf:=false) (rf:=!(decide (a=nm "imul")&&decide ((1:Int)=3))) Y k1
 refine⟨_,_,o1.isMem&&false,false,FY,63,63,⟨B,⟨ir,hu⟩,λm H=>DZ B f11,Q,O,λm H=>DM O B f5 f6 Q,.inr rfl,D,W0⟩,λh=>by simp at h,λV hV hy=>?_⟩
 have u:=fX (wf:=false) (rf:=!(decide (a=nm "imul")&&decide ((1:Int)=3))) Y k1
 have h0:(eM (K5 false (!(decide (a=nm "imul")&&decide ((1:Int)=3))) (if o1.size=8 then 1 else if a=nm "mul"∨a=nm "imul" then(if o1.size=16 then 5 else 1)else 5) o1) (OB false (if o1.size=8 then 1 else 5) o1) (o1.isMem&&false) false 63 63).rd 0:=by
  refine Ch D (by decide) (u 0 (by decide) ?_)
  split
  ·exact(ND (by decide)).mpr rfl
  ·split
   ·split
    ·exact(Ks (by decide)).mpr (.inl rfl)
    ·exact(ND (by decide)).mpr rfl
   ·exact(Ks (by decide)).mpr (.inl rfl)
 have S: ∀n,n∈AZ (OB false (if o1.size=8 then 1 else 5) o1)↔n=0∨(n=2∧o1.size≠8):=by
  intro n
  show n∈AZ (if o1.size=8 then 1 else 5)↔_
  rw[Cq]
  by_cases I:o1.size=8
  ·rw[if_pos I]
   constructor
   ·rintro⟨q0,_,q2⟩
    exact .inl ((ND q0).mp q2)
   ·rintro(rfl|⟨_,h⟩)
    ·exact⟨by decide,by decide,(ND (by decide)).mpr rfl⟩
    ·exact absurd I h
  ·rw[if_neg I]
   constructor
   ·rintro⟨q0,_,q2⟩
    exact((Ks q0).mp q2).imp id λh=>⟨h,I⟩
   ·rintro(rfl|⟨rfl,_⟩)
    ·exact⟨by decide,by decide,(Ks (by decide)).mpr (.inl rfl)⟩
    ·exact⟨by decide,by decide,(Ks (by decide)).mpr (.inr rfl)⟩
 have J:=And.intro (Cj k1 D (Qz Y k1)) (BQ k1 D (DS Y k1 (.inl rfl)))
 by_cases hm:a=nm "mul"∨a=nm "imul"
 ·refine RK hm k1 U hV J h0 (λZ=>?_) S Qu (λi h=>h)
  refine Ch D (by decide) (u 2 (by decide) ?_)
  rw[if_neg (by omega),if_pos hm,if_pos Z]
  exact(Ks (by decide)).mpr (.inr rfl)
 ·have hd:a=nm "div"∨a=nm "idiv":=by
   rcases hn with h|h|h|h
   ·exact absurd (.inl h) hm
   ·exact absurd (.inr h) hm
   ·exact .inl h
   ·exact .inr h
  refine Tq hd k1 U hV J h0 (λI=>?_) S Qu (λi h=>h)
  refine Ch D (by decide) (u 2 (by decide) ?_)
  rw[if_neg I,if_neg hm]
  exact(Ks (by decide)).mpr (.inr rfl)
theorem Tm{o1 o2:AP}(k1:o1.OK)(B:o1.isImm=false)(k2:o2.OK):Cc (nm "imul") [o1,o2]:=by
 have u:nm "imul"∈Az:=by decide+kernel
 have hw:=λm H=>CL (m:=m+1) (H:=H) (a:=nm "imul") (o:=o1) (l:=[o2.av]) B Fb (by decide) (λe=>by decide) (by decide+kernel) (.inl rfl)
 have Q:=λm H=>CP (m:=m+1) (H:=H) (l:=[o1.av,o2.av]) u (by decide+kernel) Fb (.inl rfl)
 have e:(!(decide (nm "imul"=nm "imul")&&decide ((2:Int)=3)))=true:=by decide+kernel
 rw[e] at Q
 obtain⟨ir,hu⟩:=OY u k1 k2 B (by decide+kernel) (.inr (by decide+kernel)) hw Q
 have O:=λm H=>FP (m:=m) (H:=H) u (.inl (by decide+kernel))
 have J:NR FY 63:=.inr (.inr (.inr ⟨rfl,rfl⟩))
 have D:=EK (wf:=true) (rf:=true) Aw k1
 have I:=D3 D k2
 refine⟨_,_,o1.isMem&&true,false,FY,63,63,⟨u,⟨ir,hu⟩,λm H=>DZ u (by decide+kernel),O,J,λm H=>DM J u (by decide+kernel) (by decide+kernel) O,.inr rfl,I,Es Aw k1⟩,λh=>⟨o1,_,rfl,by simpa using h⟩,λV S hy=>?_⟩
 rw[FT (by decide+kernel) B]
 exact QO k1 B k2 S (E7 k1 B I (B2 D k2) (.inl rfl)) (BQ k1 I (B4 (DS Aw k1 (.inr (.inl rfl))) (B2 D k2))) ⟨Cj k2 I (Hv D k2),BQ k2 I (CG D k2)⟩ Qu (λi h=>h)
theorem UU{o1 o2 o3:AP}(k1:o1.OK)(I:o1.isImm=false)(k2:o2.OK)(k3:o3.OK)(U:o3.isMem=false):Cc (nm "imul") [o1,o2,o3]:=by
 have u:nm "imul"∈Az:=by decide+kernel
 have hz:=Am (BO k1 I)
 have hw:=λm H=>CL (m:=m+1) (H:=H) (a:=nm "imul") (o:=o1) (l:=[o2.av,o3.av]) I TH (by decide) (λe=>by decide) (by decide+kernel) (.inl rfl)
 have S:=λm H=>CP (m:=m+1) (H:=H) (l:=[o1.av,o2.av,o3.av]) u (by decide+kernel) TH (.inl rfl)
 have e:(!(decide (nm "imul"=nm "imul")&&decide ((3:Int)=3)))=false:=by decide+kernel
 rw[e] at S
 obtain⟨ir,hu⟩:=eF u k1 k2 k3 U (by decide+kernel) (.inr (by decide+kernel)) hw S
 have O:=λm H=>FP (m:=m) (H:=H) u (.inl (by decide+kernel))
 have J:NR FY 63:=.inr (.inr (.inr ⟨rfl,rfl⟩))
 have Q:=EK (wf:=true) (rf:=false) Aw k1
 have D:=D3 Q k2
 have B:=D3 D k3
 have Y:=B4 (B2 Q k2) (B2 D k3)
 refine⟨_,_,o1.isMem&&true,false,FY,63,63,⟨u,⟨ir,hu⟩,λm H=>DZ u (by decide+kernel),O,J,λm H=>DM J u (by decide+kernel) (by decide+kernel) O,.inr rfl,B,Es Aw k1⟩,λh=>⟨o1,_,rfl,by simpa using h⟩,λV Z hy=>?_⟩
 rw[FT (by decide+kernel) I]
 exact RQ k1 I k2 k3 Z (E7 k1 I B Y (by right;right;omega)) ⟨Cj k2 B (B4 (Hv Q k2) (B2 D k3)),BQ k2 B (B4 (CG Q k2) (B2 D k3))⟩ ⟨Cj k3 B (Hv D k3),BQ k3 B (CG D k3)⟩ Qu (λi h=>h)
theorem WL{a:Str}(u:a∈Q2){g:Rg}{o2:AP}(k1:(AP.reg g).OK)(k2:o2.OK):Cc a [.reg g,o2]:=by
 have S:=jG u
 have B:a∈Az:=by simp[Az,u]
 have Q:(AP.reg g).isImm=false:=rfl
 have U:=Am (S9 k1)
 have f1:Aq a bI=true:=By (p:=λa=>Aq a bI) (by decide+kernel:Q2.all _=true) u
 have f2:IY a (nm "imul")=true:=By (p:=λa=>IY a (nm "imul")) (by decide+kernel:Q2.all _=true) u
 have f4:DT a=true:=By (p:=DT) (by decide+kernel:Q2.all _=true) u
 have f5:Aq a Y7=true:=By (p:=λa=>Aq a Y7) (by decide+kernel:Q2.all _=true) u
 have f6:Aq a Gr=true:=By (p:=λa=>Aq a Gr) (by decide+kernel:Q2.all _=true) u
 have f7:Aq a Lq=true:=By (p:=λa=>Aq a Lq) (by decide+kernel:Q2.all _=true) u
 have f8:Aq a Nb=true∧D0 a U1=true:=by
  have:=By (p:=λa=>Aq a Nb&&D0 a U1) (by decide+kernel:Q2.all _=true) u
  simpa using this
 have f11:Aq a Pt=true:=By (p:=λa=>Aq a Pt) (by decide+kernel:Q2.all _=true) u
 obtain⟨rf,hrf,hr⟩: ∃rf:Bool,(a=nm "bsf"∨a=nm "bsr"→rf=true)∧∀m H,AB AA (m+3) (nm "reads_first") [AG a [(AP.reg g).av,o2.av]] H=ok (.bool rf) H:=by
  by_cases h:a=nm "bsf"∨a=nm "bsr"
  ·refine⟨true,λ_=>rfl,λm H=>?_⟩
   have:=CP (m:=m) (H:=H) (a:=a) (l:=[(AP.reg g).av,o2.av]) B (by rcases h with rfl|rfl<;>decide+kernel) Fb (.inr f2)
   simp only[Ck f2,decide_false,yK,bm] at this
   exact this
  ·refine⟨false,λh'=>absurd h' h,λm H=>Oi ?_⟩
   rcases S with h'|h'|h'|h'|h'
   ·exact absurd (.inl h') h
   ·exact absurd (.inr h') h
   all_goals
    subst h'
    decide+kernel
 have hw:=λm H=>CL (m:=m+1) (H:=H) (a:=a) (o:=.reg g) (l:=[o2.av]) Q Fb (by decide) (λe=>absurd e (Ck f2)) (Ag f1) (.inr f2)
 obtain⟨ir,hu⟩:=OY B k1 k2 Q f4 (.inl f5) hw hr
 have O:=λm H=>FP (m:=m) (H:=H) B (.inr f8)
 have J:NR FY 63:=.inr (.inr (.inr ⟨rfl,rfl⟩))
 have D:=EK (wf:=true) (rf:=rf) Aw k1
 have I:=D3 D k2
 refine⟨_,_,(AP.reg g).isMem&&true,false,FY,63,63,⟨B,⟨ir,hu⟩,λm H=>DZ B f11,O,J,λm H=>DM J B f6 f7 O,.inr rfl,I,Es Aw k1⟩,λh=>by simp[AP.isMem] at h,λV Y hy=>?_⟩
 exact UX S k1 Q k2 (E7 k1 Q I (B2 D k2) (by right;right;show g.size<32∨32≤g.size;omega)) (λh=>BQ k1 I (B4 (DS Aw k1 (.inr (.inl (hrf h)))) (B2 D k2))) ⟨Cj k2 I (Hv D k2),BQ k2 I (CG D k2)⟩ Qu (λi h=>h)
theorem LE{a:Str}(u:a∈Na){g:Rg}{o2:AP}(k1:(AP.reg g).OK)(k2:o2.OK)(U:o2.isImm=false):Cc a [.reg g,o2]:=by
 have S:=eT u
 have B:a∈Az:=by simp[Az,u]
 have J:(AP.reg g).isImm=false:=rfl
 have Y:=Am (S9 k1)
 have f1:Aq a bI=true:=By (p:=λa=>Aq a bI) (by decide+kernel:Na.all _=true) u
 have f2:IY a (nm "imul")=true:=By (p:=λa=>IY a (nm "imul")) (by decide+kernel:Na.all _=true) u
 have f3:D0 a Y3=true:=By (p:=λa=>D0 a Y3) (by decide+kernel:Na.all _=true) u
 have f4:DT a=true:=By (p:=DT) (by decide+kernel:Na.all _=true) u
 have f5:Aq a Y7=true:=By (p:=λa=>Aq a Y7) (by decide+kernel:Na.all _=true) u
 have f6:Aq a Gr=true:=By (p:=λa=>Aq a Gr) (by decide+kernel:Na.all _=true) u
 have f7:Aq a Lq=true:=By (p:=λa=>Aq a Lq) (by decide+kernel:Na.all _=true) u
 have f8:kW a=true:=By (p:=kW) (by decide+kernel:Na.all _=true) u
 have f11:Aq a Pt=true:=By (p:=λa=>Aq a Pt) (by decide+kernel:Na.all _=true) u
 have hw:=λm H=>CL (m:=m+1) (H:=H) (a:=a) (o:=.reg g) (l:=[o2.av]) J Fb (by decide) (λe=>absurd e (Ck f2)) (Ag f1) (.inr f2)
 obtain⟨ir,hu⟩:=OY B k1 k2 J f4 (.inl f5) hw (λm H=>Oi (m:=m) (H:=H) (DR f3))
 have I:=λm H=>QH (m:=m) (H:=H) B f8
 have D:NR [] 0:=.inl ⟨rfl,rfl⟩
 have O:=EK (wf:=true) (rf:=false) Aw k1
 have Q:=D3 O k2
 refine⟨_,_,(AP.reg g).isMem&&true,false,[],0,0,⟨B,⟨ir,hu⟩,λm H=>DZ B f11,I,D,λm H=>DM D B f6 f7 I,.inr rfl,Q,Es Aw k1⟩,λh=>by simp[AP.isMem] at h,λV Z hy=>?_⟩
 exact QS S k1 J k2 U (E7 k1 J Q (B2 O k2) (by right;right;show g.size<32∨32≤g.size;omega)) ⟨Cj k2 Q (Hv O k2),BQ k2 Q (CG O k2)⟩ pI
theorem WV{g:Rg}(k1:(AP.reg g).OK):Cc (nm "bswap") [.reg g]:=by
 have u:nm "bswap"∈Az:=by decide+kernel
 have I:(AP.reg g).isImm=false:=rfl
 have hw:=λm H=>CL (m:=m+1) (H:=H) (a:=nm "bswap") (o:=.reg g) (l:=[]) I Pj (by decide) (λe=>absurd e (by decide+kernel)) (by decide+kernel) (.inr (by decide+kernel))
 have O:=λm H=>CP (m:=m+1) (H:=H) (l:=[(AP.reg g).av]) u (by decide+kernel) Pj (.inr (by decide+kernel))
 have e:(!(decide (nm "bswap"=nm "imul")&&decide ((1:Int)=3)))=true:=by decide+kernel
 rw[e] at O
 obtain⟨ir,hu⟩:=eI u k1 (λm H=>Q6 (l:=[(AP.reg g).av]) (by decide+kernel) Pj (.inl (by decide+kernel))) hw O
 have D:=λm H=>QH (m:=m) (H:=H) u (by decide+kernel)
 have B:NR [] 0:=.inl ⟨rfl,rfl⟩
 have J:=EK (wf:=true) (rf:=true) Aw k1
 refine⟨_,_,(AP.reg g).isMem&&true,false,[],0,0,⟨u,⟨ir,hu⟩,λm H=>DZ u (by decide+kernel),D,B,λm H=>DM B u (by decide+kernel) (by decide+kernel) D,.inr rfl,J,Es Aw k1⟩,λh=>by simp[AP.isMem] at h,λV Q hy=>?_⟩
 exact Uj k1 I (E7 k1 I J lP (.inl rfl)) (BQ k1 J (DS Aw k1 (.inr (.inl rfl)))) pI
theorem Vy{a:Str}(u:a∈GS){o1 o2:AP}(k1:o1.OK)(J:o1.isImm=false)(k2:o2.OK)(Z:o2.isMem=false):Cc a [o1,o2]:=by
 have U:=fW u
 have B:a∈Az:=by simp[Az,u]
 have f2:IY a (nm "imul")=true:=By (p:=λa=>IY a (nm "imul")) (by decide+kernel:GS.all _=true) u
 have f3:Aq a Y3=true:=By (p:=λa=>Aq a Y3) (by decide+kernel:GS.all _=true) u
 have f4:DT a=true:=By (p:=DT) (by decide+kernel:GS.all _=true) u
 have f5:Aq a Y7=true:=By (p:=λa=>Aq a Y7) (by decide+kernel:GS.all _=true) u
 have f6:Aq a Gr=true:=By (p:=λa=>Aq a Gr) (by decide+kernel:GS.all _=true) u
 have f7:Aq a Lq=true:=By (p:=λa=>Aq a Lq) (by decide+kernel:GS.all _=true) u
 have f8:Aq a Nb=true∧Aq a U1=true∧D0 a eA=true:=by
  have:=By (p:=λa=>Aq a Nb&& (Aq a U1&&D0 a eA)) (by decide+kernel:GS.all _=true) u
  simpa using this
 have f11:Aq a Pt=true:=By (p:=λa=>Aq a Pt) (by decide+kernel:GS.all _=true) u
 obtain⟨wf,hwf,hwt,hw⟩: ∃wf:Bool,(a=nm "bt"→wf=false)∧(a≠nm "bt"→wf=true)∧∀m H,AB AA (m+3) (nm "writes_first") [AG a [o1.av,o2.av]] H=ok (.bool wf) H:=by
  by_cases h:a=nm "bt"
  ·exact⟨false,λ_=>rfl,λh'=>absurd h h',λm H=>Oy (l:=[o2.av]) J Fb (by decide) (.inr ⟨by subst h;decide+kernel,f2⟩)⟩
  ·refine⟨true,λh'=>absurd h' h,λ_=>rfl,λm H=>CL (l:=[o2.av]) J Fb (by decide) (λe=>absurd e (Ck f2)) ?_ (.inr f2)⟩
   rcases U with h'|h'|h'|h'
   ·exact absurd h' h
   all_goals
    subst h'
    decide+kernel
 have Y:=λm H=>CP (m:=m+1) (H:=H) (l:=[o1.av,o2.av]) B (Ag f3) Fb (.inr f2)
 simp only[Ck f2,decide_false,yK,bm] at Y
 obtain⟨ir,hu⟩:=OY B k1 k2 J f4 (.inl f5) hw Y
 have O:=λm H=>eO (m:=m) (H:=H) B f8
 have Q:NR oS 55:=.inr (.inr (.inl ⟨rfl,rfl⟩))
 have D:=EK (wf:=wf) (rf:=true) Aw k1
 have I:=D3 D k2
 have W1:=Es (wf:=wf) Aw k1
 refine⟨_,_,o1.isMem&&wf,false,oS,55,55,⟨B,⟨ir,hu⟩,λm H=>DZ B f11,O,Q,λm H=>DM Q B f6 f7 O,.inr rfl,I,W1⟩,λh=>⟨o1,_,rfl,by simp at h;exact h.1⟩,λV hV hy=>?_⟩
 have S: ∀{o:AP} (k:o.OK),Sub (NP o) (K5 wf true 0 o):=λk=>DS Aw k (.inr (.inl rfl))
 cases o1 with
 |reg g=>
  refine Nx U k1 k2 Z (λh=>?_) (λh n=>?_) (BQ k1 I (B4 (S k1) (B2 D k2))) (BQ k2 I (CG D k2)) nA (λi h=>h)
  ·have:=hwt h
   subst this
   exact E7 k1 J I (B2 D k2) (.inl rfl)
  ·have:=hwf h
   subst this
   exact Qo
 |imm=>cases J
 |mem p q sc d z=>
  have hs:R0 V a [.mem p q sc d z,o2]=some (W (Hi V.regs p q sc d+(KC V z o2).fdiv z*z.fdiv 8) 64,z.fdiv 8):=if_pos u
  rw[hs]
  refine ON U k1 k2 Z (Cj k1 I (B4 (Qz Aw k1) (B2 D k2))) (λn=>?_) (λh=>?_) (BQ k2 I (CG D k2)) nA (λi h=>h)
  ·cases wf with
   |true=>exact Wc
   |false=>exact Qo
  ·have:=hwt h
   subst this
   rfl
theorem VI{a:Str}(e:a∈U2):Cc a []:=by
 have O:=jV e
 have u:a∈Az:=by simp[Az,e]
 have f6:Aq a Gr=true:=By (p:=λa=>Aq a Gr) (by decide+kernel:U2.all _=true) e
 have f7:Aq a Lq=true:=By (p:=λa=>Aq a Lq) (by decide+kernel:U2.all _=true) e
 have f8:kW a=true:=By (p:=kW) (by decide+kernel:U2.all _=true) e
 have f11:Aq a Pt=true:=By (p:=λa=>Aq a Pt) (by decide+kernel:U2.all _=true) e
 have B:=λm H=>QH (m:=m) (H:=H) u f8
 have D:NR [] 0:=.inl ⟨rfl,rfl⟩
 obtain⟨ir,hmu⟩:=FR (a:=a) (l:=[]) (t:= -1) (wf:=false) (rf:=false) u (by simp) (.inl rfl) (λm H=>X4) (λh=>absurd rfl h) (λh=>absurd rfl h)
 have J:FW (if a=nm "cwd" then 5 else 1):=by split;exact SW;exact PZ
 have S:FW (if a=nm "cbw"∨a=nm "cwde"∨a=nm "cdqe" then 1 else 4):=by split;exact PZ;exact o9
 have Q:=λm H=>NN (m:=m) (H:=H) (λm H=>kF u (λm H=>aN O)) hmu
 refine⟨_,_,_,false,[],0,0,⟨u,⟨ir,Q⟩,λm H=>DZ u f11,B,D,λm H=>DM D u f6 f7 B,.inr rfl,J,S⟩,λh=>by simp at h,λV U hy=>?_⟩
 refine UO O ?_ (λh=>?_) (λn=>?_) pI
 ·refine Ch J (by decide) ?_
  split
  ·exact(Ks (by decide)).mpr (.inl rfl)
  ·exact(ND (by decide)).mpr rfl
 ·refine Ch J (by decide) ?_
  rw[if_pos h]
  exact(Ks (by decide)).mpr (.inr rfl)
 ·show n∈AZ (if a=nm "cbw"∨a=nm "cwde"∨a=nm "cdqe" then 1 else 4)↔_
  rw[Cq]
  split
  ·constructor
   ·rintro⟨I,_,q2⟩
    exact(ND I).mp q2
   ·rintro rfl
    exact⟨by decide,by decide,(ND (by decide)).mpr rfl⟩
  ·constructor
   ·rintro⟨I,_,q2⟩
    exact(a0 I).mp q2
   ·rintro rfl
    exact⟨by decide,by decide,(a0 (by decide)).mpr rfl⟩
structure Pn where
 cells:List Int
 spot:Int
 great:Int
noncomputable def Zv(p:Pn):AO:=.list [.list (p.cells.map .int),.int p.spot,.int p.great]
noncomputable def EA(H:AH)(p:Pn):AH:=H.set 0 (Zv p)
structure As (p:Pn) (n:Int):Prop where
 s0:0≤p.spot
 s1:p.spot≤n
 g:0≤p.great
 c:p.cells.length≤60
theorem AU{p:Pn}{n k:Int}(h:As p n)(e:n≤k):As p k:=⟨h.s0,u9 h.s1 e,h.g,h.c⟩
section
variable{H:AH}{p:Pn}{v:Int}
theorem PT(h:0<H.length):(EA H p)[0]?=some (Zv p):=by
 unfold EA
 rw[ib h]
theorem R5{q:Pn}:(EA H p).set 0 (Zv q)=EA H q:=by
 unfold EA
 rw[List.set_set]
theorem JX(h:0<H.length):Bb (.ref 0) (.int 0) (EA H p)=some (.list (p.cells.map .int)):=by
 show(match(EA H p)[0]? with|some (.list l)=>if 0≤(0:Int)∧(0:Int)<2^60 then l[(0:Int).toNat]? else uZ|some (.dict es)=>Ah es 0|_=>uZ)=_
 rw[PT h];rfl
theorem P5(h:0<H.length):Bb (.ref 0) (.int 1) (EA H p)=some (.int p.spot):=by
 show(match(EA H p)[0]? with|some (.list l)=>if 0≤(1:Int)∧(1:Int)<2^60 then l[(1:Int).toNat]? else uZ|some (.dict es)=>Ah es 1|_=>uZ)=_
 rw[PT h];rfl
theorem Q4(h:0<H.length):Bb (.ref 0) (.int 2) (EA H p)=some (.int p.great):=by
 show(match(EA H p)[0]? with|some (.list l)=>if 0≤(2:Int)∧(2:Int)<2^60 then l[(2:Int).toNat]? else uZ|some (.dict es)=>Ah es 2|_=>uZ)=_
 rw[PT h];rfl
theorem RC(h:0<H.length):A0 (.ref 0) (.int 1) (.int v) (EA H p)=some (EA H {p with spot:=v}):=by
 rw[iN (PT h),if_pos (by simp[Zv])]
 exact congrArg some (R5 (q:={p with spot:=v}))
theorem Vw(h:0<H.length):A0 (.ref 0) (.int 2) (.int v) (EA H p)=some (EA H {p with great:=v}):=by
 rw[iN (PT h),if_pos (by simp[Zv])]
 exact congrArg some (R5 (q:={p with great:=v}))
end
theorem mN{n:Nat}:dk (n+1) 1=1:=by
 unfold dk
 rw[if_neg (by decide),ot (show(1:Int)≤((n+1:Nat):Int)from Int.ofNat_le.mpr (bh n))]
 rfl
theorem hF{l:List Int}(hl:l.length≤60): ∃c:Int,∃v,B9 (.list (l.map .int)) .none (.int 1)=some v∧∀m H,AB AA (m+1) (nm "sum") [v] H=ok (.int c) H:=by
 have hs:B9 (.list (l.map .int)) .none (.int 1)=some (.list (bT (l.map .int) uZ (some 1))):=if_pos (by rw[vB];exact u5 hl (by decide))
 cases l with
 |nil=>exact⟨0,.list [],hs,λm H=>blt (by decide+kernel) V8 Yo (by decide+kernel) (by kernel_rfl)⟩
 |cons x r=>
  refine⟨x,.list [.int x],hs.trans ?_,λm H=>blt (by decide+kernel) V8 Yo (by decide+kernel) (by kernel_rfl)⟩
  congr 2
  unfold bT
  simp only[Option.elim,List.drop_zero,v8]
  rw[show dk (AV.int x::r.map .int).length 1-0=1 from mN]
  rfl
theorem c6{l:List Int}:cmpA .NotEq (.list (l.map .int)) (.list [])=some (!decide (l=[])):=WQ Zn
theorem PH{l:List Int}{i:Int}{H:AH}(e:0≤i)(h1:i<l.length)(u:l.length≤1000):Bb (.list (l.map .int)) (.int i) H=some (.int (l.getD i.toNat 0)):=by
 show(if 0≤i∧i<2^60 then(l.map AV.int)[i.toNat]? else uZ)=_
 rw[if_pos ⟨e,by lia⟩,xJ,wT (by lia),dy,wT (show i.toNat<l.length by lia)]
 rfl
noncomputable def l6:List (ES Nat):=F9.body.drop 5
theorem Ba{p:Pn}{n many:Int}(hp:As p n)(hn:n≤1000)(h1:1≤many)(h2:many≤2^64):
  ∃(d:Int) (p':Pn),0≤d∧d<many∧As p' (n+1)∧∀m H,0<H.length→AB AA (m+3) (nm "_law_draw") [.ref 0,.int many] (EA H p)=ok (.int d) (EA H p'):=by
 obtain⟨I,q1,q2,q3⟩:=hp
 have hm0:many≠0:=a_z1 h1
 have hm1:many.natAbs<2^300:=Kj (a_01 h1) (vL h2 (by decide))
 have hs:p.spot≤1000:=u9 q1 hn
 have fd: ∀x:Int,0≤x→0≤x.fdiv many:=λx hx=>ou hx (a_01 h1)
 by_cases hg:0<p.great
 ·refine⟨p.great.fmod many,{p with great:=p.great.fdiv many},(Bn h1).1,(Bn h1).2,⟨I,u9 q1 (dz (by decide)),fd _ q2,q3⟩,λm H u=>cq GU λC=>?_⟩
  simp_arith[Q4,P5,JX,RC,Vw]
 ·have S:p.great≤0:=Int.not_lt.mp hg
  obtain⟨c0,v0,hv0,hs0⟩:=hF (l:=p.cells) q3
  have Y:(p.cells.map AV.int).length≤1000000:=by rw[vB];exact u5 q3 (by decide)
  have key: ∀cell:Int,∃(d:Int) (g:Int),0≤d∧d<many∧0≤g∧∀m H (C:R AV→Prop),0<H.length→
    Dz (m+2) l6 [(59,.ref 0),(60,.int many),(11,.int p.spot),(58,.int cell)] (EA H {p with spot:=p.spot+1}) (λ_ H=>C (ok .none H)) (λv H=>C (ok v H)) (λc H=>C (some (.exc c H)))→C (ok (.int d) (EA H {p with spot:=p.spot+1,great:=g})):=by
   intro cell
   have Z:= @dL
   have e: ∀{m:Nat} {H:AH},AB AA (m+1) (nm "len") [.list (p.cells.map .int)] H=ok (.int (p.cells.length:Int)) H:=λ{m H}=>by
    have:=len_l (m:=m) (H:=H) Y
    rw[vB] at this
    exact this
   by_cases J:p.spot<p.cells.length∧(10:Int) ^(18:Int).toNat≤(cell.natAbs:Int)
   ·obtain⟨b1,b2⟩:=J
    have b3: ∀b:Bool,0≤2*((cell.natAbs:Int)-10^(18:Int).toNat)+(if b then 1 else 0):=λb=>xU (wZ (by decide) (v6 b2)) (by cases b<;>decide)
    have b4:(2:Int).natAbs<2^64:=by decide
    by_cases hneg:cell<0
    ·refine⟨_,_,(Bn (c:=2*((cell.natAbs:Int)-10^(18:Int).toNat)+(if true then 1 else 0)) h1).1,(Bn h1).2,fd _ (b3 true),λm H C u=>?_⟩
     simp_arith[Q4,P5,JX,RC,Vw,e,Z]
    ·refine⟨_,_,(Bn (c:=2*((cell.natAbs:Int)-10^(18:Int).toNat)+(if false then 1 else 0)) h1).1,(Bn h1).2,fd _ (b3 false),λm H C u=>?_⟩
     simp_arith[Q4,P5,JX,RC,Vw,e,Z]
   ·have D:=Bn (c:=cell) (s:=2147483587) (by decide)
    have m1:=Bn (c:=(cell.fmod 2147483587+24107*p.spot+1913) ^(5:Int).toNat) (s:=2147483629) (by decide)
    have n1:((cell.fmod 2147483587+24107*p.spot)+1913).natAbs<2^64:=Kj (xU (xU D.1 (wZ (by decide) I)) (by decide)) (vL (vW (bl (vU D.2) (wW hs (by decide))) 1913) (by decide))
    have s4:2*p.spot+4001≤6001:=vW (wW hs (by decide)) 4001
    have s0:0≤2*p.spot+4001:=xU (wZ (by decide) I) (by decide)
    have n2:((((cell.fmod 2147483587+24107*p.spot+1913) ^(5:Int).toNat).fmod 2147483629)*(2*p.spot+4001)+24107*p.spot*p.spot+47).natAbs<2^64:=by
     have u1:(((cell.fmod 2147483587+24107*p.spot+1913) ^(5:Int).toNat).fmod 2147483629)*(2*p.spot+4001)≤2147483629*6001:=jm (vU m1.2) s4 s0 (by decide)
     have u2:0≤(((cell.fmod 2147483587+24107*p.spot+1913) ^(5:Int).toNat).fmod 2147483629)*(2*p.spot+4001):=wZ m1.1 s0
     have u3:24107*p.spot*p.spot≤24107*1000*1000:=jm (wW hs (by decide)) hs I (by decide)
     have u4:0≤24107*p.spot*p.spot:=wZ (wZ (by decide) I) I
     exact Kj (xU (xU u2 u4) (by decide)) (vL (vW (bl u1 u3) 47) (by decide))
    have n3:p.spot.natAbs<2^64:=n_64 I (vL hs (by decide))
    have n4:(2*p.spot+4001).natAbs<2^64:=Kj s0 (vL s4 (by decide))
    refine⟨_,p.great,(Bn (c:=((((((cell.fmod 2147483587+24107*p.spot+1913) ^(5:Int).toNat).fmod 2147483629)*(2*p.spot+4001)+24107*p.spot*p.spot+47) ^(3:Int).toNat).fmod 2147483579).fdiv 32) h1).1,(Bn h1).2,q2,λm H C u=>?_⟩
    by_cases b1:p.spot<p.cells.length
    ·have b2: ¬(10:Int) ^(18:Int).toNat≤(cell.natAbs:Int):=λh=>J ⟨b1,h⟩
     simp_arith[Q4,P5,JX,RC,Vw,e,Z]
    ·simp_arith[Q4,P5,JX,RC,Vw,e,Z]
  have U: ∀{d g:Int},0≤g→As {p with spot:=p.spot+1,great:=g} (n+1):=λh=>⟨xU I (by decide),vW q1 1,h,q3⟩
  have d1:(1000003:Int)≠0:=by decide
  have d2:(24107:Int).natAbs<2^64:=by decide
  by_cases B:p.cells=[]
  ·have O:cmpA .NotEq (.list (p.cells.map .int)) (.list [])=some false:=by rw[c6,B];rfl
   obtain⟨d,g,e0,e1,e2,he⟩:=key (24107*p.spot+1913+c0.fmod 1000003)
   exact⟨d,{p with spot:=p.spot+1,great:=g},e0,e1,U (d:=d) e2,λm H u=>cq GU λC k=>he m H C u (k .dem _ (Q4 u) .ff S .dem _ (P5 u) _ (RC u) (.inl d2) .dem _ (JX (p:={p with spot:=p.spot+1}) u) _ hv0 .call _ _ (hs0 _ _) .call _ _ int_s d1 .dem _ (JX (p:={p with spot:=p.spot+1}) u) .ff O)⟩
  ·have O:cmpA .NotEq (.list (p.cells.map .int)) (.list [])=some true:=by rw[c6,dF B];rfl
   have e:1≤((p.cells.map AV.int).length:Int):=by
    rw[vB]
    cases h:p.cells with
    |nil=>exact absurd h B
    |cons=>exact Int.ofNat_le.mpr (yW 1 _)
   have Q:=Bn (c:=p.spot) e
   obtain⟨d,g,e0,e1,e2,he⟩:=key (p.cells.getD (p.spot.fmod ((p.cells.map AV.int).length:Int)).toNat 0)
   exact⟨d,{p with spot:=p.spot+1,great:=g},e0,e1,U (d:=d) e2,λm H u=>cq GU λC k=>he m H C u (k .dem _ (Q4 u) .ff S .dem _ (P5 u) _ (RC u) (.inl d2) .dem _ (JX (p:={p with spot:=p.spot+1}) u) _ hv0 .call _ _ (hs0 _ _) .call _ _ int_s d1 .dem _ (JX (p:={p with spot:=p.spot+1}) u) .tt O
    .dem _ (JX (p:={p with spot:=p.spot+1}) u) .call _ _ int_s .dem _ (JX (p:={p with spot:=p.spot+1}) u) .call _ _ (len_l Y) (a_z1 e) .dem _ (PH Q.1 (by rw[vB] at Q⊢;exact Q.2) (u5 q3 (by decide))))⟩
theorem XE{p:Pn}{n:Int}{l:List AV}(hp:As p n)(e:n≤1000)(h1:1≤l.length)(u:l.length≤1000): ∃(x:AV) (p':Pn),x∈l∧As p' (n+1)∧∀m H,0<H.length→AB AA (m+4) (nm "_law_pick") [.ref 0,.list l] (EA H p)=ok x (EA H p'):=by
 obtain⟨d,p',a,b,c,h⟩:=Ba (many:=l.length) hp e (by lia) (by lia)
 refine⟨l[d.toNat]'(by lia),p',List.getElem_mem _,c,λm H B=>?_⟩
 have hs: ∀H,Bb (.list l) (.int d) H=some (l[d.toNat]'(by lia)):=λH=>by
  show(if 0≤d∧d<2^60 then l[d.toNat]? else uZ)=_
  rw[if_pos ⟨a,by lia⟩,wT]
 have hl:l.length≤1000000:=by lia
 refine cq Qj λC=>?_
 simp_arith[len_l,h,hs]
theorem BM{p:Pn}{n:Int}{l:List Int}(hp:As p n)(u:n≤1000)(h1:1≤l.length)(e:l.length≤1000): ∃(x:Int) (p':Pn),x∈l∧As p' (n+1)∧∀m H,0<H.length→AB AA (m+4) (nm "_law_pick") [.ref 0,.list (l.map .int)] (EA H p)=ok (.int x) (EA H p'):=by
 obtain⟨x,p',hx,c,h⟩:=XE (l:=l.map .int) hp u (by simpa using h1) (by simpa using e)
 obtain⟨y,hy,rfl⟩:=List.mem_map.mp hx
 exact⟨y,p',hy,c,h⟩
theorem CQ{p:Pn}{n:Int}{l:List Str}(hp:As p n)(u:n≤1000)(h1:1≤l.length)(e:l.length≤1000): ∃(x:Str) (p':Pn),x∈l∧As p' (n+1)∧∀m H,0<H.length→AB AA (m+4) (nm "_law_pick") [.ref 0,.list (l.map .str)] (EA H p)=ok (.str x) (EA H p'):=by
 obtain⟨x,p',hx,c,h⟩:=XE (l:=l.map .str) hp u (by simpa using h1) (by simpa using e)
 obtain⟨y,hy,rfl⟩:=List.mem_map.mp hx
 exact⟨y,p',hy,c,h⟩
theorem BV{p:Pn}{n z:Int}(hp:As p n)(Q:n≤990)(I:Sz z): ∃(g:Rg) (p':Pn),(g.OK∧g.size=z∧(z≠8→∃s k,g=.gpr s k z))∧As p' (n+2)∧∀m H,0<H.length→AB AA (m+6) (nm "_law_register") [.ref 0,.int z] (EA H p)=ok (AP.reg g).av (EA H p'):=by
 obtain⟨d,p1,J,O,q1,h1⟩:=Ba (many:=16) hp (by lia) (by decide) (by decide)
 obtain⟨s,hs⟩:=CO J O I
 have u:(Rg.gpr s d z).OK:=⟨J,O,I⟩
 by_cases hc:z=8∧4≤d∧d<8
 ·obtain⟨c1,c2,B⟩:=hc
  obtain⟨e,p2,e0,e1,q2,h2⟩:=Ba (many:=2) q1 (by lia) (by decide) (by decide)
  by_cases S:e=0
  ·obtain⟨s',hs'⟩:=ZH c2 B
   refine⟨.high s' d,p2,⟨⟨c2,B⟩,c1.symm,λh=>absurd c1 h⟩,AU q2 (by lia),λm H D=>?_⟩
   refine cq C1 λC=>?_
   simp_arith[h1,h2,hs',K9]
  ·refine⟨.gpr s d z,p2,⟨u,rfl,λ_=>⟨s,d,rfl⟩⟩,AU q2 (by lia),λm H D=>?_⟩
   refine cq C1 λC=>?_
   simp_arith[h1,h2,hs,K9]
 ·refine⟨.gpr s d z,p1,⟨u,rfl,λ_=>⟨s,d,rfl⟩⟩,AU q1 (by lia),λm H D=>?_⟩
  refine cq C1 λC=>?_
  by_cases c1:z=8
  ·by_cases c2:4≤d
   ·have B: ¬d<8:=λh=>hc ⟨c1,c2,h⟩
    simp_arith[h1,hs,K9]
   ·simp_arith[h1,hs,K9]
  ·simp_arith[h1,hs,K9]
theorem Zd:Sz 64:=.inr (.inr (.inr rfl))
noncomputable def TO:List Int:=[0,1,2,3,5,6,7,8,12,15]
noncomputable def LA:List Int:=[0,8,-8,127,-2^(31:Int).toNat,2^(31:Int).toNat-1]
theorem Bs{p:Pn}{n z:Int}(hp:As p n)(S:n≤950)(I:Sz z): ∃(o:AP) (p':Pn),(o.OK∧o.size=z∧o.isImm=false)∧As p' (n+6)∧∀m H,0<H.length→AB AA (m+7) (nm "_law_target") [.ref 0,.int z] (EA H p)=ok o.av (EA H p'):=by
 obtain⟨w,p1,w0,w1,q1,h1⟩:=Ba (many:=4) hp (by lia) (by decide) (by decide)
 by_cases hw:w<2
 ·obtain⟨g,p2,⟨k1,k2,_⟩,q2,h2⟩:=BV q1 (by lia) I
  refine⟨.reg g,p2,⟨k1,k2,rfl⟩,AU q2 (by lia),λm H J=>?_⟩
  refine cq Cg λC=>?_
  simp_arith[h1,h2]
 ·by_cases Q:w=2
  ·obtain⟨d,p2,D,B,q2,h2⟩:=Ba (many:=16) q1 (by lia) (by decide) (by decide)
   obtain⟨s,hs⟩:=CO D B Zd
   obtain⟨x,p3,_,q3,h3⟩:=BM (l:=LA) q2 (by lia) (by decide) (by decide)
   simp only[LA,v8,yO] at h3
   refine⟨.mem (some (s,d)) uZ 1 x z,p3,⟨⟨?_,?_,I,by decide,by decide⟩,rfl,rfl⟩,AU q3 (by lia),λm H J=>?_⟩
   ·intro y hy;cases hy;exact⟨D,B⟩
   ·intro y hy;cases hy
   refine cq Cg λC=>?_
   simp_arith[h1,h2,hs,h3,Va]
  ·have O:w=3:=by lia
   obtain⟨t,p2,t0,t1,q2,h2⟩:=Ba (many:=3) q1 (by lia) (by decide) (by decide)
   by_cases U:0<t
   ·obtain⟨d,p3,D,B,q3,h3⟩:=Ba (many:=16) q2 (by lia) (by decide) (by decide)
    obtain⟨s,hs⟩:=CO D B Zd
    obtain⟨i,p4,hi,q4,h4⟩:=BM (l:=TO) q3 (by lia) (by decide) (by decide)
    have e:0≤i∧i<16:=by
     have: ∀i∈TO,0≤i∧i<16:=by decide
     exact this i hi
    obtain⟨s',hs'⟩:=CO e.1 e.2 Zd
    obtain⟨sc,p5,hsc,q5,h5⟩:=BM (l:=[1,2,4,8]) q4 (by lia) (by decide) (by decide)
    have u:0<sc∧sc<10:=by
     have: ∀i∈([1,2,4,8]:List Int),0<i∧i<10:=by decide
     exact this sc hsc
    obtain⟨x,p6,_,q6,h6⟩:=BM (l:=LA) q5 (by lia) (by decide) (by decide)
    simp only[LA,v8,yO] at h6
    simp only[TO,v8,yO] at h4
    simp only[v8,yO] at h5
    refine⟨.mem (some (s,d)) (some (s',i)) sc x z,p6,⟨⟨?_,?_,I,u⟩,rfl,rfl⟩,AU q6 (by lia),λm H J=>?_⟩
    ·intro y hy;cases hy;exact⟨D,B⟩
    ·intro y hy;cases hy;exact e
    refine cq Cg λC=>?_
    simp_arith[h1,h2,h3,h4,h5,h6,hs,hs',Va]
   ·obtain⟨i,p4,hi,q4,h4⟩:=BM (l:=TO) q2 (by lia) (by decide) (by decide)
    have e:0≤i∧i<16:=by
     have: ∀i∈TO,0≤i∧i<16:=by decide
     exact this i hi
    obtain⟨s',hs'⟩:=CO e.1 e.2 Zd
    obtain⟨sc,p5,hsc,q5,h5⟩:=BM (l:=[1,2,4,8]) q4 (by lia) (by decide) (by decide)
    have u:0<sc∧sc<10:=by
     have: ∀i∈([1,2,4,8]:List Int),0<i∧i<10:=by decide
     exact this sc hsc
    obtain⟨x,p6,_,q6,h6⟩:=BM (l:=LA) q5 (by lia) (by decide) (by decide)
    simp only[LA,v8,yO] at h6
    simp only[TO,v8,yO] at h4
    simp only[v8,yO] at h5
    refine⟨.mem uZ (some (s',i)) sc x z,p6,⟨⟨?_,?_,I,u⟩,rfl,rfl⟩,AU q6 (by lia),λm H J=>?_⟩
    ·intro y hy;cases hy
    ·intro y hy;cases hy;exact e
    refine cq Cg λC=>?_
    simp_arith[h1,h2,h4,h5,h6,hs',Va]
noncomputable def Wi:List Int:=[0,1,2,7,8,9,16,17,31,32,33,63,64,255]
theorem SY{p:Pn}{n:Int}(hp:As p n)(D:n≤990): ∃(o:AP) (p':Pn),(o.OK∧o.isMem=false)∧As p' (n+2)∧∀m H,0<H.length→AB AA (m+6) (nm "_law_count") [.ref 0] (EA H p)=ok o.av (EA H p'):=by
 obtain⟨e,p1,e0,e1,q1,h1⟩:=Ba (many:=2) hp (by lia) (by decide) (by decide)
 by_cases I:e=0
 ·have u:Sz 8:=.inl rfl
  obtain⟨s,hs⟩:=CO (n:=1) (by decide) (by decide) u
  refine⟨.reg (.gpr s 1 8),p1,⟨⟨by decide,by decide,u⟩,rfl⟩,AU q1 (by lia),λm H B=>?_⟩
  refine cq IB λC=>?_
  simp_arith[h1,hs,K9]
 ·obtain⟨x,p2,_,q2,h2⟩:=BM (l:=Wi) q1 (by lia) (by decide) (by decide)
  simp only[Wi,v8,yO] at h2
  refine⟨.imm x,p2,⟨trivial,rfl⟩,AU q2 (by lia),λm H B=>?_⟩
  refine cq IB λC=>?_
  simp_arith[h1,h2,X1]
structure M2 (a:Str) (l:List AP):Prop where
 ok:Cc a l
 ops: ∀o∈l,o.OK
 len:l.length≤3
 bt:a∈GS→∃o1 o2,l=[o1,o2]∧o1.isImm=false∧(o2.isImm=true∨∃s k,o2=.reg (.gpr s k o1.size))
 hd: ∀o r,l=o::r→o.isImm=false
 mem3: ∀o1 o2 o3 r,l=o1::o2::o3::r→o3.isMem=false
theorem oM{P:AP→Prop}{a:AP}(h:P a): ∀o∈[a],P o:=λo q=>List.mem_singleton.mp q▸h
theorem lN{P:AP→Prop}{a b:AP}(h:P a)(u:P b): ∀o∈[a,b],P o:=λo q=>(List.mem_cons.mp q).elim (λe=>e▸h) (oM u o)
theorem rU{P:AP→Prop}{a b c:AP}(h:P a)(u:P b)(h3:P c): ∀o∈[a,b,c],P o:=λo q=>(List.mem_cons.mp q).elim (λe=>e▸h) (lN u h3 o)
theorem j6{a:AP}{l:List AP}(h:a.isImm=false): ∀o r,a::l=o::r→o.isImm=false:=λo r e=>(wF e).1▸h
theorem LQ{l:List Str}(h:(l.all λb=>!(GS.contains b))=true){a:Str}(e:a∈l): ¬a∈GS:=λh'=>
 vF (((congrArg (!·) (List.contains_iff_mem.mpr h')).symm.trans (List.all_eq_true.mp h a e)))
theorem Wf{l e:List Str}(h:(l.all λa=>e.contains a)=true){a:Str}(u:a∈l):a∈e:=List.contains_iff_mem.mp (List.all_eq_true.mp h a u)
theorem Jp{n:Nat}(h:n≤100):n≤1000000:=u5 h (by decide)
theorem qW{a:Str}(ok:Cc a [])(nb: ¬a∈GS):M2 a []:=⟨ok,λ_ q=>(nomatch q),w3 _,λh=>absurd h nb,λ_ _ e=>(nomatch e),λ_ _ _ _ e=>(nomatch e)⟩
section
variable{a:Str}{o1 o2 o3:AP}
theorem nN(ok:Cc a [o1])(k1:o1.OK)(u:o1.isImm=false)(nb: ¬a∈GS):M2 a [o1]:=⟨ok,oM k1,by show 1≤3;decide,λh=>absurd h nb,j6 u,λ_ _ _ _ e=>(nomatch (wF e).2)⟩
theorem YU(ok:Cc a [o1,o2])(k1:o1.OK)(k2:o2.OK)(u:o1.isImm=false)(bt:a∈GS→o2.isImm=true∨∃s k,o2=.reg (.gpr s k o1.size)):M2 a [o1,o2]:=⟨ok,lN k1 k2,by show 2≤3;decide,λh=>⟨o1,o2,rfl,u,bt h⟩,j6 u,λ_ _ _ _ e=>(nomatch (wF (wF e).2).2)⟩
theorem YH(ok:Cc a [o1,o2])(k1:o1.OK)(k2:o2.OK)(e:o1.isImm=false)(nb: ¬a∈GS):M2 a [o1,o2]:=YU ok k1 k2 e λh=>absurd h nb
theorem pF(ok:Cc a [o1,o2,o3])(k1:o1.OK)(k2:o2.OK)(k3:o3.OK)(u:o1.isImm=false)(m3:o3.isMem=false)(nb: ¬a∈GS):M2 a [o1,o2,o3]:=⟨ok,rU k1 k2 k3,by show 3≤3;decide,λh=>absurd h nb,j6 u,λ_ _ _ _ e=>(wF (wF (wF e).2).2).1▸m3⟩
end
inductive Cm (rest:List (ES Nat)) (env:AJ) (p:Pn):Prop
 |mk {a:Str} {l:List AP} {p':Pn}:M2 a l→As p' 20→(∀{m:Nat} {H:AH} {N:AJ→AH→Prop} {K:AV→AH→Prop} {X:Str→AH→Prop},0<H.length→Dz (m+8) rest env (EA H p) N K X→K (AG a (l.map AP.av)) (EA H p'))→Cm rest env p
noncomputable abbrev D7(w size wide:Int):AJ:=[(59,.ref 0),(65,.int w),(0,.int size),(4,.int wide)]
noncomputable abbrev wB(k:Nat):List (ES Nat):=FK.body.drop (2+k)
section
variable{p:Pn}{w size wide:Int}
theorem lU(q:As p 3)(e:w=0)(D:Sz size):Cm (wB 0) (D7 w size wide) p:=by
 obtain⟨a,p4,ha,q4,h4⟩:=CQ (l:=[nm "rol",nm "ror",nm "rcl",nm "rcr",nm "shl",nm "shr",nm "sar"]) q (by decide) (by decide) (by decide)
 obtain⟨o1,p5,⟨k1,z1,B⟩,q5,h5⟩:=Bs q4 (by decide) D
 obtain⟨o2,p6,⟨k2,i2⟩,q6,h6⟩:=SY q5 (by decide)
 have u:a∈O1:=Wf (by decide+kernel) ha
 exact .mk (YH (TT u k1 B k2 i2) k1 k2 B (LQ (by decide+kernel) u)) (AU q6 (by decide)) λ{m H _ _ _} hH k=>k .tt e .call _ _ (h4 (m+4) H hH) .call _ _ (h5 (m+1) H hH) .call _ _ (h6 (m+2) H hH) .call _ _ (EO (Jp len2))
theorem pO(q:As p 3)(e:w=1)(B:Sz wide∧wide≠8):Cm (wB 1) (D7 w size wide) p:=by
 obtain⟨a,p4,I,q4,h4⟩:=CQ (l:=[nm "shld",nm "shrd"]) q (by decide) (by decide) (by decide)
 obtain⟨o1,p5,⟨k1,z1,D⟩,q5,h5⟩:=Bs q4 (by decide) B.1
 obtain⟨g,p6,⟨u,zg,eg⟩,q6,h6⟩:=BV q5 (by decide) B.1
 have u:(AP.reg g).OK:=u
 obtain⟨o3,p7,⟨k3,i3⟩,q7,h7⟩:=SY q6 (by decide)
 exact .mk (pF (Qy I k1 D (z1.symm▸B.2) u k3 i3) k1 u k3 D i3 (LQ (by decide+kernel:ME.all _=true) I)) (AU q7 (by decide)) λ{m H _ _ _} hH k=>k .tt e .call _ _ (h4 (m+4) H hH) .call _ _ (h5 (m+1) H hH) .call _ _ (h6 (m+2) H hH) .call _ _ (h7 (m+2) H hH) .call _ _ (EO (Jp len3))
theorem mC(q:As p 3)(e:w=2)(B:Sz size):Cm (wB 2) (D7 w size wide) p:=by
 obtain⟨a,p4,u,q4,h4⟩:=CQ (l:=[nm "mul",nm "imul",nm "div",nm "idiv"]) q (by decide) (by decide) (by decide)
 obtain⟨o1,p5,⟨k1,z1,i1⟩,q5,h5⟩:=Bs q4 (by decide) B
 exact .mk (nN (fT u k1 i1) k1 i1 (LQ (by decide+kernel:U6.all _=true) u)) (AU q5 (by decide)) λ{m H _ _ _} hH k=>k .tt e .call _ _ (h4 (m+4) H hH) .call _ _ (h5 (m+1) H hH) .call _ _ (EO (Jp len1))
theorem nF(q:As p 3)(e:w=3)(I:Sz wide∧wide≠8):Cm (wB 3) (D7 w size wide) p:=by
 obtain⟨g,p4,⟨u,zg,eg⟩,q4,h4⟩:=BV q (by decide) I.1
 have u:(AP.reg g).OK:=u
 obtain⟨o2,p5,⟨k2,z2,i2⟩,q5,h5⟩:=Bs q4 (by decide) I.1
 obtain⟨d,p6,e0,e1,q6,h6⟩:=Ba (many:=2) q5 (by decide) (by decide) (by decide)
 have nb: ¬nm "imul"∈GS:=by decide+kernel
 by_cases B:d=0
 ·obtain⟨x,p7,_,q7,h7⟩:=BM (l:=[0,3,-1,2^(31:Int).toNat-1]) q6 (by decide) (by decide) (by decide)
  have D:(AP.imm x).OK:=trivial
  exact .mk (pF (UU u rfl k2 D rfl) u k2 D rfl rfl nb) (AU q7 (by decide)) λ{m H _ _ _} hH k=>k .tt e .call _ _ (h4 (m+2) H hH) .call _ _ (h5 (m+1) H hH) .call _ _ (h6 (m+5) H hH) .tt B (by decide) (by decide) (by decide) .call _ _ (h7 (m+4) H hH) .call _ _ X1 _ (R9 (show 2+1≤1000000 by decide)) .call _ _ (EO (Jp len3))
 ·exact .mk (YH (Tm u rfl k2) u k2 rfl nb) (AU q6 (by decide)) λ{m H _ _ _} hH k=>k .tt e .call _ _ (h4 (m+2) H hH) .call _ _ (h5 (m+1) H hH) .call _ _ (h6 (m+5) H hH) .ff B _ (R9 (show 2+0≤1000000 by decide)) .call _ _ (EO (Jp len2))
theorem l8(q:As p 3)(e:w=4)(D:Sz wide∧wide≠8):Cm (wB 4) (D7 w size wide) p:=by
 obtain⟨d,p4,e0,e1,q4,h4⟩:=Ba (many:=2) q (by decide) (by decide) (by decide)
 by_cases J:d=0
 ·obtain⟨x,p5,x0,x1,q5,h5⟩:=Ba (many:=256) q4 (by decide) (by decide) (by decide)
  obtain⟨a,p6,I,q6,h6⟩:=CQ (l:=[nm "bt",nm "bts",nm "btr",nm "btc"]) q5 (by decide) (by decide) (by decide)
  obtain⟨o1,p7,⟨k1,z1,u⟩,q7,h7⟩:=Bs q6 (by decide) D.1
  have O:(AP.imm x).OK:=trivial
  exact .mk (YU (Vy I k1 u O rfl) k1 O u λ_=>.inl rfl) (AU q7 (by decide)) λ{m H _ _ _} hH k=>k .tt e .call _ _ (h4 (m+5) H hH) .tt J .call _ _ (h5 (m+5) H hH) .call _ _ X1 .call _ _ (h6 (m+4) H hH) .call _ _ (h7 (m+1) H hH) .call _ _ (EO (Jp len2))
 ·obtain⟨g,p5,⟨B,zg,eg⟩,q5,h5⟩:=BV q4 (by decide) D.1
  have B:(AP.reg g).OK:=B
  obtain⟨a,p6,I,q6,h6⟩:=CQ (l:=[nm "bt",nm "bts",nm "btr",nm "btc"]) q5 (by decide) (by decide) (by decide)
  obtain⟨o1,p7,⟨k1,z1,u⟩,q7,h7⟩:=Bs q6 (by decide) D.1
  obtain⟨s,n,hg⟩:=eg D.2
  exact .mk (YU (Vy I k1 u B rfl) k1 B u λ_=>.inr ⟨s,n,z1.symm▸congrArg AP.reg hg⟩) (AU q7 (by decide)) λ{m H _ _ _} hH k=>k .tt e .call _ _ (h4 (m+5) H hH) .ff J .call _ _ (h5 (m+2) H hH) .call _ _ (h6 (m+4) H hH) .call _ _ (h7 (m+1) H hH) .call _ _ (EO (Jp len2))
theorem lX(q:As p 3)(e:w=5)(D:Sz wide∧wide≠8):Cm (wB 5) (D7 w size wide) p:=by
 obtain⟨a,p4,B,q4,h4⟩:=CQ (l:=[nm "bsf",nm "bsr",nm "popcnt",nm "lzcnt",nm "tzcnt"]) q (by decide) (by decide) (by decide)
 obtain⟨g,p5,⟨u,zg,eg⟩,q5,h5⟩:=BV q4 (by decide) D.1
 have u:(AP.reg g).OK:=u
 obtain⟨o2,p6,⟨k2,z2,i2⟩,q6,h6⟩:=Bs q5 (by decide) D.1
 exact .mk (YH (WL B u k2) u k2 rfl (LQ (by decide+kernel:Q2.all _=true) B)) (AU q6 (by decide)) λ{m H _ _ _} hH k=>k .tt e .call _ _ (h4 (m+4) H hH) .call _ _ (h5 (m+2) H hH) .call _ _ (h6 (m+1) H hH) .call _ _ (EO (Jp len2))
theorem o8(q:As p 3)(e:w=6)(B:Sz wide∧wide≠8):Cm (wB 6) (D7 w size wide) p:=by
 obtain⟨g,p4,⟨u,zg,eg⟩,q4,h4⟩:=BV q (by decide) B.1
 have u:(AP.reg g).OK:=u
 exact .mk (nN (WV u) u rfl (by decide+kernel)) (AU q4 (by decide)) λ{m H _ _ _} hH k=>k .tt e .call _ _ (h4 (m+2) H hH) .call _ _ (EO (Jp len1))
theorem nV(q:As p 3):Cm (wB 8) (D7 w size wide) p:=by
 obtain⟨a,p4,ha,q4,h4⟩:=CQ (l:=U2) q (by decide) (by decide) (by decide)
 exact .mk (qW (VI ha) (LQ (by decide+kernel:U2.all _=true) ha)) (AU q4 (by decide)) λ{m H _ _ _} hH k=>k .call _ _ (h4 (m+4) H hH) .call _ _ (EO (w3 _))
theorem Cm.pre{rest rest':List (ES Nat)}{env env':AJ}{p p':Pn}(z:Cm rest' env' p')(h: ∀{m:Nat} {H:AH} {N:AJ→AH→Prop} {K:AV→AH→Prop} {X:Str→AH→Prop},0<H.length→Dz (m+8) rest env (EA H p) N K X→Dz (m+8) rest' env' (EA H p') N K X):Cm rest env p:=by
 obtain⟨d,q,f⟩:=z
 exact .mk d q λe k=>f e (h e k)
noncomputable def c7:List (ES Nat):=match(FK.body[9]?:Option (ES Nat))with
 |some (.ite _ b _)=>b
 |_=>[]
variable{sm:Int}
theorem Xz(q:As p 5)(B:Sz sm)(D:Sz wide∧wide≠8):Cm (c7.drop 3) (D7 w size wide++[(56,.int sm)]) p:=by
 obtain⟨a,p6,ha,q6,h6⟩:=CQ (l:=[nm "movzx",nm "movsx"]) q (by decide) (by decide) (by decide)
 obtain⟨g,p7,⟨u,zg,eg⟩,q7,h7⟩:=BV q6 (by decide) D.1
 obtain⟨o2,p8,⟨k2,z2,i2⟩,q8,h8⟩:=Bs q7 (by decide) B
 have u:(AP.reg g).OK:=u
 have e:a∈Na:=Wf (by decide+kernel) ha
 exact .mk (YH (LE e u k2 i2) u k2 rfl (LQ (by decide+kernel:Na.all _=true) e)) (AU q8 (by decide)) λ{m H _ _ _} hH k=>k .call _ _ (h6 (m+4) H hH) .call _ _ (h7 (m+2) H hH) .call _ _ (h8 (m+1) H hH) .call _ _ (EO (Jp len2))
theorem Wv(q:As p 4)(D:Sz sm)(J:Sz wide∧wide≠8):Cm (c7.drop 2) (D7 w size wide++[(56,.int sm)]) p:=by
 by_cases e:wide=64
 ·obtain⟨t,p5,t0,t1,q5,h5⟩:=Ba (many:=3) q (by decide) (by decide) (by decide)
  by_cases I:t=0
  ·obtain⟨g,p6,⟨B,zg,eg⟩,q6,h6⟩:=BV q5 (by decide) (.inr (.inr (.inr rfl)):Sz 64)
   obtain⟨o2,p7,⟨k2,z2,i2⟩,q7,h7⟩:=Bs q6 (by decide) (.inr (.inr (.inl rfl)):Sz 32)
   have B:(AP.reg g).OK:=B
   exact .mk (YH (LE (by decide+kernel:nm "movsxd"∈Na) B k2 i2) B k2 rfl (by decide+kernel)) (AU q7 (by decide)) λ{m H _ _ _} u k=>k .tt e .call _ _ (h5 (m+5) H u) .tt I .call _ _ (h6 (m+2) H u) .call _ _ (h7 (m+1) H u) .call _ _ (EO (Jp len2))
  ·exact(Xz q5 D J).pre λ{m H _ _ _} u k=>k .tt e .call _ _ (h5 (m+5) H u) .ff I
 ·exact(Xz (AU q (by decide)) D J).pre λu k=>k .ff e
theorem oY(q:As p 3)(e:w=7)(u:Sz wide∧wide≠8):Cm (wB 7) (D7 w size wide) p:=by
 obtain⟨sm,p4,hsm,q4,h4⟩:=BM (l:=[8,16]) q (by decide) (by decide) (by decide)
 by_cases c:wide≤sm
 ·exact(Wv q4 (.inl rfl:Sz 8) u).pre λ{m H _ _ _} hH k=>k .tt e .call _ _ (h4 (m+4) H hH) .tt c
 ·exact(Wv q4 ((List.mem_cons.mp hsm).imp id λh=>.inl (List.mem_singleton.mp h):Sz sm) u).pre λ{m H _ _ _} hH k=>k .tt e .call _ _ (h4 (m+4) H hH) .ff (Int.not_le.mp c)
theorem oH(q:As p 3)(u:Sz size)(e:Sz wide∧wide≠8):Cm (wB 0) (D7 w size wide) p:=by
 by_cases O:w=0;exact lU q O u
 refine Cm.pre (rest':=wB 1) (env':=D7 w size wide) (p':=p) ?_ λ_ k=>k .ff O
 by_cases e1:w=1;exact pO q e1 e
 refine Cm.pre (rest':=wB 2) (env':=D7 w size wide) (p':=p) ?_ λ_ k=>k .ff e1
 by_cases e2:w=2;exact mC q e2 u
 refine Cm.pre (rest':=wB 3) (env':=D7 w size wide) (p':=p) ?_ λ_ k=>k .ff e2
 by_cases e3:w=3;exact nF q e3 e
 refine Cm.pre (rest':=wB 4) (env':=D7 w size wide) (p':=p) ?_ λ_ k=>k .ff e3
 by_cases I:w=4;exact l8 q I e
 refine Cm.pre (rest':=wB 5) (env':=D7 w size wide) (p':=p) ?_ λ_ k=>k .ff I
 by_cases B:w=5;exact lX q B e
 refine Cm.pre (rest':=wB 6) (env':=D7 w size wide) (p':=p) ?_ λ_ k=>k .ff B
 by_cases J:w=6;exact o8 q J e
 refine Cm.pre (rest':=wB 7) (env':=D7 w size wide) (p':=p) ?_ λ_ k=>k .ff J
 by_cases D:w=7;exact oY q D e
 exact Cm.pre (nV q) λ_ k=>k .ff D
end
theorem lL{p:Pn}(hp:As p 0): ∃(a:Str) (l:List AP) (p':Pn),M2 a l∧As p' 20∧∀m H,0<H.length→AB AA (m+9) (nm "_law_row") [.ref 0] (EA H p)=ok (AG a (l.map AP.av)) (EA H p'):=by
 obtain⟨w,p1,w0,w1,q1,h1⟩:=Ba (many:=9) hp (by decide) (by decide) (by decide)
 obtain⟨wide,p2,hwide,q2,h2⟩:=BM (l:=[16,32,64]) q1 (by decide) (by decide) (by decide)
 obtain⟨size,p3,hsize,q3,h3⟩:=BM (l:=[8,16,32,64]) q2 (by decide) (by decide) (by decide)
 obtain⟨d,q,f⟩:=oH (w:=w) q3 ((show∀i∈([8,16,32,64]:List Int),Sz i by unfold Sz;decide) size hsize) ((show∀i∈([16,32,64]:List Int),Sz i∧i≠8 by unfold Sz;decide) wide hwide)
 exact⟨_,_,_,d,q,λm H e=>cq Ue λC k=>f e (k .call _ _ (h1 (m+5) H e) .call _ _ (h2 (m+4) H e) .call _ _ (h3 (m+4) H e))⟩
noncomputable def MO:List Int:=[0,1,2,33,128,4294934528,2^(32:Int).toNat,2^(63:Int).toNat,2^(64:Int).toNat-1]
theorem Tw: ∀i:Nat,i<9→0≤MO.getD i 0∧MO.getD i 0<2^64:=by decide+kernel
theorem Ze{p:Pn}{n:Int}(hp:As p n)(u:n≤990): ∃(x:Int) (p':Pn),0≤x∧x<2^64∧As p' (n+2)∧∀m H,0<H.length→AB AA (m+6) (nm "_law_worth") [.ref 0] (EA H p)=ok (.int x) (EA H p'):=by
 have B:n≤1000:=u9 u (by decide)
 have h1:n+1≤1000:=u9 (vW u 1) (by decide)
 obtain⟨w,p1,w0,w1,q1,k1⟩:=Ba (many:=11) hp B (by decide) (by decide)
 by_cases hw:w<9
 ·have hs:=λH=>PH (l:=MO) (i:=w) (H:=H) w0 hw (by decide)
  have hb:=Tw w.toNat ((df w0).mpr hw)
  exact⟨MO.getD w.toNat 0,p1,hb.1,hb.2,AU q1 (Int.add_le_add_left (by decide) n),λm H e=>cq IX λC k=>k .call _ _ (k1 (m+2) H e) .tt hw (by decide) (by decide) (by decide) (by decide) (by decide) (by decide) (by decide) (by decide) (by decide) .dem _ (hs _)⟩
 ·obtain⟨x,p2,x0,x1,q2,k2⟩:=Ba (many:=2^(64:Int).toNat) q1 h1 (by decide) (by decide)
  exact⟨x,p2,x0,x1,Int.add_assoc n 1 1▸q2,λm H e=>cq IX λC k=>k .call _ _ (k1 (m+2) H e) .ff (Int.not_lt.mp hw) (by decide) (by decide) (by decide) .call _ _ (k2 (m+2) H e)⟩
noncomputable def hp(p:Pn)(s t:St):AH:=[Zv p,.list (BZ s.regs),.list (BZ s.xmm),.inst (nm "Flags") aC (Ps s.fl),.dict (Ds s.mem),.list (BZ t.regs),.list (BZ t.xmm),.inst (nm "Flags") aC (Ps t.fl),.dict (Ds t.mem)]
section
variable{p p':Pn}{s t s' t':St}
theorem Mx:(hp p s t).length=9:=id rfl
theorem Dx:1+3<(hp p s t).length:=by rw[Mx];decide
theorem Fy:5+3<(hp p s t).length:=by rw[Mx];decide
variable{n v:Int}
theorem GV(e:0≤n)(h1:n<16):Bb (.ref 1) (.int n) (hp p s t)=some (.int (s.regs n)):=sub_reg (H:=hp p s t) (b:=1) Dx e h1
theorem k0(e:0≤n)(h1:n<16):A0 (.ref 1) (.int n) (.int v) (hp p s t)=some (hp p {s with regs:=Dh s.regs n v} t):=put_reg (H:=hp p s t) (b:=1) Dx e h1
theorem qK(e:0≤n)(h1:n<16):A0 (.ref 5) (.int n) (.int v) (hp p s t)=some (hp p s {t with regs:=Dh t.regs n v}):=put_reg (H:=hp p s t) (b:=5) Fy e h1
theorem S6{H:AH}{b:Nat}(hb:b+3<H.length)(e:0≤n)(h1:n<16):A0 (.ref (b+1)) (.int n) (.int v) (up H b s)=some (up H b {s with xmm:=Dh s.xmm n v}):=by
 show(match(up H b s)[b+1]? with|some (.list l)=>if 0≤n∧n<l.length∧l.length≤1000000 then some ((up H b s).set (b+1) (.list (l.set n.toNat (.int v))))else uZ|some (.dict es)=>_|_=>uZ)=_
 rw[mJ hb]
 show(if 0≤n∧n<(BZ s.xmm).length∧(BZ s.xmm).length≤1000000 then some ((up H b s).set (b+1) (.list ((BZ s.xmm).set n.toNat (.int v))))else uZ)=_
 rw[if_pos ⟨e,by simp[BZ];lia,by simp[BZ]⟩,OF e h1]
 congr 1
 apply zT
 intro j
 simp only[up,xI,am]
 by_cases e:b+1=j
 ·subst e
  simp
 ·simp only[e,if_false]
theorem kX(e:0≤n)(h1:n<16):A0 (.ref (1+1)) (.int n) (.int v) (hp p s t)=some (hp p {s with xmm:=Dh s.xmm n v} t):=S6 (H:=hp p s t) (b:=1) Dx e h1
theorem sV(e:0≤n)(h1:n<16):A0 (.ref (5+1)) (.int n) (.int v) (hp p s t)=some (hp p s {t with xmm:=Dh t.xmm n v}):=S6 (H:=hp p s t) (b:=5) Fy e h1
end
theorem Gz{p:Pn}{n:Int}(e:As p n)(u:n≤990): ∃(x:Int) (p':Pn),0≤x∧x<2^64∧As p' (n+2)∧∀m s t,AB AA (m+6) (nm "_law_worth") [.ref 0] (hp p s t)=ok (.int x) (hp p' s t):=by
 obtain⟨x,p',a,b,c,h⟩:=Ze e u
 exact⟨x,p',a,b,c,λm s t=>h m (hp p s t) (by rw[Mx];decide)⟩
theorem Wn{p:Pn}{n many:Int}(e:As p n)(B:n≤1000)(h1:1≤many)(u:many≤2^64): ∃(d:Int) (p':Pn),0≤d∧d<many∧As p' (n+1)∧∀m s t,AB AA (m+3) (nm "_law_draw") [.ref 0,.int many] (hp p s t)=ok (.int d) (hp p' s t):=by
 obtain⟨x,p',a,b,c,h⟩:=Ba e B h1 u
 exact⟨x,p',a,b,c,λm s t=>h m (hp p s t) (by rw[Mx];decide)⟩
structure RE (rd:List Int) (s t:St):Prop where
 a: ∀i,0≤s.regs i∧s.regs i<2^64
 b: ∀i,0≤t.regs i∧t.regs i<2^64
 e: ∀n∈rd,t.regs n=s.regs n
 m:t.mem=s.mem
theorem Eh{r:Int→Int}{n v:Int}(h: ∀i,0≤r i∧r i<2^64)(e:0≤v)(h1:v<2^64): ∀i,0≤Dh r n v i∧Dh r n v i<2^64:=λi=>by
 unfold Dh
 split
 ·exact⟨e,h1⟩
 ·exact h i
noncomputable def gQ:List (ES Nat):=match(BY.body[2]?:Option (ES Nat))with
 |some (ES.loop _ _ _ b)=>b
 |_=>[]
noncomputable abbrev nY(rd:List Int)(rw ch ir ic:AV):AJ:=[(59,.ref 0),(26,rw),(27,.list (rd.map .int)),(71,ch),(31,ir),(72,ic),(40,Ae 5),(41,Ae 1)]
noncomputable abbrev Qm(rd:List Int)(rw ch ir ic x:AV):AJ:=[(59,.ref 0),(26,rw),(27,.list (rd.map .int)),(71,ch),(31,ir),(72,ic),(40,Ae 5),(41,Ae 1),(23,x)]
theorem OX{rd:List Int}{i:Int}(h0:0≤i)(h1:i<16){p:Pn}{n:Int}(S:As p n)(I:n≤900){s t:St}(u:RE rd s t):
  ∃p' s' t',As p' (n+4)∧RE rd s' t'∧s'.fl=s.fl∧t'.fl=t.fl∧s'.mem=s.mem∧∀{m:Nat} {K:AV→AH→Prop} {rw ch ir ic:AV} (N:AJ→AH→Prop),Dz (m+8) gQ (Qm rd rw ch ir ic (.int i)) (hp p s t) N K tX→N (Qm rd rw ch ir ic (.int i)) (hp p' s' t'):=by
 obtain⟨x,p1,Q,O,q1,h1'⟩:=Gz S (by lia)
 have Z:Dh s.regs i x i=x:=if_pos rfl
 have J: ∀{p:Pn} {t:St},Bb (.ref 1) (.int i) (hp p {s with regs:=Dh s.regs i x} t)=some (.int x):=by
  intro p t
  rw[GV h0 h1]
  exact congrArg (λv=>some (AV.int v)) Z
 by_cases U:i∈rd
 ·refine⟨p1,{s with regs:=Dh s.regs i x,xmm:=Dh s.xmm i i},{t with regs:=Dh t.regs i x,xmm:=Dh t.xmm i (7*i+1)},AU q1 (by lia),⟨Eh u.a Q O,Eh u.b Q O,λn I=>?_,u.m⟩,rfl,rfl,rfl,λ{m K rw ch ir ic} N=>?_⟩
  ·show Dh t.regs i x n=Dh s.regs i x n
   unfold Dh
   split
   ·rfl
   ·exact u.e n I
  ·have B:cmpA .NotIn (.int i) (.list (rd.map .int))=some false:=by rw[FS,dT U];rfl
   simp_arith[h1',J,k0,qK,kX,sV,B]
 ·obtain⟨y,p2,y0,y1,q2,h2'⟩:=Gz q1 (by lia)
  have Y:=Bn (c:=x+1+y) (s:=2^(64:Int).toNat) (by decide)
  refine⟨p2,{s with regs:=Dh s.regs i x,xmm:=Dh s.xmm i i},{t with regs:=Dh (Dh t.regs i x) i ((x+1+y).fmod (2^(64:Int).toNat)),xmm:=Dh t.xmm i (7*i+1)},AU q2 (by lia),⟨Eh u.a Q O,Eh (Eh u.b Q O) Y.1 Y.2,λn I=>?_,u.m⟩,rfl,rfl,rfl,λ{m K rw ch ir ic} N=>?_⟩
  ·show Dh (Dh t.regs i x) i _ n=Dh s.regs i x n
   have D: ¬n=i:=λe=>U (e▸I)
   unfold Dh
   rw[if_neg D,if_neg D,if_neg D]
   exact u.e n I
  ·have B:cmpA .NotIn (.int i) (.list (rd.map .int))=some true:=by rw[FS,dF U];rfl
   simp_arith[h1',h2',J,k0,qK,kX,sV,B]
theorem YZ{rd:List Int}: ∀(l:List Nat) (i:Nat) (hl: ∀j∈i::l,j<16) {p:Pn} {n:Int} (e:As p n) (u:n+4*(i::l).length≤900) {s t:St} (B:RE rd s t),
  ∃p' s' t' z,As p' (n+4*(i::l).length)∧RE rd s' t'∧s'.fl=s.fl∧t'.fl=t.fl∧s'.mem=s.mem∧∀{m:Nat} {K:AV→AH→Prop} {rw ch ir ic:AV} (N:AJ→AH→Prop),
   EZ (λr H N=>Dz (m+8) gQ r H N K tX) (.name 23) ((i::l).map λ(i:Nat)=>.int (i:Int)) (nY rd rw ch ir ic) (hp p s t) N→N (Qm rd rw ch ir ic z) (hp p' s' t'):=by
 intro l
 induction l with
 |nil=>
  intro i hl p n e u s t B
  simp only[xD,oo] at u⊢
  obtain⟨p1,s1,t1,q1,T1,f1,f2,f3,h1⟩:=OX (i:=(i:Int)) (by lia) (by have:=hl i xQ;lia) e (by lia) B
  exact⟨p1,s1,t1,_,AU q1 (by lia),T1,f1,f2,f3,λN k=>h1 N k⟩
 |cons D r I=>
  intro i hl p n e u s t B
  simp only[xD] at u⊢
  obtain⟨p1,s1,t1,q1,T1,f1,f2,f3,h1⟩:=OX (i:=(i:Int)) (by lia) (by have:=hl i xQ;lia) e (by lia) B
  obtain⟨p2,s2,t2,z,q2,T2,g1,g2,g3,h2⟩:=I D (λk O=>hl k (zA _ O)) q1 (by simp only[xD];lia) T1
  exact⟨p2,s2,t2,z,AU q2 (by simp only[xD];lia),T2,g1.trans f1,g2.trans f2,g3.trans f3,λ{m K rw ch ir ic} N k=>h2 N (h1 (λJ H=>EZ (λr H N=>Dz (m+8) gQ r H N K tX) (.name 23) ((D::r).map λ(i:Nat)=>.int (i:Int)) J H N) k)⟩
noncomputable def Im(f:Nat→Int):Prop:=∀i,0≤f i∧f i≤1
theorem IC{w n:Int}:0≤Bt w n∧Bt w n≤1:=⟨cu _ (by decide),zX (dv _ (by decide))⟩
theorem C9{f:Nat→Int}{k:Nat}{v:Int}(h:Im f)(e:0≤v∧v≤1):Im (DC f k v):=λi=>by
 unfold DC
 split
 ·exact e
 ·exact h i
theorem HB{m b:Nat}{H:AH}{s:St}{w:Int}(hb:b+3<H.length):AB AA (m+2) (nm "Flags.unpack") [.mobj (nm "Flags") (b+2),.int w] (up H b s)=ok .none (up H b {s with fl:=Ed [(0,Bt w 0),(1,Bt w 2),(2,Bt w 4),(3,Bt w 6),(4,Bt w 7),(6,Bt w 10),(5,Bt w 11)] s.fl}):=by
 refine cq JU λC=>?_
 simp_arith[]
theorem FV{f:Nat→Int}{w:Int}(h:Im f):Im (Ed [(0,Bt w 0),(1,Bt w 2),(2,Bt w 4),(3,Bt w 6),(4,Bt w 7),(6,Bt w 10),(5,Bt w 11)] f):=
 C9 (C9 (C9 (C9 (C9 (C9 (C9 h IC) IC) IC) IC) IC) IC) IC
theorem Sd{m b:Nat}{H:AH}{s:St}(hb:b+3<H.length):AB AA (m+1) (nm "Flags.told") [.mobj (nm "Flags") (b+2)] (up H b s)=ok (.tuple (Ps s.fl)) (up H b s):=by
 refine cq M6 λC=>?_
 simp_arith[]
theorem j4{m b:Nat}{H:AH}{s:St}(hb:b+3<H.length):AB AA (m+2) (nm "Flags.get") [.mobj (nm "Flags") (b+2),.str (nm "cf")] (up H b s)=ok (.int (s.fl 0)) (up H b s):=by
 have hm:nm "cf"∈AM:=by decide+kernel
 have hl:AM.length≤1000∧nm "cf"∈AM:=⟨by decide,hm⟩
 have e: ∀{H},Bb (.tuple (Ps s.fl)) (.int ((AM.idxOf (nm "cf"):Nat):Int)) H=some (.int (s.fl 0)):=by
  intro H
  rw[show((AM.idxOf (nm "cf"):Nat):Int)=0 by decide+kernel]
  rfl
 refine cq Nj λC=>?_
 simp_arith[Sd,idx_s,e]
theorem hO{f:Nat→Int}(h:Im f): ∃x:Int,∀m H b s,b+3<H.length→s.fl=f→AB AA (m+1) (nm "Flags.pack") [.mobj (nm "Flags") (b+2)] (up H b s)=ok (.int x) (up H b s):=by
 obtain⟨B,b0⟩:=h 0
 obtain⟨a1,b1⟩:=h 1
 obtain⟨a2,b2⟩:=h 2
 obtain⟨a3,b3⟩:=h 3
 obtain⟨a4,b4⟩:=h 4
 obtain⟨u,b5⟩:=h 5
 obtain⟨D,b6⟩:=h 6
 refine⟨vG (vG (vG (vG (vG (vG (vG (2) (f 0*2^(0:Int).toNat)) (f 1*2^(2:Int).toNat)) (f 2*2^(4:Int).toNat)) (f 3*2^(6:Int).toNat)) (f 4*2^(7:Int).toNat)) (f 6*2^(10:Int).toNat)) (f 5*2^(11:Int).toNat),λm H b s hb e=>cq Mc λC=>?_⟩
 subst e
 simp_arith[]
theorem sZ(x:Int):x-x % 2=2*(x/2):=Int.sub_eq_iff_eq_add.mpr (zS x 2).symm
theorem iQ{x:Int}:(vG (vP x (xV 1)) 1) % 2=1:=by
 have e1:vP x (xV 1)=x-x % 2:=by rw[gg,xZ]
 rw[e1,xY,xZ,sZ,du,gw,dg,Int.add_mul_emod_self_left]
 rfl
theorem aZ{x:Int}:(vG (vP x (xV 1)) 0) % 2=0:=by
 have e1:vP x (xV 1)=x-x % 2:=by rw[gg,xZ]
 rw[e1,xY,qt,xM,gw,sZ]
 exact du ..
theorem oG{x:Int}:Bt x 0=x % 2:=by
 unfold Bt
 simp
theorem fJ{f:Nat→Int}{w:Int}(h:Im f)(hw:w=0∨w=1): ∃f',f' 0=w∧Im f'∧∀m H b s,b+3<H.length→s.fl=f→AB AA (m+3) (nm "Flags.put") [.mobj (nm "Flags") (b+2),.str (nm "cf"),.int w] (up H b s)=ok .none (up H b {s with fl:=f'}):=by
 obtain⟨x,hx⟩:=hO h
 have hl:AM.length≤1000∧nm "cf"∈AM:=⟨by decide,by decide+kernel⟩
 have u: ∀{H},Bb (.list [.int 0,.int 2,.int 4,.int 6,.int 7,.int 10,.int 11]) (.int ((AM.idxOf (nm "cf"):Nat):Int)) H=some (.int 0):=by
  intro H
  rw[show((AM.idxOf (nm "cf"):Nat):Int)=0 by decide+kernel]
  rfl
 rcases hw with rfl|rfl
 ·refine⟨_,?_,FV (w:=vG (vP x (xV (1*2^(0:Int).toNat))) 0) h,λm H b s hb e=>cq H5 λC=>?_⟩
  ·show Bt (vG (vP x (xV 1)) 0) 0=0
   rw[oG,aZ]
  ·subst e
   simp_arith[idx_s,u,hx,HB]
 ·refine⟨_,?_,FV (w:=vG (vP x (xV (1*2^(0:Int).toNat))) (1*2^(0:Int).toNat)) h,λm H b s hb e=>cq H5 λC=>?_⟩
  ·show Bt (vG (vP x (xV 1)) 1) 0=1
   rw[oG,iQ]
  ·subst e
   simp_arith[idx_s,u,hx,HB]
noncomputable def kY:Option (Int×Int)→AV
 |uZ=>.none
 |some (a,w)=>.tuple [.int a,.int w]
noncomputable def Lk(r:Int→Int):Option (Str×Int)→Int
 |uZ=>0
 |some (_,n)=>r n
theorem rA{x:Int}(e:0≤x)(h1:x<2^64):W x 64=x:=bo e h1
theorem R4{r:Int→Int}(h: ∀i,0≤r i∧r i<2^64){b:Option (Str×Int)}:Y8 r b=Lk r b:=by
 cases b with
 |none=>rfl
 |some p=>exact rA (h p.2).1 (h p.2).2
theorem XV{x y:Int}:W (W x 64+y) 64=W (x+y) 64:=by
 unfold W
 rw[Int.emod_add_emod]
theorem Mt{r:Int→Int}(h: ∀i,0≤r i∧r i<2^64){b i:Option (Str×Int)}{sc d:Int}:Hi r b i sc d=W (d+Lk r b+Lk r i*sc) 64:=by
 unfold Hi
 rw[XV,R4 h,R4 h,xM]
noncomputable def Oc(x z:Int):Int:=if 2^(z-1).toNat≤x.fmod (2^z.toNat)then x.fmod (2^z.toNat)-2^z.toNat else x.fmod (2^z.toNat)
theorem Vf{x z:Int}(I:Sz z):Oc x z=Sg (W x z) z:=by
 have J:x.fmod (2^z.toNat)=W x z:=zZ _ (vU (zU (by decide)))
 have D:=Cl (w:=x) (s:=z)
 have l1:=Ke (w:=x) (s:=z)
 have e1:W (W x z) z=W x z:=bo D l1
 unfold Oc Sg
 rw[J,e1]
 have hp:(2:Int) ^z.toNat=2*2^(z-1).toNat:=by rcases I with rfl|rfl|rfl|rfl<;>decide
 have u:(0:Int)<2^(z-1).toNat:=zU (by decide)
 have hd:(W x z).fdiv (2^(z-1).toNat)=W x z/2^(z-1).toNat:=x7 _ (vU u)
 have B:(W x z).fdiv (2^(z-1).toNat)=1↔2^(z-1).toNat≤W x z:=by
  rw[hd]
  constructor
  ·intro h
   have e:=zS (W x z) (2^(z-1).toNat)
   rw[h,jh] at e
   exact u9 (dz (cu (W x z) (ly u))) (rz e)
  ·intro h
   apply im
   ·apply Int.lt_add_one_iff.mp
    exact yB u (hp▸l1)
   ·exact Int.le_ediv_of_mul_le u (by rw[yJ];exact h)
 by_cases h:2^(z-1).toNat≤W x z
 ·rw[if_pos h,if_pos (B.mpr h),yJ]
 ·rw[if_neg h,if_neg (λh'=>h (B.mp h'))]
noncomputable def SH:List (ES Nat):=match(GT.body[0]?:Option (ES Nat))with
 |some (ES.loop _ _ _ b)=>b
 |_=>[]
noncomputable def dR:List (ES Nat):=match(SH[0]?:Option (ES Nat))with
 |some (ES.ite _ b _)=>b
 |_=>[]
noncomputable def pC:List (ES Nat):=dR.take 3
noncomputable def sX:List (ES Nat):=dR.drop 3
theorem Ro{s:Str}{i:Int}(h:s.length≤1000):B9 (.str s) .none (.int i)=some (.str (bb s uZ (some i))):=if_pos (u5 h (by decide))
section
variable{m b:Nat}{H:AH}{s:St}{a:Str}{l:List AV}{x:AV}{N:AJ→AH→Prop}{K:AV→AH→Prop}
theorem CU{o:AP}(ho:o.isMem=false)(k:Dz m SH [(46,Ae b),(26,AG a l),(30,x),(19,o.av)] H N K tX):N [(46,Ae b),(26,AG a l),(30,x),(19,o.av)] H:=k _ kind_s .ff (H4 ho)
theorem Rz{X:Str→AH→Prop}{rest:List (ES Nat)}{p q:Option (Str×Int)}{sc d z:Int}(hb:b+3<H.length)(k1:(AP.mem p q sc d z).OK)(e: ∀i,0≤s.regs i∧s.regs i<2^64):
  Dz m (pC++rest) [(46,Ae b),(26,AG a l),(30,x),(19,B0 (B5 p) (B5 q) sc d z)] (up H b s) N K X→Dz m rest [(46,Ae b),(26,AG a l),(30,x),(19,B0 (B5 p) (B5 q) sc d z),(8,.int (d+Lk s.regs p+Lk s.regs q*sc))] (up H b s) N K X:=by
 cases q with
 |none=>
  rw[show Lk s.regs uZ*sc=0 from lv sc,xM]
  cases p with
  |none=>
   rw[show d+Lk s.regs uZ=d from xM d]
   show Dz m (pC++rest) [(46,Ae b),(26,AG a l),(30,x),(19,B0 .none .none sc d z)] _ N K X→_
   simp_arith[]
  |some p=>
   obtain⟨a1,n1⟩:=p
   obtain⟨u,g2⟩:0≤n1∧n1<16:=k1.1 (a1,n1) rfl
   show Dz m (pC++rest) [(46,Ae b),(26,AG a l),(30,x),(19,B0 (DH a1 (nm "gpr") n1 64) .none sc d z)] _ N K X→_
   simp_arith[]
 |some q=>
  obtain⟨a2,n2⟩:=q
  obtain⟨D,g4⟩:0≤n2∧n2<16:=k1.2.1 (a2,n2) rfl
  have B:=n_64 (e n2).1 (e n2).2
  cases p with
  |none=>
   rw[show d+Lk s.regs uZ=d from xM d]
   show Dz m (pC++rest) [(46,Ae b),(26,AG a l),(30,x),(19,B0 .none (DH a2 (nm "gpr") n2 64) sc d z)] _ N K X→_
   simp_arith[]
  |some p=>
   obtain⟨a1,n1⟩:=p
   obtain⟨u,g2⟩:0≤n1∧n1<16:=k1.1 (a1,n1) rfl
   show Dz m (pC++rest) [(46,Ae b),(26,AG a l),(30,x),(19,B0 (DH a1 (nm "gpr") n1 64) (DH a2 (nm "gpr") n2 64) sc d z)] _ N K X→_
   simp_arith[]
theorem Sq:cmpA .Eq (.str (nm "mem")) (.str (nm "mem"))=some true:=by kernel_rfl!
theorem n5{x:Int}:x.fmod (2^(64:Int).toNat)=W x 64:=zZ _ (by decide)
theorem Co{p q:Option (Str×Int)}{sc d z:Int}{la:AV}(hb:b+3<H.length)(k1:(AP.mem p q sc d z).OK)(u: ∀i,0≤s.regs i∧s.regs i<2^64)(D:a.length≤1000)(e: ∀{H},Bb (.tuple l) (.int (-1)) H=some la)
  (hc:Ec (.str (bb a uZ (some 2))) (.str (nm "bt"))=some false∨(Ec (.str (bb a uZ (some 2))) (.str (nm "bt"))=some true∧∃w,la=NZ w))
  (B:Dz (m+3) SH [(46,Ae b),(26,AG a l),(30,x),(19,B0 (B5 p) (B5 q) sc d z)] (up H b s) N K tX):K (.tuple [.int (W (d+Lk s.regs p+Lk s.regs q*sc) 64),.int (z.fdiv 8)]) (up H b s):=by
 rw[←n5]
 have k2:=Rz (rest:=sX) hb k1 u (B _ om_kind .tt Sq)
 revert k2
 rcases hc with hc|⟨hc,w,rfl⟩
 ·simp_arith[Ro,e]
 ·simp_arith[Ro,e]
theorem WH{p q:Option (Str×Int)}{sc d z k:Int}{I:Str}(hb:b+3<H.length)(k1:(AP.mem p q sc d z).OK)(J: ∀i,0≤s.regs i∧s.regs i<2^64)(Y:a.length≤1000)(O:0≤k∧k<16)(e: ∀{H},Bb (.tuple l) (.int (-1)) H=some (HX (DH I (nm "gpr") k z)))
  (hc:Ec (.str (bb a uZ (some 2))) (.str (nm "bt"))=some true)
  (Q:Dz (m+3) SH [(46,Ae b),(26,AG a l),(30,x),(19,B0 (B5 p) (B5 q) sc d z)] (up H b s) N K tX):K (.tuple [.int (W (d+Lk s.regs p+Lk s.regs q*sc+(Oc (s.regs k) z).fdiv z*z.fdiv 8) 64),.int (z.fdiv 8)]) (up H b s):=by
 obtain⟨S,hk1⟩:=O
 obtain⟨B,z64⟩:=Am k1.2.2.1
 have z0:0≤z:=u9 (by decide) B
 have z1:1≤z:=u9 (by decide) B
 have D:=Rf k1.2.2.1
 have Z:(z.fdiv 8).natAbs<2^64:=n_64' (u9 (by decide) D.1) (u9 D.2 (by decide))
 have z9:z.natAbs<2^64:=n_64' z0 z64
 have U:(2:Int) ^z.toNat≠0:=ly (zU (by decide))
 rw[←n5]
 unfold Oc
 have k2:=Rz (rest:=sX) hb k1 J (Q _ om_kind .tt Sq)
 revert k2
 by_cases u:2^(z-1).toNat≤(s.regs k).fmod (2^z.toNat)
 ·rw[if_pos u];simp_arith[Ro,e]
 ·rw[if_neg u];simp_arith[Ro,e]
end
noncomputable def sH(a:Str):Bool:=(Ec (.str (bb a uZ (some 2))) (.str (nm "bt"))==some (decide (a∈GS)))&&decide (a.length≤1000)
theorem Zy:Az.all sH=true:=by decide+kernel
noncomputable def ML(a:Str)(l:List AP)(r:Int→Int)(sp:Option (Int×Int)):Prop:=(∀V:St,V.regs=r→(∃o t,l=o::t∧o.isMem=true)→sp=R0 V a l)∧(∀x∈sp,0≤x.1∧x.1<2^64∧(x.2=1∨x.2=2∨x.2=4∨x.2=8))∧∀m H b s,b+3<H.length→s.regs=r→AB AA (m+4) (nm "_law_spot") [Ae b,AG a (l.map AP.av)] (up H b s)=ok (kY sp) (up H b s)
theorem ZQ{z:Int}(h:Sz z):z.fdiv 8=1∨z.fdiv 8=2∨z.fdiv 8=4∨z.fdiv 8=8:=by rcases h with rfl|rfl|rfl|rfl<;>decide
theorem lQ{x:AV}{H:AH}:Bb (.tuple [x]) (.int (-1)) H=some x:=id rfl
theorem Rx{x y:AV}{H:AH}:Bb (.tuple [x,y]) (.int (-1)) H=some y:=id rfl
theorem eG{x y z:AV}{H:AH}:Bb (.tuple [x,y,z]) (.int (-1)) H=some z:=id rfl
theorem gJ{a:Str}{l:List AP}(Z:M2 a l)(hA:a∈Az){r:Int→Int}(S: ∀i,0≤r i∧r i<2^64): ∃sp,ML a l r sp:=by
 have Q:=By Zy hA
 simp only[sH,v7,beq_iff_eq,decide_eq_true_eq] at Q
 have u:=Q.2
 have J: ∀{x:Int},0≤W x 64∧W x 64<2^64:=λ{x}=>⟨Cl,Ce (by decide)⟩
 have first: ∀{p q sc d z} {t:List AP},l=.mem p q sc d z::t→∃sp,ML a l r sp:=by
  intro p q sc d z t hl
  have k1:(AP.mem p q sc d z).OK:=Z.ops _ (by rw[hl];exact xQ)
  have hz:=k1.2.2.1
  by_cases I:a∈GS
  ·obtain⟨o1,o2,e,i1,D⟩:=Z.bt I
   rw[hl] at e
   have e1:AP.mem p q sc d z=o1:=(wF e).1
   have e2:t=[o2]:=(wF e).2
   subst e1
   subst e2
   rw[dT I] at Q
   rcases D with D|⟨sx,k,rfl⟩
   ·cases o2 with
    |reg=>cases D
    |mem=>cases D
    |imm w=>
     refine⟨some (W (d+Lk r p+Lk r q*sc) 64,z.fdiv 8),λV U _=>?_,λx O=>?_,λm H b s hb hs=>?_⟩
     ·rw[hl];refine y3 ?_ (if_pos I).symm
      have hf:=Bn (c:=W w 8) (s:=z) (by have:=Am hz;omega)
      have hz0:((W w 8).fmod z).fdiv z=0:=Int.fdiv_eq_zero_of_lt hf.1 hf.2
      show _=some (W (Hi V.regs p q sc d+((W w 8).fmod z).fdiv z*z.fdiv 8) 64,z.fdiv 8)
      rw[hz0,lv,U,Mt S,XV,xM]
     ·cases O
      exact⟨J.1,J.2,ZQ hz⟩
     ·subst hs
      rw[hl]
      show AB AA (m+4) _ [Ae b,AG a [B0 (B5 p) (B5 q) sc d z,NZ w]] _=_
      exact cq A4 λC k=>Co hb k1 S u Rx (.inr ⟨Q.1,w,rfl⟩) (k _ in_ops .dem _ enu2 .at)
   ·refine⟨some (W (d+Lk r p+Lk r q*sc+(Oc (r k) z).fdiv z*z.fdiv 8) 64,z.fdiv 8),λV U _=>?_,λx O=>?_,λm H b s hb hs=>?_⟩
    ·rw[hl];refine y3 ?_ (if_pos I).symm
     show _=some (W (Hi V.regs p q sc d+(Sg (W (V.regs k) z) z).fdiv z*z.fdiv 8) 64,z.fdiv 8)
     rw[U,Mt S,XV,Vf hz]
    ·cases O
     exact⟨J.1,J.2,ZQ hz⟩
    ·subst hs
     rw[hl]
     have k2:(AP.reg (.gpr sx k (AP.mem p q sc d z).size)).OK:=Z.ops _ (by rw[hl];simp)
     show AB AA (m+4) _ [Ae b,AG a [B0 (B5 p) (B5 q) sc d z,HX (DH sx (nm "gpr") k z)]] _=_
     exact cq A4 λC k=>WH hb k1 S u ⟨k2.1,k2.2.1⟩ Rx Q.1 (k _ in_ops .dem _ enu2 .at)
  ·rw[dF I] at Q
   refine⟨some (W (d+Lk r p+Lk r q*sc) 64,z.fdiv 8),λV U _=>?_,λx O=>?_,λm H b s hb hs=>?_⟩
   ·rw[hl,FT I rfl]
    show _=some (Hi V.regs p q sc d,z.fdiv 8)
    rw[U,Mt S]
   ·cases O
    exact⟨J.1,J.2,ZQ hz⟩
   ·subst hs
    have B:=Z.len
    rw[hl] at B⊢
    rcases t with _|⟨x,_|⟨y,_|⟨w,t⟩⟩⟩
    ·show AB AA (m+4) _ [Ae b,AG a [B0 (B5 p) (B5 q) sc d z]] _=_
     exact cq A4 λC k=>Co hb k1 S u lQ (.inl Q.1) (k _ in_ops .dem _ enu1 .at)
    ·show AB AA (m+4) _ [Ae b,AG a [B0 (B5 p) (B5 q) sc d z,x.av]] _=_
     exact cq A4 λC k=>Co hb k1 S u Rx (.inl Q.1) (k _ in_ops .dem _ enu2 .at)
    ·show AB AA (m+4) _ [Ae b,AG a [B0 (B5 p) (B5 q) sc d z,x.av,y.av]] _=_
     exact cq A4 λC k=>Co hb k1 S u eG (.inl Q.1) (k _ in_ops .dem _ enu3 .at)
    ·simp at B
 have nobt: ∀{o:AP} {p q sc d z} {t:List AP},l=o:: .mem p q sc d z::t→Ec (.str (bb a uZ (some 2))) (.str (nm "bt"))=some false:=by
  intro o p q sc d z t hl
  by_cases I:a∈GS
  ·obtain⟨o1,o2,e,i1,D⟩:=Z.bt I
   rw[hl] at e
   have e2:=(wF (wF e).2).1
   rcases D with D|⟨sx,k,rfl⟩
   ·rw[←e2] at D;cases D
   ·cases e2
  ·rw[dF I] at Q;exact Q.1
 have B:=Z.len
 rcases l with _|⟨o1,l⟩
 ·exact⟨uZ,λV U h=>(by obtain⟨o,t,e,_⟩:=h;cases e),(λx O=>by cases O),λm H b s hb hs=>by
   show AB AA (m+4) _ [Ae b,AG a []] _=_
   exact cq A4 λC k=>(k _ in_ops .dem _ enu0 .at)⟩
 ·by_cases h1:o1.isMem=true
  ·cases o1 with
   |mem p q sc d z=>exact first rfl
   |reg=>cases h1
   |imm=>cases h1
  ·have h1:o1.isMem=false:=by simpa using h1
   have Y: ∀{V:St},(∃o t,o1::l=o::t∧o.isMem=true)→False:=by
    rintro V ⟨o,t,e,h⟩
    cases e
    rw[h1] at h
    cases h
   rcases l with _|⟨o2,l⟩
   ·exact⟨uZ,λV U h=>(Y (V:=V) h).elim,(λx O=>by cases O),λm H b s hb hs=>by
     show AB AA (m+4) _ [Ae b,AG a [o1.av]] _=_
     exact cq A4 λC k=>(CU h1 (k _ in_ops .dem _ enu1 .at))⟩
   ·by_cases h2:o2.isMem=true
    ·cases o2 with
     |reg=>cases h2
     |imm=>cases h2
     |mem p q sc d z=>
      have k2:(AP.mem p q sc d z).OK:=Z.ops _ (by simp)
      have hb':=nobt rfl
      refine⟨some (W (d+Lk r p+Lk r q*sc) 64,z.fdiv 8),λV U h=>(Y (V:=V) h).elim,λx O=>?_,λm H b s hb hs=>?_⟩
      ·cases O
       exact⟨J.1,J.2,ZQ k2.2.2.1⟩
      ·subst hs
       rcases l with _|⟨y,_|⟨w,t⟩⟩
       ·show AB AA (m+4) _ [Ae b,AG a [o1.av,B0 (B5 p) (B5 q) sc d z]] _=_
        exact cq A4 λC k=>Co hb k2 S u Rx (.inl hb') (CU h1 (k _ in_ops .dem _ enu2 .at))
       ·show AB AA (m+4) _ [Ae b,AG a [o1.av,B0 (B5 p) (B5 q) sc d z,y.av]] _=_
        exact cq A4 λC k=>Co hb k2 S u eG (.inl hb') (CU h1 (k _ in_ops .dem _ enu3 .at))
       ·simp at B
    ·have h2:o2.isMem=false:=by simpa using h2
     rcases l with _|⟨o3,_|⟨w,t⟩⟩
     ·exact⟨uZ,λV U h=>(Y (V:=V) h).elim,(λx O=>by cases O),λm H b s hb hs=>by
       show AB AA (m+4) _ [Ae b,AG a [o1.av,o2.av]] _=_
       exact cq A4 λC k=>(CU h2 (CU h1 (k _ in_ops .dem _ enu2 .at)))⟩
     ·by_cases h3:o3.isMem=true
      ·rw[Z.mem3 o1 o2 o3 [] rfl] at h3;cases h3
      ·have h3:o3.isMem=false:=by simpa using h3
       exact⟨uZ,λV U h=>(Y (V:=V) h).elim,(λx O=>by cases O),λm H b s hb hs=>by
        show AB AA (m+4) _ [Ae b,AG a [o1.av,o2.av,o3.av]] _=_
        exact cq A4 λC k=>(CU h3 (CU h2 (CU h1 (k _ in_ops .dem _ enu3 .at))))⟩
     ·simp at B
noncomputable def RF:St:=⟨λ_=>0,λ_=>0,λ_=>0,[]⟩
theorem cD{m:Nat}{c:AO}:AB AA (m+2) (nm "State") [.none] [c]=ok (Ae 1) [c,.list (BZ RF.regs),.list (BZ RF.xmm),.inst (nm "Flags") aC (Ps RF.fl),.dict (Ds RF.mem)]:=by kernel_rfl!
theorem aL{m:Nat}{u c1 c2 e B:AO}:AB AA (m+2) (nm "State") [.none] [u,c1,c2,e,B]=ok (Ae 5) [u,c1,c2,e,B,.list (BZ RF.regs),.list (BZ RF.xmm),.inst (nm "Flags") aC (Ps RF.fl),.dict (Ds RF.mem)]:=by kernel_rfl!
theorem ZX{l:List (Int×Int)}{k v:Int}(h: ∀p∈l,0≤p.2∧p.2<256)(e:0≤v∧v<256): ∀p∈Hm l k v,0≤p.2∧p.2<256:=by
 intro p hp
 unfold Hm at hp
 split at hp
 ·obtain⟨q,hq,rfl⟩:=List.mem_map.mp hp
  split
  ·exact e
  ·exact h q hq
 ·rcases List.mem_append.mp hp with hp|hp
  ·exact h p hp
  ·rw[List.mem_singleton.mp hp];exact e
theorem TD{p v:Int}: ∀(r:List Nat) {l:List (Int×Int)},(∀p∈l,0≤p.2∧p.2<256)→∀q∈OI p v r l,0≤q.2∧q.2<256
 | [],l,h=>h
 |i::r,l,h=>by
  rw[OI]
  have:=xH (v.fdiv (2^(8*(i:Int)).toNat)) (y:=255) (by decide)
  exact TD r (ZX h ⟨this.1,by omega⟩)
theorem RI{l:List (Int×Int)}{p w v:Int}(h: ∀p∈l,0≤p.2∧p.2<256): ∀q∈L5 l p w v,0≤q.2∧q.2<256:=TD _ h
theorem L9{l:List (Int×Int)}{p v:Int}:(L5 l p 8 v).length≤l.length+8:=Jd _ _ _ _
section
variable{p:Pn}{s t:St}{m:Nat}{x w v:Int}
theorem tW(e:s.mem.length≤900)(u:0<w)(h1:w≤64):AB AA (m+4) (nm "Memory.write") [Be 1,.int x,.int w,.int v] (hp p s t)=ok .none (hp p {s with mem:=L5 s.mem x w v} t):=memwrite_s (H:=hp p s t) (b:=1) Dx e u h1
theorem uU(e:t.mem.length≤900)(u:0<w)(h1:w≤64):AB AA (m+4) (nm "Memory.write") [Be 5,.int x,.int w,.int v] (hp p s t)=ok .none (hp p s {t with mem:=L5 t.mem x w v}):=memwrite_s (H:=hp p s t) (b:=5) Fy e u h1
theorem oU:AB AA (m+2) (nm "Flags.unpack") [.mobj (nm "Flags") (1+2),.int w] (hp p s t)=ok .none (hp p {s with fl:=Ed [(0,Bt w 0),(1,Bt w 2),(2,Bt w 4),(3,Bt w 6),(4,Bt w 7),(6,Bt w 10),(5,Bt w 11)] s.fl} t):=HB (H:=hp p s t) (b:=1) Dx
theorem mR:AB AA (m+2) (nm "Flags.unpack") [.mobj (nm "Flags") (5+2),.int w] (hp p s t)=ok .none (hp p s {t with fl:=Ed [(0,Bt w 0),(1,Bt w 2),(2,Bt w 4),(3,Bt w 6),(4,Bt w 7),(6,Bt w 10),(5,Bt w 11)] t.fl}):=HB (H:=hp p s t) (b:=5) Fy
theorem rZ:AB AA (m+2) (nm "Flags.get") [.mobj (nm "Flags") (1+2),.str (nm "cf")] (hp p s t)=ok (.int (s.fl 0)) (hp p s t):=j4 (H:=hp p s t) (b:=1) Dx
end
noncomputable def oW:ES Nat:=match(BY.body[3]?:Option (ES Nat))with
 |some s=>s
 |_=>.pass
noncomputable def rQ:Bp Nat:=match oW with
 |.ite _ (.assign _ e::_) _=>e
 |_=>.stuck
theorem mB{rd:List Int}{a:Str}{l:List AV}{s t:St}(hi:Ec (.str a) (.str (nm "idiv"))=some true∨Ec (.str a) (.str (nm "idiv"))=some false)(I: ∀i,0≤s.regs i∧s.regs i<2^64):
  ∃v:Int,0≤v∧v<2^64∧∀{m:Nat} {p:Pn} {ch ir ic z:AV} {X:Str→AH→Prop} (K:AV→AH→Prop),tE m rQ (Qm rd (AG a l) ch ir ic z) (hp p s t) K X→K (.int v) (hp p s t):=by
 rcases hi with hi|hi
 ·have B:=I 0
  have e:(s.regs 0).fdiv (2^(63:Int).toNat)=s.regs 0/9223372036854775808:=x7 _ (by decide)
  have D:0≤(s.regs 0).fdiv (2^(63:Int).toNat):=ou B.1 (by decide)
  have q1:(s.regs 0).fdiv (2^(63:Int).toNat)≤1:=by rw[e];exact zX (yB (by decide) B.2)
  have b1:=n_1 D q1
  have u:(0:Int)≤63∧(63:Int)≤1000:=by decide
  refine⟨(s.regs 0).fdiv (2^(63:Int).toNat)*(2^(64:Int).toNat-1),?_,?_,λK k=>k _ in_name .tt hi _ st_regs .dem _ (GV (by decide) (by decide)) u.1 u.2 (by decide) (by decide) (by decide) (by decide) (by decide) (by decide) (.inl b1)⟩
  ·exact wZ D (by decide)
  ·exact vL (xG q1 (by decide)) (by decide)
 ·exact⟨0,by decide,by decide,λK k=>k _ in_name .ff hi⟩
theorem nB{rd:List Int}{a:Str}{l:List AV}(S:a∈Az){p:Pn}{n:Int}(I:As p n)(U:n≤900){s t:St}(u:RE rd s t):
  ∃p' s' t',As p' (n+1)∧RE rd s' t'∧s'.fl=s.fl∧t'.fl=t.fl∧s'.mem=s.mem∧∀{m:Nat} {ch ir ic z:AV} {K:AV→AH→Prop} {X:Str→AH→Prop} (N:AJ→AH→Prop),tS (m+8) oW (Qm rd (AG a l) ch ir ic z) (hp p s t) N K X→N (Qm rd (AG a l) ch ir ic z) (hp p' s' t'):=by
 have B:D0 a (.tuple [.str (nm "div"),.str (nm "idiv")])=true∨Aq a (.tuple [.str (nm "div"),.str (nm "idiv")])=true:=by
  have:=By (p:=λa=>D0 a (.tuple [.str (nm "div"),.str (nm "idiv")])||Aq a (.tuple [.str (nm "div"),.str (nm "idiv")])) (by decide+kernel:Az.all _=true) S
  simpa using this
 rcases B with B|B
 ·have B:=DR B
  obtain⟨d,p1,d0,d1,q1,h1⟩:=Wn (many:=3) I (by omega) (by decide) (by decide)
  by_cases hd:0<d
  ·have hi:Ec (.str a) (.str (nm "idiv"))=some true∨Ec (.str a) (.str (nm "idiv"))=some false:=by
    have:=By (p:=λa=>Ec (.str a) (.str (nm "idiv"))==some true||Ec (.str a) (.str (nm "idiv"))==some false) (by decide+kernel:Az.all _=true) S
    simpa using this
   obtain⟨v,v0,v1,hv⟩:=mB (rd:=rd) (l:=l) (t:=t) hi u.a
   have O: ∀{p:Pn} {t:St},Bb (.ref 1) (.int 2) (hp p {s with regs:=Dh s.regs 2 v} t)=some (.int v):=GV (by decide) (by decide)
   by_cases Q:(2:Int)∈rd
   ·have D:cmpA .In (.int 2) (.list (rd.map .int))=some true:=by rw[Po,dT Q]
    refine⟨p1,{s with regs:=Dh s.regs 2 v},{t with regs:=Dh t.regs 2 v},AU q1 (by omega),⟨Eh u.a v0 v1,Eh u.b v0 v1,λk J=>?_,u.m⟩,rfl,rfl,rfl,λ{m ch ir ic z K X} N k=>hv _ (k _ in_name .tt B .call _ _ (h1 (m+5) s t) .tt hd) _ st_regs _ (k0 (by decide) (by decide)) .tt D _ st_regs .dem _ O _ st_regs _ (qK (by decide) (by decide))⟩
    show Dh t.regs 2 v k=Dh s.regs 2 v k
    unfold Dh
    split
    ·rfl
    ·exact u.e k J
   ·have D:cmpA .In (.int 2) (.list (rd.map .int))=some false:=by rw[Po,dF Q]
    refine⟨p1,{s with regs:=Dh s.regs 2 v},t,AU q1 (by omega),⟨Eh u.a v0 v1,u.b,λk J=>?_,u.m⟩,rfl,rfl,rfl,λ{m ch ir ic z K X} N k=>hv _ (k _ in_name .tt B .call _ _ (h1 (m+5) s t) .tt hd) _ st_regs _ (k0 (by decide) (by decide)) .ff D⟩
    show t.regs k=Dh s.regs 2 v k
    unfold Dh
    rw[if_neg (λe:k=2=>Q (by rw[←e];exact J))]
    exact u.e k J
  ·exact⟨p1,s,t,AU q1 (by omega),u,rfl,rfl,rfl,λ{m ch ir ic z K X} N k=>k _ in_name .tt B .call _ _ (h1 (m+5) s t) .ff (Int.not_lt.mp hd)⟩
 ·exact⟨p,s,t,AU I (by omega),u,rfl,rfl,rfl,λ{m ch ir ic z K X} N k=>k _ in_name .ff (Ag B)⟩
theorem cT{H:AH}:BF .range [.int 16] H=some ((wD 16).map λ(i:Nat)=>.int (i:Int)):=id rfl
section
variable{p:Pn}{s t:St}{j:Nat}{as:List AV}{H2 H1:AH}{v:AV}
theorem sW(e:AB AA j (nm "Flags.unpack") (.mobj (nm "Flags") (1+2)::as) H2=ok v H1):Af j (.mobj (nm "Flags") (1+2)) (nm "unpack") (hp p s t) as H2 v H1:=mf_unpack (H:=hp p s t) (b:=1) (t:=s) Dx e
theorem sC(e:AB AA j (nm "Flags.unpack") (.mobj (nm "Flags") (5+2)::as) H2=ok v H1):Af j (.mobj (nm "Flags") (5+2)) (nm "unpack") (hp p s t) as H2 v H1:=mf_unpack (H:=hp p s t) (b:=5) (t:=t) Fy e
theorem t6(e:AB AA j (nm "Flags.get") (.mobj (nm "Flags") (1+2)::as) H2=ok v H1):Af j (.mobj (nm "Flags") (1+2)) (nm "get") (hp p s t) as H2 v H1:=mf_get (H:=hp p s t) (b:=1) (t:=s) Dx e
theorem uE(e:AB AA j (nm "Flags.put") (.mobj (nm "Flags") (5+2)::as) H2=ok v H1):Af j (.mobj (nm "Flags") (5+2)) (nm "put") (hp p s t) as H2 v H1:=mf_put (H:=hp p s t) (b:=5) (t:=t) Fy e
end
noncomputable def uT:List (ES Nat):=(BY.body.drop 4).take 4
noncomputable def rG:List (ES Nat):=BY.body.drop 8
noncomputable abbrev pL(rd:List Int)(rw ch ir ic x y:AV)(e:AJ):AJ:=(59,.ref 0)::(26,rw)::(27,.list (rd.map .int))::(71,ch)::(31,ir)::(72,ic)::(40,Ae 5)::(41,Ae 1)::(23,x)::(69,y)::e
theorem rL{rd:List Int}{a:Str}{l:List AV}{cf:Bool}(I: ∀m H,AB AA (m+4) (nm "reads_flags") [.str a] H=ok (.list (if cf then [.str (nm "cf")] else [])) H){p:Pn}{n:Int}(J:As p n)(Y:n≤900){s t:St}(B:RE rd s t)(S:Im s.fl)(U:Im t.fl):
  ∃p' s' t' y Q,(Q=[]∨∃v,Q=[(12,v)])∧As p' (n+1)∧RE rd s' t'∧s'.regs=s.regs∧Im s'.fl∧(cf=true→t'.fl 0=s'.fl 0)∧s'.mem=s.mem∧∀{m:Nat} {ch ir ic z:AV} {rest:List (ES Nat)} {N:AJ→AH→Prop} {K:AV→AH→Prop} {X:Str→AH→Prop},
   Dz (m+8) (uT++rest) (Qm rd (AG a l) ch ir ic z) (hp p s t) N K X→Dz (m+8) rest (pL rd (AG a l) ch ir ic z y Q) (hp p' s' t') N K X:=by
 obtain⟨d,p1,d0,d1,q1,h1⟩:=Wn (many:=2^(12:Int).toNat) J (by omega) (by decide) (by decide)
 have D:=FV (w:=d) S
 have O:=FV (w:=4095-d) U
 have u:(0:Int)≤12∧(12:Int)≤1000:=by decide
 cases cf with
 |false=>
  exact⟨p1,{s with fl:=Ed [(0,Bt d 0),(1,Bt d 2),(2,Bt d 4),(3,Bt d 6),(4,Bt d 7),(6,Bt d 10),(5,Bt d 11)] s.fl},{t with fl:=Ed [(0,Bt (4095-d) 0),(1,Bt (4095-d) 2),(2,Bt (4095-d) 4),(3,Bt (4095-d) 6),(4,Bt (4095-d) 7),(6,Bt (4095-d) 10),(5,Bt (4095-d) 11)] t.fl},.int d,[],.inl rfl,q1,⟨B.a,B.b,B.e,B.m⟩,rfl,D,(λh=>by cases h),rfl,λ{m ch ir ic z rest N K X} k=>
   k u.1 u.2 (by decide) .call _ _ (h1 (m+5) s t) _ st_flags _ _ (sW oU) _ st_flags _ _ (sC mR) _ in_name .call _ _ (I (m+4) _) .at .at⟩
 |true=>
  obtain⟨f',g0,g1,hput⟩:=fJ (w:=Bt d 0) O (by have:=IC (w:=d) (n:=0);omega)
  exact⟨p1,{s with fl:=Ed [(0,Bt d 0),(1,Bt d 2),(2,Bt d 4),(3,Bt d 6),(4,Bt d 7),(6,Bt d 10),(5,Bt d 11)] s.fl},{t with fl:=f'},.int d,[(12,.str (nm "cf"))],.inr ⟨_,rfl⟩,q1,⟨B.a,B.b,B.e,B.m⟩,rfl,D,λ_=>g0,rfl,λ{m ch ir ic z rest N K X} k=>
   k u.1 u.2 (by decide) .call _ _ (h1 (m+5) s t) _ st_flags _ _ (sW oU) _ st_flags _ _ (sC mR) _ in_name .call _ _ (I (m+4) _) .at .at
    _ st_flags _ st_flags _ _ (t6 rZ) _ _ (uE (hput (m+5) (hp p1 {s with fl:=Ed [(0,Bt d 0),(1,Bt d 2),(2,Bt d 4),(3,Bt d 6),(4,Bt d 7),(6,Bt d 10),(5,Bt d 11)] s.fl} {t with fl:=Ed [(0,Bt (4095-d) 0),(1,Bt (4095-d) 2),(2,Bt (4095-d) 4),(3,Bt (4095-d) 6),(4,Bt (4095-d) 7),(6,Bt (4095-d) 10),(5,Bt (4095-d) 11)] t.fl}) 5 {t with fl:=Ed [(0,Bt (4095-d) 0),(1,Bt (4095-d) 2),(2,Bt (4095-d) 4),(3,Bt (4095-d) 6),(4,Bt (4095-d) 7),(6,Bt (4095-d) 10),(5,Bt (4095-d) 11)] t.fl} Fy rfl))⟩
theorem eL{p:Pn}{s t:St}{m:Nat}{x v:Int}{M:List (Int×Int)}(u:s.mem.length≤900)(e:L5 s.mem x 8 v=M):AB AA (m+4) (nm "Memory.write") [Be 1,.int x,.int 8,.int v] (hp p s t)=ok .none (hp p {s with mem:=M} t):=e▸tW u (by decide) (by decide)
theorem iD{p:Pn}{s t:St}{m:Nat}{x v:Int}{M:List (Int×Int)}(u:t.mem.length≤900)(e:L5 t.mem x 8 v=M):AB AA (m+4) (nm "Memory.write") [Be 5,.int x,.int 8,.int v] (hp p s t)=ok .none (hp p s {t with mem:=M}):=e▸uU u (by decide) (by decide)
theorem Xq{rd:List Int}{p':Pn}{n:Int}{s t:St}{M u:List (Int×Int)}{P:Pn→St→St→Prop}(q:As p' n)(B:RE rd s t)(e:u=M)(k:Do M)(l:M.length≤24)(h:P p' {s with mem:=M} {t with mem:=u}):
  ∃p' s' t',As p' n∧RE rd s' t'∧s'.regs=s.regs∧s'.fl=s.fl∧t'.fl=t.fl∧Do s'.mem∧s'.mem.length≤24∧P p' s' t':=
 ⟨p',{s with mem:=M},{t with mem:=u},q,⟨B.a,B.b,B.e,e⟩,rfl,rfl,rfl,k,l,h⟩
theorem mZ{rd:List Int}{a:Str}{l:List AP}{p:Pn}{n:Int}(D:As p n)(hn:n≤900){s t:St}(J:RE rd s t)(e:s.mem=[]){sp:Option (Int×Int)}(O:ML a l s.regs sp):
  ∃p' s' t',As p' (n+6)∧RE rd s' t'∧s'.regs=s.regs∧s'.fl=s.fl∧t'.fl=t.fl∧Do s'.mem∧s'.mem.length≤24∧∀{m:Nat} {ch ir ic z y:AV} {I:AJ} {N:AJ→AH→Prop} {K:AV→AH→Prop} {X:Str→AH→Prop},(I=[]∨∃v,I=[(12,v)])→
   Dz (m+8) rG (pL rd (AG a (l.map AP.av)) ch ir ic z y I) (hp p s t) N K X→K (.tuple [Ae 1,Ae 5]) (hp p' s' t'):=by
 have hs: ∀m p t,AB AA (m+4) (nm "_law_spot") [Ae 1,AG a (l.map AP.av)] (hp p s t)=ok (kY sp) (hp p s t):=λm p t=>O.2.2 m (hp p s t) 1 s Dx rfl
 rcases sp with _|⟨sa,sw⟩
 ·refine⟨p,s,t,AU D (by omega),J,rfl,rfl,rfl,by rw[e];exact⟨by decide,by simp⟩,by rw[e];decide,λ{m ch ir ic z y I N K X} u k=>?_⟩
  rcases u with rfl|⟨v,rfl⟩
  ·exact k .call _ _ (hs (m+4) p t) .ff (by show cmpA _ _ _=some _;kernel_rfl!)
  ·exact k .call _ _ (hs (m+4) p t) .ff (by show cmpA _ _ _=some _;kernel_rfl!)
 ·obtain⟨x,p1,x0,x1,q1,h1⟩:=Gz D (by omega)
  obtain⟨y,p2,y0,y1,q2,h2⟩:=Gz q1 (by omega)
  obtain⟨z,p3,z0,z1,q3,h3⟩:=Gz q2 (by omega)
  have q4:As p3 (n+6):=AU q3 (by omega)
  have hs: ∀m p t,AB AA (m+4) (nm "_law_spot") [Ae 1,AG a (l.map AP.av)] (hp p s t)=ok (.tuple [.int sa,.int sw]) (hp p s t):=hs
  have B:(8:Int).natAbs<2^64:=by decide
  obtain⟨Q,e1⟩: ∃M,L5 s.mem (sa+8*0-8) 8 x=M:=⟨_,rfl⟩
  obtain⟨S,e2⟩: ∃M,L5 Q (sa+8*1-8) 8 y=M:=⟨_,rfl⟩
  obtain⟨Y,e3⟩: ∃M,L5 S (sa+8*2-8) 8 z=M:=⟨_,rfl⟩
  have U:s.mem.length≤0:=e▸vJ 0
  have l1:Q.length≤8:=e1▸u5 L9 (xB U 8)
  have l2:S.length≤16:=e2▸u5 L9 (xB l1 8)
  have l3:Y.length≤24:=e3▸u5 L9 (xB l2 8)
  have k3:Do Y:=⟨u5 l3 (by decide),e3▸RI (e2▸RI (e1▸RI (e▸ λq h=>nomatch h)))⟩
  have c1:L5 t.mem (sa+8*0-8) 8 x=Q:=J.m▸e1
  have Z:=u5 U (by decide:0≤900)
  have b1:=u5 l1 (by decide:8≤900)
  have b2:=u5 l2 (by decide:16≤900)
  have b5:t.mem.length≤900:=J.m▸Z
  refine Xq q4 J rfl k3 l3 (λ{m ch ir ic z y I N K X} u k=>?_)
  rcases u with rfl|⟨v,rfl⟩
  all_goals
   exact k .call _ _ (hs (m+4) p t) .tt (by show cmpA _ _ _=some _;kernel_rfl!) .dem _ rng3 .at .call _ _ (h1 (m+2) _ _) .call _ _ (h2 (m+2) _ _) .call _ _ (h3 (m+2) _ _) .at .at .at
    .dem _ rng3 .at _ st_mem .at (.inl B) .at _ _ (mm_write (eL Z e1)) _ st_mem .at (.inl B) .at _ _ (mm_write (eL b1 e2)) _ st_mem .at (.inl B) .at _ _ (mm_write (eL b2 e3))
    .dem _ rng3 .at _ st_mem .at (.inl B) .at _ _ (mm_write (iD b5 c1)) _ st_mem .at (.inl B) .at _ _ (mm_write (iD b1 e2)) _ st_mem .at (.inl B) .at _ _ (mm_write (iD b2 e3))
structure j8 (a:Str) (l:List AP) (rd:List Int) (cf:Bool) (s t:St) (sp:Option (Int×Int)):Prop where
 two:RE rd s t
 sok:Du s
 tok:Du t
 s01:Im s.fl
 cfe:cf=true→t.fl 0=s.fl 0
 spot:ML a l s.regs sp
 len:s.mem.length≤24
theorem VO{a:Str}{l:List AP}{R Wm:Int}{ic cf:Bool}{wl:List Str}{Mw M:Int}(F:Zo a (l.map AP.av) R Wm ic cf wl Mw M)(I:M2 a l){p:Pn}{n:Int}(D:As p n)(e:n≤800):
  ∃p' s t sp,j8 a l (AZ R) cf s t sp∧∀m,AB AA (m+14) (nm "_law_states") [.ref 0,AG a (l.map AP.av)] [Zv p]=ok (.tuple [Ae 1,Ae 5]) (hp p' s t):=by
 obtain⟨ir,hu⟩:=F.uses
 have T0:RE (AZ R) RF RF:=⟨λi=>⟨y5 0,(by decide:(0:Int)<2^64)⟩,λi=>⟨y5 0,(by decide:(0:Int)<2^64)⟩,λn e=>rfl,rfl⟩
 obtain⟨p1,s1,t1,z,q1,T1,f1,g1,m1,h1⟩:=YZ [1,2,3,4,5,6,7,8,9,10,11,12,13,14,15] 0 (by decide) D (u9 (vW e 64) (by decide)) T0
 obtain⟨p2,s2,t2,q2,T2,f2,g2,m2,h2⟩:=nB (l:=l.map AP.av) F.name q1 (u9 (vW e 64) (by decide)) T1
 have e2:s2.fl=RF.fl:=f2.trans f1
 have B:t2.fl=RF.fl:=g2.trans g1
 have z0:Im RF.fl:=λi=>⟨y5 0,(by decide:(0:Int)≤1)⟩
 obtain⟨p3,s3,t3,y,tl,htl,q3,T3,r3,k3,O,m3,h3⟩:=rL (l:=l.map AP.av) F.rf q2 (u9 (vW (vW e 64) 1) (by decide)) T2 (e2▸z0) (B▸z0)
 obtain⟨sp,hsp⟩:=gJ I F.name T3.a
 obtain⟨J,s4,t4,q4,u,r4,f4,g4,m4,l4,h4⟩:=mZ q3 (u9 (vW (vW (vW e 64) 1) 1) (by decide)) T3 (m3.trans (m2.trans (m1.trans rfl))) hsp
 refine⟨J,s4,t4,sp,⟨u,⟨u.a,m4⟩,⟨u.b,u.m.symm▸m4⟩,f4.symm▸k3,λh=>by rw[f4,g4];exact O h,r4.symm▸hsp,l4⟩,λm=>?_⟩
 exact cq L8 λC k=>h4 (m:=m+5) (K:=λv H=>C (ok v H)) htl (h3 (m:=m+5) (h2 (m:=m+5) _ (h1 (m:=m+5) _ (k .call _ _ (hu (m+6) _) .call _ _ cD .call _ _ aL .dem _ cT .at))))
noncomputable def Dk(l:List (Int×Int)):List AV:=l.map λp=>.tuple [.int p.1,.int p.2]
noncomputable def nz(l:List (Int×Int)):List (Int×Int):=l.filter λp=>p.2≠0
noncomputable def Dg(s:St):AV:=.tuple [.tuple (BZ s.regs),.tuple (BZ s.xmm),.tuple (Ps s.fl),.tuple (Dk (A3 (nz s.mem))),.int 0,.tuple [.int 0,.int 0],.bool false]
theorem VV(l:List (Int×Int)):B6 ((Ds l).map (·.2))=some (l.map (·.2)):=by
 induction l with
 |nil=>rfl
 |cons p r e=>exact congrArg (wK (p.2:: ·)) e
theorem i0(l:List (Int×Int)):((Ds l).map (·.1)).zip (l.map (·.2))=l:=by
 induction l with
 |nil=>rfl
 |cons p r e=>exact congrArg (p:: ·) e
theorem Yu(x:Int×Int)(l:List (Int×Int)):(It x l).length=l.length+1:=by
 induction l with
 |nil=>rfl
 |cons y r e=>
  show(if KV x y=true then x::y::r else y::It x r).length=_
  by_cases h:KV x y=true
  ·rw[if_pos h];rfl
  ·rw[if_neg h];exact congrArg (· +1) e
theorem LS(l:List (Int×Int)):(A3 l).length=l.length:=by
 induction l with
 |nil=>rfl
 |cons x r e=>exact(Yu x _).trans (congrArg (· +1) e)
section
variable{m b:Nat}{H:AH}{s:St}
theorem Rs(r:Int→Int):(BZ r).length≤1000000:=u5 (vH ((vB ..).trans xW)) (by decide)
theorem K6{a:Nat}{l:List AV}(h:H[a]?=some (.list l))(hl:l.length≤1000000):B7 (nm "tuple") [.ref a] H=ok (.tuple l) H:=by
 refine y3 (by kernel_rfl!:_=match H[a]? with
  |some (.list l)=>if l.length≤1000000 then ok (.tuple l) H else uZ
  |_=>uZ) ?_
 rw[h];exact if_pos hl
theorem TV(e:s.mem.length≤60):CT (Ds s.mem)=some (nz s.mem):=by
 unfold CT
 rw[VV]
 simp only[i0]
 exact if_pos ⟨vY (yA _ _) (vY e (by decide)),u5 (vH (vB ..)) (u5 e (by decide))⟩
theorem UD(hb:b+3<H.length)(e:s.mem.length≤60):AB AA (m+1) (nm "Memory.written") [Be b] (up H b s)=ok (.list (Dk (A3 (nz s.mem)))) (up H b s):=by
 refine y3 (by kernel_rfl!:_=match(up H b s)[b+3]? with
  |some (AO.dict es)=>rof ((CT es).map λps=>.list ((A3 ps).map λp=>.tuple [.int p.1,.int p.2])) (up H b s)
  |_=>uZ) ?_
 rw[ZM hb]
 exact congrArg (λo=>rof (wK (λps=>AV.list ((A3 ps).map λp=>.tuple [.int p.1,.int p.2])) o) (up H b s)) (TV e)
theorem aD(hb:b+3<H.length):AB AA (m+1) (nm "tuple") [.ref b] (up H b s)=ok (.tuple (BZ s.regs)) (up H b s):=
 blt (by decide+kernel) J6 JE (by decide+kernel) (K6 (g9 hb) (Rs s.regs))
theorem Z6(hb:b+3<H.length):AB AA (m+1) (nm "tuple") [.ref (b+1)] (up H b s)=ok (.tuple (BZ s.xmm)) (up H b s):=
 blt (by decide+kernel) J6 JE (by decide+kernel) (K6 (mJ hb) (Rs s.xmm))
theorem aR(hb:b+3<H.length)(e:s.mem.length≤60):AB AA (m+2) (nm "Memory.told") [Be b] (up H b s)=ok (.tuple (Dk (A3 (nz s.mem)))) (up H b s):=
 have hl:(Dk (A3 (nz s.mem))).length≤1000000:=u5 (vH ((vB ..).trans (LS _))) (u5 (yA _ _) (u5 e (by decide)))
 cq Kr λC k=>k _ _ (mm_written (UD hb e)) .call _ _ (tuple_s hl)
theorem kA:Bb (.dict [nm "fs",nm "gs"] [.int 0,.int 0]) (.str (nm "fs")) H=some (.int 0):=id rfl
theorem hU:Bb (.dict [nm "fs",nm "gs"] [.int 0,.int 0]) (.str (nm "gs")) H=some (.int 0):=id rfl
theorem WO(hb:b+3<H.length)(e:s.mem.length≤60):AB AA (m+4) (nm "State.told") [Ae b] (up H b s)=ok (Dg s) (up H b s):=by
 exact cq Mk λC k=>k _ st_segs .dem _ kA _ st_segs .dem _ hU _ st_regs .call _ _ (aD hb) _ st_xmm .call _ _ (Z6 hb) _ st_flags _ _ (mf_told hb (Sd hb)) _ st_mem _ _ (mm_told (aR hb e)) _ st_rip _ st_halt
end
theorem Hl{P:List (Tg×Int)→St→St→Prop}(B: ∀s,P [] s s)(h1: ∀e v r s s',P r (KW s (e,v)) s'→P ((e,v)::r) s s')(wr:List (Tg×Int)): ∀s,P wr s (wr.foldl KW s):=by
 induction wr with
 |nil=>exact B
 |cons p r u=>exactλs=>h1 p.1 p.2 r s _ (u _)
theorem bJ{ch:Int→Prop}{wr:List (Tg×Int)}{s:St}(h: ∀g v,(Tg.reg g,v)∈wr→ch g.num)(n:Int)(u: ¬ch n):(wr.foldl KW s).regs n=s.regs n:=
 Hl (P:=λwr s s'=>(∀g v,(Tg.reg g,v)∈wr→ch g.num)→s'.regs n=s.regs n) (λ_ _=>rfl) (λD v r s s' B h=>(B λg v q=>h g v (.tail _ q)).trans (by
  induction D using Tg.casesOn with
  |reg g=>exact if_neg λe:n=g.num=>u (e▸h g v (.head _))
  |mem a w=>rfl)) wr s h
theorem kP{wr:List (Tg×Int)}{s:St}:(wr.foldl KW s).xmm=s.xmm:=
 Hl (P:=λ_ s s'=>s'.xmm=s.xmm) (λ_=>rfl) (λu _ _ _ _ e=>e.trans (Tg.casesOn u (λ_=>rfl) λ_ _=>rfl)) wr s
theorem lS{wr:List (Tg×Int)}{s:St}:(wr.foldl KW s).fl=s.fl:=
 Hl (P:=λ_ s s'=>s'.fl=s.fl) (λ_=>rfl) (λu _ _ _ _ e=>e.trans (Tg.casesOn u (λ_=>rfl) λ_ _=>rfl)) wr s
theorem Us{wr:List (Tg×Int)}{s:St}(h: ∀a w v,(Tg.mem a w,v)∉wr):(wr.foldl KW s).mem=s.mem:=
 Hl (P:=λwr s s'=>(∀a w v,(Tg.mem a w,v)∉wr)→s'.mem=s.mem) (λ_ _=>rfl) (λu v r s s' e h=>(e λa w v q=>h a w v (.tail _ q)).trans (by
  induction u using Tg.casesOn with
  |reg g=>rfl
  |mem a w=>exact absurd (.head _) (h a w v))) wr s h
theorem QU{wr:List (Tg×Int)}{s:St}(h: ∀a w v,(Tg.mem a w,v)∈wr→w≤8):(wr.foldl KW s).mem.length≤s.mem.length+8*wr.length:=
 Hl (P:=λwr s s'=>(∀a w v,(Tg.mem a w,v)∈wr→w≤8)→s'.mem.length≤s.mem.length+8*wr.length) (λ_ _=>wM _ _) (λe v r s s' u h=>by
  refine u5 (u λa w v q=>h a w v (.tail _ q)) (u5 (xB (?_:(KW s (e,v)).mem.length≤s.mem.length+8) _) (vH ?_))
  ·induction e using Tg.casesOn with
   |reg g=>exact wM _ _
   |mem a w=>exact u5 (Jd _ _ _ _) (cz (u5 (vH xW) (Int.toNat_le.mpr (h a w v (.head _)))) _)
  ·show s.mem.length+8+8*r.length=s.mem.length+8*(r.length+1)
   rw[rq,kx,zC]) wr s h
theorem Zt{g:Rg}{x y v:Int}(hg:g.OK)(h:32≤g.size∨x=y):NO x v g=NO y v g:=by
 rcases h with h|h
 ·induction g using Rg.casesOn with
  |gpr a n z=>exact(if_pos h).trans (if_pos h).symm
  |high a n=>exact absurd h (by decide: ¬(32:Int)≤8)
 ·rw[h]
theorem ZT{rd:Int→Prop}{wr:List (Tg×Int)}: ∀{x y:St} {Wd:Int→Prop},(∀g v,(Tg.reg g,v)∈wr→g.OK∧(32≤g.size∨rd g.num))→(∀n,rd n∨Wd n→x.regs n=y.regs n)→∀n,(rd n∨Wd n∨∃g v,(Tg.reg g,v)∈wr∧g.num=n)→(wr.foldl KW x).regs n=(wr.foldl KW y).regs n:=by
 induction wr with
 |nil=>exactλ{x y Wd} h B n u=>B n (u.imp id λu=>u.elim id λ⟨_,_,h,_⟩=>nomatch h)
 |cons p r I=>
  intro x y Wd h B n u
  obtain⟨O,v⟩:=p
  have h': ∀g v,(Tg.reg g,v)∈r→g.OK∧(32≤g.size∨rd g.num):=λg v hg=>h g v (.tail _ hg)
  induction O using Tg.casesOn with
  |mem a w=>
   refine I (x:=KW x (Tg.mem a w,v)) (y:=KW y (Tg.mem a w,v)) (Wd:=Wd) h' B n (u.imp id λu=>u.imp id λ⟨g,v',hg,e⟩=>⟨g,v',?_,e⟩)
   exact(List.mem_cons.mp hg).elim (λq=>nomatch q) id
  |reg g=>
   have J:=h g v (.head _)
   refine I (x:=KW x (Tg.reg g,v)) (y:=KW y (Tg.reg g,v)) (Wd:=λn=>Wd n∨n=g.num) h' (λk D=>?_) n (u.imp id λu=>u.elim (λq=>.inl (.inl q)) λ⟨S,v',hg,e⟩=>(List.mem_cons.mp hg).elim (λq=>.inl (.inr (by rw[←e,Tg.reg.inj (congrArg pd q)]))) λq=>.inr ⟨S,v',q,e⟩)
   show(if k=g.num then NO (x.regs g.num) v g else x.regs k)=(if k=g.num then NO (y.regs g.num) v g else y.regs k)
   by_cases e:k=g.num
   ·rw[if_pos e,if_pos e]
    exact Zt J.1 (J.2.imp id λQ=>B _ (.inl Q))
   ·rw[if_neg e,if_neg e]
    exact B k (D.imp id λq=>q.elim id λq=>absurd q e)
theorem No{wr:List (Tg×Int)}: ∀{x y:St},x.mem=y.mem→(wr.foldl KW x).mem=(wr.foldl KW y).mem:=by
 induction wr with
 |nil=>exact id
 |cons p r e=>exactλ{x y} h=>e (x:=KW x p) (y:=KW y p) (by
   obtain⟨u,v⟩:=p
   induction u using Tg.casesOn with
   |reg g=>exact h
   |mem a w=>exact congrArg (L5 · a w v) h)
noncomputable def DD(a w:Int)(p:Int×Int):Bool:=decide (w≤(p.1-a).fmod (2^(64:Int).toNat))
theorem Bz{p:Int×Int→Bool}{x:Int×Int}{r:List (Int×Int)}:(x::r).filter p=if p x=true then x::r.filter p else r.filter p:=fx
theorem kQ{x:Int×Int}{l:List (Int×Int)}(h: ∀z∈l,KV x z=true):It x l=x::l:=by
 induction l using u6 with
 |nil=>rfl
 |cons y r=>exact Dw.trans (if_pos (h y (.head _)))
theorem Pz{p:Int×Int→Bool}{x:Int×Int}{l:List (Int×Int)}(hs:l.Pairwise (λx y=>KV x y=true)):(It x l).filter p=if p x=true then It x (l.filter p)else l.filter p:=by
 induction l with
 |nil=>exact Bz
 |cons y r J=>
  have I:=List.pairwise_cons.mp hs
  rw[Dw]
  by_cases u:KV x y=true
  ·rw[if_pos u,Bz]
   have D: ∀z∈y::r,KV x z=true:=λz B=>(List.mem_cons.mp B).elim (λe=>e▸u) λB=>LU u (I.1 z B)
   rw[kQ (x:=x) (l:=(y::r).filter p) λz B=>D z (List.mem_filter.mp B).1]
  ·rw[if_neg u,Bz,J I.2,Bz]
   by_cases hy:p y=true
   ·rw[if_pos hy,if_pos hy,Dw,if_neg u]
    exact apply_ite (y:: ·) _ _ _
   ·rw[if_neg hy,if_neg hy]
theorem ID{p:Int×Int→Bool}(l:List (Int×Int)):(A3 l).filter p=A3 (l.filter p):=by
 induction l with
 |nil=>rfl
 |cons x r e=>
  rw[show A3 (x::r)=It x (A3 r)from rfl,Pz (HR r),e,Bz]
  exact(apply_ite A3 (p x=true) (x::r.filter p) (r.filter p)).symm
theorem Qr{p:Int×Int→Bool}{k v:Int}(hp: ∀v,p (k,v)=false)(l:List (Int×Int)):(l.map λq=>if q.1=k then(q.1,v)else q).filter p=l.filter p:=by
 induction l with
 |nil=>rfl
 |cons q r u=>
  rw[v8,Bz,Bz,u]
  by_cases e:q.1=k
  ·rw[if_pos e,if_neg (by rw[e,hp v];decide),if_neg (by rw[show q=(k,q.2)from ll e rfl,hp q.2];decide)]
  ·rw[if_neg e]
theorem QG{p:Int×Int→Bool}{k v:Int}(hp: ∀v,p (k,v)=false)(l:List (Int×Int)):(Hm l k v).filter p=l.filter p:=by
 unfold Hm
 split
 ·exact Qr hp l
 ·rw[List.filter_append,Bz,if_neg (by rw[hp v];decide)]
  exact vX _
theorem iJ{a w:Int}{i:Nat}(B:0≤a)(u:a<2^64)(hi:(i:Int)<w)(hw:w≤8)(v:Int):DD a w (W (a+i) 64,v)=false:=by
 refine decide_eq_false ?_
 have e:(W (a+i) 64-a).fmod (2^(64:Int).toNat)=i:=by
  rw[zZ _ (by decide)]
  unfold W
  show((a+i) % 18446744073709551616-a) % 18446744073709551616=i
  rw[Int.emod_sub_emod,dg a,lh]
  exact bo (yC i) (w5 (vQ hi hw) (by decide))
 show¬w≤(W (a+i) 64-a).fmod (2^(64:Int).toNat)
 rw[e]
 exact Int.not_le.mpr hi
theorem UK{a w v:Int}(u:0≤a)(e:a<2^64)(hw:w≤8){r:List Nat}: ∀{l:List (Int×Int)},(∀i∈r,(i:Int)<w)→(OI a v r l).filter (DD a w)=l.filter (DD a w):=by
 induction r with
 |nil=>exactλ_=>rfl
 |cons i r D=>exactλ{l} h=>(D λk B=>h k (.tail _ B)).trans (QG (iJ u e (h i (.head _)) hw) l)
theorem Wl{a w v:Int}{l:List (Int×Int)}(B:0≤a)(u:a<2^64)(e:0≤w)(hw:w≤8):(L5 l a w v).filter (DD a w)=l.filter (DD a w):=
 UK B u hw λi hi=>vQ (Int.ofNat_lt.mpr (List.mem_range.mp hi)) (rz (wA e))
theorem QB{a w:Int}{l e:List (Int×Int)}(h:e.filter (DD a w)=l.filter (DD a w)):(A3 (nz e)).filter (DD a w)=(A3 (nz l)).filter (DD a w):=by
 have k (l:List (Int×Int)):(nz l).filter (DD a w)=(l.filter (DD a w)).filter λx=>decide (x.2≠0):=by
  unfold nz
  rw[lc,lc]
  exact congrArg (ny · l) (funext λx=>Bool.and_comm _ _)
 rw[ID,ID,k,k,h]
theorem iH{a w:Int}(I:0≤a)(D:a<2^64)(B:0≤w)(hw:w≤8){wr:List (Tg×Int)}{s:St}(h: ∀e u v,(Tg.mem e u,v)∈wr→e=a∧u=w):(wr.foldl KW s).mem.filter (DD a w)=s.mem.filter (DD a w):=
 Hl (P:=λwr s s'=>(∀e u v,(Tg.mem e u,v)∈wr→e=a∧u=w)→s'.mem.filter (DD a w)=s.mem.filter (DD a w)) (λ_ _=>rfl) (λO v r s s' J h=>(J λa w v q=>h a w v (.tail _ q)).trans (by
  induction O using Tg.casesOn with
  |reg g=>rfl
  |mem e u=>
   obtain⟨rfl,rfl⟩:=h e u v (.head _)
   exact Wl I D B hw)) wr s h
theorem YN{l:List AV}{n:Nat}{v:AV}{H:AH}(B:n<1000)(e:l[n]?=some v):Bb (.tuple l) (.int (n:Int)) H=some v:=by
 have hl:=(List.getElem?_eq_some_iff.mp e).1
 have:az (n:Int) l.length=some n:=by
  unfold az
  have u: ¬(n:Int)<0:=Int.not_lt.mpr (yC n)
  simp only[if_neg u]
  exact if_pos (Bool.and_eq_true_iff.mpr ⟨decide_eq_true (yC n),decide_eq_true (Int.ofNat_lt.mpr hl)⟩)
 rw[show Bb (.tuple l) (.int n) H=if-(2^60)<(n:Int)∧(n:Int)<2^60 then(az (n:Int) l.length).bind λj=>l[j]? else uZ from rfl,if_pos ⟨by omega,by omega⟩,this]
 exact e
theorem Gy{r:Int→Int}{n:Int}{H:AH}(u:0≤n)(h1:n<16):Bb (.tuple (BZ r)) (.int n) H=some (.int (r n)):=by
 have e:=Nm (r:=r) u h1
 obtain⟨k,rfl⟩:=gl u
 exact YN (zG (Int.ofNat_lt.mp h1) (by decide)) e
theorem NC{f:Nat→Int}{i:Nat}{H:AH}(h:i<7):Bb (.tuple (Ps f)) (.int (i:Int)) H=some (.int (f i)):=
 YN (zG h (by decide)) (by unfold Ps;rw[xJ,ae h];rfl)
theorem iB{m:Nat}{a w:Int}{hd:AV}{H:AH}(l:List (Int×Int)): ∀K:List AV→AH→Prop,Ex (λr H K=>tT (m+1) [.cmp (.bin .Mod (qC "int" [.bin .Sub (.sub (qV 74) (qI 0)) (.sub (qV 11) (qI 0))]) (.bin .Pow (qI 2) (qI 64))) [.GtE] [.sub (qV 11) (qI 1)]] r H K) (λr H K=>tE (m+1) (qV 74) r H K tX) (.name 74) [(73,hd),(11,.tuple [.int a,.int w])] (Dk l) H K→K (Dk (l.filter (DD a w))) H:=by
 induction l with
 |nil=>exactλ_ k=>k
 |cons p r e=>
  intro K k
  rw[Bz]
  by_cases h:w≤(p.1-a).fmod (2^(64:Int).toNat)
  ·rw[if_pos (show DD a w p=true from decide_eq_true h)]
   exact e (λvs H=>K (.tuple [.int p.1,.int p.2]::vs) H) (k .at .at .call _ _ int_s (by decide) (by decide) (by decide) (by decide) .at .tt h)
  ·rw[if_neg (show¬DD a w p=true fromλq=>h (of_decide_eq_true q))]
   exact e K (k .at .at .call _ _ int_s (by decide) (by decide) (by decide) (by decide) .at .ff (Int.not_le.mp h))
theorem LR{l:List (Int×Int)}:(Dk l).length=l.length:=vB ..
theorem Lz{m:Nat}{a w:Int}{l:List (Int×Int)}{H:AH}(hl:l.length≤1000):AB AA (m+2) (nm "_law_outside") [.tuple (Dk l),.tuple [.int a,.int w]] H=ok (.list (Dk (l.filter (DD a w)))) H:=
 have e:(Dk (l.filter (DD a w))).length≤1000000:=LR▸u5 (yA _ _) (u5 hl (by decide))
 cq Kt λC k=>k .ff (by show cmpA _ _ _=some _;kernel_rfl!) .dem _ (it_plainT (LR▸u5 hl (by decide))) .dem _ _ (λK=>iB l K) .dem e
theorem M0{r:Int→Int}{n:Nat}: ∀x∈BZ r,Dt n x:=λx h=>let⟨i,_,e⟩:=List.mem_map.mp h;e▸FF _ _
theorem lE{f:Nat→Int}{n:Nat}: ∀x∈Ps f,Dt n x:=λx h=>let⟨i,_,e⟩:=List.mem_map.mp h;e▸FF _ _
theorem JP{n:Nat}: ∀x∈([]:List AV),Dt n x:=λx h=>nomatch h
theorem BW{n:Nat}{v:AV}{l:List AV}(h:Dt n v)(r: ∀x∈l,Dt n x): ∀x∈v::l,Dt n x:=λx q=>(List.mem_cons.mp q).elim (λe=>e▸h) (r x)
theorem G2{l:List (Int×Int)}{n:Nat}: ∀x∈Dk l,Dt (n+1) x:=λx h=>let⟨i,_,e⟩:=List.mem_map.mp h;e▸Bc (BW (FF _ _) (BW (FF _ _) JP))
theorem Sx{s:St}:Dt 10 (Dg s):=Bc (n:=9) (BW (Bc M0) (BW (Bc M0) (BW (Bc lE) (BW (Bc (n:=8) G2) (BW (FF _ _) (BW (Bc (BW (FF _ _) (BW (FF _ _) JP))) (BW (ZP _ _) JP)))))))
theorem JB{n:Nat}{v:AV}(h:Dt n v)(e:n≤64):cmpA .NotEq v v=some false:=dH (Jk (MN h e))
theorem Mu{n:Nat}{v:AV}(h:Dt n v)(e:n≤64):cmpA .Eq v v=some true:=lC (Jk (MN h e))
theorem QC:cmpA .NotEq (.list []) (.list [])=some false:=JB (HU (n:=0) JP) (by decide)
noncomputable abbrev QI(s s':St)(a:Str)(l:List AV)(sp rd ch ir ic:AV):AJ:=[(75,Dg s),(76,Dg s'),(26,AG a l),(11,sp),(27,rd),(71,ch),(31,ir),(72,ic)]
section
variable{Wm:Int}{s s':St}{m:Nat}{a:Str}{l:List AV}{sp rd ch ir ic:AV}{H:AH}
theorem iK(h1: ∀n,n∉AZ Wm→s'.regs n=s.regs n)(ns:List Nat):(∀n∈ns,n<16)→∀K:List AV→AH→Prop,Ex (λr H K=>tT m [.bool .And [.cmp (qV 23) [.NotIn] [qV 71],.cmp (.sub (.sub (qV 75) (qI 0)) (qV 23)) [.NotEq] [.sub (.sub (qV 76) (qI 0)) (qV 23)]]] r H K) (λr H K=>tE m (qV 23) r H K tX) (.name 23) (QI s s' a l sp rd (.list ((AZ Wm).map .int)) ir ic) (ns.map λ(i:Nat)=>.int (i:Int)) H K→K [] H:=by
 induction ns with
 |nil=>exactλ_ _ k=>k
 |cons i r B=>
  intro hi K k
  have u:=λn q=>hi n (.tail _ q)
  have b1:(i:Int)<16:=Int.ofNat_lt.mpr (hi i (.head _))
  have D:=yC i
  by_cases e:(i:Int)∈AZ Wm
  ·exact B u K (k .ff (show cmpA .NotIn (.int (i:Int)) (.list ((AZ Wm).map .int))=some false by rw[FS,dT e];rfl))
  ·exact B u K (k .tt (show cmpA .NotIn (.int (i:Int)) (.list ((AZ Wm).map .int))=some true by rw[FS,dF e];rfl) .at .dem _ (Gy D b1) .at .dem _ (Gy D b1) .ff (h1 i e).symm)
noncomputable def sR:List (ES Nat):=[.ite (.bool .And [.cmp (qV 12) [.NotIn] [qC "writes_flags" [qA (qV 26) "name"]],.cmp (.sub (.sub (qV 75) (qI 2)) (qV 30)) [.NotEq] [.sub (.sub (qV 76) (qI 2)) (qV 30)]]) [.ret (.lit (.bool false))] []]
noncomputable abbrev l9(m:Nat)(K:AV→AH→Prop)(xs:List AV)(r:AJ)(H:AH)(N:AJ→AH→Prop):Prop:=EZ (λr H N=>Dz (m+8) sR r H N K tX) (.names [30,12]) xs r H N
theorem jS{wl:List Str}{K:AV→AH→Prop}(e: ∀m H,AB AA (m+3) (nm "writes_flags") [.str a] H=ok (.list (wl.map .str)) H){x:Str}{k:Nat}(hi:k<7){c:Bool}(hc:cmpA .NotIn (.str x) (.list (wl.map .str))=some c)(D:c=true→s'.fl k=s.fl k){xs:List AV}{B:AJ}(I:B=[]∨∃u v,B=[(30,u),(12,v)]){N:AJ→AH→Prop}
  (h:l9 m K (.tuple [.int (k:Int),.str x]::xs) (QI s s' a l sp rd ch ir ic++B) H N):l9 m K xs (QI s s' a l sp rd ch ir ic++[(30,.int (k:Int)),(12,.str x)]) H N:=by
 have key:l9 m K (.tuple [.int (k:Int),.str x]::xs) (QI s s' a l sp rd ch ir ic++B) H N→Dz (m+8) sR (QI s s' a l sp rd ch ir ic++[(30,.int (k:Int)),(12,.str x)]) H (λr H=>l9 m K xs r H N) K tX:=by
  rcases I with rfl|⟨u,v,rfl⟩
  ·exact id
  ·exact id
 replace h:=key h
 cases c with
 |false=>exact h _ in_name .call _ _ (e (m+5) _) .ff hc
 |true=>exact h _ in_name .call _ _ (e (m+5) _) .tt hc .at .dem _ (NC hi) .at .dem _ (NC hi) .ff (D rfl).symm
theorem Nz{wl:List Str}{Mw:Int}(h:NR wl Mw)(i:Nat)(hi:i<7)(x:Str)(e:AM[i]?=some x):cmpA .NotIn (.str x) (.list (wl.map .str))=some (!(Mw.toNat.testBit i))∧cmpA .In (.str x) (.list (wl.map .str))=some (Mw.toNat.testBit i):=
 (show∀i:Fin 7,cmpA .NotIn (.str (AM.getD i.1 (nm ""))) (.list (wl.map .str))=some (!(Mw.toNat.testBit i.1))∧cmpA .In (.str (AM.getD i.1 (nm ""))) (.list (wl.map .str))=some (Mw.toNat.testBit i.1)by
  rcases h with⟨rfl,rfl⟩|⟨rfl,rfl⟩|⟨rfl,rfl⟩|⟨rfl,rfl⟩<;>decide+kernel) ⟨i,hi⟩|> λz=>by rw[show AM.getD i (nm "")=x from congrArg (Option.getD · (nm "")) e] at z;exact z
noncomputable def rB:List AV:=[.tuple [.int 0,.str (nm "cf")],.tuple [.int 1,.str (nm "pf")],.tuple [.int 2,.str (nm "af")],.tuple [.int 3,.str (nm "zf")],.tuple [.int 4,.str (nm "sf")],.tuple [.int 5,.str (nm "of")],.tuple [.int 6,.str (nm "df")]]
theorem sF:BF .enum [.list (AM.map .str)] H=some rB:=id rfl
theorem jY{wl:List Str}{Mw:Int}{K:AV→AH→Prop}(D: ∀m H,AB AA (m+3) (nm "writes_flags") [.str a] H=ok (.list (wl.map .str)) H)(B:NR wl Mw)(h3: ∀i,¬Mw.toNat.testBit i=true→s'.fl i=s.fl i){N:AJ→AH→Prop}(h:l9 m K rB (QI s s' a l sp rd ch ir ic) H N):
  N (QI s s' a l sp rd ch ir ic++[(30,.int 6),(12,.str (nm "df"))]) H:=by
 have f (i:Nat) (hi:i<7) (x:Str) (e:AM[i]?=some x) {xs:List AV} {I:AJ} (J:I=[]∨∃u v,I=[(30,u),(12,v)]):=jS (m:=m) (l:=l) (sp:=sp) (rd:=rd) (ch:=ch) (ir:=ir) (ic:=ic) (H:=H) (N:=N) (K:=K) (xs:=xs) D hi (Nz B i hi x e).1 (λq=>h3 i λz=>by rw[z] at q;exact vF q) J
 exact f 6 (by decide) _ rfl (.inr ⟨_,_,rfl⟩) (f 5 (by decide) _ rfl (.inr ⟨_,_,rfl⟩) (f 4 (by decide) _ rfl (.inr ⟨_,_,rfl⟩) (f 3 (by decide) _ rfl (.inr ⟨_,_,rfl⟩) (f 2 (by decide) _ rfl (.inr ⟨_,_,rfl⟩) (f 1 (by decide) _ rfl (.inr ⟨_,_,rfl⟩) (f 0 (by decide) _ rfl (.inl rfl) h))))))
end
theorem Wu{s:St}{k:Nat}(h:s.mem.length≤k):(A3 (nz s.mem)).length≤k:=u5 (vH (LS _)) (u5 (yA _ _) h)
structure SZ (Wm:Int) (ic:Bool) (Mw:Int) (sp:Option (Int×Int)) (s s':St):Prop where
 regs: ∀n,n∉AZ Wm→s'.regs n=s.regs n
 xmm:s'.xmm=s.xmm
 fl: ∀i,¬Mw.toNat.testBit i=true→s'.fl i=s.fl i
 mem:ic=false→s'.mem=s.mem
 out:ic=true→∃x w,sp=some (x,w)∧(A3 (nz s'.mem)).filter (DD x w)=(A3 (nz s.mem)).filter (DD x w)
theorem pG{s:St}:B9 (Dg s) (.int 4) .none=some (.tuple [.int 0,.tuple [.int 0,.int 0],.bool false]):=id rfl
theorem YQ{a:Str}{l:List AV}{R Wm:Int}{ic cf:Bool}{wl:List Str}{Mw M:Int}(F:Zo a l R Wm ic cf wl Mw M){s s':St}{sp:Option (Int×Int)}(D:s.mem.length≤60)(e:s'.mem.length≤60)(h:SZ Wm ic Mw sp s s'){m:Nat}{H:AH}:
  AB AA (m+9) (nm "_law_kept") [Dg s,Dg s',AG a l,kY sp] H=ok (.bool true) H:=by
 obtain⟨ir,hu⟩:=F.uses
 have B:cmpA .NotEq (.tuple (BZ s.xmm)) (.tuple (BZ s'.xmm))=some false:=h.xmm▸JB (Bc (n:=0) M0) (by decide)
 have u:cmpA .NotEq (.tuple [.int 0,.tuple [.int 0,.int 0],.bool false]) (.tuple [.int 0,.tuple [.int 0,.int 0],.bool false])=some false:=dH (by decide+kernel)
 have run (C:Mine.Internal.R AV→Prop) (k:Al (m+8) EF [Dg s,Dg s',AG a l,kY sp] H C):=jY (m:=m) (K:=λv H=>C (ok v H)) (N:=λr H=>Dz (m+8) (EF.body.drop 4) r H (λ_ H=>C (ok .none H)) (λv H=>C (ok v H)) (λc H=>C (some (.exc c H)))) F.wf F.fm h.fl
  (k .call _ _ (hu (m+1) _) .dem _ cT .dem _ _ (λK=>iK h.regs _ (λn q=>List.mem_range.mp q) K) .at .ff QC .at .at .ff B _ pG _ pG .ff u _ sp_FLAG_NAMES .dem _ sF .at)
 cases ic with
 |false=>exact cq Js λC k=>run C k .at .at .tt (h.mem rfl▸Mu (Bc (n:=1) G2) (by decide))
 |true=>
  obtain⟨x,w,rfl,ho⟩:=h.out rfl
  exact cq Js λC k=>run C k .tt (by show cmpA _ _ _=some _;kernel_rfl!) .at .call _ _ (Lz (Wu (u5 D (by decide)))) .at .call _ _ (Lz (Wu (u5 e (by decide)))) .tt (ho▸Mu (HU (n:=1) G2) (by decide))
theorem Vb{l:List Int}(h:l.Pairwise (· ≤ ·)):Fi l=l:=by
 induction l with
 |nil=>rfl
 |cons x r e=>
  have h':=List.pairwise_cons.mp h
  show RJ x (Fi r)=_
  rw[e h'.2]
  induction r using u6 with
  |nil=>rfl
  |cons y t=>exact if_pos (h'.1 y (.head _))
theorem VG{M:Int}:(AZ M).Pairwise (· ≤ ·):=
 List.Pairwise.filter _ (List.pairwise_map.mpr (List.Pairwise.imp (λh=>Int.ofNat_le.mpr (yD h)) (List.pairwise_lt_range (n:=32))))
theorem Cp{M:Int}:(AZ M).length≤32:=u5 (yA _ _) (vH ((vB ..).trans xW))
theorem VU(l:List Int):B6 (l.map .int)=some l:=by
 induction l with
 |nil=>rfl
 |cons x r e=>exact congrArg (wK (x:: ·)) e
section
variable{m:Nat}{H:AH}
theorem Vh{l:List Int}(hl:l.length<64):AB AA (m+1) (nm "sorted") [.list (l.map .int)] H=ok (.list ((Fi l).map .int)) H:=by
 refine(by kernel_rfl!:_=rof ((Sh (l.map .int)).map .list) H).trans ?_
 show rof (wK AV.list (if(l.map AV.int).length<64 then match B6 (l.map AV.int)with|some xs=>some ((Fi xs).map .int)|uZ=>uZ else uZ)) H=_
 rw[if_pos (by rw[vB];exact hl),VU]
 rfl
theorem PK{M:Int}:AB AA (m+1) (nm "sorted") [.list ((AZ M).map .int)] H=ok (.list ((AZ M).map .int)) H:=by
 rw[Vh (vY Cp (by decide)),Vb VG]
theorem Ry{l:List Int}:cmpA .NotEq (.list (l.map .int)) (.list (l.map .int))=some false:=JB (HU (n:=0) (TG 0 l)) (by decide)
theorem fG{a b:List Int}(e:a.length≤32)(hb:b.length≤32):DF .Add (.list (a.map .int)) (.list (b.map .int))=some (.list ((a++b).map .int)):=by
 rw[R9 (by rw[vB,vB];exact u5 (dp e hb) (by decide)),al]
theorem Mz{l:List Int}(hl:l.length≤100):BF .plain [.list (l.map .int)] H=some (l.map .int):=it_plain (by rw[vB];exact u5 hl (by decide))
theorem gI{sc:AV}(l:List Int): ∀K:List AV→AH→Prop,Ex (λr H K=>tT (m+1) [] r H K) (λr H K=>tE (m+1) (qC "int" [qV 58]) r H K tX) (.name 58) [(57,sc)] (l.map .int) H K→K (l.map .int) H:=by
 induction l with
 |nil=>exactλ_ k=>k
 |cons x r e=>exactλK k=>e (λvs H=>K (.int x::vs) H) (k .call _ _ int_s)
noncomputable def iX(l:List Int):Pn:=⟨l.take 60,0,0⟩
theorem VH{l:List Int}:(l.take 60).length≤60:=u5 (vH List.length_take) (Nat.min_le_left _ _)
theorem eQ{n:Nat}:dk n 60=min 60 n:=by
 unfold dk
 rw[if_neg (by decide)]
 rcases Nat.le_total n 60 with h|h
 ·rw[Int.min_eq_right (show(n:Int)≤60 from Int.ofNat_le.mpr h),Int.max_eq_right (yC n),Nat.min_eq_right h];rfl
 ·rw[ot (show(60:Int)≤n from Int.ofNat_le.mpr h),Nat.min_eq_left h];rfl
theorem m0{l:List Int}(hl:l.length≤100000):B9 (.list (l.map .int)) .none (.int 60)=some (.list ((l.take 60).map .int)):=by
 refine(show _=if(l.map AV.int).length≤1000000 then some (AV.list (((l.map AV.int).drop 0).take (dk (l.map AV.int).length 60-0)))else uZ from rfl).trans ?_
 rw[if_pos (by rw[vB];exact u5 hl (by decide)),eQ,List.map_take]
 exact congrArg (λx=>some (AV.list x)) (List.take_eq_take_min (l:=l.map AV.int) (i:=60)).symm
theorem pJ{l:List Int}(hl:l.length≤100000):AB AA (m+2) (nm "_law_pen") [.list (l.map .int)] []=ok (.ref 0) [Zv (iX l)]:=
 cq UE λC k=>k _ (m0 hl) .dem _ (Mz (u5 VH (by decide))) .dem _ _ (λK=>gI _ K) .dem (by rw[vB];exact u5 VH (by decide))
theorem kJ{l:List Int}:As (iX l) 0:=⟨y5 0,y5 0,y5 0,VH⟩
theorem rN{wl:List Str}{M:Int}(h:NR wl M):AB AA (m+2) (nm "_law_flag_names") [.int M] H=ok (.list (wl.map .str)) H:=by
 rcases h with⟨rfl,rfl⟩|⟨rfl,rfl⟩|⟨rfl,rfl⟩|⟨rfl,rfl⟩<;>kernel_rfl!
theorem Os{st row v:AV}{H':AH}(h:AB AA m (nm "rotate_deed") [st,row] H=ok v H'):AB AA (m+1) (nm "_law_heard") [st,row] H=ok v H':=cq IZ λC k=>k .call _ _ h
theorem PV{st row:AV}{H':AH}(h:AB AA m (nm "rotate_deed") [st,row] H=some (.exc Av H')):AB AA (m+1) (nm "_law_heard") [st,row] H=ok (.str (nm "refused")) H':=cq IZ λC k=>k .exc _ _ h rfl
end
structure dJ (R Wm:Int) (ic:Bool) (Mw M:Int) (sp:Option (Int×Int)) (s t s' t':St):Prop where
 k1:SZ Wm ic Mw sp s s'
 k2:SZ Wm ic Mw sp t t'
 e: ∀n,n∈AZ Wm→s'.regs n=t'.regs n
 fe: ∀i,i<7→s'.fl i=t'.fl i∨(¬M.toNat.testBit i=true∧s'.fl i=s.fl i∧t'.fl i=t.fl i)
 me:s'.mem=t'.mem
 l1:s'.mem.length≤60
theorem HQ{l:List (Nat×Int)}: ∀{f:Nat→Int} {i:Nat},i∉l.map (·.1)→Ed l f i=f i:=by
 induction l with
 |nil=>exactλ_=>rfl
 |cons q r e=>exactλ{f i} h=>(e (f:=DC f q.1 q.2) λz=>h (.tail _ z)).trans (if_neg λz:i=q.1=>h (z▸ .head _))
theorem g8{l:List (Nat×Int)}: ∀{f g:Nat→Int} {i:Nat},i∈l.map (·.1)→Ed l f i=Ed l g i:=by
 induction l with
 |nil=>exactλh=>nomatch h
 |cons q r B=>
  intro f g i h
  show Ed r (DC f q.1 q.2) i=Ed r (DC g q.1 q.2) i
  by_cases u:i∈r.map (·.1)
  ·exact B u
  ·have e:i=q.1:=(List.mem_cons.mp h).elim id λh=>absurd h u
   rw[HQ u,HQ u]
   exact(if_pos e).trans (if_pos e).symm
section
variable{R Wm Mw M:Int}{ic cf:Bool}{sp spk:Option (Int×Int)}{N:Nf}{s t:St}
theorem jU{s:St}:(N.app s).fl=Ed N.fl s.fl:=lS
theorem Su(I:bM (eM R Wm ic cf Mw M) spk N)(B:ic=true→sp=spk)(D:ic=true→∃x w,spk=some (x,w))(hb: ∀x∈sp,0≤x.1∧x.1<2^64∧0≤x.2∧x.2≤8)(s:St):SZ Wm ic Mw sp s (N.app s):=by
 have u: ∀a w v,(Tg.mem a w,v)∈N.wr→ic=true∧spk=some (a,w):=I.mem
 refine⟨λn J=>bJ (ch:=λn=>n∈AZ Wm) (λg v hg=>(I.reg g v hg).2.1) n J,kP,λi hi=>?_,λh=>?_,λh=>?_⟩
 ·refine(congrFun jU i).trans (HQ λh=>?_)
  obtain⟨p,hp,rfl⟩:=List.mem_map.mp h
  exact hi (I.fl p hp)
 ·exact Us λa w v hm=>vF (h.symm.trans (u a w v hm).1)
 ·obtain⟨x,w,hx⟩:=D h
  have e:sp=some (x,w):=(B h).trans hx
  have q:=hb (x,w) (e▸rfl)
  exact⟨x,w,e,QB (iH q.1 q.2.1 q.2.2.1 q.2.2.2 λO Q v hm=>by
   have z:=u7 ((u O Q v hm).2.symm.trans hx)
   exact⟨congrArg pd z,congrArg si z⟩)⟩
theorem XW(u:bM (eM R Wm ic cf Mw M) spk N)(T:RE (AZ R) s t)(hl:s.mem.length≤24)(B:ic=true→sp=spk)(I:ic=true→∃x w,spk=some (x,w))(hb: ∀x∈sp,0≤x.1∧x.1<2^64∧0≤x.2∧x.2≤8):dJ R Wm ic Mw M sp s t (N.app s) (N.app t):=by
 refine⟨Su u B I hb s,Su u B I hb t,λn D=>?_,λi hi=>?_,No (show s.mem=t.mem from T.m.symm),?_⟩
 ·exact ZT (x:={s with fl:=Ed N.fl s.fl}) (y:={t with fl:=Ed N.fl t.fl}) (rd:=λn=>n∈AZ R) (Wd:=λ_=>False) (λg v hg=>⟨(u.reg g v hg).1,(u.reg g v hg).2.2⟩) (λn D=>D.elim (λD=>(T.e n D).symm) False.elim) n ((u.all n D).imp id .inr)
 ·rw[jU,jU]
  by_cases h:i∈N.fl.map (·.1)
  ·exact .inl (g8 h)
  ·exact .inr ⟨λhs=>h (u.sure i hi hs),HQ h,HQ h⟩
 ·refine u5 (QU λa w v hm=>?_) (u5 (dp hl (cx 8 u.len)) (by decide))
  have h:=u.mem a w v hm
  exact(hb (a,w) (((B h.1).trans h.2)▸rfl)).2.2.2
end
noncomputable def nR:List (ES Nat):=[qN 80 (.cmp (.sub (.sub (.sub (qV 79) (qI 0)) (qI 2)) (qV 30)) [.Eq] [.sub (.sub (.sub (qV 79) (qI 1)) (qI 2)) (qV 30)]),qN 82 (.bool .And [.cmp (.sub (.sub (.sub (qV 78) (qI 0)) (qI 2)) (qV 30)) [.Eq] [.sub (.sub (.sub (qV 79) (qI 0)) (qI 2)) (qV 30)],.cmp (.sub (.sub (.sub (qV 78) (qI 1)) (qI 2)) (qV 30)) [.Eq] [.sub (.sub (.sub (qV 79) (qI 1)) (qI 2)) (qV 30)]]),.ite (.bool .And [.un .Not (qV 80),.bool .Or [.cmp (qV 12) [.In] [qV 81],.un .Not (qV 82)]]) [.ret (.lit (.bool false))] []]
noncomputable abbrev Ub(s t s' t':St)(su:List Str)(sc rw rd ch ir ic sp hd:AV):AJ:=[(57,sc),(59,.ref 0),(26,rw),(27,rd),(71,ch),(31,ir),(72,ic),(41,Ae 1),(40,Ae 5),(11,sp),(78,.list [Dg s,Dg t]),(77,hd),(79,.list [Dg s',Dg t']),(81,.list (su.map .str))]
section
variable{s t s' t':St}{su:List Str}{sc rw rd ch ir ic sp hd:AV}{m:Nat}{H:AH}{K:AV→AH→Prop}{N:AJ→AH→Prop}
noncomputable abbrev lF(m:Nat)(K:AV→AH→Prop)(xs:List AV)(r:AJ)(H:AH)(N:AJ→AH→Prop):Prop:=EZ (λr H N=>Dz m nR r H N K tX) (.names [30,12]) xs r H N
noncomputable abbrev LT(e:AJ):Prop:=e=[]∨∃u v w z,e=[(30,u),(12,v),(80,w),(82,z)]
theorem hJ{x:Str}{k:Nat}(hi:k<7){c:Bool}(hc:cmpA .In (.str x) (.list (su.map .str))=some c)(hf:s'.fl k=t'.fl k∨(c=false∧s'.fl k=s.fl k∧t'.fl k=t.fl k)){xs:List AV}{B:AJ}(I:LT B)
  (h:lF m K (.tuple [.int (k:Int),.str x]::xs) (Ub s t s' t' su sc rw rd ch ir ic sp hd++B) H N): ∃B,LT B∧lF m K xs (Ub s t s' t' su sc rw rd ch ir ic sp hd++B) H N:=by
 have f {g:Nat→Int} {H:AH}:=NC (f:=g) (H:=H) hi
 rcases I with rfl|⟨u,v,w,z,rfl⟩
 all_goals
  by_cases e:s'.fl k=t'.fl k
  ·by_cases h1:s.fl k=s'.fl k
   ·by_cases D:t.fl k=t'.fl k
    ·exact⟨_,.inr ⟨_,_,_,_,rfl⟩,h .at .at .dem _ f .at .at .dem _ f .tt e .at .at .dem _ f .at .at .dem _ f .tt h1 .at .at .dem _ f .at .at .dem _ f .tt D⟩
    ·exact⟨_,.inr ⟨_,_,_,_,rfl⟩,h .at .at .dem _ f .at .at .dem _ f .tt e .at .at .dem _ f .at .at .dem _ f .tt h1 .at .at .dem _ f .at .at .dem _ f .ff D⟩
   ·exact⟨_,.inr ⟨_,_,_,_,rfl⟩,h .at .at .dem _ f .at .at .dem _ f .tt e .at .at .dem _ f .at .at .dem _ f .ff h1⟩
  ·obtain⟨rfl,h1,D⟩:=hf.resolve_left e
   exact⟨_,.inr ⟨_,_,_,_,rfl⟩,h .at .at .dem _ f .at .at .dem _ f .ff e .at .at .dem _ f .at .at .dem _ f .tt h1.symm .at .at .dem _ f .at .at .dem _ f .tt D.symm .ff hc⟩
theorem gU{M:Int}(B:NR su M)(hf: ∀i,i<7→s'.fl i=t'.fl i∨(¬M.toNat.testBit i=true∧s'.fl i=s.fl i∧t'.fl i=t.fl i))(h:lF m K rB (Ub s t s' t' su sc rw rd ch ir ic sp hd) H N):
  ∃u,LT u∧N (Ub s t s' t' su sc rw rd ch ir ic sp hd++u) H:=by
 have g (i:Nat) (hi:i<7) (x:Str) (e:AM[i]?=some x) {xs:List AV} (q: ∃u,LT u∧lF m K (.tuple [.int (i:Int),.str x]::xs) (Ub s t s' t' su sc rw rd ch ir ic sp hd++u) H N): ∃u,LT u∧lF m K xs (Ub s t s' t' su sc rw rd ch ir ic sp hd++u) H N:=
  let⟨_,ht,h⟩:=q
  hJ hi (Nz B i hi x e).2 ((hf i hi).imp id λz=>⟨Bool.eq_false_iff.mpr z.1,z.2⟩) ht h
 exact g 6 (by decide) _ rfl (g 5 (by decide) _ rfl (g 4 (by decide) _ rfl (g 3 (by decide) _ rfl (g 2 (by decide) _ rfl (g 1 (by decide) _ rfl (g 0 (by decide) _ rfl ⟨[],.inl rfl,h⟩))))))
end
theorem XD:DF .Mult (.list [.str (nm "refused")]) (.int 2)=some (.list [.str (nm "refused"),.str (nm "refused")]):=id rfl
section
variable{m:Nat}{s t s' t':St}{sc rw rd ch ir ic sp hd:AV}{H:AH}
noncomputable abbrev qJ(sc rw rd ch ir ic:AV):AJ:=[(57,sc),(59,.ref 0),(26,rw),(27,rd),(71,ch),(31,ir),(72,ic)]
theorem oP{l:List Int}:(∀n∈l,0≤n∧n<16)→∀K:List AV→AH→Prop,Ex (λr H K=>tT m [.un .Not (.cmp (qI 0) [.LtE,.Lt] [qV 23,qI 16])] r H K) (λr H K=>tE m (qV 23) r H K tX) (.name 23) (qJ sc rw rd ch ir ic) (l.map .int) H K→K [] H:=by
 induction l with
 |nil=>exactλ_ _ k=>k
 |cons n r e=>exactλh K k=>e (λn q=>h n (.tail _ q)) K (k .tt (h n (.head _)).1 .tt (h n (.head _)).2)
noncomputable abbrev BE(s t s' t':St)(sc rw rd ch ir ic sp hd:AV):AJ:=[(57,sc),(59,.ref 0),(26,rw),(27,rd),(71,ch),(31,ir),(72,ic),(41,Ae 1),(40,Ae 5),(11,sp),(78,.list [Dg s,Dg t]),(77,hd),(79,.list [Dg s',Dg t'])]
theorem lO{l:List Int}:(∀n∈l,(0≤n∧n<16)∧s'.regs n=t'.regs n)→∀K:List AV→AH→Prop,Ex (λr H K=>tT m [.cmp (.sub (.sub (.sub (qV 79) (qI 0)) (qI 0)) (qV 23)) [.NotEq] [.sub (.sub (.sub (qV 79) (qI 1)) (qI 0)) (qV 23)]] r H K) (λr H K=>tE m (qV 23) r H K tX) (.name 23) (BE s t s' t' sc rw rd ch ir ic sp hd) (l.map .int) H K→K [] H:=by
 induction l with
 |nil=>exactλ_ _ k=>k
 |cons n r e=>
  intro h K k
  have z:=h n (.head _)
  exact e (λn q=>h n (.tail _ q)) K (k .at .at .dem _ (Gy z.1.1 z.1.2) .at .at .dem _ (Gy z.1.1 z.1.2) .ff z.2)
noncomputable def rE:List (ES Nat):=Ly.body.drop 13
theorem nI{a:Str}{l:List AV}{R Wm:Int}{u cf:Bool}{wl:List Str}{Mw M:Int}(F:Zo a l R Wm u cf wl Mw M){B:Option (Int×Int)}(I:dJ R Wm u Mw M B s t s' t'){N:AJ→AH→Prop}{K:AV→AH→Prop}{X:Str→AH→Prop}
  (k:Dz (m+23) rE (BE s t s' t' sc (AG a l) rd ch ir (.bool u) sp hd) H N K X):K (.bool true) H:=by
 obtain⟨su,hsu⟩: ∃su,NR su M:=F.smM.elim (λe=>⟨[],.inl ⟨rfl,e⟩⟩) λe=>⟨wl,e▸F.fm⟩
 have D:cmpA .NotEq (.tuple (Dk (A3 (nz s'.mem)))) (.tuple (Dk (A3 (nz t'.mem))))=some false:=I.me▸JB (Bc (n:=1) G2) (by decide)
 have k2:Dz (m+23) (Ly.body.drop 14) (BE s t s' t' sc (AG a l) rd ch ir (.bool u) sp hd) H N K X:=by
  cases u with
  |false=>exact k
  |true=>exact k .at .at .at .at .ff D
 obtain⟨J,_,h⟩:=gU (m:=m+23) (K:=K) (N:=λr H=>Dz (m+23) [.ret (.lit (.bool true))] r H N K X) hsu I.fe (k2 .call _ _ (F.sm (m+18) _) .call _ _ (rN hsu) _ sp_FLAG_NAMES .dem _ sF .at)
 exact h
end
noncomputable abbrev qU(s t:St)(sc rw rd ch ir ic sp:AV):AJ:=[(57,sc),(59,.ref 0),(26,rw),(27,rd),(71,ch),(31,ir),(72,ic),(41,Ae 1),(40,Ae 5),(11,sp),(78,.list [Dg s,Dg t])]
theorem nL{script:List Int}(U:script.length≤100000): ∃H',∀m,AB AA (m+24) (nm "law") [.list (script.map .int)] []=ok (.bool true) H':=by
 obtain⟨a,l,p1,hD,q1,hrow⟩:=lL (kJ (l:=script))
 obtain⟨R,Wm,ic,cf,wl,Mw,M,F,hic,J⟩:=hD.ok
 obtain⟨ir,hu⟩:=F.uses
 obtain⟨p2,s,t,sp,S,hst⟩:=VO F hD q1 (by decide)
 have hsp (m:Nat) (p:Pn) (t':St):AB AA (m+4) (nm "_law_spot") [Ae 1,AG a (l.map AP.av)] (hp p s t')=ok (kY sp) (hp p s t'):=S.spot.2.2 m (hp p s t') 1 s Dx rfl
 have B {m p} {x y:St} (hk:x.mem.length≤60):AB AA (m+4) (nm "State.told") [Ae 1] (hp p x y)=ok (Dg x) (hp p x y):=WO (H:=hp p x y) (b:=1) Dx hk
 have u {m p} {x y:St} (hk:y.mem.length≤60):AB AA (m+4) (nm "State.told") [Ae 5] (hp p x y)=ok (Dg y) (hp p x y):=WO (H:=hp p x y) (b:=5) Fy hk
 have ls:s.mem.length≤60:=u5 S.len (by decide)
 have lt:t.mem.length≤60:=S.two.m.symm▸ls
 have Z:Se (eM R Wm ic cf Mw M) s t:=⟨S.two.e,S.cfe,S.two.m⟩
 have hb: ∀n∈AZ R++AZ Wm,0≤n∧n<16:=λn hn=>(List.mem_append.mp hn).elim (Ms F.r16 n) (Ms F.w16 n)
 have Q:(AZ R++AZ Wm).length≤100:=u5 (vH wY) (u5 (dp Cp Cp) (by decide))
 have pre {m:Nat} (C:Mine.Internal.R AV→Prop) (k:Al (m+23) Ly [.list (script.map .int)] [] C):Dz (m+23) (Ly.body.drop 7) (qU s t (.list (script.map .int)) (AG a (l.map AP.av)) (.list ((AZ R).map .int)) (.list ((AZ Wm).map .int)) (.bool ir) (.bool ic) (kY sp)) (hp p2 s t) (λ_ H=>C (ok .none H)) (λv H=>C (ok v H)) (λc H=>C (some (.exc c H))):=
  k .call _ _ (pJ U) .call _ _ (hrow (m+14) [Zv (iX script)] (Nat.zero_lt_one)) .call _ _ (hu (m+16) _) .call _ _ PK .ff Ry .call _ _ PK .ff Ry _ (fG Cp Cp) .dem _ (Mz Q) .dem _ _ (λK=>oP hb K) .at .ff QC
   .call _ _ (hst (m+9)) .call _ _ (hsp (m+19) _ _) _ _ (ms_told (B ls)) _ _ (ms_told (u lt))
 rcases J s S.sok (S.s01 0)with hex|⟨N,hN,hrun⟩
 ·refine⟨hp p2 s t,λm=>?_⟩
  have j6:AB AA (m+23) (nm "_law_heard") [Ae 1,AG a (l.map AP.av)] (hp p2 s t)=ok (.str (nm "refused")) (hp p2 s t):=PV (hex (m+2) (hp p2 s t) 1 s Dx S.sok Oh)
  have O:AB AA (m+23) (nm "_law_heard") [Ae 5,AG a (l.map AP.av)] (hp p2 s t)=ok (.str (nm "refused")) (hp p2 s t):=PV (hex (m+2) (hp p2 s t) 5 t Fy S.tok Z)
  have heq:cmpA .Eq (.list [.str (nm "refused"),.str (nm "refused")]) (.list [.str (nm "refused"),.str (nm "refused")])=some true:=by kernel_rfl!
  exact cq dG λC k=>pre C k .call _ _ j6 .call _ _ O _ _ (ms_told (B ls)) _ _ (ms_told (u lt)) _ XD .tt heq .tt (Mu (HU (n:=10) (BW Sx (BW Sx JP))) (by decide))
 ·have D:=XW (sp:=sp) hN S.two S.len (λh=>S.spot.1 s rfl (hic h)) (λh=>by
   obtain⟨o,r,e,hm⟩:=hic h
   cases o with
   |reg=>cases hm
   |imm=>cases hm
   |mem p q sc d z=>
    by_cases I:a∈GS
    ·obtain⟨o1,o2,e2,_,_⟩:=hD.bt I
     rw[e] at e2
     have e3:=(wF e2).2
     subst e3
     exact⟨_,_,by rw[e];exact if_pos I⟩
    ·exact⟨_,_,by rw[e];exact FT I rfl⟩) (λx hx=>by
   obtain⟨x0,x1,xw⟩:=S.spot.2.1 x hx
   exact⟨x0,x1,by rcases xw with h|h|h|h<;>rw[h]<;>decide,by rcases xw with h|h|h|h<;>rw[h]<;>decide⟩)
  refine⟨hp p2 (N.app s) (N.app t),λm=>?_⟩
  have l2:(N.app t).mem.length≤60:=D.me▸D.l1
  have j6:AB AA (m+23) (nm "_law_heard") [Ae 1,AG a (l.map AP.av)] (hp p2 s t)=ok (.bool true) (hp p2 (N.app s) t):=Os (hrun (m+2) (hp p2 s t) 1 s Dx S.sok Oh)
  have O:AB AA (m+23) (nm "_law_heard") [Ae 5,AG a (l.map AP.av)] (hp p2 (N.app s) t)=ok (.bool true) (hp p2 (N.app s) (N.app t)):=Os (hrun (m+2) (hp p2 (N.app s) t) 5 t Fy S.tok Z)
  have hne:cmpA .Eq (.list [.bool true,.bool true]) (.list [.str (nm "refused"),.str (nm "refused")])=some false:=by kernel_rfl!
  have Y:cmpA .NotEq (.list [.bool true,.bool true]) (.list [.bool true,.bool true])=some false:=by kernel_rfl!
  exact cq dG λC k=>nI (m:=m) (K:=λv H=>C (ok v H)) F D (pre C k .call _ _ j6 .call _ _ O _ _ (ms_told (B D.l1)) _ _ (ms_told (u l2)) _ XD .ff hne .ff Y
   .at .at .call _ _ (YQ (m:=m+14) F ls D.l1 D.k1) .at .at .call _ _ (YQ (m:=m+14) F lt l2 D.k2) .dem _ (Mz (u5 Cp (by decide))) .dem _ _ (λK=>lO (λn hn=>⟨Ms F.w16 n hn,D.e n hn⟩) K) .at .ff QC)
end Mine.Internal
namespace Mine.Internal
open PySem PySem.W PyProof.Rows
theorem Sc:(defOf qL (nm "law")).isSome=true:=by kernel_rfl
noncomputable def Ya:DefRec×List (Str×Expr):=((defOf qL (nm "law")).get Sc)
theorem h_def:defOf qL (nm "law")=some (Ya.1,Ya.2):=(Option.some_get Sc).symm
noncomputable def YP(w:World)(h:Heap):Prop:=∀a o,(hZ w.params).get? a=some o→h.get? a=some o
theorem Le{R:WRecords}{X:Cx}{W:Wd}{P:wR}{h:Heap}: ∀{xs:List WData} {vs:List Value},WShape.hasItems R xs .int=true→WellAll P h vs xs→∃l:List Int,xs=l.map WData.int∧AN X W (l.map AV.int) vs
 | [],_,_,w=>by
  cases w
  exact⟨[],rfl,.nil⟩
 |x::xs,_,e,w=>by
  obtain⟨v,vs',rfl,u,w2⟩:=na w
  have e:=Bool.and_eq_true_iff.mp e
  obtain⟨i,rfl⟩:=hasW_int e.1
  obtain⟨l,rfl,r⟩:=Le e.2 w2
  cases u
  exact⟨i::l,rfl,.cons (.int _ _) r⟩
theorem aB{h h':Heap}{a:Addr}{m u:Str→Option Value}(k: ∀o,h.get? a=some o→h'.get? a=some o)(x:h.Ns a m)(y:h'.Ns a u)(n:Str):m n=u n:=by
 obtain⟨o,es,ep,ho,hd,_,hm⟩:=x
 obtain⟨o',es',ep',ho',e,_,hm'⟩:=y
 have:=k o ho
 rw[ho'] at this
 cases this
 rw[hd] at e
 cases e
 rw[←hm,hm']
set_option backward.match.sparseCases true in
theorem bN{l:List WData}(h:WTm.holds PySem.Challenge.rw_nn0095_01.row.records PySem.Challenge.rw_nn0095_01.row.pre {args:=[.list l]}=true):l.length≤63:=by
 refine Int.ofNat_le.mp (Int.not_lt.mp λ(e:(63:Int)<(l.length:Int))=>?_)
 have h:(match(match(some (WData.bool (!decide ((63:Int)<((l.length:Nat):Int)))))with
    |some (.bool false)=>some (WData.bool false)
    |some (.bool true)=>some (WData.bool true)
    |_=>none)with
    |some (.bool true)=>true
    |_=>false)=true:=h
 rw[decide_eq_true e] at h
 cases h
set_option tactic.hygienic true in
theorem walk:WalkO qL lsL (λ_ _=>True) YP PySem.Challenge.rw_nn0095_01.row.toRowW Ya.1 Ya.2 (λf vs=>w8 f vs):=by
 intro w s₀ s₁ mg mb G Y a o pm cd doc dV kV ho hd Z hdf J u args vals as O S hrd B hlow
 obtain⟨hsh,hp⟩:=pre_splitW O
 obtain⟨d,r,rfl,h1,h2⟩:=hasAllW_cons hsh
 obtain rfl:=hasAllW_nil h2
 obtain⟨xs,rfl,h3⟩:=hasW_list h1
 obtain⟨v,vs',rfl,w1,w2⟩:=na B
 cases w2
 cases w1
 rename_i la lvs Q hlw
 let W:Wd:=⟨s₁,λ_=>False,[]⟩
 obtain⟨l,rfl,hl⟩:=Le (X:=NF w s₁.os) (W:=W) h3 hlw
 have I:l.length≤63:=vB (as:=l) WData.int▸bN hp
 have hg:gv (NF w s₁.os) (nm "law")=some (.ref a):=by
  rw[show Ya.1.name=nm "law" from defOf_name h_def] at J
  have:=aB (λo e=>Y _ o e) (mD w s₁.os).mg G.T.g (nm "law")
  unfold gv
  rw[this,J]
 have gd:Gd (NF w s₁.os) W []:=⟨u,rfl,λa o e=>⟨Y a o e,λh=>h⟩,dq,rfl,(λ_ h=>nomatch h),(λi _ _ h=>by cases i<;>cases h)⟩
 have ao:A9 (NF w s₁.os) W callerA 50:=⟨rfl,by decide,by decide,[],rfl,(λ_ h=>nomatch h)⟩
 obtain⟨H',hev⟩:=nL (script:=l) (u5 I (by decide))
 have D:=(kC w s₁.os 24).calls (by decide) gd ao (.cons (.list ⟨Q,λh=>h⟩ hl) .nil) hg
 have he:(Un AA 24).call (nm "law") [.list (l.map .int)] []=rok (.bool true) H':=hev 0
 rw[he] at D
 refine D _ _ λc W' x U hr=>?_
 cases hr
 refine⟨.inl ⟨_,.bool true,[],rfl,λ_=>rfl,ReadsW.bool true,?_,λ_=>⟨dq,λ_ hm=>(nomatch hm)⟩⟩,.of_keep λb o e=>?_,U.os,.of_eq U.gens⟩
 ·first|rfl|wrow_post
 ·rcases x.keep b o e (λh=>nomatch h) (λh=>h)with q|⟨_,q,_⟩
  ·exact q
  ·exact q.elim
end Mine.Internal
theorem PySem.Challenge.cw_nn0095_01_holds : PySem.Challenge.rw_nn0095_01.Holds := by
 refine PySem.W.holds_law Mine.Internal.said λsaid=>?_
 refine PySem.W.holds_open (q:=Mine.Internal.qL) (loose:=Mine.Internal.lsL) (XP:=λ_ _=>True) (YP:=Mine.Internal.YP) Mine.Internal.leftL
  (λw s e a o h=>by rw[←e] at h;exact h) (λw h h' y k a o e=>k a o (y a o e)) (λ_ _=>trivial) (λ_ _ _ _ _=>trivial)
  Mine.Internal.h_def (by kernel_rfl) (by kernel_rfl) (λs e=>PySem.W.recFacts_of (by kernel_rfl)) (by kernel_rfl) said (by kernel_rfl) ⟨rfl,rfl,rfl,rfl,rfl,by decide+kernel⟩ ?hw ?_
 case hw=>w_witness2
 exact Mine.Internal.walk
