import PyProof.Rows.All
import Wide.All
import OpenK.AllK
import Wide.FinOn
import Lean
import PySem.Challenge.RW_on0179_01
set_option Elab.async false
set_option linter.all false
set_option maxRecDepth 100000
set_option maxHeartbeats 4000000
set_option compiler.extract_closed false
set_option tactic.hygienic false
set_option genInjectivity false
set_option genSizeOf false
namespace Mine
open PySem PySem.W PyProof.Rows PySem.Calls
open _root_.Array renaming toList_append→K4,length_toList→O8,getElem?_eq_some_iff→Q9,getElem?_eq_getElem→R4,getElem?_eq_none→U4,forIn_toList→W7
open _root_.Bool renaming false_ne_true→q8,false_eq_true→C1,and_eq_true→D0,and_eq_true_iff→F8,not_eq_true'→Y5,not_true→Z2
open _root_.Classical renaming byContradiction→X7
open _root_.Eq renaming trans→E1,symm→G0
open _root_.ForInStep renaming yield→P9
open _root_.Function renaming comp_def→Q5
open _root_.Int renaming toNat_natCast→j7,toNat→l5,natAbs→u6,natCast_nonneg→F7,le_total→K6,ofNat_lt→P0,le_refl→R1,not_lt→S7,ofNat_le→T6,toNat_of_nonneg→V7,add_zero→V9,mul_nonneg→W6,one_mul→Y6
open _root_.List renaming getElem?_eq_getElem→b8,length_map→b9,getD_eq_getElem?_getD→c8,getElem?_eq_some_iff→c9,mem_singleton→j0,mem_of_getElem?→j8,getElem?_map→j9,length_append→lG,take_succ_eq_append_getElem→l7,mem_cons→l9,mem_map→m5,getElem_mem→m6,not_mem_nil→m8,map_append→n6,size_toArray→n7,all_eq_true→n9,map_cons→q7,mem_append→s6,mem_cons_of_mem→s7,mem_append_right→u5,append_nil→v7,mem_cons_self→v8,lookup_cons→v9,length_set→x6,pairwise_iff_getElem→x7,append_assoc→x8,length_cons→x9,take_length→z8,take_of_length_le→z9,mem_append_left→B0,flatMap_cons→C3,range→C4,mem_map_of_mem→C6,getLast?_eq_some_getLast→E2,getElem?_append_left→F0,length_take→F3,cons_ne_nil→F4,getElem?_append_right→F9,nodup_cons→G5,mem_filter→I0,zipWith→I1,forall_mem_cons→I3,length_range→I8,getLast?_eq_getElem?→J2,mem_or_eq_of_mem_set→J3,length_filter_le→J4,nodup_nil→J9,nodup_append→K1,range_succ→K2,length_pos_iff→K5,map_map→K8,filter_append→M4,replicate→M5,length_nil→N1,sum_cons→O5,getElem_of_mem→O6,getElem?_replicate→O9,find?_eq_none→P8,getElem?_zipWith→Q0,getElem?_eq_none→Q2,length_replicate→Q3,mem_flatMap→R2,any_eq_true→R3,mem_of_find?_eq_some→R5,getLastD_eq_getLast?→R7,map_congr_left→R9,flatMap_append→S2,rec→S3,find?_cons→S6,zip_cons_cons→S8,mem_filterMap→S9,filter_cons_of_neg→T5,any_eq_false→U3,map_inj_left→U5,length_singleton→U6,length_drop→U7,eq_nil_of_length_eq_zero→V3,forIn_cons→V4,length_zipWith→V8,idxOf_lt_length_of_mem→W5,take_succ→X3,getElem?_eq_none_iff→X8,drop_eq_getElem_cons→Y0,rel_of_pairwise_cons→Y4,filter→Y8,getElem_take→Z0,getElem?_set→Z1,any_cons→Z3,map_take→Z6
open _root_.List.cons renaming inj→V0
open _root_.Nat renaming le_of_ble_eq_true→b7,le_trans→g9,zero_lt_succ→n8,le_refl→r7,ne_of_gt→r9,zero_le→s8,lt_of_lt_of_le→u7,le_add_right→C2,lt_irrefl→C5,ne_of_lt→C7,not_lt→I4,le_of_eq→I5,lt_trans→I6,lt_succ_self→J5,le_of_lt→K7,succ_le_succ→M0,lt_of_le_of_lt→M1,le_succ_of_le→N2,le_succ→O0,pow_le_pow_right→R0,lt_succ_of_lt→U1,rec→U9,add_sub_cancel→X0,lt_or_gt_of_ne→X6
open _root_.Ne renaming symm→q9
open _root_.Option renaming none→b6,map_eq_some_iff→l8,map_some→I9,isSome_iff_exists→O2
open _root_.Option.some renaming inj→m9,injEq→Y7
open _root_.PyProof.Rows renaming entry_list_sort→V5,slot_list_sort→W2,args_list_sort→W3
open _root_.PySem renaming callWith_type→O7
open _root_.PySem.Builtin renaming bitAnd→Q8
open _root_.PySem.Builtin.Int renaming intBits→R8
open _root_.PySem.Builtin.List renaming listExtendWith→K9,listLengthHint→W4,listSameRef→Z5
open _root_.PySem.Builtin.Range renaming rangeSize→T4
open _root_.PySem.Builtin.SmallTypes renaming ownedTupleIsFree→G2,nextOf→M6
open _root_.PySem.Builtin.Str renaming occurrences→F6,partsBetween→O3
open _root_.PySem.Builtin.Tuple renaming tupleHashOf→J0
open _root_.PySem.Calls renaming spliced_cons→J6,evalArgs_plain→O1,spliced_nil→Q4,Name_function_global→W8
open _root_.PySem.Challenge renaming rw_on0179_01→u9
open _root_.PySem.Env renaming kindOf→W9,blockKind→Z4
open _root_.PySem.F renaming plain_extend_loop→J1,slot_list_getattribute→O4,slot_tuple_hash→T7,slot_zip_next→V6,args_str_split_2→X5,entry_extend_loop→Y3,entry_str_split→Y9
open _root_.PySem.Heap renaming get?_push_of_some→j6,lt_size→m7,get?_push_size→s9,size_push→A0,get?_update_self→G1,get?_update_other→P7,get?_update_ne→S0,SameBut→W0
open _root_.PySem.Heap.IsSliceOf renaming new→X4
open _root_.PySem.NameKind renaming free→F1,cell→S4
open _root_.PySem.Obj renaming mapSeq→D3
open _root_.PySem.PyData renaming canLayAll0→r8,depthAll→C0,canLay0→C8,strOk→F5,depth→G4,eqv→I7,int→J8,str→M3,tuple→P6,keyHash→Q6
open _root_.PySem.Str renaming ofString→bI,length_append→E0,length→I2,cps_append→K0
open _root_.PySem.Txt renaming split→J7,join→S5
open _root_.PySem.Value renaming ref→L0,none→Q7,type→T3,str→U8
open _root_.PySem.W renaming getL→U0
open _root_.True renaming intro→c7
section
open Lean
def qN(k:String)(a:Array Syntax):Syntax:=.node .none k.toName a
def qA(s:String):Syntax:=.atom .none s
def qP(k:String):String:="Lean.Parser.Tactic."++k
def qM(k:String):String:="Lean.Parser.Term."++k
def qS(a:Array Syntax):Syntax:=qN (qP "tacticSeq") #[qN (qP "tacticSeq1Indented") #[qN "null" (mkSepArray a (qA ";"))]]
def qY:Syntax:=qN (qM "hygienicLParen") #[qA "(",qN "hygieneInfo" #[.ident .none "".toRawSubstring .anonymous []]]
def qK(k:String)(a:Array Syntax):Syntax:=match k.front with
 |'{'=>qS a
 |'W'=>qN (qP "withReducible") #[qA "with_reducible",qS a]
 |'P'=>qN (qP "paren") #[qA "(",qS a,qA ")"]
 |'F'=>qN (qP "first") #[qA "first",qN "null" a]
 |'|'=>qN "group" #[qA "|",qS a]
 |'B'=>qN (qM "byTactic") #[qA "by",qS a]
 |'$'=>qN (qM "app") #[a[0]!,qN "null" (a.extract 1 a.size)]
 |'p'=>qN (qM "paren") #[qY,a[0]!,qA ")"]
 |'a'=>qN (qM "typeAscription") #[qY,a[0]!,qA ":",qN "null" #[a[1]!],qA ")"]
 |_=>qN (k.drop 1).toString a
def qL(d:List (String×Array Syntax))(s:Syntax):List (String×Array Syntax):=match d with
 |[]=>[]
 |(k,a)::r=>(k,a.push s)::r
def qI(n:Name):Syntax:=.ident .none n.toString.toRawSubstring n []
def qW(q:Name)(m:Nat)(g:Syntax)(d:List (String×Array Syntax))(w:String):List (String×Array Syntax):=
 let x:=(w.drop 1).toString
 match w.front with
  |'T'=>("-"++qP x,#[])::d
  |'M'=>("-"++qM x,#[])::d
  |'N'=>("-"++x,#[])::d
  |'['=>("-"++qP x,#[qA x])::d
  |')'=>match d with
   |(k,a)::r=>qL r (qK k a)
   |[]=>[]
  |'\''=>qL d (qA x)
  |'"'=>qL d (qN "str" #[qA w])
  |'@'=>qL d (qN "PySem.W.tacticKtn_no_" #[qA "ktn_no",qN "str" #[qA ("\""++x++"\"")]])
  |'!'=>qL d (qI (addMacroScope q x.toName m))
  |'~'=>qL d (qI x.toName)
  |'#'=>qL d g[1]
  |'%'=>qL d g
  |'_'=>qL d (qN (qM "hole") #[qA w])
  |'?'=>qL d (qN (qM "syntheticHole") #[qA w,qA "_"])
  |'A'=>qL d (qN (qP "assumption") #[qA w])
  |'K'=>qL d (qN "tacticKernel_rfl" #[qA w])
  |_=>(w,#[])::d
def qZ(q:Name)(m:Nat)(g:Syntax)(s:String):Syntax:=match(s.splitOn " ").foldl (qW q m g) [("",#[])] with
 |(_,a)::_=>a[0]!
 |_=>.missing
def qR(s:String):MacroM Syntax:=fun c e=>.ok (qZ c.quotContext c.currMacroScope .missing s) e
def A1:Syntax:=qZ .anonymous 0 .missing "{ Tintros 'intros Nnull ) ) TwithUnfoldingAll 'with_unfolding_all { TtacticRfl 'rfl ) ) ) )"
def A2:Syntax:=qZ .anonymous 0 .missing "{ TtacticTrivial 'trivial ) )"
def A3:Syntax:=qZ .anonymous 0 .missing "{ K )"
def Cf(_:Nat)(b:Bool):Int:=cond b 0 1
theorem jq{b:Bool}(h:Cf (#[]:Array Nat).size b=0):b=true:=by
 cases b with
 |false=>exact absurd h (fun h:(1:Int)=0=>absurd h (by decide))
 |true=>rfl
theorem Nr{b:Bool}(h:Cf (#[]:Array Nat).size (!b)=0):¬b=true:=Bool.eq_false_iff.mp (Y5 _ |>.mp (jq h))
theorem dk{p:Prop}[Decidable p](h:Cf (#[]:Array Nat).size (decide p)=0):p:=of_decide_eq_true (jq h)
@[elab_as_elim] theorem rwE{α:Sort _}{a b:α}{motive:α→Prop}(h:a=b)(x:motive b):motive a:=h▸x
@[elab_as_elim] theorem rwS{α:Sort _}{a b:α}{motive:α→Prop}(h:b=a)(x:motive b):motive a:=h▸x
end
local macro_rules |`(tactic|rw $s:rwRuleSeq)=>fun c e=>.ok (qK "P" ((s.raw[1].getSepArgs.map fun r=>qZ c.quotContext c.currMacroScope r ((cond (r[0].getNumArgs==0) "F | W [refine $ ~Mine.rwE # ? ) ) ) ) | W [refine $ ~Mine.rwE p $ # _ ) ) ? ) ) ) ) | W [refine $ ~Mine.rwE p $ # _ _ ) ) ? ) ) ) )" "F | W [refine $ ~Mine.rwS # ? ) ) ) )")++" | TrewriteSeq 'rewrite ToptConfig Nnull ) ) TrwRuleSeq '[ Nnull % ) '] ) Nnull ) ) ) )")).push (qZ c.quotContext c.currMacroScope .missing "TtacticTry_ 'try { W TtacticRfl 'rfl ) ) ) )"))) e
local macro_rules |`(tactic|ktn_no $s:str)=>match List.lookup s.getString [("lg",r#"F | W [exact ~LG.c0 ) ) ) | P P W [apply ~LG.sk ) ) ) @lg ) ) )"#),("ls",r#"F | W [exact ~LS.c0 ) ) ) | P P W [apply ~LS.sk ) ) ) @ls ) ) )"#),("lf",r#"F | W [exact ~LS.nil ) ) ) | W [exact ~LS.c0 ) ) ) | P P W [apply ~LS.sk ) ) ) @lf ) ) )"#),("get",r#"P [apply a MsyntheticHole '? !wf ) $ ~afr _ _ _ ) ) ) P [focus { P @lg ) ) ) ) [exact Mfun 'fun MbasicFun Nnull _ ) Nnull ) '=> B K ) ) ) ) )"#),("li",r#"F | W [exact ~LI.c0 ) ) ) | P P W [apply ~LI.sk ) ) ) @li ) ) )"#),("gi",r#"P [apply a MsyntheticHole '? !wf ) $ ~afv _ _ _ _ ) ) ) P [focus { P @li ) ) ) ) TwithUnfoldingAll 'with_unfolding_all { [exact Mfun 'fun MbasicFun Nnull _ ) Nnull ) '=> ~rfl ) ) ) ) ) )"#),("set",r#"P [apply a MsyntheticHole '? !wf ) $ ~aft _ _ _ _ ) ) ) P [focus { P @ls ) ) ) ) [exact Mfun 'fun MbasicFun Nnull _ ) Nnull ) '=> B K ) ) ) ) )"#),("fget",r#"P [apply a MsyntheticHole '? !wf ) $ ~afs _ _ _ ) ) ) P [focus { P @lg ) ) ) ) [exact Mfun 'fun MbasicFun Nnull _ ) Nnull ) '=> B K ) ) ) ) )"#),("fput",r#"P [apply a MsyntheticHole '? !wf ) $ ~afu _ _ _ _ ) ) ) P [focus { P @lf ) ) ) ) [exact Mfun 'fun MbasicFun Nnull _ ) Nnull ) '=> B K ) ) ) ) )"#),("nl",r#"P [apply a MsyntheticHole '? !wf ) $ ~afw _ _ _ ) ) ) P [focus { P @lg ) ) ) ) [exact Mfun 'fun MbasicFun Nnull _ ) Nnull ) '=> B K ) ) ) ) )"#),("nv",r#"F | [exact $ ~Nm.gl p $ ~glK p B A ) ) p B @nl ) ) p B W [constructor ) ) ) ) ) ) ) ) ) | [exact $ ~Nm.bi p $ ~Ng p B A ) ) p B @nl ) ) ) ) ) ) ) | [exact $ ~Nm.ty p $ ~Ng p B A ) ) p B @nl ) ) ) ) ) ) ) | W F | [exact $ ~Nm.gl p $ ~DA p B A ) ) ) ) ) ) ) | [exact $ ~Nm.gl p $ ~yF p B A ) ) ) ) ) ) ) | [exact $ ~Nm.gl p $ ~DB p B A ) ) ) ) ) ) ) ) ) ) )"#),("keep",r#"F | P W F | [exact $ ~eS.bi _ ) ) ) | [exact $ ~eS.ty _ ) ) ) ) ) ) ) | [exact $ ~KpI p B A ) ) p B NPySem.W.tacticKun_count 'kun_count ) ) ) ) ) ) )"#),("name",r#"F | [refine $ ~Ev.l p B @gi ) ) ? p B NPySem.W.tacticKun_count 'kun_count ) ) ) ) ) ) | [refine $ ~Ev.g p B @nv ) ) ? p B NPySem.W.tacticKun_count 'kun_count ) ) ) ) ) ) )"#),("fun",r#"W F | [refine ManonymousCtor '⟨ Nnull _ ', $ MdotIdent '. ~bi ) _ ) ', B @keep ) ', ? ) '⟩ ) ) ) | [refine ManonymousCtor '⟨ Nnull _ ', $ MdotIdent '. ~ty ) _ ) ', B @keep ) ', ? ) '⟩ ) ) ) | [refine ManonymousCtor '⟨ Nnull _ ', $ MdotIdent '. ~ref ) _ ) ', B @keep ) ', ? ) '⟩ ) ) ) ) )"#),("ev",r#"W F | P P [refine a ? $ ~Ev _ _ _ p $ ~Expr.Name _ _ ) ) _ _ _ ) ) ) ) @name ) ) | [refine $ ~Ev.int ? ) ) ) | [refine $ ~Ev.ad9 ? ) ) ) | [refine $ ~Ev.none ? ) ) ) | [refine $ ~Ev.bool ? ) ) ) | [refine $ ~Ev.attr ? ) ) ) | [refine $ ~Ev.Lh ? ) ) ) | [refine $ ~Ev.P_ ? ) ) ) | [refine $ ~Ev.Lg ? ) ) ) | [refine $ ~Ev.PY ? ) ) ) | [refine $ ~Ev.Lr ? ) ) ) | [refine $ ~Ev.sliceTo ? ) ) ) | [refine $ ~Ev.sliceFrom ? ) ) ) | [refine $ ~Ev.sub ? ) ) ) | [refine $ ~Ev.bin ? ) ) ) | [refine $ ~Ev.un ? ) ) ) | [refine $ ~Ev.cmp ? ) ) ) | [refine $ ~Ev.Lu ? ) ) ) | [refine $ ~Ev.aeN ? ) ) ) | [refine $ ~Ev.or2 ? ) ) ) | [refine $ ~Ev.ite ? ) ) ) | [refine $ ~Ev.list ? ) ) ) | [refine $ ~Ev.tup ? ) ) ) ) )"#),("ex",r#"F | W F | [refine $ ~Ex.ae2 ? ) ) ) | [refine $ ~Ex.ad_ ? ) ) ) | [refine $ ~Ex.ite ? ) ) ) | [refine $ ~Ex.CM ? ) ) ) | [refine $ ~Ex.Lq ? ) ) ) | [refine $ ~Ex.cont ? ) ) ) | P P W [refine a ? $ ~Ex _ _ _ p $ ~Stmt.Assign N«term[_]» '[ Nnull $ ~Expr.Name _ _ ) ) '] ) _ _ ) ) _ _ _ ) ) ) ) ) W F | [refine $ ~Ex.qG p B @get ) ) p B A ) ) p B A ) ) ? ) ) ) | [refine $ ~Ex.afx p B NPySem.W.tacticKun_count 'kun_count ) ) ) p B A ) ) ? ) ) ) ) ) ) ) | P P W [refine a ? $ ~Ex _ _ _ p $ ~Stmt.Expr _ _ ) ) _ _ _ ) ) ) ) ) W [refine $ ~Ex.expr ? p $ ~qt p B A ) ) ) ) ) ) ) ) ) ) ) ) )"#),("tr",r#"W F | [refine $ ~Tr.not ? ) ) ) | [refine $ ~Tr.K_ ? ) ) ) | [refine $ ~Tr.cmp ? ) ) ) | [refine $ ~Tr.Lu ? ) ) ) | [refine $ ~Tr.val ? ) ) ) ) )"#),("s",r#"P F | P P W [refine a ? $ ~Ev _ _ _ _ _ _ _ ) ) ) ) ) @ev ) ) | P P W [refine a ? $ ~uC _ _ _ N«term[_]» '[ Nnull _ ) '] ) _ _ _ _ ) ) ) ) ) W [refine $ ~uC.one ? ) ) ) ) ) | P P W [refine a ? $ ~uC _ _ _ p N«term_::_» _ ':: _ ) ) _ _ _ _ ) ) ) ) ) W [refine $ ~uC.cons ? ) ) ) ) ) | P P W [refine a ? $ ~aG _ _ _ N«term[_]» '[ Nnull _ ) '] ) _ _ _ ) ) ) ) ) W P P TtacticTry_ 'try { [refine $ ~aG.cD p B @set ) ) ? ) ) ) ) ) [refine $ ~aG.one ? ) ) ) ) ) ) | P P W [refine a ? $ ~aG _ _ _ p N«term_::_» _ ':: _ ) ) _ _ _ ) ) ) ) ) W P P TtacticTry_ 'try { [refine $ ~aG.cD p B @set ) ) ? ) ) ) ) ) [refine $ ~aG.cons ? ) ) ) ) ) ) | P P W [refine a ? $ ~Ex _ _ _ _ _ _ _ ) ) ) ) ) @ex ) ) | P P W [refine a ? $ ~Tr _ _ _ _ _ _ _ ) ) ) ) ) @tr ) ) | W F | [refine $ ~uC.nil ? ) ) ) | [refine $ ~aG.nil ? ) ) ) | [refine $ ~gh.La ? ) ) ) | [refine $ ~gh.PX ? ) ) ) | [refine $ ~gh.and ? ) ) ) | [refine $ ~gh.or ? ) ) ) | P P W F | [refine a ? $ ~CI _ _ _ _ _ ) ) ) ) | [refine a ? $ ~Le _ _ _ _ _ _ _ _ _ ) ) ) ) ) ) ) @fun ) ) ) ) ) ) )"#),("at",r#"[exact $ ~atA p B A ) ) p B NPySem.W.tacticKun_count 'kun_count ) ) ) ) )"#),("st",r#"[exact $ ~stK p B A ) ) p B NPySem.W.tacticKun_count 'kun_count ) ) ) ) )"#),("H",r#"F | A ) | [exact $ ~AH.aq _ _ _ ) ) ) | [exact $ Mproj p $ ~aA p B A ) ) ) ) '. ~trans ) p B A ) ) ) ) ) | [exact $ Mproj p $ ~aA p $ ~Ne.symm p B A ) ) ) ) ) ) '. ~trans ) p B A ) ) ) ) ) )"#),("attr",r#"P P W [refine a ? $ ~zG _ _ _ _ _ ) ) ) ) ) [refine $ ~atQ p B A ) ) p B @H ) ) p B @gi ) ) ? p B NPySem.W.tacticKun_count 'kun_count ) ) ) ) ) )"#),("gm",r#"F | P W F | [exact ~Dc ) ) | [exact ~A_ ) ) ) ) ) ) | P P W [refine a ? $ ~fR _ _ p $ ~Str.ofString "append" ) ) _ _ _ ) ) ) ) ) [exact $ ~yj p B @H ) ) ) ) ) ) | P P W [refine a ? $ ~fR _ _ p $ ~Str.ofString "extend" ) ) _ _ _ ) ) ) ) ) [exact $ ~yl p B @H ) ) ) ) ) ) | P P W [refine a ? $ ~fR _ _ p $ ~Str.ofString "pop" ) ) _ _ _ ) ) ) ) ) [exact $ ~GA p B @H ) ) ) ) ) ) | P P W [refine a ? $ ~fR _ _ p $ ~Str.ofString "get" ) ) _ _ _ ) ) ) ) ) [exact $ ~GC p B @H ) ) ) ) ) ) | [exact $ ~gmK p B A ) ) p B @nl ) ) p B @H ) ) p B NPySem.W.tacticKun_count 'kun_count ) ) ) ) ) ) )"#),("meth",r#"[refine ManonymousCtor '⟨ Nnull _ ', _ ', B @gm ) ', B @keep ) ', ? ) '⟩ ) )"#),("if",r#"W F | [refine $ ~Bh ~rfl ? ) ) ) | [refine $ ~wL ~Bool.false_ne_true ? ) ) ) ) )"#),("go",r#"P TtacticRepeat_ 'repeat { P F | @s ) | @attr ) | @if ) ) ) ) ) )"#),("dk",r#"P TfailIfSuccess 'fail_if_success { P TfailIfSuccess 'fail_if_success { P [decide ToptConfig Nnull TconfigItem TposConfigItem '+ ~kernel ) ) ) ) ) ) ) ) ) ) ) )"#),("yp",r#"F | P W TtacticRfl 'rfl ) ) ) ) | A ) | P @dk [exact $ ~jq p B NPySem.W.tacticKun_count 'kun_count ) ) ) ) ) ) ) | [exact ~rfl ) ) | P [simp ToptConfig Nnull ) ) Nnull ) Nnull ) Nnull ) Nnull ) ) [done ) ) ) | P [simp ToptConfig Nnull ) ) Nnull ) Nnull ) Nnull ) Nnull ) ) [omega ToptConfig Nnull ) ) ) ) ) | P TsimpAll 'simp_all ToptConfig Nnull ) ) Nnull ) Nnull ) Nnull ) ) [done ) ) ) )"#),("np",r#"F | A ) | P @dk [exact $ ~Nr p B NPySem.W.tacticKun_count 'kun_count ) ) ) ) ) ) ) | [exact ~Bool.false_ne_true ) ) | P [simp ToptConfig Nnull ) ) Nnull ) Nnull ) Nnull ) Nnull ) ) [done ) ) ) | P [simp ToptConfig Nnull ) ) Nnull ) Nnull ) Nnull ) Nnull ) ) [omega ToptConfig Nnull ) ) ) ) ) | P TsimpAll 'simp_all ToptConfig Nnull ) ) Nnull ) Nnull ) Nnull ) ) [done ) ) ) )"#),("bq",r#"F | P P W [refine a ? $ ~KW _ _ _ _ _ ) ) ) ) ) [refine $ ~KW.bool ? ) ) ) ) | P P W [refine a ? $ ~bV _ _ _ ) ) ) ) ) [refine ManonymousCtor '⟨ Nnull _ ', ~rfl ', ? ) '⟩ ) ) ) ) | [skip ) ) )"#),("yes",r#"P @bq P F | P P W [refine $ ~Bh ? ? ) ) ) ) [focus { P @yp ) ) ) ) ) | TrwSeq 'rw ToptConfig Nnull ) ) TrwRuleSeq '[ Nnull TrwRule Nnull ) $ ~if_pos p B @yp ) ) ) ) ) '] ) Nnull ) ) ) ) ) P TtacticTry_ 'try { @go ) ) ) )"#),("no",r#"P @bq P F | P P W [refine $ ~wL ? ? ) ) ) ) [focus { P @np ) ) ) ) ) | TrwSeq 'rw ToptConfig Nnull ) ) TrwRuleSeq '[ Nnull TrwRule Nnull ) $ ~if_neg p B @np ) ) ) ) ) '] ) Nnull ) ) ) ) ) P TtacticTry_ 'try { @go ) ) ) )"#),("wl",r#"F | W [exact ~tO.nil ) ) ) | P P W [apply ~tO.glob ) ) ) @wl ) ) | P P W [apply ~tO.und ) ) ) @wl ) ) | P P W [apply ~tO.hit ) ) ) P [focus { P @dk [exact $ ~dk p B NPySem.W.tacticKun_count 'kun_count ) ) ) ) ) ) ) ) ) @wl ) ) | P P W [apply ~tO.miss ) ) ) P [focus { P @dk [exact $ ~dk p B NPySem.W.tacticKun_count 'kun_count ) ) ) ) ) ) ) ) ) @wl ) ) )"#),("wk",r#"P [apply a MsyntheticHole '? !wf ) $ ~ae_ _ _ _ ) ) ) P [focus { P @wl ) ) ) ) [exact Mfun 'fun MbasicFun Nnull _ ) Nnull ) '=> B K ) ) ) ) )"#),("nm",r#"F | W [exact ~MT.nil ) ) ) | P P W [apply ~MT.cons ) ) ) @nm ) ) )"#),("sl",r#"F | W [exact ~Jc.nil ) ) ) | P P W [apply ~Jc.cons ) ) ) P [focus { P @set ) ) ) ) @sl ) ) )"#),("sx",r#"P [apply a MsyntheticHole '? !wf ) $ ~afa _ _ _ _ ) ) ) P [focus { P @sl ) ) ) ) [exact Mfun 'fun MbasicFun Nnull _ ) Nnull ) '=> B K ) ) ) ) )"#)] with|some t=>qR t|_=>Lean.Macro.throwUnsupported
local macro_rules | `(!$x) => fun c e => .ok (qZ c.quotContext c.currMacroScope x "B [exact % ) )") e
local macro_rules | `(tactic| lk) => qR "@go"
local macro_rules | `(#[$x,*]) => if x.getElems.size == 0 then Lean.Macro.throwUnsupported else `(⟨$x,*⟩)
local macro_rules | `($n:name) => match n.getName.toString with | "k" => qR "B K )" | "d" => qR "$ ~Mine.dk p B NPySem.W.tacticKun_count 'kun_count ) ) ) )" | "e" => qR "$ ~Mine.dk p B NPySem.W.tacticKun_count 'kun_count ) ) ) )" | "a" => qR "B A )" | s => qR ("B @" ++ s ++ " )")
section
set_option maxHeartbeats 0
noncomputable abbrev pw:Program:=PySem.Challenge.pw_on0179_01
noncomputable def dS:Stmt:=.Pass #[0,0,0,0]
noncomputable def tS(i:Nat):Stmt:=(pw.main.body[i]?).getD dS
noncomputable def mS(i j:Nat):Stmt:=match tS i with
 | .ClassDef _ _ _ b _ _ _ _ _ _ _=>(b[j]?).getD dS
 |_=>dS
noncomputable def fP:Stmt->Arguments
 | .FunctionDef _ a _ _ _ _ _ _ _ _=>a
 |_=>#[[],[],none,[],[],none,[]]
noncomputable def fB:Stmt->List Stmt
 | .FunctionDef _ _ b _ _ _ _ _ _ _=>b
 |_=>[]
noncomputable def fS:Stmt->Scope
 | .FunctionDef _ _ _ _ _ _ s _ _ _=>s
 |_=>#[.function,[],false,false,[]]
noncomputable def de(P:Params)(x:Str)(t:Tok)(v:Value):DictEntry:=#[Q6 P x,.str x t,v]
noncomputable def BZ:Value:=.str "grammarmill.source" 194
noncomputable def kQ1:Value:=.str "grammarmill.tables" 551
noncomputable def sG:Value:=.str "grammarmill.packing" 695
noncomputable def TA:Value:=.str "grammarmill.codes" 1083
noncomputable def vG:Value:=.str "grammarmill.lines" 1126
noncomputable def Fy:Value:=.str "grammarmill.texts" 1331
noncomputable def B_:Value:=.str "law_on0179_01" 1443
noncomputable def kX(a:Nat)(n q:Str)(s:Stmt)(t:Nat)(l:Int)(i:Int)(r:Nat)(b:Bool)(x:Nat)(d m:Value)(f:Frag):Frag:=
 (a,#[.type "code",none,.fields (List.toArray [.str n t,.str q (t+1),.str "/claim/cut.py" (t+2),.int l 0,.int i 0,.int 0 0,.int 0 0,.int 3 0,.ref r,.bool true,.int 181 0,.ref (r+1),.none,cond b (.ref (r+2)) .none,cond b (.ref (r+3)) .none,.ref (cond b (r+4) (r+2)),.int x 0,.int l 0,.str "/claim/cut.py" (x+1)]),#[]])::
 (a+1,#[.type "function",none,.func (fnOf n q (fP s) (fB s) (fS s) d .none .none m none (.ref a) .none),#[]])::f
noncomputable def KK(P:Params):Frag:=List.append [
 (3,#[(.type "dict"),none,.dict [de P "__name__" 165 (.str "law_on0179_01" 1443),de P "__doc__" 166 .none,de P "__package__" 167 .none,de P "__loader__" 168 (.builtin "__main__.__loader__#opaque"),de P "__spec__" 169 .none,de P "__annotations__" 170 (.ref 6),de P "__builtins__" 171 (.ref 4),de P "__file__" 173 (.str "/claim/cut.py" 172),de P "__cached__" 174 .none,de P "_wall" 193 (.ref 21),de P "SMALL" 197 (.str "abcdefghijklmnopqrstuvwxyz" 196),de P "LETTERS" 200 (.str "abcdefghijklmnopqrstuvwxyzABCDEFGHIJKLMNOPQRSTUVWXYZ" 199),de P "FIGURES" 202 (.str "0123456789" 201),de P "NAME_SIGNS" 206 (.str "abcdefghijklmnopqrstuvwxyzABCDEFGHIJKLMNOPQRSTUVWXYZ_0123456789" 205),de P "HEX_SIGNS" 209 (.str "0123456789abcdefABCDEF" 208),de P "OCTAL_SIGNS" 211 (.str "01234567" 210),de P "MOST_FIGURES_source" 213 (.int 4000 212),de P "PLAIN_ESCAPES" 235 (.ref 22),de P "Position" 275 (.ref 46),de P "position_of" 287 (.ref 57),de P "ToolError" 325 (.ref 82),de P "ActionError" 341 (.ref 95),de P "TableError" 357 (.ref 107),de P "Cursor" 517 (.ref 234),de P "hex_escape" 525 (.ref 245),de P "escaped_sign" 534 (.ref 252),de P "escaped" 540 (.ref 257),de P "bits" 550 (.ref 264),de P "ACCEPT" 556 (.int 1048576 555),de P "BARRED" 561 (.int (-1048576) 560),de P "UNDEFINED" 563 (.int 2 562),de P "Tables" 694 (.ref 358),de P "row_key" 702 (.ref 367),de P "owners_of" 713 (.ref 374),de P "packing_order" 719 (.ref 379),de P "Comb" 795 (.ref 431),de P "pack_rows" 801 (.ref 440),de P "look_up" 814 (.ref 447),de P "PackedRows" 910 (.ref 511),de P "packed_rows" 920 (.ref 522),de P "PackedTables" 1002 (.ref 567),de P "WORDS" 1008 (.ref 570),de P "LEVELS" 1048 (.ref 571),de P "FUNCTIONS" 1082 (.ref 572),de P "LEAVING" 1088 (.ref 573),de P "JUMPS" 1092 (.ref 574),de P "goals_behind" 1102 (.ref 581),de P "taken_and_put" 1110 (.ref 588),de P "is_pair" 1119 (.ref 595),de P "check_code" 1125 (.ref 600),de P "MOST_DEPTH" 1129 (.int 2 1128),de P "MOST_FIGURES_lines" 1131 (.int 160 1130),de P "show_item" 1137 (.ref 605),de P "LineWriter" 1179 (.ref 634),de P "LineReader" 1330 (.ref 748),de P "PARSER_HEAD" 1334 (.str "grammarmill parser 1" 1333),de P "FIRST_NAMES" 1338 (.ref 753),de P "add_rows" 1347 (.ref 760),de P "read_rows" 1364 (.ref 768),de P "write_parser" 1373 (.ref 775),de P "read_frame" 1386 (.ref 782),de P "need_actions" 1401 (.ref 789),de P "need_gotos" 1415 (.ref 796),de P "need_code" 1425 (.ref 803),de P "read_parser" 1431 (.ref 808),de P "goto_pairs" 1442 (.ref 815),de P "_law_pen" 1450 (.ref 820),de P "_law_draw" 1463 (.ref 827),de P "_law_pick" 1471 (.ref 834),de P "_law_rules" 1484 (.ref 841),de P "_law_code" 1493 (.ref 848),de P "_law_parser" 1499 (.ref 853),de P "_law_parser_alike" 1516 (.ref 860),de P "_law_parts" 1522 (.ref 865),de P "_law_made" 1528 (.ref 870),de P "_law_turned" 1550 (.ref 877),de P "_law_holds" 1560 (.ref 884),de P "law" 1566 (.ref 889)].toArray 78,#[]]),(2,#[.none,none,.dict [de P "type.__subclasses__.Exception.0" 322 (.int 82 0),de P "type.__subclasses__.Exception.n" 323 (.int 1 0)].toArray 2,#[]]),(117,#[(.type "tuple"),none,.seq [(.int 0 370)].toArray 0,#[]]),(132,#[(.type "tuple"),none,.seq [(.int 0 387)].toArray 0,#[]]),(688,#[(.type "tuple"),none,.seq [(.int 0 1240)].toArray 0,#[]]),(710,#[(.type "tuple"),none,.seq [.none,.none,.none].toArray 0,#[]]),(761,#[(.type "tuple"),none,.seq [.none,.none].toArray 0,#[]]),(234,#[(.type "type"),none,.cls {name:="Cursor",bases:=[(.type "object")],mro:=[(.ref 234),(.type "object")],ns:=233,qualname:="Cursor",hasDict:=true,slotNames:=[],subclasses:=[],abstract:=false,collection:=none,hasDel:=false},[none,none,some (.str "Cursor" 358),some (.str "Cursor" 366),some (.builtin "object.__new__"),some (.bool true)].toArray]),(233,#[(.type "dict"),none,.dict [de P "__module__" 365 (.str "grammarmill.source" 194),de P "__firstlineno__" 369 (.int 46 368),de P "__init__" 379 (.ref 124),de P "is_done" 386 (.ref 131),de P "peek" 396 (.ref 139),de P "starts" 404 (.ref 146),de P "take" 412 (.ref 153),de P "skip" 420 (.ref 160),de P "take_while" 429 (.ref 167),de P "take_line" 436 (.ref 174),de P "skip_blanks" 445 (.ref 182),de P "name" 453 (.ref 189),de P "number" 462 (.ref 196),de P "position" 469 (.ref 203),de P "position_at" 477 (.ref 210),de P "coded" 489 (.ref 217),de P "escape" 497 (.ref 224),de P "quoted" 507 (.ref 231),de P "__static_attributes__" 510 (.ref 232),de P "__dict__" 512 (.ref 235),de P "__weakref__" 514 (.ref 236),de P "__doc__" 515 .none].toArray 4,#[]]),(358,#[(.type "type"),none,.cls {name:="Tables",bases:=[(.type "object")],mro:=[(.ref 358),(.type "object")],ns:=357,qualname:="Tables",hasDict:=true,slotNames:=[],subclasses:=[(.ref 567)],abstract:=false,collection:=none,hasDel:=false},[none,none,some (.str "Tables" 564),some (.str "Tables" 572),some (.builtin "object.__new__"),some (.bool true)].toArray]),(357,#[(.type "dict"),none,.dict [de P "__module__" 571 (.str "grammarmill.tables" 551),de P "__firstlineno__" 575 (.int 173 574),de P "__init__" 588 (.ref 278),de P "terminal" 596 (.ref 285),de P "left" 604 (.ref 292),de P "length" 612 (.ref 299),de P "before" 620 (.ref 306),de P "state_count" 627 (.ref 313),de P "explicit" 636 (.ref 320),de P "default" 644 (.ref 327),de P "goto" 653 (.ref 334),de P "action" 663 (.ref 341),de P "expected" 671 (.ref 348),de P "is_consistent" 679 (.ref 355),de P "__static_attributes__" 687 (.ref 356),de P "__dict__" 689 (.ref 359),de P "__weakref__" 691 (.ref 360),de P "__doc__" 692 .none].toArray 4,#[]]),(431,#[(.type "type"),none,.cls {name:="Comb",bases:=[(.type "object")],mro:=[(.ref 431),(.type "object")],ns:=430,qualname:="Comb",hasDict:=true,slotNames:=[],subclasses:=[],abstract:=false,collection:=none,hasDel:=false},[none,none,some (.str "Comb" 720),some (.str "Comb" 728),some (.builtin "object.__new__"),some (.bool true)].toArray]),(430,#[(.type "dict"),none,.dict [de P "__module__" 727 (.str "grammarmill.packing" 695),de P "__firstlineno__" 731 (.int 241 730),de P "__init__" 738 (.ref 393),de P "is_free" 746 (.ref 400),de P "fits" 756 (.ref 407),de P "first_fit" 765 (.ref 414),de P "grow" 773 (.ref 421),de P "put" 785 (.ref 428),de P "__static_attributes__" 788 (.ref 429),de P "__dict__" 790 (.ref 432),de P "__weakref__" 792 (.ref 433),de P "__doc__" 793 .none].toArray 4,#[]]),(511,#[(.type "type"),none,.cls {name:="PackedRows",bases:=[(.type "object")],mro:=[(.ref 511),(.type "object")],ns:=510,qualname:="PackedRows",hasDict:=true,slotNames:=[],subclasses:=[],abstract:=false,collection:=none,hasDel:=false},[none,none,some (.str "PackedRows" 815),some (.str "PackedRows" 823),some (.builtin "object.__new__"),some (.bool true)].toArray]),(510,#[(.type "dict"),none,.dict [de P "__module__" 822 (.str "grammarmill.packing" 695),de P "__firstlineno__" 826 (.int 287 825),de P "__init__" 837 (.ref 461),de P "get" 846 (.ref 468),de P "unpacked" 852 (.ref 473),de P "cell_count" 859 (.ref 480),de P "gaps" 866 (.ref 487),de P "flaw_of_rows" 876 (.ref 494),de P "flaw_of_cells" 886 (.ref 501),de P "flaw" 898 (.ref 508),de P "__static_attributes__" 903 (.ref 509),de P "__dict__" 905 (.ref 512),de P "__weakref__" 907 (.ref 513),de P "__doc__" 908 .none].toArray 4,#[]]),(567,#[(.type "type"),none,.cls {name:="PackedTables",bases:=[(.ref 358)],mro:=[(.ref 567),(.ref 358),(.type "object")],ns:=566,qualname:="PackedTables",hasDict:=true,slotNames:=[],subclasses:=[],abstract:=false,collection:=none,hasDel:=false},[some (.ref 523),none,some (.str "PackedTables" 921),some (.str "PackedTables" 929),some (.builtin "object.__new__"),some (.bool true)].toArray]),(566,#[(.type "dict"),none,.dict [de P "__module__" 928 (.str "grammarmill.packing" 695),de P "__firstlineno__" 932 (.int 352 931),de P "__init__" 950 (.ref 536),de P "state_count" 957 (.ref 543),de P "explicit" 967 (.ref 550),de P "goto" 978 (.ref 557),de P "cells" 985 (.ref 564),de P "__static_attributes__" 999 (.ref 565),de P "__doc__" 1000 .none].toArray 2,#[]]),(634,#[(.type "type"),none,.cls {name:="LineWriter",bases:=[(.type "object")],mro:=[(.ref 634),(.type "object")],ns:=633,qualname:="LineWriter",hasDict:=true,slotNames:=[],subclasses:=[],abstract:=false,collection:=none,hasDel:=false},[none,none,some (.str "LineWriter" 1138),some (.str "LineWriter" 1146),some (.builtin "object.__new__"),some (.bool true)].toArray]),(633,#[(.type "dict"),none,.dict [de P "__module__" 1145 (.str "grammarmill.lines" 1126),de P "__firstlineno__" 1149 (.int 470 1148),de P "__init__" 1157 (.ref 619),de P "add" 1163 (.ref 624),de P "text" 1170 (.ref 631),de P "__static_attributes__" 1172 (.ref 632),de P "__dict__" 1174 (.ref 635),de P "__weakref__" 1176 (.ref 636),de P "__doc__" 1177 .none].toArray 4,#[]]),(748,#[(.type "type"),none,.cls {name:="LineReader",bases:=[(.type "object")],mro:=[(.ref 748),(.type "object")],ns:=747,qualname:="LineReader",hasDict:=true,slotNames:=[],subclasses:=[],abstract:=false,collection:=none,hasDel:=false},[none,none,some (.str "LineReader" 1180),some (.str "LineReader" 1188),some (.builtin "object.__new__"),some (.bool true)].toArray]),(747,#[(.type "dict"),none,.dict [de P "__module__" 1187 (.str "grammarmill.lines" 1126),de P "__firstlineno__" 1191 (.int 480 1190),de P "__init__" 1199 (.ref 652),de P "fail" 1207 (.ref 659),de P "need" 1215 (.ref 666),de P "head" 1223 (.ref 673),de P "end_line" 1230 (.ref 680),de P "whole" 1239 (.ref 687),de P "item" 1249 (.ref 695),de P "bracket" 1258 (.ref 702),de P "items" 1269 (.ref 709),de P "numbers" 1283 (.ref 717),de P "one" 1293 (.ref 724),de P "texts" 1303 (.ref 731),de P "finish" 1310 (.ref 738),de P "need_same" 1320 (.ref 745),de P "__static_attributes__" 1323 (.ref 746),de P "__dict__" 1325 (.ref 749),de P "__weakref__" 1327 (.ref 750),de P "__doc__" 1328 .none].toArray 4,#[]]),(22,#[(.type "dict"),none,.dict [de P "n" 214 (.int 10 215),de P "t" 216 (.int 9 217),de P "r" 218 (.int 13 219),de P "f" 220 (.int 12 221),de P "v" 222 (.int 11 223),de P "a" 224 (.int 7 225),de P "b" 226 (.int 8 227)].toArray 7,#[]]),(570,#[(.type "tuple"),none,.seq [(.str "yyerrok" 1003),(.str "yyclearin" 1004),(.str "YYERROR" 1005),(.str "YYABORT" 1006),(.str "YYACCEPT" 1007)].toArray 0,#[]]),(571,#[(.type "dict"),none,.dict [de P "||" 1009 (.int 1 1010),de P "&&" 1011 (.int 2 1012),de P "==" 1013 (.int 3 1014),de P "!=" 1015 (.int 3 1016),de P "<" 1017 (.int 3 1018),de P "<=" 1019 (.int 3 1020),de P ">" 1021 (.int 3 1022),de P ">=" 1023 (.int 3 1024),de P "+" 1025 (.int 4 1026),de P "-" 1027 (.int 4 1028),de P "*" 1029 (.int 5 1030),de P "/" 1031 (.int 5 1032),de P "%" 1033 (.int 5 1034)].toArray 13,#[]]),(572,#[(.type "dict"),none,.dict [de P "len" 1049 (.int 1 1050),de P "item" 1051 (.int 2 1052),de P "push" 1053 (.int 2 1054),de P "head" 1055 (.int 1 1056),de P "rest" 1057 (.int 1 1058),de P "last" 1059 (.int 1 1060),de P "back" 1061 (.int 1 1062),de P "text" 1063 (.int 1 1064),de P "number" 1065 (.int 1 1066),de P "cut" 1067 (.int 3 1068),de P "glue" 1069 (.int 2 1070)].toArray 11,#[]]),(573,#[(.type "tuple"),none,.seq [(.str "YYERROR" 1085),(.str "YYABORT" 1086),(.str "YYACCEPT" 1087)].toArray 0,#[]]),(574,#[(.type "tuple"),none,.seq [(.str "jump" 1089),(.str "unless" 1090),(.str "when" 1091)].toArray 0,#[]]),(753,#[(.type "list"),none,.seq [(.str "$end" 1335),(.str "error" 1336),(.str "$undefined" 1337)].toArray 0,#[]])] <|
 kX 123 "__init__" "Cursor.__init__" (mS 15 0) 371 48 3 118 true 377 (.ref 117) BZ <|
 kX 130 "is_done" "Cursor.is_done" (mS 15 1) 380 52 1 125 true 384 .none BZ <|
 kX 138 "peek" "Cursor.peek" (mS 15 2) 388 55 2 133 true 394 (.ref 132) BZ <|
 kX 145 "starts" "Cursor.starts" (mS 15 3) 397 61 2 140 true 402 .none BZ <|
 kX 152 "take" "Cursor.take" (mS 15 4) 405 64 1 147 true 410 .none BZ <|
 kX 159 "skip" "Cursor.skip" (mS 15 5) 413 71 2 154 true 418 .none BZ <|
 kX 166 "take_while" "Cursor.take_while" (mS 15 6) 421 77 2 161 true 427 .none BZ <|
 kX 223 "escape" "Cursor.escape" (mS 15 14) 490 117 1 218 true 495 .none BZ <|
 kX 230 "quoted" "Cursor.quoted" (mS 15 15) 498 131 2 225 true 505 .none BZ <|
 kX 251 "escaped_sign" "escaped_sign" (tS 17) 526 146 2 246 true 532 .none BZ <|
 kX 256 "escaped" "escaped" (tS 18) 535 157 2 253 false 538 .none BZ <|
 kX 263 "bits" "bits" (tS 19) 541 159 1 258 true 548 .none BZ <|
 kX 277 "__init__" "Tables.__init__" (mS 24 0) 576 175 6 272 true 586 .none kQ1 <|
 kX 326 "default" "Tables.default" (mS 24 7) 637 204 2 321 true 642 .none kQ1 <|
 kX 366 "row_key" "row_key" (tS 26) 697 224 1 363 false 700 .none sG <|
 kX 373 "owners_of" "owners_of" (tS 27) 703 226 1 368 true 711 .none sG <|
 kX 378 "packing_order" "packing_order" (tS 28) 714 235 2 375 false 717 .none sG <|
 kX 392 "__init__" "Comb.__init__" (mS 29 0) 732 243 1 387 true 736 .none sG <|
 kX 399 "is_free" "Comb.is_free" (mS 29 1) 739 247 2 394 true 744 .none sG <|
 kX 406 "fits" "Comb.fits" (mS 29 2) 747 250 3 401 true 754 .none sG <|
 kX 413 "first_fit" "Comb.first_fit" (mS 29 3) 757 256 2 408 true 763 .none sG <|
 kX 420 "grow" "Comb.grow" (mS 29 4) 766 262 2 415 true 771 .none sG <|
 kX 427 "put" "Comb.put" (mS 29 5) 774 267 3 422 true 783 .none sG <|
 kX 439 "pack_rows" "pack_rows" (tS 30) 796 275 1 436 false 799 .none sG <|
 kX 446 "look_up" "look_up" (tS 31) 802 282 6 441 true 812 .none sG <|
 kX 460 "__init__" "PackedRows.__init__" (mS 32 0) 827 289 5 455 true 835 .none sG <|
 kX 467 "get" "PackedRows.get" (mS 32 1) 838 295 3 462 true 844 .none sG <|
 kX 472 "unpacked" "PackedRows.unpacked" (mS 32 2) 847 298 1 469 false 850 .none sG <|
 kX 493 "flaw_of_rows" "PackedRows.flaw_of_rows" (mS 32 5) 867 312 2 488 true 874 .none sG <|
 kX 500 "flaw_of_cells" "PackedRows.flaw_of_cells" (mS 32 6) 877 323 2 495 true 884 .none sG <|
 kX 507 "flaw" "PackedRows.flaw" (mS 32 7) 887 338 3 502 true 896 .none sG <|
 kX 521 "packed_rows" "packed_rows" (tS 33) 911 349 1 516 true 918 .none sG <|
 kX 535 "__init__" "PackedTables.__init__" (mS 34 0) 933 354 7 530 true 948 .none sG <|
 kX 542 "state_count" "PackedTables.state_count" (mS 34 1) 951 371 1 537 true 955 .none sG <|
 kX 549 "explicit" "PackedTables.explicit" (mS 34 2) 958 374 3 544 true 965 .none sG <|
 kX 556 "goto" "PackedTables.goto" (mS 34 3) 968 380 3 551 true 976 .none sG <|
 kX 580 "goals_behind" "goals_behind" (tS 41) 1093 397 2 575 true 1100 .none TA <|
 kX 587 "taken_and_put" "taken_and_put" (tS 42) 1103 406 2 582 true 1108 .none TA <|
 kX 594 "is_pair" "is_pair" (tS 43) 1111 420 3 589 true 1117 .none TA <|
 kX 599 "check_code" "check_code" (tS 44) 1120 438 1 596 false 1123 .none TA <|
 kX 604 "show_item" "show_item" (tS 48) 1132 462 1 601 false 1135 .none vG <|
 kX 618 "__init__" "LineWriter.__init__" (mS 49 0) 1150 472 2 613 true 1155 .none vG <|
 kX 623 "add" "LineWriter.add" (mS 49 1) 1158 475 3 620 false 1161 .none vG <|
 kX 630 "text" "LineWriter.text" (mS 49 2) 1164 478 1 625 true 1168 .none vG <|
 kX 651 "__init__" "LineReader.__init__" (mS 50 0) 1192 482 2 646 true 1197 .none vG <|
 kX 658 "fail" "LineReader.fail" (mS 50 1) 1200 486 2 653 true 1205 .none vG <|
 kX 665 "need" "LineReader.need" (mS 50 2) 1208 489 2 660 true 1213 .none vG <|
 kX 672 "head" "LineReader.head" (mS 50 3) 1216 493 2 667 true 1221 .none vG <|
 kX 679 "end_line" "LineReader.end_line" (mS 50 4) 1224 497 1 674 true 1228 .none vG <|
 kX 686 "whole" "LineReader.whole" (mS 50 5) 1231 501 1 681 true 1237 .none vG <|
 kX 694 "item" "LineReader.item" (mS 50 6) 1241 508 2 689 true 1247 (.ref 688) vG <|
 kX 701 "bracket" "LineReader.bracket" (mS 50 7) 1250 521 2 696 true 1256 .none vG <|
 kX 708 "items" "LineReader.items" (mS 50 8) 1259 533 2 703 true 1267 .none vG <|
 kX 716 "numbers" "LineReader.numbers" (mS 50 9) 1270 544 5 711 true 1281 (.ref 710) vG <|
 kX 723 "one" "LineReader.one" (mS 50 10) 1284 554 4 718 true 1291 .none vG <|
 kX 730 "texts" "LineReader.texts" (mS 50 11) 1294 557 2 725 true 1301 .none vG <|
 kX 737 "finish" "LineReader.finish" (mS 50 12) 1304 564 1 732 true 1308 .none vG <|
 kX 744 "need_same" "LineReader.need_same" (mS 50 13) 1311 572 2 739 true 1318 .none vG <|
 kX 759 "add_rows" "add_rows" (tS 54) 1339 583 3 754 true 1345 .none Fy <|
 kX 767 "read_rows" "read_rows" (tS 55) 1348 588 6 762 true 1362 (.ref 761) Fy <|
 kX 774 "write_parser" "write_parser" (tS 56) 1365 597 2 769 true 1371 .none Fy <|
 kX 781 "read_frame" "read_frame" (tS 57) 1374 611 1 776 true 1384 .none Fy <|
 kX 788 "need_actions" "need_actions" (tS 58) 1387 627 4 783 true 1399 .none Fy <|
 kX 795 "need_gotos" "need_gotos" (tS 59) 1402 635 5 790 true 1413 .none Fy <|
 kX 802 "need_code" "need_code" (tS 60) 1416 647 2 797 true 1423 .none Fy <|
 kX 807 "read_parser" "read_parser" (tS 61) 1426 660 1 804 false 1429 .none Fy <|
 kX 814 "goto_pairs" "goto_pairs" (tS 62) 1432 685 1 809 true 1440 .none Fy <|
 kX 819 "_law_pen" "_law_pen" (tS 64) 1445 693 1 816 false 1448 .none B_ <|
 kX 826 "_law_draw" "_law_draw" (tS 65) 1451 695 2 821 true 1461 .none B_ <|
 kX 833 "_law_pick" "_law_pick" (tS 66) 1464 712 2 828 true 1469 .none B_ <|
 kX 840 "_law_rules" "_law_rules" (tS 67) 1472 714 3 835 true 1482 .none B_ <|
 kX 847 "_law_code" "_law_code" (tS 68) 1485 721 1 842 true 1491 .none B_ <|
 kX 852 "_law_parser" "_law_parser" (tS 69) 1494 727 1 849 false 1497 .none B_ <|
 kX 859 "_law_parser_alike" "_law_parser_alike" (tS 70) 1500 757 5 854 true 1514 .none B_ <|
 kX 864 "_law_parts" "_law_parts" (tS 71) 1517 778 4 861 false 1520 .none B_ <|
 kX 869 "_law_made" "_law_made" (tS 72) 1523 780 2 866 false 1526 .none B_ <|
 kX 876 "_law_turned" "_law_turned" (tS 73) 1529 790 3 871 true 1548 .none B_ <|
 kX 883 "_law_holds" "_law_holds" (tS 74) 1551 820 3 878 true 1558 .none B_ <|
 kX 888 "law" "law" (tS 75) 1561 823 1 885 false 1564 .none B_ <|
 []
noncomputable def KA:List Addr:=(KK #[λZ=>0,λa=>a,λt=>t,λZ=>0,λZ Z=>0,λZ=>false,λZ=>0,.refcount,.text,λZ=>0,λZ=>none,λZ=>false,λZ Z Z=>true,λZ y a=>a>=y,true,λZ=>false,λZ=>none,λZ=>none,λZ Z Z=>0,λZ Z=>none,λZ=>none,λZ=>(0,false,bI ""),λZ=>none,λd=>d,λZ=>false]).map (·.1)
noncomputable def Nt(b c:Bool)(o:Option (SharedT×Thread))(s:SharedT)(f:SharedT->Thread->Option SharedT):Option SharedT:=Bool.rec (motive:=λZ=>Option SharedT) (Bool.rec (motive:=λZ=>Option SharedT) none (Option.rec (motive:=λZ=>Option SharedT) none (λr=>Prod.rec (motive:=λZ=>Option SharedT) f r) o) c) (some s) b
noncomputable def Cg(ok:Thread->Bool)(st:SharedT->Thread->Option (SharedT×Thread))(n:Nat):SharedT->Thread->Option SharedT:=U9 (motive:=λZ=>SharedT->Thread->Option SharedT) (λZ Z=>none) (λZ f s t=>Nt (through t) (ok t) (st s t) s f) n
theorem FA{tb:String->Option Builtin}{p:Program}{w:World}{n₀:Nat}{ann:Option Value}{n:Nat}:∀{s s':SharedT} {t:Thread},Cg (stepOk n₀ ann) (stepT (denote tb) p w) n s t=some s'->topRun tb p w n₀ ann n s.abs t=some s'.abs:=by
 induction n with
 |zero=>exact λh=>nomatch h
 |succ n ih=>
  intro s s' t h;replace h:Nt (through t) (stepOk n₀ ann t) (stepT (denote tb) p w s t) s (Cg (stepOk n₀ ann) (stepT (denote tb) p w) n)=some s':=h;unfold topRun;cases hb:through t with
  |true=>rw[hb] at h;exact congrArg (Option.map SharedT.abs) h
  |false=>
   cases hk:stepOk n₀ ann t with
   |false=>rw[hb,hk] at h;exact nomatch h
   |true=>
    cases hs:stepT (denote tb) p w s t with
    |none=>rw[hb,hk,hs] at h;exact nomatch h
    |some r=>
     rw[hb,hk,hs] at h;rw[stepT_spec (s':=r.1) (t':=r.2) hs];exact ih h
theorem xN{tb:String->Option Builtin}{p:Program}{w:World}{N:Nat}{s s₁:Shared}(h1:(s.heap.isNs mainGlobals&&s.gens.size==0)=true)(h2:topRun tb p w s.heap.objs.size (s.heap.nsMap mainGlobals "__annotations__") N s (topStub p)=some s₁)(h3:(staticsOk (importedModules p.main.body) s.heap s₁.heap&&namesBound p s₁.heap&&gensDone s₁&&laidKept s.heap s₁.heap)=true):topFrom tb p w N s=some s₁:=by
 unfold topFrom;rw[h1,h2,Option.bind_some,h3]
theorem uA {p q:Program} {loose:List Str} {Xt:Shared->Bool} {α:Type} {Yf:Shared->α} {Ya:World->α} {N:Nat} {H₀:Params->Heap} {T₀:Params->BT} {life:Life} {gs₀:Array GenState} {d₀:Drawn} {k₀:Nat} {m₀:Nat} {ann:Option Value}
 (open_:∀w:World,(fencedOpening treeTable p w N).map (λs=>(s.heap,s.gens,s.drawn,s.toks))=some (H₀ w.params,gs₀,d₀,k₀))
 (size:∀w:World,((H₀ w.params).isNs mainGlobals&&gs₀.size==0,(H₀ w.params).objs.size,(H₀ w.params).nsMap mainGlobals "__annotations__")=(true,m₀,ann))
 (hT:∀P,H₀ P=absHeap (T₀ P) m₀ life)
 (run:∀(w:World) (os:OsState),(Cg (stepOk m₀ ann) (stepT (denote treeTable) p w) N #[T₀ w.params,m₀,life,gs₀,d₀,k₀,os] (topStub p)).map (λs=>
  ((staticsOk (importedModules p.main.body) (H₀ w.params) s.abs.heap&&namesBound p s.abs.heap&&gensDone s.abs&&laidKept (H₀ w.params) s.abs.heap),openSeen q loose (importedModules p.main.body) Xt true s.abs,Yf s.abs))=some (true,openGood q loose,Ya w)):
 LeftO p q loose Xt Yf Ya N:=λw=>by
 refine(l8.mp (open_ w)).elim λs e=>?_;have es:s=#[H₀ w.params,gs₀,d₀,k₀,s.os]:=congrArg (λx=>(#[x.1,x.2.1,x.2.2.1,x.2.2.2,s.os]:Shared)) e.2;refine(l8.mp (run w s.os)).elim λsT r=>?_;have z:=size w;have t:topFrom treeTable p w N s=some sT.abs:=by
  rw[es];refine xN (congrArg (·.1) z) ?_ (congrArg (·.1) r.2);rw[show(H₀ w.params).objs.size=m₀ from congrArg (·.2.1) z,show(H₀ w.params).nsMap mainGlobals "__annotations__"=ann from congrArg (·.2.2) z,hT];exact FA r.1
 unfold openEnds;rw[e.1];show(topFrom treeTable p w N s).map _=_;rw[t];exact congrArg some (congrArg (·.2) r.2)
noncomputable def vO(P:Params):BT:=((boot_heap P).objs.toList.foldl (λ(x:BT×Nat) o=>(x.1.ins x.2 o,x.2+1)) (BT.nil,0)).1
noncomputable def qV:Program:={pw with main:={pw.main with body:=pw.main.body.drop 75}}
noncomputable def fZ:List Str:=pw.boundNames.filter λn=>n !=bI "law"
noncomputable abbrev Nu:Shared->Bool:=λZ=>true
noncomputable abbrev TF:Shared->List (Option Obj):=λs=>KA.map s.heap.get?
noncomputable abbrev MN:World->List (Option Obj):=λw=>(KK w.params).map λp=>some p.2
theorem FD:∀w:World,(fencedOpening treeTable pw w 7000).map (λs=>(s.heap,s.gens,s.drawn,s.toks))=some (boot_heap w.params,Array.mk [],boot_drawn,boot_toks):=
 boot_open `k `k (λs=>`k)
theorem FE:∀w:World,((boot_heap w.params).isNs mainGlobals&&(Array.mk []:Array GenState).size==0,(boot_heap w.params).objs.size,(boot_heap w.params).nsMap mainGlobals "__annotations__")=(true,11,some (L0 6)):=λw=>by kernel_rfl
theorem FG:∀P,boot_heap P=absHeap (vO P) 11 {}:=λP=>by kernel_rfl
noncomputable abbrev Ci(w:World)(s:SharedT):=((staticsOk (importedModules pw.main.body) (boot_heap w.params) s.abs.heap&&namesBound pw s.abs.heap&&gensDone s.abs&&laidKept (boot_heap w.params) s.abs.heap),openSeen qV fZ (importedModules pw.main.body) Nu true s.abs,TF s.abs)
noncomputable abbrev pX(w:World)(s:SharedT):=((staticsOk (importedModules pw.main.body) (boot_heap w.params) s.abs.heap&&namesBound pw s.abs.heap&&gensDone s.abs&&laidKept (boot_heap w.params) s.abs.heap),PySem.W.Fast.tw4187177175401517315 qV fZ (importedModules pw.main.body) Nu true s.abs,TF s.abs)
noncomputable abbrev JO(w:World):=Cg (PySem.W.Fast.tw6613529449190102663 11 (some (.ref 6))) (PySem.W.Fast.tw10156331382660048174 (PySem.W.Fast.tw11892475500146522536 treeTable) pw w)
theorem UR(w:World):(λos=>(JO (w.withFollow "special-get-raises" false) 7000 #[vO (w.withFollow "special-get-raises" false).params,11,{},Array.mk [],boot_drawn,boot_toks,os] (topStub pw)).map (pX (w.withFollow "special-get-raises" false)))=λZ=>some (true,openGood qV fZ,MN (w.withFollow "special-get-raises" false)):=by
 kernel_rfl
theorem US(w:World):(λos=>(JO (w.withFollow "special-get-raises" true) 7000 #[vO (w.withFollow "special-get-raises" true).params,11,{},Array.mk [],boot_drawn,boot_toks,os] (topStub pw)).map (pX (w.withFollow "special-get-raises" true)))=λZ=>some (true,openGood qV fZ,MN (w.withFollow "special-get-raises" true)):=by
 kernel_rfl
theorem JP(w:World)(os:OsState):(Cg (stepOk 11 (some (.ref 6))) (stepT (denote treeTable) pw w) 7000 #[vO w.params,11,{},Array.mk [],boot_drawn,boot_toks,os] (topStub pw)).map (Ci w)=some (true,openGood qV fZ,MN w):=by
 have e:@Ci=@pX:=by
  funext w s
  show(_,openSeen qV fZ (importedModules pw.main.body) Nu true s.abs,_)=_;rw[PySem.W.Fast.te4187177175401517315]
 rw[e,PySem.W.Fast.te6613529449190102663,PySem.W.Fast.te10156331382660048174,PySem.W.Fast.te11892475500146522536];exact congrFun (byRow2 "special-get-raises" (P:=λw=>(λos=>(JO w 7000 #[vO w.params,11,{},Array.mk [],boot_drawn,boot_toks,os] (topStub pw)).map (pX w))=λZ=>some (true,openGood qV fZ,MN w)) UR US w) os
theorem FH:LeftO pw qV fZ Nu TF MN 7000:=uA FD FE FG JP
theorem ws:u9.wellSaid=true:=by
 rw[PySem.W.Fast.te9446332074065402090];kernel_rfl
noncomputable def UT:Stmt->Pos
 | .FunctionDef _ _ _ _ _ _ _ _ _ p=>p
 |_=>#[0,0,0,0]
noncomputable def dV:DefRec:=#[bI "law",fP (tS 75),fB (tS 75),fS (tS 75),UT (tS 75)]
noncomputable abbrev UU:World->Heap->Prop:=λw h=>(KK w.params).In h
theorem UW:u9.row.toRowW.promised:=by w_witness2
theorem head(call:WalkO qV fZ (λZ Z=>True) UU u9.row.toRowW dV [] (λf vs=>PySem.call f vs)):u9.Holds:=
 holds_law ws λsaid=>holds_open (r:=u9.row) (q:=qV) (loose:=fZ) (Xt:=Nu) (XP:=λZ Z=>True) (Yf:=TF) (Ya:=MN) (YP:=UU) (d:=dV) (kwd:=[]) (N:=7000)
  FH (λw s e=>Frag.in_of (K:=KK w.params) (as:=KA) `k e) (λw h h' x k=>x.keeps k) (λZ Z=>trivial) (λZ Z Z Z Z=>trivial)
  `k `k `k (λZ Z=>recFacts_nil rfl) `k said `k #[rfl,rfl,rfl,rfl,rfl,`d] UW call
end
section
noncomputable abbrev Lf:=Int×List Int
noncomputable def vH(x:Nat->Int)(l:List Int):Nat->Int:=S3 (λ_=>0) (λa _ r k=>a*x k+r (k+1)) l
noncomputable def FI(a:List Int):List Int->List Int:=S3 (λb=>b) (λp s r b=>S3 (p::s) (λq t _=>(p+q)::r t) b) a
theorem aac{a b c d:Int}:a+b+(c+d)=a+c+(b+d):=by rw[Int.add_assoc,Int.add_assoc,Int.add_left_comm b]
theorem FJ{x:Nat->Int}{a:List Int}:∀{b k},vH x (FI a b) k=vH x a k+vH x b k:=by
 induction a with
 |nil=>exact λ{b k}=>(Int.zero_add _).symm
 |cons p s ih=>
  intro b k;cases b with
  |nil=>exact(V9 _).symm
  |cons q t=>
   show(p+q)*x k+vH x (FI s t) (k+1)=p*x k+vH x s (k+1)+(q*x k+vH x t (k+1));rw[ih,Int.add_mul];exact aac
theorem Cj{x:Nat->Int}{q:Int}{a:List Int}:∀{k},vH x (a.map (q*·)) k=q*vH x a k:=by
 induction a with
 |nil=>exact λ{k}=>(Int.mul_zero _).symm
 |cons p s ih=>
  intro k;show q*p*x k+vH x (s.map (q*·)) (k+1)=q*(p*x k+vH x s (k+1));rw[ih,Int.mul_add,Int.mul_assoc]
noncomputable def Lf.v(x:Nat->Int)(l:Lf)(k:Nat):Int:=l.1+vH x l.2 k
noncomputable def Nv(p:Int)(a:Lf)(q:Int)(b:Lf):Lf:=(p*a.1+q*b.1,FI (a.2.map (p*·)) (b.2.map (q*·)))
theorem zB{x k p a q b}:(Nv p a q b).v x k=p*a.v x k+q*b.v x k:=by
 show p*a.1+q*b.1+vH x (FI (a.2.map (p*·)) (b.2.map (q*·))) k=p*(a.1+vH x a.2 k)+q*(b.1+vH x b.2 k);rw[FJ,Cj,Cj,Int.mul_add,Int.mul_add];exact aac
noncomputable def Nx(j:Nat):List Int:=U9 [1] (λ_ r=>0::r) j
theorem Ny{x:Nat->Int}{j:Nat}:∀{k},vH x (Nx j) k=x (k+j):=by
 induction j with
 |zero=>exact λ{k}=>(V9 _).trans (Y6 _)
 |succ j ih=>
  intro k;show 0*x k+vH x (Nx j) (k+1)=x (k+(j+1));rw[ih,Int.zero_mul,Int.zero_add,Nat.add_assoc,Nat.add_comm 1]
def Hd(x:Nat->Int)(k:Nat)(cs:List Lf):Prop:=∀l∈cs,0<=Lf.v x l k
theorem Hd.c{x k l cs}(h:0<=Lf.v x l k)(H:Hd x k cs):Hd x k (l::cs):=I3.mpr #[h,H]
noncomputable def TG(l:Lf):Int:=S3 0 (λa _ _=>a) l.2
noncomputable def UX(l:Lf):List Lf:=S3 [l] (λa t _=>cond (decide (a=0)) [(l.1,t)] []) l.2
theorem Ck{x k}{l:Lf}(h:0<=l.v x k):Hd x (k+1) (UX l):=by
 obtain⟨c,_|⟨a,t⟩⟩:=l
 ·exact .c h λ_ m=>nomatch m
 ·show Hd x (k+1) (cond (decide (a=0)) [(c,t)] []);by_cases e:a=0
  ·rw[decide_eq_true e];refine .c ?_ λ_ m=>nomatch m
   have h':0<=c+(a*x k+vH x t (k+1)):=h;rw[e,Int.zero_mul,Int.zero_add] at h';exact h'
  ·rw[decide_eq_false e];exact λ_ m=>nomatch m
noncomputable def fmE(cs:List Lf):List Lf:=cs.flatMap λp=>U9 (UX p) (λa _=>cs.flatMap λn=>U9 [] (λb _=>UX (Nv (b+1:Nat) p (a+1:Nat) n)) (-TG n).toNat) (TG p).toNat
theorem JQ{x k cs}(h:Hd x k cs):Hd x (k+1) (fmE cs):=λl m=>by
 obtain⟨p,hp,m⟩:=R2.mp m;revert m;cases(TG p).toNat with
 |zero=>exact Ck (h p hp) l
 |succ a=>
  intro m;obtain⟨n,hn,m⟩:=R2.mp m;revert m;cases(-TG n).toNat with
  |zero=>exact nofun
  |succ b=>exact Ck (by rw[zB];exact Int.add_nonneg (W6 (F7 _) (h p hp)) (W6 (F7 _) (h n hn))) l
noncomputable def lng(l:Lf):Bool:=S3 (Int.rec (λ_=>false) (λ_=>true) l.1) (λ_ _ _=>false) l.2
theorem JR{x k}{l:Lf}(h:0<=l.v x k)(e:lng l=true):False:=by
 obtain⟨c|c,_|⟨a,t⟩⟩:=l
 ·cases e
 ·cases e
 ·exact absurd h (Int.not_le.mpr (Int.negSucc_lt_zero c))
 ·cases e
noncomputable def fm(n:Nat):List Lf->Bool:=U9 (λcs=>cs.any lng) (λ_ r cs=>r (fmE cs)) n
theorem Nz{x n}:∀{k cs},Hd x k cs->fm n cs=true->False:=by
 induction n with
 |zero=>
  intro k cs h e;obtain⟨l,m,e⟩:=R3.mp e;exact JR (h l m) e
 |succ n ih=>exact λ{k cs} h e=>ih (JQ h) e
noncomputable abbrev Kk:=Lf->List Lf->Bool
noncomputable abbrev Ff:=List Lf->Bool
noncomputable def xe(N:List Nat)(I:List Int)(k:Nat):Int:=U9 (N.getD (k / 2) 0:Nat) (λ_ _=>I.getD (k / 2) 0) (k % 2)
section
variable(N:List Nat)(I:List Int)
noncomputable abbrev vb(n:Nat)(i:Int)(b:Bool):Int:=cond b n i
abbrev pb(p:Prop)(b:Bool):Prop:=cond b p (¬p)
abbrev H0(cs:List Lf):Prop:=Hd (xe N I) 0 cs
noncomputable abbrev lw(l:Lf):Int:=l.v (xe N I) 0
structure Vn where
 n:Nat
 i:Int
 p:Prop
 T:Bool->Kk->Ff
 S:Bool->Ff->Ff
 t:∀b k cs,T b k cs=true->H0 N I cs->(∀l cs,H0 N I cs->lw N I l=vb n i b->k l cs=true->False)->False
 s:∀b k cs,S b k cs=true->H0 N I cs->pb p b->(∀cs,H0 N I cs->k cs=true->False)->False
end
variable{N:List Nat}{I:List Int}
noncomputable def Vn.tm(n:Nat)(i:Int)(T:Bool->Kk->Ff)(t:∀b k cs,T b k cs=true->H0 N I cs->(∀l cs,H0 N I cs->lw N I l=vb n i b->k l cs=true->False)->False):Vn N I:=
 #[n,i,False,T,λ_ _ _=>false,t,λ_ _ _ h=>nomatch h]
noncomputable def Vn.st(p:Prop)(S:Bool->Ff->Ff)(s:∀b k cs,S b k cs=true->H0 N I cs->pb p b->(∀cs,H0 N I cs->k cs=true->False)->False):Vn N I:=
 #[0,0,p,λ_ _ _=>false,S,(λ_ _ _ h=>nomatch h),s]
theorem vP{q:Int}:lw N I (q,[])=q:=V9 q
theorem NB{j:Nat}:lw N I (0,Nx j)=xe N I j:=by
 show 0+vH _ _ _=_;rw[Ny,Int.zero_add,Nat.zero_add]
theorem xe0{j:Nat}:xe N I (2*j)=(N.getD j 0:Nat):=by
 unfold xe;rw[Nat.mul_mod_right,Nat.mul_div_cancel_left j Nat.two_pos];rfl
theorem xe1{j:Nat}:xe N I (2*j+1)=I.getD j 0:=by
 unfold xe;rw[Nat.mul_add_mod,Nat.mul_add_div Nat.two_pos];rfl
noncomputable def sb(a b:Lf):Lf:=Nv 1 a (-1) b
theorem AF{a b:Lf}:lw N I (sb a b)=lw N I a - lw N I b:=by
 unfold sb lw;rw[zB,Y6,Int.neg_mul,Y6];rfl
theorem pD{a b:Lf}{cs:List Lf}(h:lw N I b<=lw N I a)(H:H0 N I cs):H0 N I (sb a b::cs):=.c (by rw[show Lf.v _ _ _=_ from AF];exact Int.sub_nonneg_of_le h) H
noncomputable def TH(a b:Lf):Lf:=sb (sb a b) (1,[])
theorem Cm{a b:Lf}{cs:List Lf}(h:¬lw N I a<=lw N I b)(H:H0 N I cs):H0 N I (TH a b::cs):=pD (by rw[AF,vP];exact Int.sub_pos_of_lt (Int.not_le.mp h)) H
theorem bt{a b:Bool}(h:(a&&b)=true):a=true/\b=true:=F8.mp h
namespace Vn
variable(x y:Vn N I)
noncomputable def v(j:Nat):Vn N I:=.tm (N.getD j 0) (I.getD j 0) (λb k cs=>k (0,Nx (cond b (2*j) (2*j+1))) cs) λb k cs h H K=>K _ _ H (by
 rw[NB];cases b with
 |true=>exact xe0
 |false=>exact xe1) h
noncomputable def c(q:Nat):Vn N I:=.tm q q (λ_ k cs=>k (q,[]) cs) λb k cs h H K=>K _ _ H (by rw[vP];cases b<;>rfl) h
noncomputable def two(b:Bool)(f:Lf->Lf->Ff):Ff:=x.T b λl=>y.T b λm=>f l m
theorem lB{b:Bool}{f:Lf->Lf->Ff}{cs:List Lf}(h:two x y b f cs=true)(H:H0 N I cs)(K:∀l m cs,H0 N I cs->lw N I l=vb x.n x.i b->lw N I m=vb y.n y.i b->f l m cs=true->False):False:=
 x.t _ _ _ h H λl cs H e h=>y.t _ _ _ h H λm cs H f h=>K l m cs H e f h
noncomputable def add:Vn N I:=.tm (x.n+y.n) (x.i+y.i) (λb k=>two x y b λl m=>k (Nv 1 l 1 m)) λb k cs h H K=>lB x y h H λl m cs H e f h=>K _ _ H (by
 unfold lw at e f⊢;rw[zB,e,f,Y6,Y6];cases b<;>rfl) h
noncomputable def fK:Vn N I:=.tm 0 (x.i - y.i) (λb k=>cond b (λ_=>false) (two x y b λl m=>k (sb l m))) λb k cs h H K=>by
 cases b with
 |true=>cases h
 |false=>exact lB x y h H λl m cs H e f h=>K _ _ H (by rw[AF,e,f];rfl) h
noncomputable def UY:Vn N I:=.tm (x.n - y.n) 0 (λb k=>cond b (two x y b λl m cs=>k (sb l m) (sb l m::cs)&&k (0,[]) (sb m l::cs)) λ_=>false) λb k cs h H K=>by
 cases b with
 |false=>cases h
 |true=>
  refine lB x y h H λl m cs H e f h=>?_;by_cases d:y.n<=x.n
  ·exact K _ _ (pD (by rw[e,f];exact T6.mpr d) H) (by rw[AF,e,f];exact(Int.ofNat_sub d).symm) (bt h).1
  ·have d:=Nat.le_of_not_le d;exact K _ _ (pD (by rw[e,f];exact T6.mpr d) H) (by rw[vP];exact congrArg Nat.cast (Nat.sub_eq_zero_of_le d).symm) (bt h).2
noncomputable def sc(q:Nat)(b:Bool)(k:Kk):Ff:=x.T b λl=>k (Nv q l 0 (0,[]))
theorem IA{q b k cs}(h:sc x q b k cs=true)(H:H0 N I cs)(K:∀l cs,H0 N I cs->lw N I l=q*vb x.n x.i b->k l cs=true->False):False:=
 x.t _ _ _ h H λl cs H e h=>K _ _ H (by unfold lw at e⊢;rw[zB,e,Int.zero_mul,V9]) h
noncomputable def mul(q:Nat):Vn N I:=.tm (q*x.n) (q*x.i) (sc x q) λb k cs h H K=>IA x h H λl cs H e h=>K l cs H (by
 rw[e];cases b with
 |true=>exact(Int.natCast_mul _ _).symm
 |false=>rfl) h
noncomputable def mur(q:Nat):Vn N I:=.tm (x.n*q) (x.i*q) (sc x q) λb k cs h H K=>IA x h H λl cs H e h=>K l cs H (by
 rw[e,Int.mul_comm];cases b with
 |true=>exact(Int.natCast_mul _ _).symm
 |false=>rfl) h
noncomputable def neg:Vn N I:=.tm 0 (-x.i) (λb k=>cond b (λ_=>false) (x.T b λl=>k (sb (0,[]) l))) λb k cs h H K=>by
 cases b with
 |true=>cases h
 |false=>exact x.t _ _ _ h H λl cs H e h=>K _ _ H (by rw[AF,vP,e,Int.zero_sub];rfl) h
noncomputable def mn:Vn N I:=.tm (min x.n y.n) (min x.i y.i) (λb k=>two x y b λl m cs=>k l (sb m l::cs)&&k m (sb l m::cs)) λb k cs h H K=>lB x y h H λl m cs H e f h=>by
 have z:vb (min x.n y.n) (min x.i y.i) b=min (vb x.n x.i b) (vb y.n y.i b):=by
  cases b with
  |true=>exact(by omega:((min x.n y.n:Nat):Int)=min (x.n:Int) y.n)
  |false=>rfl
 rcases K6 (vb x.n x.i b) (vb y.n y.i b) with d|d
 ·exact K _ _ (pD (by rw[e,f];exact d) H) (by rw[z,e,Int.min_eq_left d]) (bt h).1
 ·exact K _ _ (pD (by rw[e,f];exact d) H) (by rw[z,f,Int.min_eq_right d]) (bt h).2
noncomputable def tn:Vn N I:=.tm x.i.toNat 0 (λb k=>cond b (x.T false λl cs=>k l (l::cs)&&k (0,[]) (sb (0,[]) l::cs)) λ_=>false) λb k cs h H K=>by
 cases b with
 |false=>cases h
 |true=>
  refine x.t _ _ _ h H λl cs H e h=>?_;rcases K6 0 x.i with d|d
  ·exact K _ _ (.c (by rw[show Lf.v _ _ _=_ from e];exact d) H) (by rw[e];exact(V7 d).symm) (bt h).1
  ·exact K _ _ (pD (by rw[vP,e];exact d) H) (by rw[vP];exact congrArg Nat.cast (Int.toNat_of_nonpos d).symm) (bt h).2
noncomputable def na:Vn N I:=.tm x.i.natAbs 0 (λb k=>cond b (x.T false λl cs=>k l (l::cs)&&k (sb (0,[]) l) (sb (0,[]) l::cs)) λ_=>false) λb k cs h H K=>by
 cases b with
 |false=>cases h
 |true=>
  refine x.t _ _ _ h H λl cs H e h=>?_;rcases K6 0 x.i with d|d
  ·exact K _ _ (.c (by rw[show Lf.v _ _ _=_ from e];exact d) H) (by rw[e];exact(Int.natAbs_of_nonneg d).symm) (bt h).1
  ·exact K _ _ (pD (by rw[vP,e];exact d) H) (by rw[AF,vP,e,Int.zero_sub];exact(Int.ofNat_natAbs_of_nonpos d).symm) (bt h).2
noncomputable def mx:Vn N I:=.tm (max x.n y.n) (max x.i y.i) (λb k=>two x y b λl m cs=>k m (sb m l::cs)&&k l (sb l m::cs)) λb k cs h H K=>lB x y h H λl m cs H e f h=>by
 have z:vb (max x.n y.n) (max x.i y.i) b=max (vb x.n x.i b) (vb y.n y.i b):=by
  cases b with
  |true=>exact(by omega:((max x.n y.n:Nat):Int)=max (x.n:Int) y.n)
  |false=>rfl
 rcases K6 (vb x.n x.i b) (vb y.n y.i b) with d|d
 ·exact K _ _ (pD (by rw[e,f];exact d) H) (by rw[z,f,Int.max_eq_right d]) (bt h).1
 ·exact K _ _ (pD (by rw[e,f];exact d) H) (by rw[z,e,Int.max_eq_left d]) (bt h).2
noncomputable def cz:Vn N I:=.tm 0 x.n (λb k=>cond b (λ_=>false) (x.T true k)) λb k cs h H K=>by
 cases b with
 |true=>cases h
 |false=>exact x.t _ _ _ h H K
theorem UZ{b:Bool}:(cond b (x.n<=y.n) (x.i<=y.i))=(vb x.n x.i b<=vb y.n y.i b):=by
 cases b with
 |true=>exact propext T6.symm
 |false=>rfl
theorem U_{b:Bool}:(cond b (x.n=y.n) (x.i=y.i))=(vb x.n x.i b=vb y.n y.i b):=by
 cases b with
 |true=>exact propext Int.ofNat_inj.symm
 |false=>rfl
noncomputable def le(b:Bool):Vn N I:=.st (cond b (x.n<=y.n) (x.i<=y.i)) (λc k=>two x y b λl m cs=>k (cond c (sb m l) (TH l m)::cs)) λc k cs h H q K=>lB x y h H λl m cs H e f h=>by
 rw[UZ,<-e,<-f] at q;cases c with
 |true=>exact K _ (pD q H) h
 |false=>exact K _ (Cm q H) h
noncomputable def eq(b:Bool):Vn N I:=.st (cond b (x.n=y.n) (x.i=y.i)) (λc k=>two x y b λl m cs=>cond c (k (sb m l::sb l m::cs)) (k (TH l m::cs)&&k (TH m l::cs))) λc k cs h H q K=>lB x y h H λl m cs H e f h=>by
 rw[U_,<-e,<-f] at q;cases c with
 |true=>exact K _ (pD (Int.le_of_eq q) (pD (Int.le_of_eq q.symm) H)) h
 |false=>
  by_cases d:lw N I l<=lw N I m
  ·exact K _ (Cm (λd'=>q (Int.le_antisymm d d')) H) (bt h).2
  ·exact K _ (Cm d H) (bt h).1
noncomputable def nt:Vn N I:=.st (¬x.p) (λc=>x.S (Bool.not (c))) λc k cs h H q K=>x.s _ _ _ h H (by
 cases c with
 |true=>exact q
 |false=>exact Classical.not_not.mp q) K
noncomputable def im:Vn N I:=.st (x.p->y.p) (λc k cs=>cond c (x.S false k cs&&y.S true k cs) (x.S true (y.S false k) cs)) λc k cs h H q K=>by
 by_cases d:x.p
 ·cases c with
  |true=>exact y.s _ _ _ (bt h).2 H (q d) K
  |false=>exact x.s true _ _ h H d λcs H h=>y.s false _ _ h H (λe=>q λ_=>e) K
 ·cases c with
  |true=>exact x.s false _ _ (bt h).1 H d K
  |false=>exact q λe=>absurd e d
noncomputable def an:Vn N I:=.st (x.p/\y.p) (λc k cs=>cond c (x.S true (y.S true k) cs) (x.S false k cs&&y.S false k cs)) λc k cs h H q K=>by
 cases c with
 |true=>exact x.s true _ _ h H q.1 λcs H h=>y.s true _ _ h H q.2 K
 |false=>
  by_cases d:x.p
  ·exact y.s false _ _ (bt h).2 H (λe=>q #[d,e]) K
  ·exact x.s false _ _ (bt h).1 H d K
noncomputable def or:Vn N I:=.st (x.p\/y.p) (λc k cs=>cond c (x.S true k cs&&y.S true k cs) (x.S false (y.S false k) cs)) λc k cs h H q K=>by
 cases c with
 |true=>exact q.elim (λq=>x.s true _ _ (bt h).1 H q K) λq=>y.s true _ _ (bt h).2 H q K
 |false=>exact x.s false _ _ h H (λe=>q (.inl e)) λcs H h=>y.s false _ _ h H (λe=>q (.inr e)) K
noncomputable def fl:Vn N I:=.st False (λc k cs=>cond c true (k cs)) λc k cs h H q K=>by
 cases c with
 |true=>exact q
 |false=>exact K _ H h
end Vn
noncomputable abbrev Sg(N:List Nat)(I:List Int):=Nat->List (Vn N I)->(Nat->List (Vn N I)->Vn N I)->Vn N I
noncomputable def Sg.hd(s:List (Vn N I)):Vn N I:=S3 .fl (λa _ _=>a) s
noncomputable def Sg.one(f:Vn N I->Vn N I):Sg N I:=λn s r=>r n (f (hd s)::s.tail)
noncomputable def Sg.two(f:Vn N I->Vn N I->Vn N I):Sg N I:=λn s r=>r n (f (hd s.tail) (hd s)::s.tail.tail)
noncomputable def Sg.num(f:Nat->List (Vn N I)->List (Vn N I)):Sg N I:=λn s r=>r (n / 32 / 32 ^ (n % 32)) (f (n / 32 % 32 ^ (n % 32)) s)
noncomputable def Sg.all:List (Sg N I):=List.append [.num λq s=>.c q::s,.two .add,.two .fK,.two .UY,.num λq s=>.mul (hd s) q::s.tail,.num λq s=>.mur (hd s) q::s.tail,.one .neg,.two .mn,.one .tn,.one .cz,.two (.le · · true),.two (.le · · false),.two (.eq · · true),.two (.eq · · false),.one .nt,.two .im,.two .an,.two .or,λn s r=>r n (.fl::s)] (List.append ((C4 8).map λj n s r=>r n (.v j::s)) [.one λx=>.add x (.c 1),.num λq s=>.v q::s,.one .na,.two .mx])
noncomputable def dec(f:Nat):Nat->List (Vn N I)->Vn N I:=U9 (λ_ s=>Sg.hd s) (λ_ r n s=>Sg.all.getD (n % 32) (λ_ s _=>Sg.hd s) (n / 32) s r) f
noncomputable def nn(k:Nat):List Lf:=(C4 k).map λj=>(0,Nx (2*j))
theorem NC{k}:H0 N I (nn k):=λl m=>by
 obtain⟨j,_,e⟩:=m5.mp m;rw[<-e,show Lf.v _ _ _=_ from NB,xe0];exact F7 _
noncomputable def dn(n:Nat):Vn N I:=dec 999 (n / 32) []
noncomputable def Dn(n:Nat)(N:List Nat)(I:List Int):Prop:=cond ((dn (N:=N) (I:=I) n).S false (fm (n % 32*2)) (nn (n % 32))) (dn (N:=N) (I:=I) n).p True
theorem Dn.ok(n:Nat)(N:List Nat)(I:List Int):Dn n N I:=by
 unfold Dn;cases h:(dn (N:=N) (I:=I) n).S false (fm (n % 32*2)) (nn (n % 32)) with
 |false=>trivial
 |true=>exact X7 λq=>(dn n).s false _ _ h NC q λcs H h=>Nz H h
theorem ln{p:Prop}(n:Nat)(N:List Nat)(I:List Int)(e:autoParam (Dn n N I=p) A3):p:=e▸Dn.ok n N I
end
section
variable{a b c d e f g h p q r s t u v w x y z a1 a2 a3 a4 a5 a6 a7 a8 a9:Nat}{i j k l m n o i1 i2 i3 i4 i5 i6 i7 i8 i9 i10 i11 i12 i13 i14 i15 i16 i17 i18 i19 i20 i21 i22 i23:Int}
theorem o0:a+3<b->a<b:=ln 0x7deaa6e6aa6c2308262 [a,b] []
theorem o1:a+3<b->a+1<b:=ln 0xfbd54dee6aa6c2308262 [a,b] []
theorem o2:a+3*b+3=a+3*(b+1):=rfl
theorem o3:a+3<d->b<=2->a+min b c<d:=ln 0x1f7bd56d84f5a4d420828ab6c2308264 [a,b,c,d] []
theorem o5:a+16*(b+1)+80<=c->a+1+16*b+80<=c:=ln 0x7deaa8450100300929b9aaa1140400c024dd263 [a,b,c] []
theorem o6:a+4*(b+1)<=990->a+1+4*b<=990:=ln 0x7deaf784009024a6e6af784009024dd262 [a,b] []
theorem o7:a+16*(b+1)+80<=c->a+3+16*b+80<=c:=ln 0x3ef55422808018049408c209aaa1140400c024dd263 [a,b,c] []
theorem o8:a+4*c<=990->b<=c->a+4*b<=990:=ln 0x1f7bd5ef0801204949aab457bc20048125663 [a,b,c] []
theorem o9:a+16*d+80<=c->b<=d->a+16*b+80<=c:=ln 0x1f7bd5508a02006012526ab515508a020060125a64 [a,b,c,d] []
theorem o10:a-1<b->a<=b:=ln 0x3ef5526aa6c6108262 [a,b] []
theorem o11:a+4*b<=990->a<1000:=ln 0x1f7abe81037357bc20048125262 [a,b] []
theorem o12(h0:a<=b+1):a+1<=b+1+1:=M0 h0
theorem o13:a<=b+1->b=c->c<=30->a<=1000:=ln 0x7def7abe81026af04156568add263 [a,b,c] []
theorem o14:a<=b+1->b=c->c<=30->a<=100:=ln 0x7def7a8641026af04156568add263 [a,b,c] []
theorem ND(h0:a<=1000000):a<=16777216:=g9 h0 `e
theorem o16:a+b<=10000000->a+b<=16777216:=ln 0x1f7aa00000050069352625a00a00d262 [a,b] []
theorem o17:a+1+min b c<d->a+min b c<d:=ln 0xfbd56d84f5a4d56d84f5a6e64 [a,b,c,d] []
theorem o18:a+0=a:=rfl
theorem o19:0+(a:Int)*1=(a:Int):=ln 0x1f6a661084a998001 [a] []
theorem o20:a+(c+1)<=b->a<b:=ln 0x1f7aa9b9aa81dd663 [a,b,c] []
theorem o21:a+(b+1)<=c->a+1+b<=c:=ln 0x7deaa869b9aaa1dd263 [a,b,c] []
theorem o22:a+(b+1)=a+1+b:=ln 0x7d81a6e61dd262 [a,b] []
theorem o23:0+a<=a:=ln 0xfaa6198001 [a] []
theorem MO(h0:a<=b):a<=b+1:=N2 h0
theorem o25:a+1<b->a<=b:=ln 0x7deaa4d54dee62 [a,b] []
theorem o26:a<b->a=b+1->False:=ln 0x1f7be4cdd26aa6e62 [a,b] []
theorem o27:a+2<=b->b=a+1->False:=ln 0xfbdf266e745502208262 [a,b] []
theorem o28:a+1<b->b<a->False:=ln 0x3ef7c953dd154dee62 [a,b] []
theorem o29:l5 ((a:Int)+1*(b:Int))=a+b:=ln 0x7d81a4d0108489a2662 [a,b] []
theorem NF:¬((a:Int)<0):=S7.mpr (F7 _)
theorem o31:min (min a b) b=min a b:=ln 0x7d87a4cf43d262 [a,b] []
theorem o32:¬(b<=a)->a<=b:=ln 0x3ef5526e54e82 [a,b] []
theorem o33:min (min a b-c) (b-c)=min (a-c) (b-c):=ln 0x7d871d683acce3ad0753d263 [a,b,c] []
theorem o34:min c b-a=b->a=0\/b=0:=ln 0x7df16001460013650733d2a3 [a,b,c] []
theorem o35:min b a-0=a->a<=b:=ln 0x3ef5526c98c003ce82 [a,b] []
theorem o36:min (a-b) (c-b)<=c:=g9 (Nat.min_le_right _ _) (Nat.sub_le _ _)
theorem o37:a<=b->b<=10000000->a<=16777216:=ln 0x1f7bd50000002826a4c4b40141455262 [a,b] []
theorem o38(h0:-(b:Int)<=i)(h1:a=b):-(a:Int)<=i:=h1▸h0
theorem o39:l5 i<b->a=b->i<(a:Int):=ln 0x1f7bd699ee6ca4d54da262 [a,b] [i]
theorem o40:0<=i->l5 i<a->a<=10000000->-9223372036854775808<=i/\i<9223372036854775808:=ln 0xfbdef82d0000000000000000d06e6b9990000000000000000d029312d00504d53da26b98001 [a] [i]
theorem o41:l5 i<a->i<(a:Int):=ln 0x1f7ad33dcd53da261 [a] [i]
theorem o42(h0:i<(b:Int))(h1:a=b):i<(a:Int):=h1▸h0
theorem o43:c+d<=1000000->a=c->b=d->a+b<=16777216:=ln 0xfbdef54000000a00d26cb51959abd0900800daa4 [a,b,c,d] []
theorem MP:a=b->b<=1000000->a<=16777216:=ln 0xfbdea800000141357a120101465262 [a,b] []
theorem o45:a+b<=c->c<a+b->False:=ln 0xfbdf250693dd5550d263 [a,b,c] []
theorem o46:a+c<=b->a<=b:=ln 0x7deaa4d540d663 [a,b,c] []
theorem o47(h0:a+b<=c):a+b<=c+1:=N2 h0
theorem o48:a=b->b<=1000000->a+1<=16777216:=ln 0x1f7bd50000002837357a120101465262 [a,b] []
theorem o49:0<b->a<=b-1->a<b:=ln 0xfbdeaa6e6a18420a4d54d8002 [a,b] []
theorem o50:a<b->a<=b-1:=ln 0x3ef50c210526aa6e62 [a,b] []
theorem o51:i<=j->j<=i->i=j:=ln 0x1f7bdb49ae745d262 [] [i,j]
theorem o52:a=b->b<64->a<=16777216:=ln 0x7def54000000a09a8401037465262 [a,b] []
theorem o53:a=b->b=c->c<64->a<64:=ln 0x1f7bdea10040dcd420081bab2b465263 [a,b,c] []
theorem o54(h0:a+b*c<=10000000):a+b*c<=16777216:=g9 h0 `e
theorem o55:a+16*c+80<=b->a<b:=ln 0xfbd54dcd5408a020060125663 [a,b,c] []
theorem o56:a+16*c+80<=b->a+1+3<b:=ln 0x1f7aa9b08c20dcd5408a020060125663 [a,b,c] []
theorem o57:2<=a->a<=3->a=2\/a=3:=ln 0x1f7be2c18413608209a86104d5310401 [a] []
theorem o58:i=j->¬(i<j):=ln 0x7dee5d3736d262 [] [i,j]
theorem TJ:a=b->b<=3->a<=16777216:=ln 0x1f7bd50000002826a1841465262 [a,b] []
theorem o60:a<2->a<=16777216+1:=ln 0x7deadc000000a09a84106e61 [a] []
theorem o61(h0:b<2)(h1:b=a):a<2:=h1▸h0
theorem o62:b=a->¬(b<2)->2<=a:=ln 0x7def54c41039420837464e82 [a,b] []
theorem o63:a=b->c=b->¬(c<2)->0<a:=ln 0x7def7aa7b001ca1041bab29565263 [a,b,c] []
theorem o64(h0:¬(a<2)):2<=a:=I4.mp h0
theorem o65:a=b->b<=3->a<64:=ln 0x7def5080206e6a1841465262 [a,b] []
theorem o66(h0:a<=3):a<=16777216+1:=g9 h0 `e
theorem o67(h0:b=a)(h1:¬(b<2)):¬(a<2):=h0▸h1
theorem o68:a<=a+1:=O0 _
theorem o69:0+b=c->a=c->a<=b:=ln 0xfbdeaa4d959b2a1a0003 [a,b,c] []
theorem o70:0+b=a->a<=b:=ln 0xfbd549b261a0002 [a,b] []
theorem o71:c+1+a=b->a<b:=ln 0x1f7aa9b9b2819eea3 [a,b,c] []
theorem o72:b<=1000->min a b<=16777216:=ln 0xfbd5000000280f49abe810282 [a,b] []
theorem TL:a<min c b->a<b:=ln 0x1f7aa9b9a8f4aee63 [a,b,c] []
theorem NG:a<min b c->a<b:=ln 0x1f7aa9b9a8f5a6e63 [a,b,c] []
theorem o75:a+1+b=c->a+(b+1)=c:=ln 0x7deca87749b2a1a6e63 [a,b,c] []
theorem o78:min b c-a=0->a<=min b c->a=min b c:=ln 0x3ef7b0f5a4d47ad26c000733d683 [a,b,c] []
theorem o79:a<=c->b=min a c->a<=b:=ln 0x7def5526c3d67455663 [a,b,c] []
theorem o80:a<=c->b=min c a->a<=b:=ln 0x7def5526c3ceb455663 [a,b,c] []
theorem o81:a=d->d=min b c->a=min b c:=ln 0x1f7bd87ad26c3d69665a64 [a,b,c,d] []
theorem o82:min b c-a=d+1->a<min b c:=ln 0x1f7a8f5a6e6cdd8733d684 [a,b,c,d] []
theorem o83:min a b-c=d+1->min a b-(c+1)=d:=ln 0x7decb0f753d26cdd8753d264 [a,b,c,d] []
theorem o84(h0:a<min b c):a+1<=min b c:=h0
theorem o85:min c d<=b->a<min c d->a<=b:=ln 0x3ef7aa9351ed5dcd543daa4 [a,b,c,d] []
theorem o86:min c d<=b->a<min c d->a+1<=b+1:=ln 0xfbdeadd37351ed5dcd543daa4 [a,b,c,d] []
theorem o87(h0:a<b):a+1<=b:=h0
theorem o88:a=c->c<=1000000->min a b<=16777216:=ln 0x3ef7aa000000501e9357a120101565663 [a,b,c] []
theorem o89:0<a->-(a:Int)<0:=ln 0x7deb003664cd53d8001 [a] []
theorem o90:0- -(a:Int)=(a:Int):=ln 0x7da9988c998001 [a] []
theorem o91:b<=a->c=a-b->a=b+c:=ln 0x1f7bd81ad26c1d27554e83 [a,b,c] []
theorem o92:c=a+(b+d)->a+b<=c:=ln 0x7deaa869360436a4ea4 [a,b,c,d] []
theorem o93:a+b-a=b:=ln 0x1f650730d262 [a,b] []
theorem AG:a<=1000000->a<=10000000:=ln 0xfbd49896802826af424020261 [a] []
theorem o95:b<a->¬(a<=b):=ln 0x7dee5526a9ee82 [a,b] []
theorem bN:0<=(a:Int):=F7 _
theorem o97:c<=a+b->¬((a:Int)+(b:Int)<(c:Int)):=ln 0x3ef72d35d85344cd41a4ea3 [a,b,c] []
theorem o98(h0:a+b<c):(a:Int)+(b:Int)<(c:Int):=P0.mpr h0
theorem o99:0<=(a:Int)+(b:Int):=F7 _
theorem Va(h0:b<=a):a-b+b=a:=Nat.sub_add_cancel h0
theorem NH:a<=a:=r7 _
theorem Vb:a<c->c<=b->(a:Int)<(b:Int):=ln 0x1f7bd69a6d33552aaaee63 [a,b,c] []
theorem Vc:a+b=c->b<c->a-1<a:=ln 0x1f7bd53d8c2104d55dd1950d263 [a,b,c] []
theorem Vd:a+b=c->b<c->a-1+(b+1)=c:=ln 0x7def6543ba0c2104d55dd1950d263 [a,b,c] []
theorem Ve:c+a=b->¬(a<b)->a=b:=ln 0x1f7bd949b954dcd940cea3 [a,b,c] []
theorem gI(h0:a<b):(a:Int)<(b:Int):=P0.mpr h0
theorem Vf:a<=c->c<b->a<=b:=ln 0x3ef7aa935537555663 [a,b,c] []
theorem Vg:¬(a<b)->¬((a:Int)<(b:Int)):=ln 0x7dee5a69b4cdcaa6e62 [a,b] []
theorem Vh(h0:a<=c)(h1:c<=b):a<=b:=g9 h0 h1
theorem JS(h0:a=b):a<=b:=I5 h0
theorem Vi:a=b+(c+1)->¬(a<=b):=ln 0x1f7b9549b03bad263 [a,b,c] []
theorem Vj:a<=a+b:=C2 _ _
theorem Vk:a<=b->a+(b-a)=b:=ln 0x1f7b2811ce9355262 [a,b] []
theorem NI:a<b+c->b<=a->a-b<c:=ln 0x7def55763a4d53a2835a6e63 [a,b,c] []
theorem Vl:1+a=a+1:=ln 0x3ecdcc3308401 [a] []
theorem Vm:1<=b->a<=c->a+1<=b+c:=ln 0x3ef7a835a6e6aacd5408403 [a,b,c] []
theorem Vo:b=c+a->b<=1000000->a<=1000000:=ln 0x1f7bd5e8480404d5e84804051819d683 [a,b,c] []
theorem Vp:a+b<=1000000->a<=1000000:=ln 0x1f7abd0900809abd0900800d262 [a,b] []
theorem Vq(h0:a<=1000000):a+b*0<=10000000:=g9 h0 `e
theorem NJ:48<=a/\a<=57->a=48\/a=49\/a=50\/a=51\/a=52\/a=53\/a=54\/a=55\/a=56\/a=57:=ln 0x1f7c6318c6318c581c88136070204d81b8813606c204d81a88136068204d81988136064204d81888136060204e0a0e4409aa6180801 [a] []
theorem Vr:a=48\/a=49\/a=50\/a=51\/a=52\/a=53\/a=54\/a=55\/a=56\/a=57->48<=a/\a<=57:=ln 0x1f7c141c881354c30102318c6318c62c0e4409b0381026c0dc409b0361026c0d4409b0341026c0cc409b0321026c0c4409b03010261 [a] []
theorem JT:i<0->i=-((u6 i:Nat):Int):=ln 0x3ef6993d9cd6006e61 [] [i]
theorem JU:-(a:Int)<0->0<a:=ln 0x7dea9ec005801b32661 [a] []
theorem JV:u6 (-(a:Int))<b->a<b:=ln 0x3ef553735537d32662 [a,b] []
theorem NK(h0:a<=10):a<=10000000:=g9 h0 `e
theorem NL:a<=10->¬(160<(a:Int)):=ln 0x1f7b9699eca01014a08261 [a] []
theorem Vt:-1*(a:Int)=-(a:Int):=by lia
theorem JW:¬(i<0)->i=((u6 i:Nat):Int):=ln 0x3ef6a7b39b96006e61 [] [i]
theorem JX(h0:u6 (a:Int)<b):a<b:=h0
theorem Vu:1*(a:Int)=(a:Int):=ln 0x3ed4cc2122661 [a] []
theorem Vv:a=45\/48<=a/\a<=57->a≠41/\a≠32/\a≠10:=ln 0x1f7c20e628209b981008137302910271828391026a986020302d10261 [a] []
theorem Vw:¬(48<=a/\a<=57)->¬(a=48)/\¬(a=49)/\¬(a=50)/\¬(a=51)/\¬(a=52)/\¬(a=53)/\¬(a=54)/\¬(a=55)/\¬(a=56)/\¬(a=57):=ln 0xfbe10842108420e6072204dcc0e0409b981b8813730361026e606a204dcc0d0409b98198813730321026e6062204dcc0c0409ba0a0e4409aa6180801 [a] []
theorem Vx:a=45\/48<=a/\a<=57->¬(a=34):=ln 0x3ef7302210271828391026a986020302d10261 [a] []
theorem Vy:a=45\/48<=a/\a<=57->¬(a=40):=ln 0x3ef7302810271828391026a986020302d10261 [a] []
theorem Vz:48<=a/\a<=57->a=45->False:=ln 0xfbdf2605a204e0a0e4409aa6180801 [a] []
theorem VA:a<=c->a<=b+c:=ln 0x7dea0d69355663 [a,b,c] []
theorem VB(h0:i<=2):¬(2<i):=S7.mpr h0
theorem VC:i+((a+1:Nat):Int)=2->i+1<=2:=ln 0x3ef58820dcda208029dce61 [a] [i]
theorem VD:i+((a+1:Nat):Int)=2->i+1+(a:Int)=2:=ln 0x1f7b44100533dcda208029dce61 [a] [i]
theorem VE:a+2*b+2+4+1<=a+(2*(b+1)+5):=r7 _
theorem JY:b+(c+(d+(e+1)+1)+1)<=1000000->a<=d->a<=1000000:=ln 0xfbdeaf42402026ab4d5e8480400761d8777b5685 [a,b,c,d,e] []
theorem VF:a<=100->b=1->a+b<=10000000:=ln 0x3ef7a9312d0050069360420a286410262 [a,b] []
theorem VG:a<=100->a+1<=1000000:=ln 0x3ef57a120101b9a86410261 [a] []
theorem VH:b<=1000000->min a b<=1000000:=ln 0x1f7abd0900803d26af424020282 [a,b] []
theorem JZ(h0:j<=i):¬(i<j):=S7.mpr h0
theorem VI(h0:a<c)(h1:c<b):a<b:=I6 h0 h1
theorem VJ:¬(a=34)->¬(a=92)->¬(a=34\/a=92):=ln 0xfbdee8b05c1026c088409b982e08137302210261 [a] []
theorem VK:a<=b->b<=100000->a<=1000000:=ln 0x7def57a120101350c350101455262 [a,b] []
theorem VL:a<=100000->a+b*0<=10000000:=ln 0xfbd4989680280202d26a186a020262 [a,b] []
theorem NO:a+b+(c+1)=a+1+(b+c):=ln 0x7d810d69b987750d263 [a,b,c] []
theorem VM:a<=a+b+1:=ln 0xfab61a4e62 [a,b] []
theorem VN:a<=c->a<=b+c+1:=ln 0xfbd5b0d69355663 [a,b,c] []
theorem VO:a<=49998->a<=100000:=ln 0x7dea186a02026a0c34e20261 [a] []
theorem J_:a<=49998->1+a<=10000000:=ln 0xfbd4989680280330840a0c34e20261 [a] []
theorem Ka:a<=49998->1+a<=9999999:=ln 0xfbd498967f280330840a0c34e20261 [a] []
theorem NP:b+a=c->c<=d+1->d<=49998->a<=1000000:=ln 0x3ef7bd5e8480404d41869c40595bb55950ce84 [a,b,c,d] []
theorem NQ:a<=b+1->b<=49998->a<=50000:=ln 0xfbdea0c3502026a0c34e2028add262 [a,b] []
theorem NR:a+b=c->c<=d+1->d<=49998->a+b*1<=10000000:=ln 0xfbdef52625a00a008425a4d41869c40595bb55950d264 [a,b,c,d] []
theorem NS:b+c=d->a=c->d<=50000->a<=1000000:=ln 0x1f7bdeaf42402026a0c350202ccacd960d684 [a,b,c,d] []
theorem VP(h0:a<=10):a+1<=10000000:=M1 h0 `e
theorem VQ:b+a=c->c<=50000->2+a<=1000000:=ln 0x1f7bd5e84804006620814186a04055950ce83 [a,b,c] []
theorem VR:c+d=e->a<=100->b<=10->e<=50000->a+(b+1+c)+(d+1+1)*1<=10000000:=ln 0x7def7bd4989680280210977bb0435dd26a0c350202ea5041450c8204d970daa5 [a,b,c,d,e] []
theorem pF(h0:a<=1000):a<=1000000:=g9 h0 `e
theorem VS:a=b+1->b<=1000->a<=1000000:=ln 0x3ef7abd0900809abe81028cdd262 [a,b] []
theorem VT:a=4->b<=10->a+b<=10000000:=ln 0x1f7bd4989680280349a9410518408262 [a,b] []
theorem VU(h0:a<=1000):a<=999998:=g9 h0 `e
theorem VV:a+b+(d+1)+e<=1000000->c<=10->a+b+(4+c+0)+(d+1+(0+1))*1<=10000000:=ln 0x3ef7a9312d005004212876006ec108001a90200d26a5041557a1201001b87760d265 [a,b,c,d,e] []
theorem FL:a<=5->b<=6->a+b<=10000000:=ln 0x1f7bd4989680280349a8c10514508262 [a,b] []
theorem FN:a<=5->b<=6->a+b<=100:=ln 0x3ef7a864100349a8c10514508262 [a,b] []
theorem VW:a<=900->a<=1000:=ln 0x7deafa0409ab8410261 [a] []
theorem VX(h0:a<=900):a<=999:=g9 h0 `e
theorem VY(h0:a<=900):a<=998:=g9 h0 `e
theorem VZ(h0:a<=900):a<=997:=g9 h0 `e
theorem Kc:0<=i->i<(a:Int)->l5 i<a:=ln 0x3ef7aa7b44d699ee6b98001 [a] [i]
theorem NT:a<=100000->a<=1000000:=ln 0x7deaf42402026a186a020261 [a] []
theorem Kd(h0:¬(i+j<0)):0<=i+j:=S7.mp h0
theorem V_:¬((a:Int)<=i+j)->i+j<(a:Int):=ln 0x1f7ad33d869372c349a662 [a] [i,j]
theorem Wa:a=b->¬((b:Int)<=i+j)->i+j<(a:Int):=ln 0x1f7bd699ec349b961a4d3465262 [a,b] [i,j]
theorem Wb(h0:a=b)(h1:b<=100000):a<=100000:=h0▸h1
theorem FO(h0:i<(b:Int))(h1:b=a):i<(a:Int):=h1▸h0
theorem FP(h0:b=a)(h1:b<=1000):a<=100000:=g9 (h0▸h1) `e
theorem sM(h0:a<=1000):a<=100000:=g9 h0 `e
theorem FQ(h0:a<=60):a<=100000:=g9 h0 `e
theorem Ke:a=b->(a:Int)=(b:Int):=ln 0x7ded4d13365262 [a,b] []
theorem FT(h0:b=a)(h1:b<=1000):a<=1000000:=g9 (h0▸h1) `e
theorem Wc:c=a->c=b->(a:Int)=(b:Int):=ln 0x7def6a6899b29564ea3 [a,b,c] []
theorem Wd:a<c->d=b->d=c->(a:Int)<(b:Int):=ln 0x1f7bdeb4d3699b2b6652caaee64 [a,b,c,d] []
theorem We(h0:0<=i):¬(i<0):=S7.mpr h0
theorem Wf(h0:i<=(a:Int)):¬((a:Int)<i):=S7.mpr h0
theorem AI(h0:0<=i):0<=i:=by omega
theorem Wg:i<=(b:Int)->b<c->d=a->d=c->i<(a:Int):=ln 0x1f7bdef5a67b9b2b664ecaaee8b4d264 [a,b,c,d] [i]
theorem cI:a<c->b=c->(a:Int)<(b:Int):=ln 0x1f7bd69a6d336568aaee63 [a,b,c] []
theorem Wh:i<=(b:Int)->a=c->b<c->i<(a:Int):=ln 0x1f7bdeb4cf73557746566b4d263 [a,b,c] [i]
theorem Wi:a=b->b<=60->a<=1000000:=ln 0x1f7bd5e8480404d41e081465262 [a,b] []
theorem Cn(h0:a<=60):a<=1000000:=g9 h0 `e
theorem NU:l5 (-1+((a:Int)+1))=a:=ln 0x1f64d01da66608401 [a] []
theorem Wj:1<=(a:Int)+1:=ln 0x1f5ed3308401 [a] []
theorem Wl:0<=i->¬(i-1< -1):=ln 0x7dee5982106c410826b98001 [] [i]
theorem Wm:i<=(a:Int)->¬((a:Int)<=i-1):=ln 0xfbdcb104209a66b4ce61 [a] [i]
theorem Wn:i=0->i-1=-1:=ln 0x1f7b4c1080410826d00261 [] [i]
theorem NV:a=b->b<=60->a<=100000:=ln 0x1f7bd430d40404d41e081465262 [a,b] []
theorem Wo:i=0->¬(0<=i-1):=ln 0xfbdcb104209800d00261 [] [i]
theorem Wq:¬(i=0)->¬(i-1=-1):=ln 0x7dee698210082104dcd00261 [] [i]
theorem Co:0<=i->¬(i=0)->0<=i-1:=ln 0x1f7bd6208413001cd0026b98001 [] [i]
theorem Wr:i<=(a:Int)->i-1<(a:Int):=ln 0xfbd699ec410826b4ce61 [a] [i]
theorem NW:i<=(b:Int)->a=b->i-1<(a:Int):=ln 0xfbdeb4cf62084136526b4d262 [a,b] [i]
theorem Wt:a<b->¬((a:Int)=(b:Int)):=ln 0x1f7b9a9a266aa6e62 [a,b] []
theorem Wu:i=0->¬(i=(a:Int)+1):=ln 0x1f7b9bb4ce6d00261 [a] [i]
theorem Wv:0<=i->i<=(b:Int)->a=b->¬(i=0)->l5 (i-1)<a:=ln 0x7def7bd53da0410826e680136526b4d26b98002 [a,b] [i]
theorem AJ:a=b->c=b->c<=1000->a<=1000000:=ln 0x1f7bdeaf42402026afa040ab29565263 [a,b,c] []
theorem Ww(h0:0<=i)(h1:¬(i=0)):((l5 (i-1):Nat):Int)=i-1:=V7 (by lia)
theorem Wx:a<b->b<=60->a<=1000000:=ln 0x3ef7abd0900809a83c1028aa6e62 [a,b] []
theorem Wy:i=i-1+1:=ln 0x3edd882104e61 [] [i]
theorem Wz:¬(a=l5 (i-1))->¬(i=(a:Int)+1):=ln 0x3ef737699cdcc4082104e61 [a] [i]
theorem WA:i<(b:Int)->a=b->c<b->l5 i<a:=ln 0x3ef7bd53da26aa6eaca4d69a6e63 [a,b,c] [i]
theorem AK(h0:¬(b<a)):a<=b:=I4.mp h0
theorem WB:a-b=0->¬(a<b)->a=b:=ln 0x3ef7b29372a9b9b0001d262 [a,b] []
theorem NX:0<=i->((l5 i:Nat):Int)=i:=ln 0xfbdb34a26b98001 [] [i]
theorem NY:a<c->b=d->e=c->e=d->a<b:=ln 0x7def7bd54dcd96bb2b765a8aaee65 [a,b,c,d,e] []
theorem FU:b<=6/\c<=100->a<=5->a+b<=10000000:=ln 0xfbdea4c4b401401a4d450827050c820554608283 [a,b,c] []
theorem WC:a<b->(a:Int)-i<(b:Int)-i:=ln 0x1f7ac534d3629a66aa6e62 [a,b] [i]
theorem WD(h0:i<j):¬(i=j):=Int.ne_of_lt h0
theorem WE:a<=b->b<=60->a<64:=ln 0xfbdea10040dcd41e081455262 [a,b] []
theorem WG(h0:a<c)(h1:c=b):a<b:=h1▸h0
theorem WH:b=a->c=b->c<=1000->a<=1000000:=ln 0x1f7bdeaf42402026afa040ab29564e83 [a,b,c] []
theorem NZ:a<c->b=d->d=c->a<b:=ln 0x7def7aa9b9b2b665a8aaee64 [a,b,c,d] []
theorem Kf:b=a->c=b->c<=1000->a<=100000:=ln 0x1f7bdea186a02026afa040ab29564e83 [a,b,c] []
theorem Kg:a=b->c=b->d=c->d<=1000->a<=100000:=ln 0x1f7bdef50c350101357d0205995b329565264 [a,b,c,d] []
theorem WJ(h0:1<=i):¬(i<1):=S7.mpr h0
theorem WK:0<=i->0<=j->¬(j=i)->¬(l5 i=l5 j):=ln 0x7def7b988a226e6ce8ba000b98002 [] [i,j]
theorem WL(h0:a<=1):a<=2:=g9 h0 `e
theorem WM(h0:i<=(a:Int)):a+1-l5 i=a-l5 i+1:=Nat.succ_sub (Int.toNat_le.mpr h0)
theorem WN:a+1-l5 j=b+1->0<=j->j<i/\i<=(a:Int)->a+1-l5 i<=b:=ln 0x1f7bdeaa0d13dce0b4ce6b9ee8ba000cdd068a6e62 [a,b] [i,j]
theorem WO(h0:0<a):0<a:=by omega
theorem WQ:0<b->a<=b->a<b*3:=ln 0x7def50c25a6e6aa4d54d8002 [a,b] []
theorem WS:0<b->a<=c->a+1<=b+c:=ln 0x3ef7a835a6e6aacd54d8003 [a,b,c] []
theorem Cp(h0:a<c)(h1:b=c):a<b:=h1▸h0
theorem Kh:a=b->b<=8->a<=1000000:=ln 0xfbdeaf42402026a4041465262 [a,b] []
theorem N_:l5 ((a:Int)+1)=a+1:=rfl
theorem WT:i<=(a:Int)->l5 i<a+1:=ln 0x1f7ab73da26b4ce61 [a] [i]
theorem Oa:a<=10->a+1<=60:=ln 0x7dea0f040dcd4a08261 [a] []
theorem WU:a<=19999->a<=1000000:=ln 0x3ef57a120101354e1f18261 [a] []
theorem FW:i<=(b:Int)->a=b+1->i<(a:Int):=ln 0x1f7bd699ee6cdd26b4d262 [a,b] [i]
theorem Kl:a=b+1->b<=8->a<=100000:=ln 0x1f7bd430d40404d480828cdd262 [a,b] []
theorem WV:i=-1->¬(0<=i):=ln 0x3ef72e60034c108261 [] [i]
theorem WW:a=b+1->b<=8->a<=1000000:=ln 0x1f7bd5e8480404d480828cdd262 [a,b] []
theorem Km:a<b->b<=20000->a<=20000:=ln 0x3ef7aa7100c1354e201828aa6e62 [a,b] []
theorem WX:0<=i->i<=(a:Int)->¬(i=(a:Int))->l5 i<a:=ln 0x7def7aa7b44dcd4ce6b4ce6b98001 [a] [i]
theorem lX(h0:0<=i):i=((l5 i:Nat):Int):=(V7 h0).symm
theorem WY:a=b->b<=8->a<=1000:=ln 0x3ef7abe81026a4041465262 [a,b] []
theorem WZ:a+c<=20000->b<=2->a+b<=1000000:=ln 0xfbdeaf4240200349a84105153880600d663 [a,b,c] []
theorem xO(h0:a<b):a<b:=by omega
theorem W_:0<=j->j<i/\i<=(a:Int)/\k=l-m+n->0<=i/\i<=(a:Int):=ln 0x3ef7c1699cd730021068702bdaab4ce6b9ee8ba0006 [a] [i,j,k,l,m,n]
theorem Xa:0<=j->i=j->0<=i:=ln 0x7def5cc006d26ba0002 [] [i,j]
theorem Xb:b=a+1->(a:Int)<(b:Int):=ln 0x1f7ad34da66cdce82 [a,b] []
theorem Xc:(a:Int)<=(a:Int):=ln 0x7d699a661 [a] []
theorem vQ(h0:a=b)(h1:b<=1000):a<=1000000:=g9 (h0▸h1) `e
theorem Xd(h0:i<=(a:Int)-1):i<=(a:Int)-1:=by omega
theorem Kn:3<=i->0<=i:=ln 0xfbd730017318401 [] [i]
theorem Ob:a<=999->a<=999999:=ln 0x1f7abd08fc809abe710261 [a] []
theorem Xe:0<b->a=b->0<(a:Int):=ln 0x3ef7ad33d800ca4d54d8002 [a,b] []
theorem FY(h0:a=b)(h1:b<=1000):a<=100000:=g9 (h0▸h1) `e
theorem Ko:a<l5 i->i<=(b:Int)->a<b:=ln 0x1f7bd54dcd69a4d489ee62 [a,b] [i]
theorem Xf:i<=(b:Int)->a<=c->b<=1000->c<l5 i->a<=1000000:=ln 0xfbdef7abd0900809a913dd55f408145566b4d263 [a,b,c] [i]
theorem Oc(h0:a<=b):a<=b:=by omega
theorem Xg:0<a/\a<=1000->a<=1000000:=ln 0x7deaf42402027057d0204d53d8001 [a] []
theorem Xh:0<a/\a<=1000->¬((a:Int)=0):=ln 0x1f7b9a00267057d0204d53d8001 [a] []
theorem Od(h0:(b:Int)=(a:Int)-i):(a:Int)-i=(b:Int):=h0.symm
theorem Oe:i<=(a:Int)-1->i<=(a:Int):=ln 0x7deb4ce6b104204ce61 [a] [i]
theorem Of(h0:i<=k)(h1:k<=j):i<=j:=Int.le_trans h0 h1
theorem Xi:i<=j\/j<=i:=ln 0x1f8ae745d262 [] [i,j]
theorem Og(h0:a<=10):a<64:=M1 h0 `e
theorem Oh(h0:a=b)(h1:b<=10):a<=1000000:=g9 (h0▸h1) `e
theorem Xj:b=c->c<=10->min a b<=1000000:=ln 0x3ef7abd0900803d26a5041565683 [a,b,c] []
theorem gW:a=b->b<=3->a<=1000000:=ln 0xfbdeaf42402026a1841465262 [a,b] []
theorem Oi:a<c->c<=3->min a b<=1000000:=ln 0x7def57a1201007a4d43082aaaee63 [a,b,c] []
theorem Oj:a<=b->b<c->c<=3->a<=1000000:=ln 0x1f7bdeaf42402026a184155577455263 [a,b,c] []
theorem Xk(h0:a<=b):a+1<=b+1:=M0 h0
theorem qh:a=b->b<=3->a<=100000:=ln 0xfbdea186a02026a1841465262 [a,b] []
theorem AL(h0:a<=10):a<=1000000:=g9 h0 `e
theorem Xl(h0:0<a):0<(a:Int):=P0.mpr h0
theorem Xm:¬(0<a)->¬(0<(a:Int)):=ln 0xfbdcb4cf6003953d8001 [a] []
theorem Ol(h0:a<=b)(h1:b<=3):a<=3:=g9 h0 h1
theorem Xn(h0:b=a)(h1:b<=3):a<=3:=h0▸h1
theorem qi(h0:a<=3):a<=1000000:=g9 h0 `e
theorem Xo:¬((a:Int)<=i)->i<(a:Int):=ln 0x1f7ad33dcdcb9a661 [a] [i]
theorem Xp:-i=-i+(a:Int)-(a:Int):=ln 0x1f689330a66699a61 [a] [i]
theorem Xq:-i<=-i:=ln 0x7d6699a61 [] [i]
theorem Xr(h0:a<=999):a<=999:=by omega
theorem Xs:-j<=i->0<=i+j:=ln 0x1f7ac349800b99a82 [] [i,j]
theorem Xu:-k<=i->k<=j->0<=i+j:=ln 0x1f7bd61a4c005d2ab99aa3 [] [i,j,k]
theorem Xv:i=-j+(a:Int)-((0:Nat):Int)->(a:Int)<=i+j:=ln 0xfbd61a4d33689200053335262 [a] [i,j]
theorem Xw:i=-k+(a:Int)-((0:Nat):Int)->k<=j->(a:Int)<=i+j:=ln 0xfbdeb0d2699ae95689200053335663 [a] [i,j,k]
theorem Xx:a<a+1:=r7 _
theorem Xy:i=-j+(a:Int)-((b+1:Nat):Int)->i+1=-j+(a:Int)-(b:Int):=ln 0x1f7b449a0533353736893ba053335262 [a,b] [i,j]
theorem Xz:-i<=j->-i<=j+1:=ln 0xfbd7ba1a6ba1a62 [] [i,j]
theorem XA:(a:Int)<i->l5 i-a=l5 i-a-1+1:=ln 0x3ef66c610807344c7344d73da661 [a] [i]
theorem XC:l5 i-a=b+1->l5 i-(a+1)=b:=ln 0x1f7b283dcd1366e839a262 [a,b] [i]
theorem XD:i<=(a:Int)->l5 i-a=0:=ln 0x3ef600039a26b4ce61 [a] [i]
theorem Om:a<=2000->a<=1000000:=ln 0x3ef57a1201013507d018261 [a] []
theorem XE(h0:a=b)(h1:b<=2000):a<=1000000:=g9 (h0▸h1) `e
theorem XF:(a:Int)<i->b=l5 (i-(a:Int))->l5 (i-((a:Int)+1))<b:=ln 0x1f7bd54da05b4ce6c409339d173da662 [a,b] [i]
theorem XG:(a:Int)<i->i<=2000->a<=1999:=ln 0x7def507cf1826b0fa0304d73da661 [a] [i]
theorem XH:(b:Int)<i->a=b->(a:Int)<i:=ln 0x1f7bd73da66ca4d73da682 [a,b] [i]
theorem XI:a=b->¬((b:Int)<i)->i<=(a:Int):=ln 0x1f7bd699cdcb9ed3465262 [a,b] [i]
theorem XJ(h0:¬((a:Int)<i)):i<=(a:Int):=S7.mp h0
theorem XK:i<=i/\i<=i+((0:Nat):Int):=ln 0x1f82c29002735ce61 [] [i]
theorem XM:i<=i/\i<=i+((a+1:Nat):Int):=ln 0x1f82c29dce735ce61 [a] [i]
theorem XN:i+1<=j/\j<=i+1+(a:Int)->i<=j/\j<=i+((a+1:Nat):Int):=ln 0x3ef82c29dce745d27058533dce8ba6e62 [a] [i,j]
theorem Kq:a<=100->a<=1000:=ln 0x7deafa0409a86410261 [a] []
theorem XO:a+1=b->b<=10->a<=999:=ln 0x7def57ce204d4a0828ca6e62 [a,b] []
theorem XQ:0<b->a=b->-(a:Int)<=-1:=ln 0xfbdeb304203266ca4d54d8002 [a,b] []
theorem FZ:l5 (-1+(a:Int))=a-1:=ln 0xfb061082680a66608401 [a] []
theorem XR:-k<=i/\i<=-k+(a:Int)->0<=j/\j<10->0<=k/\k<10->a<=100->i+j+1<=2000:=ln 0xfbdef7ac3e80c1b0d26a190409c16a083755d40082d4106e8ba0010585333566b99aa3 [a] [i,j,k]
theorem XS(h0:a<=100):a<=2000:=g9 h0 `e
theorem XT:-k<=i/\i<=-k+(a:Int)->0<=j/\j<10->0<=k/\k<10->a<=100->l5 (i+j+1)<=120:=ln 0xfbdef7a8781011b0d26a190409c16a083755d40082d4106e8ba0010585333566b99aa3 [a] [i,j,k]
theorem Oo:b-1<=a->a<b->a=b-1:=ln 0x3ef7b061082935537354c6108282 [a,b] []
theorem XU:i=j->i<=j:=ln 0x1f7ae936d262 [] [i,j]
theorem Oq:-k<=i/\i<=-k+(a:Int)->k<=j->0<=i+j:=ln 0x1f7bd61a4c005d2b0585333566b99aa3 [a] [i,j,k]
theorem XW:i+l+1=k->j<=l->i+j<k:=ln 0x7def5d761a4d76a36bb0da64 [] [i,j,k,l]
theorem Ot(h0:0<=i+j/\i+j<k):0<=i+j:=h0.1
theorem Kr(h0:a+1<=b):a<=b:=K7 h0
theorem F_(h0:a+1<=b):a<b:=h0
theorem XX:a<=c+10->c<=10*b->a<=10*(b+1):=ln 0xfbdea5049ba4d4a092955054105663 [a,b,c] []
theorem XY(h0:a<b):a<=b:=K7 h0
theorem XZ:a<=10*b->b<c->c<=3->a<=100:=ln 0x3ef7bd432081350c20aaabba294125263 [a,b,c] []
theorem Ks:0<=i/\i<(b:Int)->a=b->i<(a:Int):=ln 0x3ef7ad33dcd949c169a6e6b98002 [a,b] [i]
theorem X_:(a:Int)<=i->a<=l5 i:=ln 0x7dea44e6b9a661 [a] [i]
theorem Yc(h0:¬(l5 i<a)):a<=l5 i:=I4.mp h0
theorem Yd:i=j+k->i-j=k:=ln 0x1f7b6a2a4da1ad263 [] [i,j,k]
theorem Ye:i-j=k->¬(i=j+k)->False:=ln 0xfbdf273435a4db515263 [] [i,j,k]
theorem Yg:i+1+(a:Int)=i+((a+1:Nat):Int):=ln 0x1f6853b9cc299ee61 [a] [i]
theorem Yh:j<=l->k=i+l+1->i+j<k:=ln 0x7def5d761a4dbb0da755da84 [] [i,j,k,l]
theorem Yi:-j<=i/\i<=-j+(a:Int)->0<=j/\j<10->-10<i:=ln 0x3ef7ae7b3282082d4106e8ba0010585333526b99a82 [a] [i,j]
theorem Yj:-j<=i/\i<=-j+(a:Int)->0<=j/\j<10->i<=(a:Int):=ln 0x7def5a67382d4106e8ba0010585333526b99a82 [a] [i,j]
theorem Yk:i<=j->(a:Int)<=-i+(a:Int)+j:=ln 0xfbd61a053334d335d262 [a] [i,j]
theorem Yl:j+k<(a:Int)->(a:Int)<=j+k->i=0:=ln 0x1f7bda004d61ad1335a67b0d683 [a] [i,j,k]
theorem Ym:0<=j->j+1=0->i=0:=ln 0x1f7bda004da006e8ba0002 [] [i,j]
theorem Yn:i+1-1=i:=ln 0x3ed9882106e61 [] [i]
theorem Yo:i+(j+k-i)=j+k:=ln 0x1f686b408a61ad263 [] [i,j,k]
theorem Cq:i+j-i=j:=ln 0x1f6d0530d262 [] [i,j]
theorem Ou:0<=i->¬(i+1=0):=ln 0x1f7b9a006e6b98001 [] [i]
theorem Yp:0<=i+j/\i+j<k->k<=0->False:=ln 0x3ef7c9600560baec349ac3498003 [] [i,j,k]
theorem Yq:0<a->0<=(a:Int)-1:=ln 0x1f7ac410813300153d8001 [a] []
theorem Yr:-10<i->i<=(a:Int)->a<=60->u6 i<=100:=ln 0x1f7bdea19040ecd41e08135a6735cf6650401 [a] [i]
theorem Ys(h0:i<(a:Int)):¬(i=(a:Int)):=Int.ne_of_lt h0
theorem Ga:i<(a:Int)->i<((a+1:Nat):Int):=ln 0x3ef5a773dcd699ee61 [a] [i]
theorem Yt:i=(a:Int)->i<((a+1:Nat):Int):=ln 0x1f7ad3b9ee6d4ce61 [a] [i]
theorem Yu:b+1<=c->a<=10*b->c<=3->a<=60:=ln 0x3ef7bd41e081350c20aa9412526aaee83 [a,b,c] []
theorem Yv:a<=10*b->b<=3->a<=30:=ln 0xfbdeaf041350c20a294125262 [a,b] []
theorem Ov(h0:a<=c)(h1:c<b):a<b:=M1 h0 h1
theorem Ku:¬((a:Int)+1=0):=ln 0x1f73400da661 [a] []
theorem Ow:(a:Int)+1-1=(a:Int):=ln 0xfb53310420da661 [a] []
theorem Yw:i+((a:Int)-i)=(a:Int):=ln 0x7da9984534ce61 [a] [i]
theorem Yx:(a:Int)<0->False:=ln 0x3ef92c00da661 [a] []
theorem Yy:(a:Int)<=(b:Int)->b<a->False:=ln 0x3ef7c953dd169a2662 [a,b] []
theorem Kv:(a:Int)<(b:Int)->a<b:=ln 0x1f7aa9b9ad34da662 [a,b] []
theorem Yz:(c:Int)<(b:Int)->a<=c->a<b:=ln 0x1f7bd54dcd559ad34da6a3 [a,b,c] []
theorem Cr:a<=3->a<=1000:=ln 0x3ef57d0204d4308261 [a] []
theorem YA:a<=30->a<=60:=ln 0x3ef5078204d5e08261 [a] []
theorem Ox(h0:a<=b):(a:Int)<=(b:Int):=T6.mpr h0
theorem YB:i-1=(a:Int)->0<=i:=ln 0x7deb9800d4cc4108261 [a] [i]
theorem YC:i-1=(b:Int)->b<a->i<=(a:Int):=ln 0xfbdeb4ce6a9ee8d4d04108262 [a,b] [i]
theorem YD(h0:(a:Int)=(b:Int)):a=b:=Int.ofNat_inj.mp h0
theorem YE:0<=i+j->((l5 (i+j):Nat):Int)=i+j:=ln 0x3ef686934a0349ac3498002 [] [i,j]
theorem YF:((l5 (i+j):Nat):Int)=i+j->i+j<(a:Int)->l5 (i+j)<a:=ln 0x7def54f680d26b4cf61a4da1a4d280d262 [a] [i,j]
theorem YG:i=0->0<=i/\i<=3:=ln 0x1f7c1630826b9800d00261 [] [i]
theorem Kw:(a:Int)<(c:Int)->c=b->a<b:=ln 0x1f7bd54dcd94aad35da663 [a,b,c] []
theorem YH(h0:a<64):a+1<=64:=h0
theorem YI(h0:a<=64):(a:Int)<=64:=T6.mpr h0
theorem YJ(h0:0<i):0<=i:=Int.le_of_lt h0
theorem YK:min 40 a<=40:=ln 0x1f5050201e6140801 [a] []
theorem Ge(h0:a<=40):a<=1000000:=g9 h0 `e
theorem Gf(h0:1<=i):0<i:=h0
theorem Cs(h0:1<=i):¬(i=0):=Int.ne_of_gt h0
theorem Oz:1<=i->i<1000->u6 i<1073741824:=ln 0x1f7bd4100000000e0df66bfa040dcd7308401 [] [i]
theorem YL:i<=j->i<=j+1:=ln 0x3ef5ee935d262 [] [i,j]
theorem OA:0<=i->¬(0<i)->i=0:=ln 0x3ef7b4009b973d800b98001 [] [i]
theorem YM(h0:0<(a:Int)):¬((a:Int)=0):=Int.ne_of_gt h0
theorem YN:a<=40->a<=100000:=ln 0x1f7a861a80809a82810261 [a] []
theorem OB:0<=i->0<=2*i+7207:=ln 0xfbd61384e3008249800b98001 [] [i]
theorem YO:0<=i/\i<2147483629->i<=2147483629:=ln 0x7deb0ffffffda704e0b0ffffffda706e6b98001 [] [i]
theorem YQ:i<=j->j<=100000->2*i+7207<=207207:=ln 0xfbdeb329672002709c601049358c35010145d262 [] [i,j]
theorem YR:0<=i->0<=20947*i:=ln 0xfbd7474c649800b98001 [] [i]
theorem YS:i<=j->j<=100000->20947*i<=2094700000:=ln 0x7def587cda95e03828e98c9358c35010145d262 [] [i,j]
theorem YT(h0:i<=j)(h1:j<=100000):i<=100000:=Int.le_trans h0 h1
theorem OC:0<=i->0<=i+1:=ln 0xfbd7b9800b98001 [] [i]
theorem OD:i<=j->i+1<=j+1:=ln 0x7debdd3735d262 [] [i,j]
theorem OE:a<1000->a<=1000000:=ln 0x3ef57a120101357d0206e61 [a] []
theorem YU(h0:0<a):1<=(a:Int):=P0.mpr h0
theorem YV:a<1000->(a:Int)<1000:=ln 0x3ef5fd0206d3357d0206e61 [a] []
theorem YW:0<a->i<(a:Int)->l5 i<a:=ln 0x7def54f689ad33dcd53d8001 [a] [i]
theorem YX:0<=i->i<(a:Int)+1->¬(i=(a:Int))->l5 i<a:=ln 0x1f7bdea9ed13735339af699ee6b98001 [a] [i]
theorem YY(h0:a<=3):a<=3:=by omega
theorem Ky(h0:a=b):a=b:=by omega
theorem OF:0<(a:Int)+1:=ln 0x1f5ed33d8001 [a] []
theorem Kz:1<=a->¬(0=(a:Int)):=ln 0x3ef735330015308401 [a] []
theorem YZ:1<=b->a=b->¬(0=(a:Int)):=ln 0x3ef7b9a99800ca4d5408402 [a,b] []
theorem OG(h0:1<=i):0<=i:=Int.le_of_lt h0
theorem Y_(h0:i<(a:Int)+1):i<(a:Int)+1:=by omega
theorem KC(h0:i<(b:Int)+1)(h1:a=b):i<(a:Int)+1:=h1▸h0
theorem OH:i<=90000->i<=100000:=ln 0x7deb186a02026b15f9020261 [] [i]
theorem Za:i+1<=i+1+3*((0:Nat):Int):=ln 0x3eb08c244801b9ee61 [] [i]
theorem Zb:1<=l->l<1->i+1<=j/\j<=i+k-1:=ln 0x1f7be0b104200d6745d37358420dd97608404 [] [i,j,k,l]
theorem OI:0<=i->i<1->i=0:=ln 0x3ef7b4009ac2106e6b98001 [] [i]
theorem Zc:a<l5 (1+i)->i<3->a<3:=ln 0x1f7bd430837358c20dcd480cc2106e61 [a] [i]
theorem Zd:i<=90000->a<3->i+1+3*(a:Int)<=100000:=ln 0x1f7bd630d404004612267b9a86106e6b15f9020261 [a] [i]
theorem Ze:2<=i->1<=i-1:=ln 0x1f7ac41082610817310401 [] [i]
theorem Zf:i<=3->i-1<1000:=ln 0x7debfa040d882104d6308261 [] [i]
theorem Zg:a=b+1->b<3->a<=1000000:=ln 0x3ef7abd0900809a86106e8cdd262 [a,b] []
theorem Zh:i<=90000->a<3->i+1+3*(a:Int)+1<=100000:=ln 0x3ef7ac61a8080d84612267b9a86106e6b15f9020261 [a] [i]
theorem KD:a=b->b=c+1->c<3->a<=1000000:=ln 0x3ef7bd5e8480404d430837566eb465263 [a,b,c] []
theorem Zi:a=b+1->b<3->a<=3:=ln 0x7def50c209a86106e8cdd262 [a,b] []
theorem Zj:0<=j->i+1<=i+1+j:=ln 0x3ef5869b9ee6ba0002 [] [i,j]
theorem Zk:j<k-1->i+1+j<=i+k-1:=ln 0x7deb104200d661a6e6b10420aee83 [] [i,j,k]
theorem Zl:-((a+1:Nat):Int)<=-1:=ln 0x7d66084064ee61 [a] []
theorem Zm:a=b->b=c+1->c<3->a<=999999:=ln 0x3ef7bd5e847e404d430837566eb465263 [a,b,c] []
theorem Zn:i<=90000->a<3->i+1+3*(a:Int)+1+1<=100000:=ln 0x7def58c350101bd84612267b9a86106e6b15f9020261 [a] [i]
theorem Zo:i<3->i<=2:=ln 0x3ef588209ac6106e61 [] [i]
theorem Zp:i+1+3*(a:Int)+1+1+1<=i+1+3*((a+1:Nat):Int):=ln 0x7d6118489dcf73def61184899ee61 [a] [i]
theorem Zq:i+1+3*(a:Int)+1+1<=i+1+3*((a+1:Nat):Int):=ln 0x3eb08c244ee7b9ef61184899ee61 [a] [i]
theorem Zr:0<=i->a=l5 (1+i)+1->2<=a:=ln 0x3ef7aa620819b406610826b98001 [a] [i]
theorem Zs:j<3->i+1+3*((l5 (1+j):Nat):Int)<=i+10:=ln 0xfbd615041308c244a0340841b9ac6106e82 [] [i,j]
theorem Zt:i<=90000->i+1<=100000:=ln 0xfbd630d40406e6b15f9020261 [] [i]
theorem Zu:0<=i->1<=1+i:=ln 0xfbd61984200840b98001 [] [i]
theorem Zv:i<3->1+i<=3:=ln 0x3ef58c200cc2102c6106e61 [] [i]
theorem Zw:i<=90000->i+1+1<=100000:=ln 0x1f7ac61a8080dee6b15f9020261 [] [i]
theorem Zx:i<=90000->i+1+1+1<=100000:=ln 0x3ef58c350101bdee6b15f9020261 [] [i]
theorem Zy:i+1+1+1+1<=i+4:=ln 0x1f5848104f7bdee61 [] [i]
theorem Zz:0<=i->-1<=i-1:=ln 0x1f7ac41082660840b98001 [] [i]
theorem ZA:i<3->i-1<=1:=ln 0x3ef58420104209ac6106e61 [] [i]
theorem ZC:a<10->a<=9:=ln 0x3ef524209a94106e61 [a] []
theorem ZD(h0:0<=j/\j<10)(h1:i=j):0<=i/\i<10:=h1▸h0
theorem ZE:i<i->False:=ln 0xfbe4b9ee61 [] [i]
theorem ZF:0<=i/\i<j->j<=5->i<10:=ln 0xfbdeb5041b9aca10520ba6e6b98002 [] [i,j]
theorem ZG:0<=i/\i<j->(a:Int)<=i->j<=5->a<10:=ln 0x1f7bdea5041b9aca1051734ce0ba6e6b98002 [a] [i,j]
theorem ZI:0<=k/\k<j->i=k->i<j:=ln 0xfbdeba6e6dace0ba6eaba8003 [] [i,j,k]
theorem ZJ:0<=i/\i<(a:Int)->¬(i=(a:Int)):=ln 0x3ef735339c1699ee6b98001 [a] [i]
theorem OJ:0<=i/\i<(a:Int)->0<=i/\i<((a+1:Nat):Int):=ln 0xfbe0b4ee7b9ae60041699ee6b98001 [a] [i]
theorem ZK:i=(a:Int)->0<=i/\i<((a+1:Nat):Int):=ln 0x3ef82d3b9ee6b9800d4ce61 [a] [i]
theorem ZL:a<=b->b=c->c<=3->a<=10:=ln 0x1f7bdea5041350c20ab2b455263 [a,b,c] []
theorem ZM:0<=i/\i<(a:Int)->a=b->b<=3->0<=i/\i<10:=ln 0x3ef7be0b5041b9ae6002861051949c1699ee6b98002 [a,b] [i]
theorem ZN:0<=i/\i<(b:Int)->b=a->i<(a:Int):=ln 0x3ef7ad33dcd93a4169a6e6b98002 [a,b] [i]
theorem OL:i<=i+10*((0:Nat):Int):=ln 0xfac2a0912004e61 [] [i]
theorem OM:i+10*(a:Int)<=i+10*(a:Int)+2*((0:Nat):Int):=ln 0xfac220912000541226730a8244ce61 [a] [i]
theorem ZO:(a:Int)<(a:Int)->False:=ln 0x3ef92d33da661 [a] []
theorem ZP:a=4\/a=5->(a:Int)<=5:=ln 0xfbd65081338b0a104d8408261 [a] []
theorem ZQ:1<=c/\c<=3->d=4\/d=5->i<=80000->a<c->b<d->i+10*(a:Int)+2*(b:Int)<=100000:=ln 0x1f7bdef7ac61a8080088244d02a091339aadba2abb9ac4e200809c585082cc20416828610555508404 [a,b,c,d] [i]
theorem KG:1<=c/\c<=3->d=4\/d=5->i<=80000->a<c->b<d->i+10*(a:Int)+2*(b:Int)+1<=100000:=ln 0x3ef7bdef58c350101b088244d02a091339aadba2abb9ac4e200809c585082cc20416828610555508404 [a,b,c,d] [i]
theorem ZR:i=1048576\/i=-1048576->0<i/\i<(a:Int)\/-(b:Int)<i/\i<0\/i=1048576\/i=-1048576:=ln 0xfbe318b4c1000002826d080000141382c00dcd73d993482d33dcd73d8011698200000504da10000028262 [a,b] [i]
theorem Gg:i+10*(a:Int)+2*(b:Int)+1+1<=i+10*(a:Int)+2*(b:Int)+2:=ln 0x7d611040110489a054122673dec22091340a8244ce62 [a,b] [i]
theorem AM:2<=b/\b<=4->a=b->a<=1000000:=ln 0x3ef7abd0900809b293828810515410402 [a,b] []
theorem ON:2<=a/\a<=4->1<=(a:Int)-1:=ln 0xfbd6208409984208288104d5310401 [a] []
theorem OO:2<=a/\a<=4->(a:Int)-1<1000:=ln 0x3ef5fd0206c41081338288104d5310401 [a] []
theorem ZS:0<=i->i<(b:Int)-1->0<0-1-i/\0-1-i<(a:Int)\/-(b:Int)<0-1-i/\0-1-i<0\/0-1-i=1048576\/0-1-i=-1048576:=ln 0xfbdf18c5a60800001402988210000d080000140298821000105801b14c410800058a620840006cc9a41699ec531042000162988210001b0016208409a6e6b98002 [a,b] [i]
theorem ZT:i+10*(a:Int)+2*(b:Int)+1<=i+10*(a:Int)+2*((b+1:Nat):Int):=ln 0x7d6110489dd02a091339ec22091340a8244ce62 [a,b] [i]
theorem OP:1<(a:Int)->1<=(a:Int)-1:=ln 0xfbd6208409984205a67b08401 [a] []
theorem OQ:1<=a/\a<=3->(a:Int)-1<1000:=ln 0x3ef5fd0206c41081338286104d5308401 [a] []
theorem ZU:0<=i->i<(a:Int)-1->0<1+i/\1+i<(a:Int)\/-(b:Int)<1+i/\1+i<0\/1+i=1048576\/1+i=-1048576:=ln 0x3ef7c631698200000500661081a10000028033084105801b0cc2102c330841b326905a67b0cc2102c330841b00162084099ee6b98002 [a,b] [i]
theorem ZV:1<=b/\b<=3->a=c->c<b->a<=1000000:=ln 0x7def7abd0900809aa9bab2b3828610515408403 [a,b,c] []
theorem ZW:b=4\/b=5->i+10*(a:Int)+2*(b:Int)<=i+10*((a+1:Nat):Int):=ln 0xfbd6150489dce6110489a0541226738b0a10518408282 [a,b] [i]
theorem ZX:1<=a/\a<=3->i+10*(a:Int)<=i+30:=ln 0x7deb0f82098541226738286104d5308401 [a] [i]
theorem Gh(h0:1<=a/\a<=3):a<=1000000:=g9 h0.2 `e
theorem ZY:1<=c/\c<=3->d=2\/d=3->i<=80000->a<d->b<c->i+10*(a:Int)+2*(b:Int)<=100000:=ln 0x1f7bdef7ac61a8080088244d02a091339aabba2adb9ac4e200809c583082cc10416828610555508404 [a,b,c,d] [i]
theorem ZZ:1<=c/\c<=3->d=2\/d=3->i<=80000->a<d->b<c->i+10*(a:Int)+2*(b:Int)+1<=100000:=ln 0x3ef7bdef58c350101b088244d02a091339aabba2adb9ac4e200809c583082cc10416828610555508404 [a,b,c,d] [i]
theorem Z_:0<=j->i=1+j->j<(a:Int)-1->1<=i/\i<=(a:Int)-1:=ln 0x7def7c162084099cd730840b104204cf74686810826ba0002 [a] [i,j]
theorem aaa:i+10*(a:Int)+2*(b:Int)+1<=i+10*(a:Int)+2*(b:Int)+2:=ln 0x3eb08820088244d02a091339ec22091340a8244ce62 [a,b] [i]
theorem aab:i+10*(a:Int)+2*(b:Int)<=i+10*(a:Int)+2*(b:Int)+2:=ln 0x1f584410044122681504899cc22091340a8244ce62 [a,b] [i]
theorem aad:b=2\/b=3->a=c->c<b->a<=1000000:=ln 0x7def7abd0900809aa9bab2b38b0610518208283 [a,b,c] []
theorem aae:1<=b/\b<=3->i+10*(a:Int)+2*(b:Int)<=i+10*((a+1:Nat):Int):=ln 0xfbd6150489dce6110489a054122673828610515408402 [a,b] [i]
theorem aaf:a=2\/a=3->i+10*(a:Int)<=i+30:=ln 0x7deb0f82098541226738b06104d8208261 [a] [i]
theorem Gi(h0:1<=b)(h1:a=b):0<a:=h1▸h0
theorem KH:1<=b/\b<=3->a=b->a<=100000:=ln 0x3ef7a861a80809b293828610515408402 [a,b] []
theorem aag:1<=b/\b<=3->a<b->(a:Int)<=100:=ln 0x3ef7ac641013355373828610515408402 [a,b] []
theorem aah:1<=a/\a<=3->0=a->False:=ln 0xfbdf264c008286104d5308401 [a] []
theorem aai:a=min b c->b<d->d<=3->(a:Int)<=3:=ln 0x1f7bdeb184099a86105956dd187ad264 [a,b,c,d] []
theorem aaj:1<=b/\b<=3->a<=b->a<=1000:=ln 0xfbdeafa0409aa93828610515408402 [a,b] []
theorem aak:(a:Int)<=3->a<=1000000:=ln 0x1f7abd0900809ac6102661 [a] []
theorem aal:i<=i+((0:Nat):Int):=ln 0x1f5852004e61 [] [i]
theorem Ct(h0:2<=a/\a<=4):a<=1000000:=g9 h0.2 `e
theorem aam:1<=b/\b<=3->i<=80000->a<b->i+(a:Int)<=100000:=ln 0x7def7ac61a80800a67355373589c401013828610515408402 [a,b] [i]
theorem aan:2<=a/\a<=4->1<=(a:Int):=ln 0xfbd69984208288104d5310401 [a] []
theorem aao:2<=a/\a<=4->(a:Int)<1000:=ln 0x3ef5fd0206d338288104d5310401 [a] []
theorem aap:i+(a:Int)+1<=i+((a+1:Nat):Int):=ln 0x1f5853b9cf614ce61 [a] [i]
theorem aaq:1<=a/\a<=3->i+(a:Int)<=i+3:=ln 0xfbd61184130a6738286104d5308401 [a] [i]
theorem aar:i<=70000->i<=100000:=ln 0x7deb186a02026b1117020261 [] [i]
theorem aas:i<=70000->i+1<=100000:=ln 0xfbd630d40406e6b1117020261 [] [i]
theorem OR:0<=i->1+i=((l5 (1+i):Nat):Int):=ln 0xfbda940661080330840b98001 [] [i]
theorem OS:0<=i->1<=l5 (1+i):=ln 0x1f7a901984200840b98001 [] [i]
theorem aat:i<3->l5 (1+i)<=3:=ln 0x7dea184080cc2102c6106e61 [] [i]
theorem aau:0<=i->4+i=((l5 (4+i):Nat):Int):=ln 0xfbda940664080332040b98001 [] [i]
theorem aav:0<=i->i<2->l5 (4+i)=4\/l5 (4+i)=5:=ln 0x7def8b0a1020332040c204080cc8102c4106e6b98001 [] [i]
theorem aaw:i<=70000->i+1+1<=100000:=ln 0x1f7ac61a8080dee6b1117020261 [] [i]
theorem aax:0<=i->2+i=((l5 (2+i):Nat):Int):=ln 0xfbda940662080331040b98001 [] [i]
theorem aay:0<=i->i<2->l5 (2+i)=2\/l5 (2+i)=3:=ln 0x7def8b061020331040c104080cc4102c4106e6b98001 [] [i]
theorem aaz:min a 5+min b 3<=1000000:=ln 0xfabd09008009c61050e508262 [a,b] []
theorem aaA:b=2\/b=3->c=4\/c=5->a=c+b->a<=1000000:=ln 0xfbdef57a1201013606959c585082ac204158b0610518208283 [a,b,c] []
theorem aaB:((a+b:Nat):Int)-(a:Int)=(b:Int):=ln 0xfb534126690d262 [a,b] []
theorem aaC:i<=70000->i+1+1+1<=90000:=ln 0x3ef58afc8101bdee6b1117020261 [] [i]
theorem aaD:a=2\/a=3->2<=(a:Int):=ln 0xfbd69988208b06104d8208261 [a] []
theorem aaE:a=2\/a=3->(a:Int)<=3:=ln 0xfbd63081338b06104d8208261 [a] []
theorem aaF:i<=70000->i+1+1+1+10<=80000:=ln 0x3ef589c4010015041bdee6b1117020261 [] [i]
theorem aaG:i<=70000->i+1+1+1+10+30<=80000:=ln 0x3ef589c401001f04015041bdee6b1117020261 [] [i]
theorem KI:b=2\/b=3->a=b->a<=3:=ln 0x7def50c209b2938b0610518208282 [a,b] []
theorem KJ:a=2\/a=3->a<=3:=ln 0x7dea184138b06104d8208261 [a] []
theorem aaH:i<=70000->i+1+1+1+10+30+30<=80000:=ln 0x3ef589c401001f0401f04015041bdee6b1117020261 [] [i]
theorem OT(h0:a=b)(h1:b<=3):a<=3:=h0▸h1
theorem aaI:a<=4->a<=1000000:=ln 0xfbd5e8480404d4408261 [a] []
theorem aaJ:i+1+1+1+10+30+30+3<=i+150+4*((0:Nat):Int):=ln 0xfac2409120004961026118401f0401f04015041bdee61 [] [i]
theorem aaK(h0:a<b)(h1:b<=4):a<4:=g9 h0 h1
theorem aaL:i<=70000->a<4->i+150+4*(a:Int)<=90000:=ln 0x1f7bd62bf2040048122661258409a88106e6b1117020261 [a] [i]
theorem aaM:i+150+4*(a:Int)+4<=i+150+4*((a+1:Nat):Int):=ln 0xfac240913b984961026120401204899849610261 [a] [i]
theorem aaN:a<=4->i+150+4*(a:Int)<=i+200:=ln 0x7deb0990204c2409133092c204d4408261 [a] [i]
theorem aaO:1<=b->a=b->b<=3->1<=a/\a<=3:=ln 0x1f7bdf050c209aa61081430828ca4d5408402 [a,b] []
theorem aaP:a=4\/a=5->(a:Int)=4\/(a:Int)=5:=ln 0x7df1694204cda4081338b0a104d8408261 [a] []
theorem aaQ(h0:b=2\/b=3)(h1:a=b):a=2\/a=3:=h1▸h0
theorem OU(h0:a=c)(h1:b=c):a=b:=h1▸h0
theorem aaR:i<=12->i<=13:=ln 0x1f7ada104d6c08261 [] [i]
theorem aaS:i<=2->i<=3:=ln 0x1f7ac6104d6208261 [] [i]
theorem aaT:a<=10->a<=11:=ln 0x1f7a96104d4a08261 [a] []
theorem vR:i<=0->i=-((l5 (-i):Nat):Int):=ln 0x3ef6992834e6b00261 [] [i]
theorem vU:i<=0->¬(i=0)->0<l5 (-i):=ln 0xfbdea41a7b001cd0026b00261 [] [i]
theorem aaU(h0:a<=10):a<=10:=by omega
theorem aaV:a<=11->b<=12*c->a+b+1<=12*(c+1):=ln 0x1f7bd4c09375d869353024ad14b08263 [a,b,c] []
theorem aaW:a<=12*b->b<=1000->a<=50000:=ln 0xfbdea0c3502026afa040a298125262 [a,b] []
theorem aaX:i<=(b:Int)->a=b+1->l5 i<a:=ln 0x1f7bd53da26cdd26b4d262 [a,b] [i]
theorem aaY:(a:Int)<(a:Int)+1:=ln 0x1f5ed33da661 [a] []
theorem aaZ(h0:a<b):(a:Int)+1<=(b:Int):=P0.mpr h0
theorem OV:1<=a/\a<=3->i=-1\/1<=i/\i<=(a:Int)-1->i=-1\/i=1\/i=2:=ln 0x3ef7c62d10413684209b4c10827182c41081339ae61081a6084138286104d5308401 [a] [i]
theorem OW:1<=a/\a<=3->a=1\/a=2\/a=3:=ln 0x7df18b06104d820826c084138286104d5308401 [a] []
theorem aa0:i=-1\/1<=i/\i<=(a:Int)-1->i<=(a:Int)-1:=ln 0xfbd62084099ce3058821026735cc21034c108261 [a] [i]
theorem aa1:1<=b/\b<=3->a=b->0<a:=ln 0x7def54f6003293828610515408402 [a,b] []
theorem aa2:i=-1\/1<=i/\i<=(a:Int)-1->-1<=i/\i<=(a:Int)-1:=ln 0x7df058821026735ccc10823058821026735cc21034c108261 [a] [i]
theorem aa3:1<=i/\i<=3->i=1\/i=2\/i=3:=ln 0x7df18b46104da20826d0841382c6104d7308401 [] [i]
theorem aa4:-1<=i/\i<=1->i=-1\/i=0\/i=1:=ln 0xfbe31684209b4009b4c108270584209ae6608401 [] [i]
theorem aa5:a<=1000->b<=1001*c->a+b+1<=1001*(c+1):=ln 0xfbdeafa444dd761a4d5f48895a2be810263 [a,b,c] []
theorem aa6:a<=20->b<=10->c<=50000->a+(b+(c+1)+1)+(0+1)<=50040:=ln 0x1f7bdea0c3782003b0003b0eeb49a830d4080aa9410515408263 [a,b,c] []
theorem aa7:a<=c->a+1<=b+c+1:=ln 0x1f7ab61ad37355663 [a,b,c] []
theorem aa8:a+(b+(c+(d+(e+(f+(g+0))))))+(h+(p+(q+(r+0))))+(s+(t+0))+(u+(v+(w+(x+0))))+(y+0)=a+b+c+d+e+f+g+h+p+q+r+s+t+u+v+w+x+y:=ln 0xfb0310f0300f02f0f02e0f02d0f02c0f02b0f02a0f0290f0280f03a0e4380dc360d434984200443c08421080100f1e1e383c68781084006078b0f021084200283c487880f3410842108400ce2f6ad272 [a,b,c,d,e,f,g,h,p,q,r,s,t,u,v,w,x,y] []
theorem OX:i=4\/i=5->((l5 i:Nat):Int)=i:=ln 0x7ded9a5138b4a104da408261 [] [i]
theorem aa9:b=2\/b=3->a=l5 i+b->i<=i/\i<=(a:Int)-1:=ln 0x1f7be0b104204ce6b9cd81a22738b0610518208282 [a,b] [i]
theorem aa_:0<=i->¬(i=0)->1<=i:=ln 0x3ef7ae61081cd0026b98001 [] [i]
theorem aba:i+1<=j/\j<=i+(b:Int)-1->a=l5 i+b->i<=j/\j<=(a:Int)-1:=ln 0x1f7be0b104204ce8ba4d81a227382c4108029a4e8ba6e62 [a,b] [i,j]
theorem abb:(0<=i/\i<=3/\(i≠0->j=0))->0<=i/\i<=3:=ln 0x3ef82c6104d73002107b400a39a004d630826b98002 [] [i,j]
theorem abd:0<i/\i<(a:Int)\/-(b:Int)<i/\i<0\/i=1048576\/i=-1048576->a<=3->b<=4->u6 i<=1048576:=ln 0x3ef7bd4100000283b351020a286104e318b4c1000002826d080000141382c00dcd73d993482d33dcd73d8002 [a,b] [i]
theorem abe:1<=i->i<=(a:Int)-1->0<=i/\i<=(a:Int)-1:=ln 0x3ef7c162084099cd7300162084099cd7308401 [a] [i]
theorem abf:a=b->b<=30->c=e->d=e->e<=3->a<=100/\b<=30/\c<=3/\d<=3:=ln 0x3ef7bdef8420a1841650c20aabc1051432081350c20bb2f665eaaf041465265 [a,b,c,d,e] []
theorem OY(h0:a<=4):a<=1000:=g9 h0 `e
theorem OZ(h0:a=b)(h1:b<=4):a<=1000:=g9 (h0▸h1) `e
theorem Gj(h0:a=b)(h1:b<=3):a<=1000:=g9 (h0▸h1) `e
theorem O_(h0:a<=30):a<=1000:=g9 h0 `e
theorem Pa:a=2\/a=3->a<=1000:=ln 0xfbd5f408138b06104d8208261 [a] []
theorem abg:i=4\/i=5->3<=i:=ln 0x7deb98c208b4a104da408261 [] [i]
theorem abh:b=2\/b=3->a=l5 i+b->i<=(a:Int)-1:=ln 0x1f7bd62084099cd81a22738b0610518208282 [a,b] [i]
theorem abi:i=4\/i=5->b=2\/b=3->a=l5 i+b->a<=1000:=ln 0x7def7abe81026c0d1139c5830828c104148b4a104da408262 [a,b] [i]
theorem Pb:a<=200->a<=50000:=ln 0x1f7a830d40809a8c810261 [a] []
theorem Pc:a<=1001*b->b=c->c<=4->a<=50000:=ln 0xfbdef5061a8101351020ab2b457d2225263 [a,b,c] []
theorem abj:0<=i/\i<(a:Int)->0<=i/\i<=(a:Int)-1:=ln 0x3ef82c41081339ae60041699ee6b98001 [a] [i]
theorem abk:1<=b->a=b->b<=3->0<a/\a<=1000:=ln 0x3ef7be0afa0409aa7b001430828ca4d5408402 [a,b] []
theorem Pd:((l5 i:Nat):Int)=i->b=l5 i+a->(a:Int)=(b:Int)-i:=ln 0x3ef7b4534d133606689d1b34a262 [a,b] [i]
theorem abl:-1<=i/\i<=(b:Int)-1->a=b->-1<=i/\i<=(a:Int)-1:=ln 0x1f7be0b104204ce6b998210329382c41081349ae6608402 [a,b] [i]
theorem abm:0<=i/\i<=7->i=0\/i=1\/i=2\/i=3\/i=4\/i=5\/i=6\/i=7:=ln 0x7df18c6318c5a70826d30413694209b48104da30826d10413684209b4009c1670826b98001 [] [i]
theorem abn:a<=3->a=0\/a=1\/a=2\/a=3:=ln 0x3ef8c62c18413608209b02104d8004d4308261 [a] []
theorem abo:0<i->i=0->a<3:=ln 0x7def50c20dcda004d73d8001 [a] [i]
theorem abp(h0:a<=3)(h1:¬(a=3)):a<3:=Nat.lt_of_le_of_ne h0 h1
theorem abq(h0:a<3):a+1<=3:=h0
theorem abr:a<=b->b<3->a<=1000000:=ln 0x1f7bd5e8480404d430837455262 [a,b] []
theorem abt:b=2\/b=3->a=b->a<=1000:=ln 0xfbdeafa0409b2938b0610518208282 [a,b] []
theorem sN:b=2\/b=3->a=b->a<=1000000:=ln 0x3ef7abd0900809b2938b0610518208282 [a,b] []
theorem abu:b=2\/b=3->a=b->a<=100000:=ln 0x3ef7a861a80809b2938b0610518208282 [a,b] []
theorem abv:d=2\/d=3->a<=3*e->c<=f->e<d->f<=3->a+min b c<=1000000:=ln 0xfbdef7bd5e84804004f5a4d430830ab6eeac5543092f38b06105982082c6 [a,b,c,d,e,f] []
theorem Pe:a<=3*c->b<=d->d<=3->a+b<=3*(c+1):=ln 0xfbdef50c24dd4349a86105956a286125664 [a,b,c,d] []
theorem abw(h0:a<=10):a+1<=12:=M1 h0 `e
theorem Pf:a<c->b=d->d=c->(a:Int)<(b:Int):=ln 0x1f7bdeb4d3699b2b665a8aaee64 [a,b,c,d] []
theorem abx:c<=3->d=2\/d=3->e<d->a<=3*e->f<c->b<=f->a+b<=1000000:=ln 0x7def7bdef57a1201001a4d58a2abbc286125e6ab6ef160c20b304105943082a6 [a,b,c,d,e,f] []
theorem aby:a=c->c=b->a=b:=ln 0x1f7bd949b29565663 [a,b,c] []
theorem Pg:2<=b/\b<=4->a=c->c=b->a<=1000000:=ln 0x3ef7bd5e8480404d94ab2b3828810515410403 [a,b,c] []
theorem abz:i<=80000->i<=100000:=ln 0x7deb186a02026b1388020261 [] [i]
theorem abA:i<=80000->i+1<=100000:=ln 0xfbd630d40406e6b1388020261 [] [i]
theorem abB:0<=i->i<(a:Int)-1->l5 (1+i)<a:=ln 0x3ef7aa7b4066108162084099ee6b98001 [a] [i]
theorem Ph:a=l5 i+b->b=2\/b=3->-(a:Int)<=-1:=ln 0x1f7bd66084064ce2c1841460820a303444e62 [a,b] [i]
theorem KL:i=4\/i=5->b=2\/b=3->a=l5 i+b->a<=1000000:=ln 0x1f7bdeaf42402026c0d1139c5830828c104148b4a104da408262 [a,b] [i]
theorem abC:a<=20->b=1->a+b<=10000000:=ln 0x1f7bd4989680280349b0210515408262 [a,b] []
theorem AN:2<=b/\b<=4->a=b->a<=100000:=ln 0x3ef7a861a80809b293828810515410402 [a,b] []
theorem abD:0<=((l5 (a:Int):Nat):Int):=F7 _
theorem abE:0<i->0<i+1:=ln 0x3ef5ee7b00173d8001 [] [i]
theorem abF:i<=80000->i+1+1<=100000:=ln 0x1f7ac61a8080dee6b1388020261 [] [i]
theorem KN(h0:1<=a):1<=(a:Int):=P0.mpr h0
theorem abG:a<=3->(a:Int)<1000:=ln 0xfbd7f4081b4cd4308261 [a] []
theorem abH:2<=a/\a<=4->¬((a:Int)=0):=ln 0xfbdcd001338288104d5310401 [a] []
theorem abI:i<=80000->i+1+1+1<=100000:=ln 0x3ef58c350101bdee6b1388020261 [] [i]
theorem abJ:i=4\/i=5->1<=i:=ln 0x7deb984208b4a104da408261 [] [i]
theorem abK:i=4\/i=5->i<1000:=ln 0x1f7afe8103738b4a104da408261 [] [i]
theorem abL:0<=i->i<j->((l5 i:Nat):Int)<j:=ln 0x3ef7ae9b4a26ba6e6b98002 [] [i,j]
theorem KO:a=2\/a=3->a-1<a:=ln 0x3ef54f63084138b06104d8208261 [a] []
theorem abM:1<(a:Int)->1<a:=ln 0xfbd53d84205a67b08401 [a] []
theorem KP:b-1<b->a=b->-(a:Int)<=-1:=ln 0x7def59821019336526aa6c6108282 [a,b] []
theorem abN(h0:2<=a/\a<=4):a<=100000:=g9 h0.2 `e
theorem abO:a=2\/a=3->i+2<(b:Int)->i=4\/i=5->b=l5 i+a->a=3:=ln 0xfbdef7b06104d819a2748b4a104da40826b4d361104138b06104d8208262 [a,b] [i]
theorem abP:a=2\/a=3->a<=1000000:=ln 0x3ef57a12010138b06104d8208261 [a] []
theorem abQ:a<b->b<=3->(a:Int)<=100:=ln 0xfbdeb190404cd430828aa6e62 [a,b] []
theorem abR:b=2\/b=3->a=min c b->a<=3:=ln 0x1f7bd430826c3d2b38b0610518208283 [a,b,c] []
theorem abS:a<=b->b<=3->a<=1000:=ln 0x3ef7abe81026a1841455262 [a,b] []
theorem abT:a=b->b<=9->a<=10:=ln 0x1f7bd4a0826a4841465262 [a,b] []
theorem abU:a=b+1->b<=9->a<=10:=ln 0x3ef7a94104d490828cdd262 [a,b] []
theorem abV:0<=i/\i<j->j<=5->0<=i/\i<10:=ln 0x1f7be0b5041b9ae6002ca10520ba6e6b98002 [] [i,j]
theorem abW(h0:0<=i/\i<j):i<j:=h0.2
theorem abX:0<=i/\i<10->i<j->j<=5->i=0\/i=1\/i=2\/i=3\/i=4:=ln 0x1f7bdf18c62d2041368c209b44104da10826d0026b284145d37382d4106e6b98002 [] [i,j]
theorem abY:i+1<=j/\j<=i+(a:Int)-1->a=3->i+1<=2*i+3-j/\2*i+3-j<=i+(a:Int)-1:=ln 0x1f7be0b104200a673150230804124d62a0461008249ee6c1841382c41080299ce8ba6e62 [a] [i,j]
theorem abZ:0<=i/\i<=12->0<=i+1/\i+1<=13:=ln 0x1f7c16d083735ee600416c0826b98001 [] [i]
theorem ab0:0<i->i=0->i+1=0:=ln 0x3ef7b400dcda004d73d8001 [] [i]
theorem ab1:(0<=i/\i<=2/\(i≠0->j=0))->0<=i+1:=ln 0x1f7af73002107b400a39a004d620826b98002 [] [i,j]
theorem ab2:(0<=i/\i<=2/\(i≠0->j=0))->i+1<=3:=ln 0x3ef58c20dce107b400a39a004d620826b98002 [] [i,j]
theorem ab3:2<=a/\a<=4->0<(a:Int):=ln 0xfbd699ec008288104d5310401 [a] []
theorem Pj:i=4\/i=5->i<=5:=ln 0x7deb284138b4a104da408261 [] [i]
theorem ab4:a<=5->a<=9:=ln 0x1f7a92104d4508261 [a] []
theorem Pn:48<=a/\a<=57->a=32\/a=58->False:=ln 0x7def94581d08136040204e0a0e4409aa6180801 [a] []
theorem ab6:a=32\/a=58->a=45->False:=ln 0xfbdf2605a204e2c0e8409b02010261 [a] []
theorem ab7:a=0->(a:Int)=0:=ln 0xfbda00266c00261 [a] []
theorem ab8:0=a->0=(a:Int):=ln 0xfbda99800c98001 [a] []
theorem ab9:i=0->j=0->i=j:=ln 0x7def6d26d0028d00262 [] [i,j]
theorem ab_:¬(2*i+3-j=j):=by lia
theorem Po:¬(i+1=i):=ln 0x7dcd9ee61 [] [i]
theorem acd:0=i->2<=a/\a<=4->i+1=(a:Int)->False:=ln 0x3ef7be4d4cf738288104d531040d98001 [a] [i]
theorem ace:0<=i/\i<(a:Int)->0<=i+1:=ln 0x3ef5ee60041699ee6b98001 [a] [i]
theorem acf:0<=i/\i<(a:Int)->¬(i+1=(a:Int))->i+1<(a:Int):=ln 0x3ef7ad33dee6e6a67b9c1699ee6b98001 [a] [i]
theorem acg:i+1=i->False:=ln 0xfbe4d9ee61 [] [i]
theorem ach:min a b<=a:=ln 0x7d533d262 [a,b] []
theorem aci:a<=a+(b+1):=C2 _ _
theorem acj:a<=c->a<=b+(c+1):=ln 0xfbd41dd69355663 [a,b,c] []
theorem ack:a<=b+1->b<=950000->a+1<=1000000:=ln 0x1f7bd5e8480406e6ae7ef02028add262 [a,b] []
theorem Cv:a<=950000->a<=1000000:=ln 0x7deaf42402026ae7ef020261 [a] []
theorem acm(h0:a<=b)(h1:b<=950000):a<=950000:=g9 h0 h1
theorem acn:a<=20->a<=1000000:=ln 0xfbd5e8480404d5408261 [a] []
theorem aco(h0:63<a):63<(a:Int):=P0.mpr h0
theorem acp(h0:¬(63<a)):a<=63:=I4.mp h0
theorem acq:a<=63->a<=1000:=ln 0x7deafa0409a83f10261 [a] []
theorem acr:l5 ((a:Int)-(b:Int)+1-1)=a-b:=ln 0x1f60e934082106c49a2662 [a,b] []
theorem acs:¬((b:Int)<(a:Int))->l5 0=a-b:=ln 0x1f7b0749a00072d33da682 [a,b] []
theorem acu:b+(c+1)<=1000000->a<=b->a<=1000000:=ln 0x3ef7abd0900809aa9357a1201001dd683 [a,b,c] []
theorem acv:45=a->48<=a->False:=ln 0x1f7be4a986020326168801 [a] []
theorem acw:b+1=a+c->d+(e+(f+1))<=1000000->b<=e->a<=1000000:=ln 0x7def7abd0900809aaf457a12010010ef17b30359ee86 [a,b,c,d,e,f] []
theorem acy:0<=i->i<=j->j<(a:Int)->0<=i/\i<(a:Int):=ln 0x7def7c1699ee6b9800b4cf745d26b98002 [a] [i,j]
theorem acz:b=a->b<=1->a<=1:=ln 0x1f7bd410826a0841464e82 [a,b] []
theorem acA:0<c->a<=c->b<=c->a+b<c*3:=ln 0x1f7bdea184b5d86935568aacd55d8003 [a,b,c] []
theorem acB:i=(a:Int)->0<=i:=ln 0x7deb9800d4ce61 [a] [i]
theorem acC:i=(b:Int)->a=c->b<c->i<(a:Int):=ln 0x1f7bdeb4cf73557746566d4d263 [a,b,c] [i]
theorem acD:i-1=(a:Int)->a<b->b<=3->0<=i/\i<=3:=ln 0xfbdef82c6104d73001430828aa6e6d4cc4108262 [a,b] [i]
theorem acE:(a:Int)<(b:Int)->i=(c:Int)->b=d->c<=a->d<=3->0<=i/\i<=3:=ln 0x3ef7bdef82c6104d7300143082ca9d596a35359ad34da664 [a,b,c,d] [i]
theorem Pp:i<(a:Int)+1->¬(i=(a:Int))->i<(a:Int):=ln 0xfbdeb4cf73735339af699ee61 [a] [i]
theorem acF:i<(a:Int)+1->b=a->¬(i=(b:Int))->i<(a:Int):=ln 0xfbdef5a67b9b9a9a4d93a2f699ee62 [a,b] [i]
theorem acG:i+2*(a:Int)+2<=i+2*((a+1:Nat):Int):=ln 0x3eb088244ee7308820088244ce61 [a] [i]
theorem acH:i<=j+2*(a:Int)+2->i<=j+2*((a+1:Nat):Int):=ln 0x3ef5844122773a4d6110401104899d262 [a] [i,j]
theorem acI:a<=50040->b<=50040->c<=50040->d<=50040->e<=50040->f<=50040->g<=50040->h<=50040->p<=50040->q<=50040->r<=50040->s<=50040->t<=50040->u<=50040->v<=50040->w<=50040->x<=50040->y<=50040->z<=5->a1<=10->a+b+c+d+e+f+g+h+p+q+r+s+t+u+v+w+x+y+(z+(a1+(0+1)))<=950000:=ln 0x3ef7bdef7bdef7bdef7bdef7bdeae7ef0200210ec00987920f0310f0300f02f0f02e0f02d0f02c0f02b0f02a0f0290f0280f03a0e4380dc360d4349a94104c3c514209078a0c37820221e2830de0808078a0c378201e1e2830de0807078a0c378201a1e2830de0806078a0c37820161e2830de0805078a0c37820121e2830de0804078a0c3782034a0c3782032a0c3782030a0c378202ea0c378202ca0c378202aa0c3782028a0c37820274 [a,b,c,d,e,f,g,h,p,q,r,s,t,u,v,w,x,y,z,a1] []
theorem acJ:1<=a->0<=0/\0<=(a:Int)-1:=ln 0x7df05882102660028000015308401 [a] []
theorem acK:1<=((1+a:Nat):Int):=ln 0xfad219842008401 [a] []
theorem acL:a<b-1->((1+a:Nat):Int)<(b:Int):=ln 0x1f7ad34da4330840a18420a6e62 [a,b] []
theorem acM:a<b-1->1+a<b:=ln 0x7deaa6c330840a18420a6e62 [a,b] []
theorem acN:i+1<=i->False:=ln 0xfbe4b9ee61 [] [i]
theorem acO:i=4\/i=5->l5 i<=1000000:=ln 0x7deaf4240201138b4a104da408261 [] [i]
theorem acP:1<a->1<=1/\1<=(a:Int)-1:=ln 0x7df05882102661081410802102a7b08401 [a] []
theorem acQ:10=a->a=34\/a=92->False:=ln 0x7def94582e08136044204d9350401 [a] []
theorem acR:10=a->¬(a=10)->False:=ln 0xfbdf27314104d9350401 [a] []
theorem Pq:l5 i<a->a<=1000000->i<2^63:=ln 0x7def5a0000000000000001a0dcd5e8480404d53da261 [a] [i]
theorem Gk:max 0 (min (a:Int) (b:Int))=((min a b:Nat):Int):=ln 0x7da93d27e3a68998002 [a,b] []
theorem Pr:-(a:Int)<=i->a<=1000000->-2^63<=i:=ln 0x7def5ccc80000000000000006815e8480404d7332661 [a] [i]
theorem acS:0<=i->-2^63<=i:=ln 0x1f7ae664000000000000000340b98001 [] [i]
theorem acT:i<(a:Int)->a<=1000000->i<2^63:=ln 0x7def5a0000000000000001a0dcd5e8480404d699ee61 [a] [i]
theorem acU:a<=1000000->(a:Int)<2^63:=ln 0x3ef5a0000000000000001a0da66af424020261 [a] []
theorem acV:a<=10000000->¬((a:Int)>=2^63):=ln 0x7dee5a668000000000000000681498968028261 [a] []
theorem acW:a<=1000000->¬((a:Int)>=2^63):=ln 0x3ef72d334000000000000000340af424020261 [a] []
theorem acX:a=b->b<=1000000->(a:Int)<2^63:=ln 0x3ef7ad0000000000000000d06d3357a120101465262 [a,b] []
theorem acY:u6 (-(a:Int))<10^10->(a:Int)<10^10:=ln 0x7deb4a817c800706d3352540be4003837d32661 [a] []
theorem acZ:u6 (a:Int)<10^10->(a:Int)<10^10:=ln 0x3ef5a540be400383699a92a05f2001c1bea661 [a] []
theorem ac0:a<=1000000->u6 (a:Int)<10^10:=ln 0x1f7a92a05f2001c1bea66af424020261 [a] []
theorem qj:-2^62<=(a:Int):=ln 0x1f5a66620000000000000003401 [a] []
theorem Pw:a<=1000000->(a:Int)<2^62:=ln 0x3ef590000000000000001a0da66af424020261 [a] []
theorem ac1:0<=i->i<=1000->u6 (i+1)<10^10:=ln 0xfbdea4a817c800706fbb9afe81026b98001 [] [i]
theorem ac2:b+c=d->a=c->d<=50000->u6 (a:Int)<=10^10:=ln 0x3ef7bd49502f9000e0ea66a0c350202ccacd960d684 [a,b,c,d] []
theorem ac3:b+c=d->a=c->d<=50000->a<10^10:=ln 0x1f7bdea4a817c800706e6a0c350202ccacd960d684 [a,b,c,d] []
theorem ac4:a=b+1->b<=1000->a+1<10^10:=ln 0x7def52540be4003837b9abe81028cdd262 [a,b] []
theorem ac5:a=b+1->b<=1000->u6 ((a:Int)+1)<=10^10:=ln 0xfbdea4a817c8007077699abe81028cdd262 [a,b] []
theorem Px:b=a->b<=1000->(a:Int)<2^62:=ln 0xfbdeb2000000000000000341b4cd5f4081464e82 [a,b] []
theorem Py:a<=60->(a:Int)<2^62:=ln 0xfbd64000000000000000683699a83c10261 [a] []
theorem ac6:b=a->c=b->c<=1000->(a:Int)<2^62:=ln 0xfbdef590000000000000001a0da66afa040ab29564e83 [a,b,c] []
theorem ac7:a<=10->b<=10->max a b<=10:=ln 0x1f7bd4a083d49a9410514a08262 [a,b] []
theorem ac8:-2^62<=(a:Int)+1:=ln 0x3ebda66620000000000000003401 [a] []
theorem ac9:a<=8->(a:Int)+1<2^62:=ln 0xfbd640000000000000006837b4cd4808261 [a] []
theorem ac_:3<=i->i<=(a:Int)-1->a<=1000->u6 i<10^10:=ln 0x1f7bdea4a817c800706fb357d0204d62084099cd7318401 [a] [i]
theorem ada:3<=j->i<=(a:Int)-1->j<=i->a<=1000->u6 i<10^10:=ln 0x1f7bdef52540be4003837d9abe81026b9d162084099cd7418402 [a] [i,j]
theorem adb:a<=1000->(a:Int)<2^62:=ln 0xfbd64000000000000000683699abe810261 [a] []
theorem ade:0<=i->-2^62<=i:=ln 0x1f7ae662000000000000000340b98001 [] [i]
theorem adf:i<=(a:Int)->a<=1000->i<2^62:=ln 0xfbdeb2000000000000000341b9abe81026b4ce61 [a] [i]
theorem adg:0<=i->i<=(a:Int)-1->a<=1000->u6 i<10^10:=ln 0xfbdef52540be4003837d9abe81026b104204ce6b98001 [a] [i]
theorem adh:-1<=i->i<=(a:Int)-1->a<=1000->u6 i<10^10:=ln 0x3ef7bd49502f9000e0df66afa0409ac41081339ae6608401 [a] [i]
theorem Pz:a=b->b<=3->(a:Int)<2^62:=ln 0x7def590000000000000001a0da66a1841465262 [a,b] []
theorem adi:a+(l5 i-a)=max a (l5 i):=ln 0x1f679139847344e61 [a] [i]
theorem PB:l=m->n=i->i+m+1=k->b<c->0<=i+j->i+j<k->i+j<((max a (l5 k):Nat):Int):=ln 0x3ef7bdef7ad3e4567b0d26baec349ac349800aaee8daec379b6786dec6 [a,b,c] [i,j,k,l,m,n]
theorem adk:l5 i<=120->a=b->b<=100->max a (l5 i)<=1000000:=ln 0xfbdef57a120101e44e6a19040a329350f0202262 [a,b] [i]
theorem adl:l5 i<=120->a<=100->max a (l5 i)<=1000000:=ln 0xfbdeaf4240203c89cd432081350f0202261 [a] [i]
theorem adm:0<=k->i<=-k+(a:Int)->j<10->max a (l5 (i+j+1))<=a+10:=ln 0x7def7a82a0827e46c349cd6a08374585333566ba8003 [a] [i,j,k]
theorem PC:i+j<k->i+j<((max a (l5 k):Nat):Int):=ln 0x7deb4f9159ec349aebb0d263 [a] [i,j,k]
theorem adn:(a:Int)<i->i=j+k+1->((max a (l5 i):Nat):Int)-1=j+k:=ln 0xfbded0d68208409f22736ec35a4d73da663 [a] [i,j,k]
theorem ado:i<=(a:Int)->((max a (l5 i):Nat):Int)-1=(a:Int)-1:=ln 0x7ded104204cc410813e44e6b4ce61 [a] [i]
theorem adp(h0:(a:Int)*i<=64*100):(a:Int)*i<=2^27:=by omega
theorem adq:0<=i->0<=j->i<2147483587->j<=k->k<=100000->u6 (i+20947*j+3571)<2^64:=ln 0x3ef7bdef540000000000000001a0df4237cc600d1d31929358c35010155d68b0ffffff86706e6ba000b98003 [] [i,j,k]
theorem ads:0<=i->i<2147483629->u6 i<2^64:=ln 0x7def540000000000000001a0df66b0ffffffda706e6b98001 [] [i]
theorem adt:0<=i->i<=j->j<=100000->u6 (20947*i)<2^64:=ln 0xfbdef540000000000000001a0df68e98c9358c35010145d26b98002 [] [i,j]
theorem adu(h0:0<=i)(h1:0<=j)(h2:i<=2147483629*207207)(h3:j<=2094700000*100000):u6 (i+j+31)<2^64:=by omega
theorem adv:0<=i->-2^62<=1+i:=ln 0x1f7ac33084062000000000000000340b98001 [] [i]
theorem adw:i<3->1+i<2^62:=ln 0x7deb2000000000000000341b0cc2102c6106e61 [] [i]
theorem adx:max i k<=j->i<=j:=ln 0x7deba4d74f5663 [] [i,j,k]
theorem ady:max k i<=j->i<=j:=ln 0x7deba4d74f4ea3 [] [i,j,k]
theorem adz:1<=i->i<=3->u6 i<10^10:=ln 0x7def52540be4003837d9ac6104d7308401 [] [i]
theorem adA:-1<=i->i<=1->u6 i<10^10:=ln 0xfbdea4a817c800706fb3584209ae6608401 [] [i]
theorem adB:a<=b->b<=50000->a<10^10:=ln 0x7def52540be400383735061a8101455262 [a,b] []
theorem adC:i=4\/i=5->u6 i<10^10:=ln 0x7dea4a817c800706fb38b4a104da408261 [] [i]
theorem adD:j=4\/j=5->a=2\/a=3->i<=(b:Int)-1->j<=i->b=l5 j+a->u6 i<10^10:=ln 0x7def7bdea4a817c800706fb360668a5173a2c41081349c5830826c104138b4a1051a408282 [a,b] [i,j]
theorem adE:0<=i->i<=13->u6 i<10^10:=ln 0x3ef7a92a05f2001c1becd6d0826b98001 [] [i]
theorem uB:0<=i->i<=3->u6 i<10^10:=ln 0x3ef7a92a05f2001c1becd630826b98001 [] [i]
theorem adF:0<=i->i<(a:Int)->a<=4->u6 i<10^10:=ln 0xfbdef52540be4003837d9a88104d699ee6b98001 [a] [i]
theorem Gm:u6 i<=100->u6 i<10^10:=ln 0x7dea4a817c800706fb350c8207661 [] [i]
theorem PE:u6 i<=1048576->u6 i<10^10:=ln 0x3ef52540be4003837d9a8200000507661 [] [i]
theorem PI:0<=i->i<=(a:Int)-1->a<=3->u6 i<10^10:=ln 0x7def7a92a05f2001c1becd430826b104204ce6b98001 [a] [i]
theorem adG:-1<=i->i<=(a:Int)-1->a<=3->u6 i<10^10:=ln 0x1f7bdea4a817c800706fb350c209ac41081339ae6608401 [a] [i]
theorem adH:0<=i->i<=7->u6 i<10^10:=ln 0x3ef7a92a05f2001c1becd670826b98001 [] [i]
theorem adI:0<=i->i<=13->0<=i/\u6 i<10^10:=ln 0x7def8292a05f2001c1becd730016d0826b98001 [] [i]
theorem adJ:0<=i->i<=3->0<=i/\u6 i<10^10:=ln 0x7def8292a05f2001c1becd73001630826b98001 [] [i]
theorem adK:a=2\/a=3->(a:Int)<2^62:=ln 0x1f7ac8000000000000000d06d338b06104d8208261 [a] []
theorem adL:a<=1->b<=10->max (max 0 (max a 0)+1) b<=10:=ln 0xfbdea5041ea6fde00260029410514108262 [a,b] []
theorem adM:a<=12->b<=12->max a b<=12:=ln 0x1f7bd4c083d49a9810514c08262 [a,b] []
theorem adN:a<=10->max (max 0 (max 0 (max 0 0))+1) a<=10:=ln 0x3ef52820f4f7ef7800000000014a08261 [a] []
theorem adO:a<=12->max (0+1) (max (0+1) (max (a+1) 0))+1<=60:=ln 0x7dea0f040dfbde00373d801b0014c08261 [a] []
theorem adP:a+16*b+80<=c->d<=60\/e<=60->a+1+min d e<c:=ln 0x7def557613dedb9c541e0817507820595508a020060125265 [a,b,c,d,e] []
theorem adQ:0<i->i-0=((l5 i:Nat):Int):=ln 0xfbda944c4004d73d8001 [] [i]
theorem adR:¬(0<i)->0=((l5 i:Nat):Int):=ln 0x7ded4a26003973d8001 [] [i]
theorem PJ:a=10\/32<=a/\a<=126->a≠9:=ln 0xfbdcc484138c143f081354c201018a08261 [a] []
theorem adS:a=10\/32<=a/\a<=126->¬(a=10)->¬((a:Int)<32):=ln 0x3ef7b9610081b4cdcc504138c143f081354c201018a08261 [a] []
theorem adT:a=10\/32<=a/\a<=126->¬((a:Int)>126):=ln 0x7dee5a67b1f8408c143f081354c201018a08261 [a] []
theorem adU:i+1=0->0<=i->False:=ln 0x3ef7c973001a006e61 [] [i]
theorem adV:j<i\/i=0->0<i->l5 j<l5 i:=ln 0xfbdea44f68a2e7b0022d0026b9ee82 [] [i,j]
end
theorem xA{p0:Prop}{p1:Prop}{c:Prop}(h:p0/\p1)(k:p0->p1->c):c:=h.elim λa0 h=>k a0 h
theorem xE{T0:Sort _}{p0:T0->Prop}{c:Prop}(h:∃x0:T0,p0 x0)(k:∀x0:T0,p0 x0->c):c:=h.elim λa0 h=>k a0 h
theorem kh{p0:Prop}{p1:Prop}{p2:Prop}{c:Prop}(h:p0/\p1/\p2)(k:p0->p1->p2->c):c:=h.elim λa0 h=>h.elim λa1 h=>k a0 a1 h
theorem bz{T0:Sort _}{p0:T0->Prop}{p1:T0->Prop}{c:Prop}(h:∃x0:T0,p0 x0/\p1 x0)(k:∀x0:T0,p0 x0->p1 x0->c):c:=h.elim λa0 h=>h.elim λa1 h=>k a0 a1 h
theorem sH{T0:Sort _}{T1:Sort _}{p0:T0->T1->Prop}{c:Prop}(h:∃x0:T0,∃x1:T1,p0 x0 x1)(k:∀x0:T0,∀x1:T1,p0 x0 x1->c):c:=h.elim λa0 h=>h.elim λa1 h=>k a0 a1 h
theorem pG{p0:Prop}{p1:Prop}{p2:Prop}{p3:Prop}{c:Prop}(h:p0/\p1/\p2/\p3)(k:p0->p1->p2->p3->c):c:=h.elim λa0 h=>h.elim λa1 h=>h.elim λa2 h=>k a0 a1 a2 h
theorem f_{T0:Sort _}{p0:T0->Prop}{p1:T0->Prop}{p2:T0->Prop}{c:Prop}(h:∃x0:T0,p0 x0/\p1 x0/\p2 x0)(k:∀x0:T0,p0 x0->p1 x0->p2 x0->c):c:=h.elim λa0 h=>h.elim λa1 h=>h.elim λa2 h=>k a0 a1 a2 h
theorem lC{T0:Sort _}{T1:Sort _}{p0:T0->T1->Prop}{p1:T0->T1->Prop}{c:Prop}(h:∃x0:T0,∃x1:T1,p0 x0 x1/\p1 x0 x1)(k:∀x0:T0,∀x1:T1,p0 x0 x1->p1 x0 x1->c):c:=h.elim λa0 h=>h.elim λa1 h=>h.elim λa2 h=>k a0 a1 a2 h
theorem zC{p0:Prop}{p1:Prop}{p2:Prop}{p3:Prop}{p4:Prop}{c:Prop}(h:p0/\p1/\p2/\p3/\p4)(k:p0->p1->p2->p3->p4->c):c:=h.elim λa0 h=>h.elim λa1 h=>h.elim λa2 h=>h.elim λa3 h=>k a0 a1 a2 a3 h
theorem jr{T0:Sort _}{T1:Sort _}{p0:Prop}{p1:T0->T1->Prop}{p2:T0->T1->Prop}{c:Prop}(h:p0/\∃x0:T0,∃x1:T1,p1 x0 x1/\p2 x0 x1)(k:p0->∀x0:T0,∀x1:T1,p1 x0 x1->p2 x0 x1->c):c:=h.elim λa0 h=>h.elim λa1 h=>h.elim λa2 h=>h.elim λa3 h=>k a0 a1 a2 a3 h
theorem oO{T0:Sort _}{p0:T0->Prop}{p1:T0->Prop}{p2:T0->Prop}{p3:T0->Prop}{c:Prop}(h:∃x0:T0,p0 x0/\p1 x0/\p2 x0/\p3 x0)(k:∀x0:T0,p0 x0->p1 x0->p2 x0->p3 x0->c):c:=h.elim λa0 h=>h.elim λa1 h=>h.elim λa2 h=>h.elim λa3 h=>k a0 a1 a2 a3 h
theorem PK{T0:Sort _}{T1:Sort _}{p0:T0->Prop}{p1:T0->Prop}{p2:T0->T1->Prop}{c:Prop}(h:∃x0:T0,p0 x0/\p1 x0/\∃x1:T1,p2 x0 x1)(k:∀x0:T0,p0 x0->p1 x0->∀x1:T1,p2 x0 x1->c):c:=h.elim λa0 h=>h.elim λa1 h=>h.elim λa2 h=>h.elim λa3 h=>k a0 a1 a2 a3 h
theorem Cw{T0:Sort _}{T1:Sort _}{p0:T0->T1->Prop}{p1:T0->T1->Prop}{p2:T0->T1->Prop}{c:Prop}(h:∃x0:T0,∃x1:T1,p0 x0 x1/\p1 x0 x1/\p2 x0 x1)(k:∀x0:T0,∀x1:T1,p0 x0 x1->p1 x0 x1->p2 x0 x1->c):c:=h.elim λa0 h=>h.elim λa1 h=>h.elim λa2 h=>h.elim λa3 h=>k a0 a1 a2 a3 h
theorem tG{T0:Sort _}{T1:Sort _}{T2:Sort _}{p0:T0->T1->T2->Prop}{p1:T0->T1->T2->Prop}{c:Prop}(h:∃x0:T0,∃x1:T1,∃x2:T2,p0 x0 x1 x2/\p1 x0 x1 x2)(k:∀x0:T0,∀x1:T1,∀x2:T2,p0 x0 x1 x2->p1 x0 x1 x2->c):c:=h.elim λa0 h=>h.elim λa1 h=>h.elim λa2 h=>h.elim λa3 h=>k a0 a1 a2 a3 h
theorem KQ{T0:Sort _}{T1:Sort _}{p0:T0->T1->Prop}{p1:T0->T1->Prop}{p2:T0->T1->Prop}{p3:T0->T1->Prop}{c:Prop}(h:∃x0:T0,∃x1:T1,p0 x0 x1/\p1 x0 x1/\p2 x0 x1/\p3 x0 x1)(k:∀x0:T0,∀x1:T1,p0 x0 x1->p1 x0 x1->p2 x0 x1->p3 x0 x1->c):c:=h.elim λa0 h=>h.elim λa1 h=>h.elim λa2 h=>h.elim λa3 h=>h.elim λa4 h=>k a0 a1 a2 a3 a4 h
theorem qk{T0:Sort _}{T1:Sort _}{T2:Sort _}{p0:T0->T1->T2->Prop}{p1:T0->T1->T2->Prop}{p2:T0->T1->T2->Prop}{c:Prop}(h:∃x0:T0,∃x1:T1,∃x2:T2,p0 x0 x1 x2/\p1 x0 x1 x2/\p2 x0 x1 x2)(k:∀x0:T0,∀x1:T1,∀x2:T2,p0 x0 x1 x2->p1 x0 x1 x2->p2 x0 x1 x2->c):c:=h.elim λa0 h=>h.elim λa1 h=>h.elim λa2 h=>h.elim λa3 h=>h.elim λa4 h=>k a0 a1 a2 a3 a4 h
theorem zD{p0:Prop}{p1:Prop}{p2:Prop}{p3:Prop}{p4:Prop}{p5:Prop}{p6:Prop}{c:Prop}(h:p0/\p1/\p2/\p3/\p4/\p5/\p6)(k:p0->p1->p2->p3->p4->p5->p6->c):c:=h.elim λa0 h=>h.elim λa1 h=>h.elim λa2 h=>h.elim λa3 h=>h.elim λa4 h=>h.elim λa5 h=>k a0 a1 a2 a3 a4 a5 h
theorem Gn{T0:Sort _}{p0:Prop}{p1:Prop}{p2:Prop}{p3:Prop}{p4:T0->Prop}{p5:T0->Prop}{c:Prop}(h:p0/\p1/\p2/\p3/\∃x0:T0,p4 x0/\p5 x0)(k:p0->p1->p2->p3->∀x0:T0,p4 x0->p5 x0->c):c:=h.elim λa0 h=>h.elim λa1 h=>h.elim λa2 h=>h.elim λa3 h=>h.elim λa4 h=>h.elim λa5 h=>k a0 a1 a2 a3 a4 a5 h
theorem kj{T0:Sort _}{T1:Sort _}{T2:Sort _}{p0:T0->T1->T2->Prop}{p1:T0->T1->T2->Prop}{p2:T0->T1->T2->Prop}{p3:T0->T1->T2->Prop}{c:Prop}(h:∃x0:T0,∃x1:T1,∃x2:T2,p0 x0 x1 x2/\p1 x0 x1 x2/\p2 x0 x1 x2/\p3 x0 x1 x2)(k:∀x0:T0,∀x1:T1,∀x2:T2,p0 x0 x1 x2->p1 x0 x1 x2->p2 x0 x1 x2->p3 x0 x1 x2->c):c:=h.elim λa0 h=>h.elim λa1 h=>h.elim λa2 h=>h.elim λa3 h=>h.elim λa4 h=>h.elim λa5 h=>k a0 a1 a2 a3 a4 a5 h
theorem lY{p0:Prop}{p1:Prop}{p2:Prop}{p3:Prop}{p4:Prop}{p5:Prop}{p6:Prop}{p7:Prop}{c:Prop}(h:p0/\p1/\p2/\p3/\p4/\p5/\p6/\p7)(k:p0->p1->p2->p3->p4->p5->p6->p7->c):c:=h.elim λa0 h=>h.elim λa1 h=>h.elim λa2 h=>h.elim λa3 h=>h.elim λa4 h=>h.elim λa5 h=>h.elim λa6 h=>k a0 a1 a2 a3 a4 a5 a6 h
theorem AP{p0:Prop}{p1:Prop}{p2:Prop}{p3:Prop}{p4:Prop}{p5:Prop}{p6:Prop}{p7:Prop}{p8:Prop}{c:Prop}(h:p0/\p1/\p2/\p3/\p4/\p5/\p6/\p7/\p8)(k:p0->p1->p2->p3->p4->p5->p6->p7->p8->c):c:=h.elim λa0 h=>h.elim λa1 h=>h.elim λa2 h=>h.elim λa3 h=>h.elim λa4 h=>h.elim λa5 h=>h.elim λa6 h=>h.elim λa7 h=>k a0 a1 a2 a3 a4 a5 a6 a7 h
theorem ql{T0:Sort _}{T1:Sort _}{T2:Sort _}{p0:T0->T1->T2->Prop}{p1:T0->T1->T2->Prop}{p2:T0->T1->T2->Prop}{p3:T0->T1->T2->Prop}{p4:T0->T1->T2->Prop}{p5:T0->T1->T2->Prop}{p6:T0->T1->T2->Prop}{c:Prop}(h:∃x0:T0,∃x1:T1,∃x2:T2,p0 x0 x1 x2/\p1 x0 x1 x2/\p2 x0 x1 x2/\p3 x0 x1 x2/\p4 x0 x1 x2/\p5 x0 x1 x2/\p6 x0 x1 x2)(k:∀x0:T0,∀x1:T1,∀x2:T2,p0 x0 x1 x2->p1 x0 x1 x2->p2 x0 x1 x2->p3 x0 x1 x2->p4 x0 x1 x2->p5 x0 x1 x2->p6 x0 x1 x2->c):c:=h.elim λa0 h=>h.elim λa1 h=>h.elim λa2 h=>h.elim λa3 h=>h.elim λa4 h=>h.elim λa5 h=>h.elim λa6 h=>h.elim λa7 h=>h.elim λa8 h=>k a0 a1 a2 a3 a4 a5 a6 a7 a8 h
theorem TM{α:Type _}{l:List α}{a:α}{c:Prop}(h:a∈l)(k:∀(i:Nat) (h:i<l.length),l[i]=a->c):c:=(O6 h).elim λi h=>h.elim (k i)
section
section
variable{prog:Program}{w:World}
inductive bY(prog:Program)(w:World)(h:Heap):List (Int×Int)->List Value->Prop
 |nil:bY prog w h [] []
 |cons {p:Int×Int} {b:Addr} {t u:Tok} {n:Nat} {ps:List (Int×Int)} {vs:List Value}:h.get? b=some #[.type "tuple",none,.seq (List.toArray [.int p.1 t,.int p.2 u]) n,#[]]->bY prog w h ps vs->bY prog w h (p::ps) (.ref b::vs)
theorem pk{h:Heap}{p:Int×Int}{b:Addr}{t u:Tok}{n:Nat}(e:h.get? b=some #[.type "tuple",none,.seq (List.toArray [.int p.1 t,.int p.2 u]) n,#[]]):IsTupleKey (intKind prog w) h [p.1,p.2] b:=#[_,_,n,e,rfl,rfl,.cons (intKind_is ..) (.cons (intKind_is ..) .nil)]
def lZ(prog:Program)(w:World)(h:Heap)(k:List (Int×Int))(a:Addr):Prop:=∃vs n,h.get? a=some #[.type "tuple",none,.seq (List.toArray vs) n,#[]]/\bY prog w h k vs
theorem bY.inj{h:Heap}{x y:List (Int×Int)}{vs:List Value}(a:bY prog w h x vs)(b:bY prog w h y vs):x=y:=by
 induction a generalizing y with
 |nil=>cases b;rfl
 |cons a r ih=>
  cases b with
  |cons b q=>
   have:=(pk (prog:=prog) (w:=w) a).inj (pk b);simp only[List.cons.injEq,and_true] at this;rw[ih q,Prod.ext this.1 this.2]
theorem bY.keeps(ho:h.get? d=some o)(hd:o.data=.dict es ep)(hs:W0 d h h')(r:bY prog w h x vs):bY prog w h' x vs:=by
 induction r with
 |nil=>exact .nil
 |cons a _ ih=>exact .cons ((hs.2 _ (by rintro rfl;rw[a] at ho;cases ho;cases hd)).trans a) ih
noncomputable def ie(prog:Program)(w:World)(p:Int×Int):Int:=tupleKeyHash (intKind prog w) [p.1,p.2]
noncomputable def Cy(prog:Program)(w:World)(k:List (Int×Int)):Int:=reduceHash (J0 (k.map (ie prog w)))
noncomputable def dY(p:Int×Int):PyData:=.tuple [.int p.1,.int p.2]
theorem lZ.typeIs{s:Shared}{k:List (Int×Int)}{a:Addr}(x:lZ prog w s.heap k a):s.TypeIs (.ref a) "tuple":=let#[_,_,e,_]:=x;#[_,e,rfl]
theorem Cz(h:ItemsAre (intKind prog w) ks vs):∀{hh:Heap},∃as,ReadsAll hh vs (ks.map .int) as:=by
 induction h with
 |nil=>intro hh;exact#[_,.nil]
 |cons h1 _ ih=>
  intro hh;obtain⟨t,rfl⟩:=Value.isInt_shape h1;refine xE (ih (hh:=hh)) λas r=>?_;exact#[_,.cons (.int _ _) r]
theorem bY.reads{h:Heap}{x:List (Int×Int)}{vs:List Value}(r:bY prog w h x vs):∃as,ReadsAll h vs (x.map dY) as:=by
 induction r with
 |nil=>exact#[_,.nil]
 |cons a _ ih=>
  refine kj (pk (prog:=prog) (w:=w) a) λo items n e hc hd hi=>?_;refine xE (Cz hi (hh:=h)) λas q=>?_;refine xE ih λbs q'=>?_;exact#[_,.cons (.tuple e hc hd q) q']
theorem lZ.reads(x:lZ prog w h k a):∃as,Reads h (.ref a) (.tuple (k.map dY)) as:=by
 refine lC x λvs n e r=>?_;refine xE r.reads λas q=>?_;exact#[_,.tuple e rfl rfl (by simpa using q)]
theorem nI:∀k:List (Int×Int),r8 (k.map dY)=true
 |[]=>rfl
 |p::r=>by simp[r8,dY,C8,nI r]
theorem xP(k:List (Int×Int)):(P6 (k.map dY)).depth<=2:=by
 induction k with
 |nil=>exact n8 _
 |cons p r ih=>
  simp only[G4,q7,C0,dY] at ih⊢;exact M0 (Nat.max_le.mpr #[!n8 _,Nat.le_of_succ_le_succ ih])
theorem AQ(x:List (Int×Int)):∀y:List (Int×Int),PyData.eqvAll (x.map dY) (y.map dY)=decide (x=y):=by
 induction x with
 |nil=>exact λy=>y.casesOn rfl λZ Z=>rfl
 |cons p r ih=>
  refine λy=>y.casesOn rfl λq s=>?_;simp only[q7,PyData.eqvAll,ih s,dY,I7,List.cons.injEq,Prod.ext_iff,Bool.decide_and,Bool.and_true];rfl
end
section
variable{prog:Program}{w:World}{A:Around}{E:Value->Shared->Prop}{s:Shared}
inductive CA(prog:Program)(w:World)(s:Shared)(k:List (Int×Int))(rest:List Value)(b:Array Int)(s':Shared):Prop
 |mk (done left:List (Int×Int)) (e:k=done++left) (p:bY prog w s.heap left rest) (hb:b.toList=done.map (ie prog w)) (es:s'={s with toks:=s.toks+3*done.length}):CA prog w s k rest b s'
theorem Gp{k:List (Int×Int)}{a:Addr}{Q:Int->Shared->Prop}(hu:A.units+3<cLine)(hk:lZ prog w s.heap k a)(h:Q (Cy prog w k) {s with toks:=s.toks+(3*k.length+1)}):
 wpAny (model prog w) A (pyHash (.ref a)) Q E s:=by
 have hT:=hk.typeIs;refine lC hk λvs n ho hi=>?_;unfold pyHash
 first|unfold pyHashByItsType|skip
 first|refine wpAny_bind (wpAny_cRoomFor_or (.inr (!o0 hu)) ?_)|skip
 refine wpAny_bind (wpAny_specialOf hT T7.lookup ?_);show wpAny _ _ (if(some (Value.builtin "tuple.__hash__")==some Q7)=true then _ else _) Q E s;rw[if_neg (!q8)];refine wpAny_bind (wpAny_specialOf hT T7.lookup ?_);show wpAny _ _ (callSpecialIfBoundUnlessNone? (.ref a) "__hash__" _>>=_) Q E s;refine wpAny_bind (wpAny_callSpecialIfBoundUnlessNone?_slot hT T7 (wpAny_call_entry T7 hT F.entry_tuple_hash ?_ (F.args_tuple_hash_1 _)));show wpAny _ _ (Builtin.Tuple.tupleItemsOf (.ref a)>>=_) _ _ s;refine wpAny_bind (wpAny_tupleItemsOf ho rfl ?_);refine wpAny_bind ?_;rw[<-W7];refine wpAny_forIn_list _
  (CA prog w s k)
  _ ?_ ?_ _ _ #[[],k,rfl,by simpa using hi,rfl,rfl]
 ·rintro x rest b s' ⟨done,left,rfl,hl,hb,rfl⟩;cases hl with
  |@cons p c _ _ _ ps _ h1 hl'=>
   refine wpAny_bind (wpAny_pyHash_tuple (knd:=intKind prog w) (by show A.units+1<cLine;exact o1 hu) (pk h1) ?_);have fin:CA prog w s (done++p::ps) rest (b.push (tupleKeyHash (intKind prog w) [p.1,p.2])) {s with toks:=s.toks+3*done.length+([p.1,p.2].length+1)}:=
    #[done++[p],ps,by simp,hl',by simp[hb,ie],by congr 1;simp;exact o2]
   first
    |exact wpAny_pure fin
    |exact wpAny_bind (wpAny_pure (wpAny_pure fin))
 ·rintro b s' ⟨done,left,rfl,hl,hb,rfl⟩;cases hl;rw[v7] at h;show wpAny _ _ (retInt (J0 b.toList)) _ _ _;rw[hb];refine wpAny_ret_mkInt ?_;unfold Cy reduceHash at h;show wpAny _ _ (if(decide (-(2:Int) ^ 63<=J0 (done.map (ie prog w)))&&decide (J0 (done.map (ie prog w))<2 ^ 63))=true then _ else _) Q E _;generalize J0 (done.map (ie prog w))=z at h⊢;by_cases hr:(decide (-(2:Int) ^ 63<=z)&&decide (z<2 ^ 63))=true
  ·rw[if_pos hr];rw[if_pos hr] at h;exact wpAny_pure `a
  ·rw[if_neg hr];rw[if_neg hr] at h;exact wpAny_bind (wpAny_rule (wpAny_pure `a))
theorem PL(hu:A.units+3<cLine)(hx:lZ prog w s.heap x a)(hy:lZ prog w s.heap y b)(h:Q (decide (x=y)) s):
 wpAny (model prog w) A (eqBool (.ref a) (.ref b)) Q E s:=by
 refine xE hx.reads λas ra=>?_;refine xE hy.reads λbs rb=>?_;have hd:=xP x;refine PySem.SeqAt.eqBoolOverData prog w A E s _ _ _ _ as bs Q ra rb (nI x) (nI y) (!o3 hu hd) ?_;show Q (PyData.eqvAll _ _) s;rw[AQ];exact h
theorem xQ(m:Nat)(hk:IsTupleKey (intKind prog w) s.heap ks a)(h:Q true s):wpAny (model prog w) A (eqIsQuiet (m+1) (.ref a)) Q E s:=by
 have hT:=hk.typeIs;refine kj hk λo items n ho Z hd hi=>?_;unfold eqIsQuiet;refine wpAny_bind (wpAny_specialOf hT F.slot_tuple_eq.lookup ?_);show wpAny _ _ (isInstance (.ref a) (.type "tuple")>>=_) _ _ s;refine wpAny_bind (wpAny_isInstance hT isSubtype_tuple_tuple ?_);simp only[Z2,C1,if_false];refine wpAny_bind (wpAny_seqItems ho hd ?_);refine wpAny_bind ?_;show wpAny _ _ (forIn items _ _) _ _ s;rw[<-W7];refine wpAny_forIn_list _ (λrest r s'=>r.1=none/\s'=s/\∀v∈rest,carriedByValue v=true) _ ?_ ?_ _ _ #[rfl,rfl,hi.byValue]
 ·rintro v rest r s' ⟨hr,rfl,hall⟩;rw[eqIsQuiet_byValue _ (hall v v8)];refine wpAny_bind (wpAny_pure ?_);simp only[Z2,C1,if_false];exact wpAny_pure #[rfl,rfl,λu hu'=>hall u (s7 _ hu')]
 ·rintro⟨r1,r2⟩ s' ⟨hr,rfl,_⟩;simp only at hr;subst hr;exact wpAny_pure h
theorem CB{k:List (Int×Int)}{a:Addr}{Q:Bool->Shared->Prop}(hk:lZ prog w s.heap k a)(h:Q true s):wpAny (model prog w) A (eqIsQuiet 8 (.ref a)) Q E s:=by
 have hT:=hk.typeIs;refine lC hk λvs n ho hi=>?_;unfold eqIsQuiet;refine wpAny_bind (wpAny_specialOf hT F.slot_tuple_eq.lookup ?_);show wpAny _ _ (isInstance (.ref a) (.type "tuple")>>=_) _ _ s;refine wpAny_bind (wpAny_isInstance hT isSubtype_tuple_tuple ?_);simp only[Z2,C1,if_false];refine wpAny_bind (wpAny_seqItems ho rfl ?_);refine wpAny_bind ?_;show wpAny _ _ (forIn vs.toArray _ _) _ _ s;rw[<-W7];refine wpAny_forIn_list _ (λrest r s'=>r.1=none/\s'=s/\∃left,bY prog w s.heap left rest) _ ?_ ?_ _ _ #[rfl,rfl,k,by simpa using hi]
 ·rintro v rest r s' ⟨hr,rfl,left,hl⟩;cases hl with
  |@cons p c _ _ _ ps _ h1 hl'=>
  refine wpAny_bind (xQ 6 (pk h1) ?_);simp only[Z2,C1,if_false];exact wpAny_pure #[rfl,rfl,ps,hl']
 ·rintro⟨r1,r2⟩ s' ⟨hr,rfl,_⟩;simp only at hr;subst hr;exact wpAny_pure h
end
noncomputable def qm(prog:Program)(w:World):HeapKind prog w (List (Int×Int)) where
 is:=λh k a=>lZ prog w h k a
 hash:=Cy prog w
 draws:=λk=>3*k.length+1
 room:=λA=>A.units+3<cLine
 inj:=λ#[vs,n,e,r] #[us,m,e',r']=>by
  rw[e] at e';simp only[Y7,Obj.mk.injEq,Data.seq.injEq] at e';have:vs=us:=by have:=e'.2.2.1.1;simpa using this
  subst this;exact r.inj r'
 keeps:=λ{h h' k a d o es ep} #[vs,n,e,r] ho hd hs=>#[vs,n,(hs.2 a (by rintro rfl;rw[e] at ho;cases ho;cases hd)).trans e,r.keeps ho hd hs]
 pyHash:=λhu hk h=>Gp hu hk h
 eqBool:=λhu hx hy h=>PL hu hx hy h
 quiet:=λhk h=>CB hk h
end
section
set_option genInjectivity true in
inductive AV where
 |none
 |bool (b:Bool)
 |int (i:Int)
 |str (s:Str)
 |ref (a:Addr)
 |tup (l:List AV)
 |ty (n:String)
 |bi (n:String)
mutual
inductive bF(h:Heap):Value->AV->Prop
 |none:bF h .none .none
 |bool (b:Bool):bF h (.bool b) (.bool b)
 |int (i:Int) (t:Tok):bF h (.int i t) (.int i)
 |str (s:Str) (t:Tok):bF h (.str s t) (.str s)
 |ref (a:Addr):bF h (.ref a) (.ref a)
 |tup {a:Addr} {xs:List Value} {vs:List AV}:h.get? a=some #[.type "tuple",b6,.seq xs.toArray 0,#[]]->aM h xs vs->bF h (.ref a) (.tup vs)
 |ty (n:String):bF h (.type n) (.ty n)
 |bi (n:String):bF h (.builtin n) (.bi n)
inductive aM(h:Heap):List Value->List AV->Prop
 |nil:aM h [] []
 |cons {v:Value} {vs:List Value} {d:AV} {ds:List AV}:bF h v d->aM h vs ds->aM h (v::vs) (d::ds)
end
noncomputable def PM(h:Heap)(V:Value):AV->Prop
 | .none=>V=.none
 | .bool b=>V=.bool b
 | .int i=>∃t,V=.int i t
 | .str s=>∃t,V=.str s t
 | .ref a=>V=.ref a
 | .tup vs=>∃a xs,h.get? a=some #[.type "tuple",b6,.seq xs.toArray 0,#[]]/\aM h xs vs/\V=.ref a
 | .ty n=>V=.type n
 | .bi n=>V=.builtin n
noncomputable def IB(h:Heap)(Vs:List Value):List AV->Prop
 |[]=>Vs=[]
 |v::vs=>∃V Ws,bF h V v/\aM h Ws vs/\Vs=V::Ws
theorem bF.inv{h:Heap}{V:Value}{v:AV}(r:bF h V v):PM h V v:=
 bF.rec (motive_1:=λV v Z=>PM h V v) (motive_2:=λZ Z Z=>True) rfl (λZ=>rfl) (λZ t=>#[t,rfl]) (λZ t=>#[t,rfl]) (λZ=>rfl) (λe r Z=>#[_,_,e,r,rfl]) (λZ=>rfl) (λZ=>rfl) c7 (λZ Z Z Z=>c7) r
theorem aM.inv{h:Heap}{V:List Value}{v:List AV}(r:aM h V v):IB h V v:=
 aM.rec (motive_1:=λZ Z Z=>True) (motive_2:=λV v Z=>IB h V v) c7 (λZ=>c7) (λZ Z=>c7) (λZ Z=>c7) (λZ=>c7) (λZ Z Z=>c7) (λZ=>c7) (λZ=>c7) rfl (λa r Z Z=>#[_,_,a,r,rfl]) r
@[elab_as_elim] theorem bF.bB{h:Heap}{P:Value->Prop}{V:Value}{i:Int}(r:bF h V (.int i))(k:∀t,P (.int i t)):P V:=r.inv.elim λt e=>e▸k t
@[elab_as_elim] theorem bF.fL{h:Heap}{P:Value->Prop}{V:Value}{i:Str}(r:bF h V (.str i))(k:∀t,P (.str i t)):P V:=r.inv.elim λt e=>e▸k t
@[elab_as_elim] theorem bF.bR{h:Heap}{P:Value->Prop}{V:Value}{a:Addr}(r:bF h V (.ref a))(k:P (.ref a)):P V:=(show V=.ref a from r.inv)▸k
@[elab_as_elim] theorem bF.ig{h:Heap}{P:Value->Prop}{V:Value}{a:Bool}(r:bF h V (.bool a))(k:P (.bool a)):P V:=(show V=.bool a from r.inv)▸k
@[elab_as_elim] theorem bF.CD{h:Heap}{P:Value->Prop}{V:Value}(r:bF h V .none)(k:P .none):P V:=(show V=.none from r.inv)▸k
@[elab_as_elim] theorem bF.tupI{h:Heap}{P:Value->Prop}{V:Value}{vs:List AV}(r:bF h V (.tup vs))(k:∀a xs,h.get? a=some #[.type "tuple",b6,.seq xs.toArray 0,#[]]->aM h xs vs->P (.ref a)):P V:=r.inv.elim λa h=>h.elim λxs h=>h.2.2▸k a xs h.1 h.2.1
@[elab_as_elim] theorem aM.cC{h:Heap}{P:List Value->Prop}{Vs:List Value}(r:aM h Vs [])(k:P []):P Vs:=(show Vs=[] from r.inv)▸k
@[elab_as_elim] theorem aM.aX{h:Heap}{P:List Value->Prop}{Vs:List Value}{v:AV}{vs:List AV}(r:aM h Vs (v::vs))(k:∀V Ws,bF h V v->aM h Ws vs->P (V::Ws)):P Vs:=r.inv.elim λV h=>h.elim λWs h=>h.2.2▸k V Ws h.1 h.2.1
set_option genInjectivity true in
inductive AO where
 |list (vs:List AV)
 |dI (kvs:List (Int×AV))
 |dS (kvs:List (Str×AV))
 |dN (kvs:List (List (Int×Int)×AV))
 |inst (C dx:Addr) (fs:List (Str×AV))
theorem aoN{x y:AO}{c:Prop}(e:some x=some y)(h:(x.ctorIdx==y.ctorIdx)=false):c:=absurd h (by cases e;rw[beq_self_eq_true];exact Bool.noConfusion)
theorem aoC{C D d d':Addr}{f f':List (Str×AV)}{c:Prop}(e:some (AO.inst C d f)=some (AO.inst D d' f'))(h:(C==D)=false):c:=absurd h (by cases e;rw[beq_self_eq_true];exact Bool.noConfusion)
theorem avN{x y:AV}{c:Prop}(e:x=y)(h:(x.ctorIdx==y.ctorIdx)=false):c:=absurd h (by cases e;rw[beq_self_eq_true];exact Bool.noConfusion)
theorem gc{α:Type _}{x:α}{c:Prop}(e:b6=some x):c:=Option.noConfusion rfl (heq_of_eq e)
theorem TN{α:Type _}{x:α}{c:Prop}(e:some x=b6):c:=Option.noConfusion rfl (heq_of_eq e)
noncomputable abbrev AH:=Addr->Option AO
noncomputable def AH.set(H:AH)(a:Addr)(o:AO):AH:=λb=>if b=a then some o else H b
@[simp] theorem AH.aq(H:AH)(a:Addr)(o:AO):(H.set a o) a=some o:=by exact if_pos rfl
theorem AH.lD(H:AH){a b:Addr}(o:AO)(h:b≠a):(H.set a o) b=H b:=by exact if_neg `a
noncomputable abbrev Fz:=Addr->Option Obj
def jt(g:Fz)(h:Heap):Prop:=∀b o,g b=some o->h.get? b=some o
theorem bF.mono{h h':Heap}(k:∀b (xs:Array Value) n,h.get? b=some #[.type "tuple",b6,.seq xs n,#[]]->h'.get? b=some #[.type "tuple",b6,.seq xs n,#[]]){V:Value}{v:AV}(r:bF h V v):bF h' V v:=
 bF.rec (motive_1:=λV v Z=>bF h' V v) (motive_2:=λV v Z=>aM h' V v) .none .bool .int .str .ref (λe Z i=>.tup (k _ _ _ e) i) .ty .bi .nil (λZ Z a b=>.cons a b) r
theorem aM.ind{h:Heap}{P:List Value->List AV->Prop}(n:P [] [])(c:∀{V v Vs vs},bF h V v->aM h Vs vs->P Vs vs->P (V::Vs) (v::vs)){Vs:List Value}{vs:List AV}(r:aM h Vs vs):P Vs vs:=
 aM.rec (motive_1:=λZ Z Z=>True) (motive_2:=λV v Z=>P V v) c7 (λZ=>c7) (λZ Z=>c7) (λZ Z=>c7) (λZ=>c7) (λZ Z Z=>c7) (λZ=>c7) (λZ=>c7) n (λa r Z i=>c a r i) r
theorem aM.mono{h h':Heap}(k:∀b (xs:Array Value) n,h.get? b=some #[.type "tuple",b6,.seq xs n,#[]]->h'.get? b=some #[.type "tuple",b6,.seq xs n,#[]]){V:List Value}{v:List AV}(r:aM h V v):aM h' V v:=aM.ind (P:=aM h') .nil (λa Z i=>.cons (a.mono k) i) r
inductive ez(P:Params)(h:Heap):List DictEntry->List (Str×AV)->Prop
 |nil:ez P h [] []
 |cons {e:DictEntry} {x:Str} {t:Tok} {v:AV} {es:List DictEntry} {fs:List (Str×AV)}:e.key=.str x t->bF h e.val v->ez P h es fs->ez P h (e::es) ((x,v)::fs)
inductive cR{K:Type}(h:Heap):List (K×Value)->List (K×AV)->Prop
 |nil:cR h [] []
 |cons {k:K} {V:Value} {v:AV} {es:List (K×Value)} {fs:List (K×AV)}:bF h V v->cR h es fs->cR h ((k,V)::es) ((k,v)::fs)
structure Cx where
 prog:Program
 w:World
 K:Frag
 hb:Heap
 mg:Str->Option Value
 mb:Str->Option Value
 os:OsState
 KR:K.In hb
 nsG:hb.Ns mainGlobals mg
 nsB:hb.Ns builtinsNs mb
 bt:∀x:Str,x≠"__name__"->mb x=bootBuiltins x
 lim:hb.NoLimit
 lo:sysModules<hb.objs.size
 last:∃o,hb.get? (hb.objs.size - 1)=some o
 dig:∃mc,hb.Ns cStatics mc/\mc "sys.int_max_str_digits"=b6
inductive KS(h:Heap)(a:Addr)(vs:List AV):Prop
 |mk (xs:List Value) (n:Nat) (o:h.get? a=some #[.type "list",b6,.seq (List.toArray xs) n,#[]]) (r:aM h xs vs):KS h a vs
inductive PN(P:Params)(h:Heap)(a D dx:Addr)(fs:List (Str×AV)):Prop
 |mk (ds:List DictEntry) (n:Nat) (o:h.get? a=some (instObj D dx)) (od:h.get? dx=some (dictOf ds n)) (r:ez P h ds fs) (l:ds.length<=100):PN P h a D dx fs
noncomputable def ir(C:Cx)(h:Heap)(a:Addr):AO->Prop
 | .list vs=>KS h a vs
 | .dI kvs=>∃kv,h.DictOf (intKind C.prog C.w) a kv/\cR h kv kvs
 | .dS kvs=>∃kv,h.DictOf (strKind C.prog C.w) a kv/\cR h kv kvs
 | .dN kvs=>∃kv,h.DictOfH (qm C.prog C.w) a kv/\cR h (kv.map λx=>(x.1,x.2.2)) kvs
 | .inst D dx fs=>PN C.w.params h a D dx fs
def Plain(ob:Obj):Prop:=(ob.cls=.type "list"\/∀xs n,ob.data≠.seq xs n)/\∀v,ob.data≠.cell v
theorem Plain.dict{ob:Obj}{es ep}(h:ob.data=.dict es ep):Plain ob:=#[.inr λxs n q=>(by rw[h] at q;cases q),λv q=>(by rw[h] at q;cases q)]
theorem Plain.KU{xs:Array Value}{n:Nat}(h:Plain #[.type "tuple",b6,.seq xs n,#[]]):False:=by
 obtain⟨h|h,_⟩:=h
 ·simp at h
 ·exact h _ _ rfl
theorem ir.at{C:Cx}{h:Heap}{a:Addr}{o:AO}(r:ir C h a o):∃ob,h.get? a=some ob/\Plain ob:=by
 cases o with
 |list vs=>obtain⟨ys,m,q,_⟩:=r;exact#[_,q,.inl rfl,λv q=>(by cases q)]
 |dI kvs=>obtain⟨kv,⟨o,es,ep,q,_,hd,_⟩,_⟩:=r;exact#[_,q,.dict hd]
 |dS kvs=>obtain⟨kv,⟨o,es,ep,q,_,hd,_⟩,_⟩:=r;exact#[_,q,.dict hd]
 |dN kvs=>obtain⟨kv,⟨o,es,ep,q,_,hd,_⟩,_⟩:=r;exact#[_,q,.dict hd]
 |inst D dx fs=>obtain⟨ys,m,q,_⟩:=r;exact#[_,q,.inr λxs n q=>(by cases q),λv q=>(by cases q)]
def cW(H:AH)(b:Addr):Prop:=(∃o,H b=some o)\/∃a C fs,H a=some (.inst C b fs)
structure cJ(C:Cx)(g:Fz)(H:AH)(s:Shared):Prop where
 base:∀b o,C.hb.get? b=some o->g b=some o
 keep:jt g s.heap
 rel:∀a o,H a=some o->ir C s.heap a o
 off:∀b,cW H b->g b=b6
 dx:∀a D b fs,H a=some (.inst D b fs)->H b=b6
 inj:∀a a' D D' b fs fs',H a=some (.inst D b fs)->H a'=some (.inst D' b fs')->a=a'
 gens:s.gens=#[]
 os:s.os=C.os
 size:C.hb.objs.size<=s.heap.objs.size
 sys:∀a o,H a=some o->a≠sysModules
structure Fm where
 env:Env
 fn:Bool
 mine:List Addr:=[]
noncomputable def Fm.co(F:Fm):List Addr:=if F.fn then F.env.cells.map (·.2) else F.mine
noncomputable def Fm.own(F:Fm):List Addr:=F.env.locals::F.co
structure adX(C:Cx)(F:Fm):Prop where
 kind:F.env.scope.kind=.function
 glob:F.env.globals=mainGlobals
 PO:F.env.builtins=builtinsNs
 apart:∀x y c,F.env.cells.lookup x=some c->F.env.cells.lookup y=some c->c∈F.co->x=y
 locs:F.env.locals∉F.env.cells.map (·.2)
 above:C.hb.objs.size<=F.env.locals
 CE:F.fn=true->∀x,F.env.kindOf x≠some .free
 sub:∀c∈F.co,c∈F.env.cells.map (·.2)
inductive LV where
 |undef
 |val (v:AV)
 |glob
noncomputable abbrev Loc:=List (Str×LV)
noncomputable def Loc.get:Loc->Str->Option LV
 |[],_=>b6
 |(k,v)::r,x=>if k=x then some v else Loc.get r x
noncomputable def Loc.set:Loc->Str->LV->Loc
 |[],_,_=>[]
 |(k,u)::r,x,v=>if k=x then(k,v)::r else(k,u)::Loc.set r x v
theorem Loc.kW{p:Str×LV}{r:Loc}{x:Str}:Loc.get (p::r) x=if p.1=x then some p.2 else r.get x:=rfl
theorem Loc.IC{p:Str×LV}{r:Loc}{x:Str}{v:LV}:Loc.set (p::r) x v=if p.1=x then(p.1,v)::r else p::r.set x v:=rfl
theorem Loc.l_(r:Loc)(x:Str)(v:LV)(h:(r.get x).isSome=true):(r.set x v).get x=some v:=by
 induction r with
 |nil=>exact if_pos `a
 |cons p r ih=>
  obtain⟨k,u⟩:=p;simp only[Loc.IC,Loc.kW] at h⊢;by_cases hk:k=x
  ·subst hk;simp only[if_true,Loc.kW]
  ·simp only[if_neg hk,Loc.kW] at h⊢;exact ih h
theorem Loc.qo(r:Loc)(x:Str)(v:LV)(y:Str)(h:y≠x):(r.set x v).get y=r.get y:=by
 induction r with
 |nil=>rfl
 |cons p r ih=>
  obtain⟨k,u⟩:=p;simp only[Loc.IC];by_cases hk:k=x
  ·subst hk;simp only[if_true,Loc.kW,if_neg (q9 h)]
  ·simp only[if_neg hk,Loc.kW,ih]
noncomputable def Holds(F:Fm)(h:Heap)(m:Str->Option Value)(x:Str):LV->Prop
 | .undef=>F.env.kindOf x=some .local\/(F.env.kindOf x=some .cell/\∃c,F.env.cells.lookup x=some c)
 | .val v=>∃V,bF h V v/\((F.env.kindOf x=some .local/\m x=some V)\/((F.env.kindOf x=some .cell\/F.env.kindOf x=some .free)/\∃c,F.env.cells.lookup x=some c/\h.IsCell c (some V)))
 | .glob=>F.env.kindOf x=some .globalImplicit
structure KV(F:Fm)(ρ:Loc)(h:Heap):Prop where
 ns:∃m,h.Ns F.env.locals m/\∀x v,ρ.get x=some v->Holds F h m x v
 cells:∀c∈F.co,∃v,h.IsCell c v
structure Gd(C:Cx)(g:Fz)(F:Fm)(ρ:Loc)(H:AH)(s:Shared):Prop extends cJ C g H s where
 fm:adX C F
 loc:KV F ρ s.heap
 dh:∀b∈F.own,g b=b6
 cO:∀b∈F.own,¬cW H b
structure ju(n:Nat)(A:Around):Prop where
 handled:A.handled=b6
 depth:A.depth+4*n<=990
 units:A.units+16*n+80<=cLine
abbrev Wp{α:Type}(C:Cx)(A:Around)(t:Sem α)(Q:α->Shared->Prop)(s:Shared):Prop:=wpAny (model C.prog C.w) A t Q (λZ Z=>False) s
inductive PV(C:Cx)(g:Fz)(Q:AV->AH->Prop)(V:Value)(s':Shared):Prop
 |mk (v:AV) (H':AH) (q:Q v H') (r:bF s'.heap V v/\cJ C g H' s'):PV C g Q V s'
theorem ju.deeper{n:Nat}{A:Around}{e:Env}(h:ju (n+1) A):ju n (A.deeper e):=
 #[h.handled,by have:=h.depth;show A.depth+1+_<=_;exact o6 this,by have:=h.units;show A.units+3+_+_<=_;exact o7 this]
theorem ju.le{n m:Nat}{A:Around}(h:ju m A)(l:n<=m):ju n A:=#[h.handled,by have:=h.depth;exact o8 this l,by have:=h.units;exact o9 this l]
theorem lE{C:Cx}{h:Heap}{H:AH}(rel:∀a o,H a=some o->ir C h a o){b:Addr}(f:cW H b):∃ob,h.get? b=some ob/\Plain ob:=by
 rcases f with⟨o,ho⟩|⟨a,D,fs,ha⟩
 ·exact(rel _ _ ho).at
 ·obtain⟨ys,m,_,q,_⟩:=rel _ _ ha;exact#[_,q,.dict rfl]
theorem oR {C:Cx} {h:Heap} {H:AH} (rel:∀a o,H a=some o->ir C h a o) {b:Addr} {xs:Array Value} {n:Nat}
 (e:h.get? b=some #[.type "tuple",b6,.seq xs n,#[]]):¬cW H b:=λf=>by
 refine bz (lE rel f) λob q p=>?_;rw[e] at q;cases q;exact p.KU
theorem mh {C:Cx} {h:Heap} {H:AH} (rel:∀a o,H a=some o->ir C h a o) {b:Addr} {ob:Obj} {v:Option Value}
 (e:h.get? b=some ob) (hd:ob.data=.cell v):¬cW H b:=λf=>by
 refine bz (lE rel f) λob q p=>?_;rw[e] at q;cases q;exact p.2 _ hd
open Classical in
noncomputable def aE(h:Heap)(H:AH)(own:List Addr):Fz:=λb=>if cW H b\/b∈own then b6 else h.get? b
theorem bq{h:Heap}{H:AH}{own:List Addr}{b:Addr}{o:Obj}(e:h.get? b=some o)(n:¬cW H b)(n':b∉own):aE h H own b=some o:=by
 unfold aE;rw[if_neg (by rintro(q|q);exact n q;exact n' q)];exact e
theorem ku{h:Heap}{H:AH}{own:List Addr}{b:Addr}{o:Obj}(e:aE h H own b=some o):h.get? b=some o/\¬cW H b/\b∉own:=by
 unfold aE at e;split at e
 ·exact gc e
 ·rename_i q;exact#[e,λx=>q (.inl x),λx=>q (.inr x)]
theorem cJ.grow{C:Cx}{g:Fz}{H:AH}{s:Shared}(G:cJ C g H s):cJ C (aE s.heap H []) H s where
 base:=λb o e=>by
  have e1:=G.base b o e;exact bq (G.keep _ _ e1) (λf=>!gc (E1 (G0 (G.off b f)) e1)) (!m8)
 keep:=λb o e=>(ku e).1
 rel:=G.rel
 off:=λb f=>by unfold aE;rw[if_pos (.inl f)]
 dx:=G.dx
 inj:=G.inj
 gens:=G.gens
 os:=G.os
 size:=G.size
 sys:=G.sys
theorem cJ.back{C:Cx}{g g':Fz}{H:AH}{s:Shared}(G:cJ C g' H s)(le:∀b o,g b=some o->g' b=some o)(base:∀b o,C.hb.get? b=some o->g b=some o):cJ C g H s where
 base:=base
 keep:=λb o e=>G.keep _ _ (le _ _ e)
 rel:=G.rel
 off:=λb f=>by
  cases e:g b with
  |none=>rfl
  |some o=>have:=le _ _ e;rw[G.off b f] at this;cases this
 dx:=G.dx
 inj:=G.inj
 gens:=G.gens
 os:=G.os
 size:=G.size
 sys:=G.sys
theorem cJ.tups{C:Cx}{g:Fz}{H:AH}{s:Shared}(G:cJ C g H s){b:Addr}{xs:Array Value}{n:Nat}(e:s.heap.get? b=some #[.type "tuple",b6,.seq xs n,#[]]):¬cW H b:=oR G.rel e
theorem KV.fu{F:Fm}{ρ:Loc}{h:Heap}(L:KV F ρ h){b:Addr}{xs:Array Value}{n:Nat}(e:h.get? b=some #[.type "tuple",b6,.seq xs n,#[]]):b∉F.own:=by
 intro hm;unfold Fm.own at hm;rcases l9.mp hm with rfl|hm
 ·obtain⟨m,⟨o,es,ep,ho,hd,_⟩,_⟩:=L.ns;rw[e] at ho;cases ho;cases hd
 ·refine lC (L.cells _ hm) λv o ho hd=>?_;rw[e] at ho;cases ho;cases hd
inductive ID(C:Cx)(g:Fz)(F:Fm)(ρ:Loc)(H:AH)(s:Shared):Prop
 |mk (g':Fz) (G:cJ C g' H s) (keep:∀V v,bF s.heap V v->∀h',jt g' h'->bF h' V v) (back:∀H' s',cJ C g' H' s'->Gd C g F ρ H' s'):ID C g F ρ H s
theorem Gd.call{C:Cx}{g:Fz}{F:Fm}{ρ:Loc}{H:AH}{s:Shared}(G:Gd C g F ρ H s):ID C g F ρ H s:=by
 refine#[aE s.heap H [],G.tocJ.grow,λV v a h' k=>a.mono λb xs n e=>k _ _ (bq e (G.tups e) (!m8)),λH' s' G'=>?_];have hown:∀b∈F.own,∀o,s.heap.get? b=some o->aE s.heap H [] b=some o:=λb hb o e=>bq e (G.cO b hb) (!m8);have hL:F.env.locals∈F.own:=v8;have hle:∀b o,g b=some o->aE s.heap H [] b=some o:=λb o e=>bq (G.keep _ _ e) (λf=>!gc (E1 (G0 (G.off b f)) e)) (!m8);have ab:∀V v,bF s.heap V v->bF s'.heap V v:=λV v a=>a.mono λb xs n e=>G'.keep _ _ (bq e (G.tups e) (!m8));refine{tocJ:=G'.back hle G.base,fm:=G.fm,loc:=?_,dh:=G.dh,cO:=λb hb f=>?_}
 ·obtain⟨m,⟨o,es,ep,ho,hd,hk,hf⟩,hr⟩:=G.loc.ns;refine#[#[m,#[o,es,ep,G'.keep _ _ (hown _ hL _ ho),hd,hk,hf],λx v e=>?_],λc hc=>?_]
  ·have hr:=hr x v e;cases v with
   |undef=>exact hr
   |glob=>exact hr
   |val v=>
    refine bz hr λV a hh=>?_;refine#[V,ab _ _ a,?_];rcases hh with hh|⟨hk,c,hc,oc,hoc,hdc⟩
    ·exact .inl hh
    ·refine .inr #[hk,c,hc,oc,G'.keep _ _ (bq hoc (mh G.rel hoc hdc) (!m8)),hdc]
  ·refine lC (G.loc.cells c hc) λv o ho hd=>?_;exact#[v,o,G'.keep _ _ (hown _ (s7 _ hc) _ ho),hd]
 ·have:∃o,s.heap.get? b=some o:=by
   unfold Fm.own at hb;rcases l9.mp hb with rfl|hm
   ·obtain⟨m,⟨o,es,ep,ho,_⟩,_⟩:=G.loc.ns;exact#[o,ho]
   ·refine lC (G.loc.cells _ hm) λv o ho hd=>?_;exact#[o,ho]
  refine xE this λo ho=>?_;have:=hown b hb o ho;rw[G'.off b f] at this;cases this
inductive IE(C:Cx)(g:Fz)(F:Fm)(ρ:Loc)(H:AH)(s:Shared):Prop
 |mk (g':Fz) (G:Gd C g' F ρ H s) (keep:∀V v,bF s.heap V v->∀h',jt g' h'->bF h' V v) (back:∀ρ' H' s',Gd C g' F ρ' H' s'->Gd C g F ρ' H' s') (kept:∀b o,s.heap.get? b=some o->¬cW H b->b∉F.own->g' b=some o):IE C g F ρ H s
theorem Gd.grow{C:Cx}{g:Fz}{F:Fm}{ρ:Loc}{H:AH}{s:Shared}(G:Gd C g F ρ H s):IE C g F ρ H s:=by
 have hle:∀b o,g b=some o->aE s.heap H F.own b=some o:=λb o e=>
  bq (G.keep _ _ e) (λf=>!gc (E1 (G0 (G.off b f)) e)) (λf=>!gc (E1 (G0 (G.dh b f)) e))
 refine#[aE s.heap H F.own,?_,λV v a h' k=>a.mono λb xs n e=>k _ _ (bq e (G.tups e) (G.loc.fu e)),λρ' H' s' G'=>?_,λb o e n n'=>bq e n n']
 ·exact{base:=λb o e=>hle _ _ (G.base b o e),keep:=λb o e=>(ku e).1,rel:=G.rel,off:=λb f=>by unfold aE;rw[if_pos (.inl f)],dx:=G.dx,inj:=G.inj,gens:=G.gens,os:=G.os,size:=G.size,sys:=G.sys,fm:=G.fm,loc:=G.loc,dh:=λb hb=>by unfold aE;rw[if_pos (.inr hb)],cO:=G.cO}
 ·exact{tocJ:=G'.tocJ.back hle G.base,fm:=G.fm,loc:=G'.loc,dh:=G.dh,cO:=G'.cO}
theorem aM.keptBy{h:Heap}{h':Heap}{g:Fz}{Vs:List Value}{vs:List AV}(r:aM h Vs vs)(k:∀V v,bF h V v->∀h',jt g h'->bF h' V v)(q:jt g h'):aM h' Vs vs:=aM.ind (P:=aM h') .nil (λa Z i=>.cons (k _ _ a _ q) i) r
end
section
theorem cJ.at{C:Cx}{g:Fz}{H:AH}{s:Shared}(G:cJ C g H s)(t:Tok):cJ C g H {s with toks:=t}:=#[G.base,G.keep,G.rel,G.off,G.dx,G.inj,G.gens,G.os,G.size,G.sys]
theorem Gd.at{C:Cx}{g:Fz}{F:Fm}{ρ:Loc}{H:AH}{s:Shared}(G:Gd C g F ρ H s)(t:Tok):Gd C g F ρ H {s with toks:=t}:=#[G.tocJ.at t,G.fm,G.loc,G.dh,G.cO]
theorem cJ.qp{C:Cx}{g:Fz}{H:AH}{s:Shared}(G:cJ C g H s):∀b o,C.hb.get? b=some o->s.heap.get? b=some o:=λb o e=>G.keep _ _ (G.base _ _ e)
theorem cJ.K{C:Cx}{g:Fz}{H:AH}{s:Shared}(G:cJ C g H s):C.K.In s.heap:=C.KR.keeps G.qp
inductive PS(C:Cx)(g:Fz)(F:Fm)(ρ:Loc)(Q:AV->AH->Prop)(V:Value)(s':Shared):Prop
 |mk (v:AV) (H':AH) (q:Q v H') (r:bF s'.heap V v/\Gd C g F ρ H' s'):PS C g F ρ Q V s'
inductive PVL(C:Cx)(g:Fz)(F:Fm)(ρ:Loc)(Q:List AV->AH->Prop)(V:List Value)(s':Shared):Prop
 |mk (v:List AV) (H':AH) (q:Q v H') (r:aM s'.heap V v/\Gd C g F ρ H' s'):PVL C g F ρ Q V s'
inductive PT(C:Cx)(g:Fz)(F:Fm)(ρ:Loc)(Q:Bool->AH->Prop)(b:Bool)(s':Shared):Prop
 |mk (H':AH) (q:Q b H') (r:Gd C g F ρ H' s'):PT C g F ρ Q b s'
inductive PTB(C:Cx)(g:Fz)(Q:Bool->AH->Prop)(b:Bool)(s':Shared):Prop
 |mk (H':AH) (q:Q b H') (r:cJ C g H' s'):PTB C g Q b s'
def Ev(C:Cx)(n:Nat)(F:Fm)(e:Expr)(ρ:Loc)(H:AH)(Q:AV->AH->Prop):Prop:=
 ∀A g s,ju n A->Gd C g F ρ H s->Wp C A (eval e F.env) (PS C g F ρ Q) s
def uC(C:Cx)(n:Nat)(F:Fm)(es:List Expr)(pos:Pos)(ρ:Loc)(H:AH)(Q:List AV->AH->Prop):Prop:=
 ∀A g s,ju n A->Gd C g F ρ H s->Wp C A (spliced (backTo pos (starEach es F.env))) (PVL C g F ρ Q) s
def Tr(C:Cx)(n:Nat)(F:Fm)(e:Expr)(ρ:Loc)(H:AH)(Q:Bool->AH->Prop):Prop:=
 ∀A g s,ju n A->Gd C g F ρ H s->Wp C A (isTrue e F.env (eval e F.env)) (PT C g F ρ Q) s
def gh(C:Cx)(n:Nat)(F:Fm)(op:BoolOp)(es:List Expr)(ρ:Loc)(H:AH)(Q:Bool->AH->Prop):Prop:=
 ∀A g s,ju n A->Gd C g F ρ H s->Wp C A (allTrue op es F.env) (PT C g F ρ Q) s
inductive Out where
 |next
 |brk
 |cont
 |ret (v:AV)
noncomputable def IF(h:Heap):Flow->Out->Prop
 | .next,.next=>True
 | .brk,.brk=>True
 | .cont,.cont=>True
 | .ret V,.ret v=>bF h V v
 |_,_=>False
inductive PF(C:Cx)(g:Fz)(F:Fm)(Q:Out->Loc->AH->Prop)(fl:Flow)(s':Shared):Prop
 |mk (o:Out) (ρ':Loc) (H':AH) (q:Q o ρ' H') (r:IF s'.heap fl o/\Gd C g F ρ' H' s'):PF C g F Q fl s'
def Ex(C:Cx)(n:Nat)(F:Fm)(st:Stmt)(ρ:Loc)(H:AH)(Q:Out->Loc->AH->Prop):Prop:=
 ∀A g s,ju n A->Gd C g F ρ H s->Wp C A (exec st F.env) (PF C g F Q) s
def aG(C:Cx)(n:Nat)(F:Fm)(ss:List Stmt)(ρ:Loc)(H:AH)(Q:Out->Loc->AH->Prop):Prop:=
 ∀A g s,ju n A->Gd C g F ρ H s->Wp C A (execs ss F.env) (PF C g F Q) s
def kY(C:Cx)(n:Nat)(f:Value->Sem Value)(v:AV)(H:AH)(Q:AV->AH->Prop):Prop:=
 ∀A g s V,ju n A->cJ C g H s->bF s.heap V v->Wp C A (f V) (PV C g Q) s
def aB(C:Cx)(n:Nat)(f:Value->Value->Sem Value)(v u:AV)(H:AH)(Q:AV->AH->Prop):Prop:=
 ∀A g s V U,ju n A->cJ C g H s->bF s.heap V v->bF s.heap U u->Wp C A (f V U) (PV C g Q) s
def KW(C:Cx)(n:Nat)(v:AV)(H:AH)(Q:Bool->AH->Prop):Prop:=
 ∀A g s V,ju n A->cJ C g H s->bF s.heap V v->Wp C A (truthy V) (PTB C g Q) s
def aj(C:Cx)(n:Nat)(f:Value)(vs:List AV)(H:AH)(Q:AV->AH->Prop):Prop:=
 ∀A g s Vs,ju n A->cJ C g H s->aM s.heap Vs vs->Wp C A (call f Vs []) (PV C g Q) s
noncomputable abbrev KX(C:Cx)(n:Nat)(f:Value->Value->Sem Value)(v:AV)(Q:AV->AH->Prop):AV->AH->Prop:=λu H=>aB C n f v u H Q
noncomputable abbrev OpK(C:Cx)(n:Nat)(F:Fm)(r:Expr)(f:Value->Value->Sem Value)(ρ:Loc)(Q:AV->AH->Prop):AV->AH->Prop:=λv H=>Ev C n F r ρ H (KX C n f v Q)
noncomputable abbrev UnK(C:Cx)(n:Nat)(f:Value->Sem Value)(Q:AV->AH->Prop):AV->AH->Prop:=λv H=>kY C n f v H Q
noncomputable abbrev ad1(C:Cx)(n:Nat)(F:Fm)(b o:Expr)(ρ:Loc)(Q:AV->AH->Prop):Bool->AH->Prop:=λc H=>if c then Ev C n F b ρ H Q else Ev C n F o ρ H Q
noncomputable abbrev ad2(Q:Bool->AH->Prop):Bool->AH->Prop:=λb H=>Q (Bool.not (b)) H
noncomputable abbrev ad3(C:Cx)(n:Nat)(Q:Bool->AH->Prop):AV->AH->Prop:=λv H=>KW C n v H Q
noncomputable abbrev ad4(C:Cx)(n:Nat)(F:Fm)(es:List Expr)(ρ:Loc)(Q:Bool->AH->Prop):Bool->AH->Prop:=λb H=>if b then gh C n F .And es ρ H Q else Q false H
noncomputable abbrev OrK(C:Cx)(n:Nat)(F:Fm)(es:List Expr)(ρ:Loc)(Q:Bool->AH->Prop):Bool->AH->Prop:=λb H=>if b then Q true H else gh C n F .Or es ρ H Q
noncomputable abbrev KY(v:AV)(Q:List AV->AH->Prop):List AV->AH->Prop:=λvs H=>Q (v::vs) H
noncomputable abbrev PU(C:Cx)(n:Nat)(F:Fm)(es:List Expr)(pos:Pos)(ρ:Loc)(Q:List AV->AH->Prop):AV->AH->Prop:=λv H=>uC C n F es pos ρ H (KY v Q)
noncomputable abbrev ad5(C:Cx)(n:Nat)(F:Fm)(rest:List Stmt)(Q:Out->Loc->AH->Prop):Out->Loc->AH->Prop:=λo ρ H=>match o with| .next=>aG C n F rest ρ H Q|o=>Q o ρ H
noncomputable abbrev IfK(C:Cx)(n:Nat)(F:Fm)(b o:List Stmt)(ρ:Loc)(Q:Out->Loc->AH->Prop):Bool->AH->Prop:=λc H=>if c then aG C n F b ρ H Q else aG C n F o ρ H Q
noncomputable abbrev ad6(ρ:Loc)(Q:Out->Loc->AH->Prop):AV->AH->Prop:=λv H=>Q (.ret v) ρ H
noncomputable abbrev ad7(ρ:Loc)(Q:Out->Loc->AH->Prop):AV->AH->Prop:=λZ H=>Q .next ρ H
noncomputable abbrev KZ(x:Str)(ρ:Loc)(Q:Out->Loc->AH->Prop):AV->AH->Prop:=λv H=>Q .next (ρ.set x (.val v)) H
section
variable{C:Cx}{n:Nat}{F:Fm}{ρ:Loc}{H:AH}
theorem wm{α:Type}{A:Around}{t:Sem α}{Q Q':α->Shared->Prop}{s:Shared}(h:Wp C A t Q s)(k:∀a s',Q a s'->Q' a s'):Wp C A t Q' s:=wpAny_mono h k λZ Z x=>x
section
variable{A:Around}{g:Fz}{s:Shared}
theorem fH{t:Sem Value}{Q:AV->AH->Prop}{Q':Value->Shared->Prop}(h:Wp C A t (PS C g F ρ Q) s)(k:∀V s' v H',Q v H'->bF s'.heap V v->Gd C g F ρ H' s'->Q' V s'):Wp C A t Q' s:=wm h λV s' x=>x.casesOn λv H' q r=>k V s' v H' q r.1 r.2
theorem PW{t:Sem (List Value)}{Q:List AV->AH->Prop}{Q':List Value->Shared->Prop}(h:Wp C A t (PVL C g F ρ Q) s)(k:∀V s' v H',Q v H'->aM s'.heap V v->Gd C g F ρ H' s'->Q' V s'):Wp C A t Q' s:=wm h λV s' x=>x.casesOn λv H' q r=>k V s' v H' q r.1 r.2
theorem zE{t:Sem Value}{Q:AV->AH->Prop}{Q':Value->Shared->Prop}(h:Wp C A t (PV C g Q) s)(k:∀V s' v H',Q v H'->bF s'.heap V v->cJ C g H' s'->Q' V s'):Wp C A t Q' s:=wm h λV s' x=>x.casesOn λv H' q r=>k V s' v H' q r.1 r.2
theorem Fg{t:Sem Bool}{Q:Bool->AH->Prop}{Q':Bool->Shared->Prop}(h:Wp C A t (PT C g F ρ Q) s)(k:∀b s' H',Q b H'->Gd C g F ρ H' s'->Q' b s'):Wp C A t Q' s:=wm h λV s' x=>x.casesOn λH' q r=>k V s' H' q r
theorem wmB{t:Sem Bool}{Q:Bool->AH->Prop}{Q':Bool->Shared->Prop}(h:Wp C A t (PTB C g Q) s)(k:∀b s' H',Q b H'->cJ C g H' s'->Q' b s'):Wp C A t Q' s:=wm h λV s' x=>x.casesOn λH' q r=>k V s' H' q r
theorem wmF{t:Sem Flow}{Q:Out->Loc->AH->Prop}{Q':Flow->Shared->Prop}(h:Wp C A t (PF C g F Q) s)(k:∀f s' o ρ' H',Q o ρ' H'->IF s'.heap f o->Gd C g F ρ' H' s'->Q' f s'):Wp C A t Q' s:=wm h λV s' x=>x.casesOn λo ρ' H' q r=>k V s' o ρ' H' q r.1 r.2
end
theorem Ev.mono{e:Expr}{Q Q':AV->AH->Prop}(h:Ev C n F e ρ H Q)(k:∀v H',Q v H'->Q' v H'):Ev C n F e ρ H Q':=λA g s a G=>fH (h A g s a G) λZ Z v H' q r G=>#[v,H',k _ _ q,r,G]
theorem Ex.mono{ss:Stmt}{Q Q':Out->Loc->AH->Prop}(h:Ex C n F ss ρ H Q)(k:∀o r H',Q o r H'->Q' o r H'):Ex C n F ss ρ H Q':=λA g s a G=>wmF (h A g s a G) λZ Z v r H' q x G=>#[v,r,H',k _ _ _ q,x,G]
theorem aj.le{m:Nat}{f:Value}{vs:List AV}{Q:AV->AH->Prop}(h:aj C m f vs H Q)(l:m<=n):aj C n f vs H Q:=λA g s Vs a G r=>h A g s Vs (a.le l) G r
theorem aB.mono{f:Value->Value->Sem Value}{v u:AV}{Q Q':AV->AH->Prop}(h:aB C n f v u H Q)(k:∀v H',Q v H'->Q' v H'):aB C n f v u H Q':=λA g s V U a G r r'=>zE (h A g s V U a G r r') λZ Z v H' q x G=>#[v,H',k _ _ q,x,G]
theorem Ev.int{i:Int}{k:Nat}{pos:Pos}{Q:AV->AH->Prop}(h:Q (.int i) H):Ev C n F (.Constant (.int i) k pos) ρ H Q:=λA g s Z G=>wpAny_Constant_int #[_,_,h,.int _ _,G.at _]
theorem Ev.ad9{x:Str}{k:Nat}{pos:Pos}{Q:AV->AH->Prop}(h:Q (.str x) H):Ev C n F (.Constant (.str x) k pos) ρ H Q:=λA g s Z G=>wpAny_Constant_str #[_,_,h,.str _ _,G.at _]
theorem Ev.none{k:Nat}{pos:Pos}{Q:AV->AH->Prop}(h:Q .none H):Ev C n F (.Constant .none k pos) ρ H Q:=λA g s Z G=>wpAny_Constant_none #[_,_,h,.none,G]
theorem Ev.bool{b:Bool}{k:Nat}{pos:Pos}{Q:AV->AH->Prop}(h:Q (.bool b) H):Ev C n F (.Constant (.bool b) k pos) ρ H Q:=λA g s Z G=>wpAny_Constant_bool #[_,_,h,.bool _,G]
theorem Ev.loc{x:Str}{pos:Pos}{v:AV}{Q:AV->AH->Prop}(hx:ρ.get x=some (.val v))(h:Q v H)(hn:autoParam ((x==("__classdict__":Str))=false) A2)(hd:autoParam ((x==("__debug__":Str))=false) A2):Ev C n F (.Name x pos) ρ H Q:=λA g s Z G=>by
 refine bz G.loc.ns λm hns hr=>?_;refine bz (hr _ _ hx) λV a hh=>?_;refine wpAny_Name ?_ hd;rcases hh with⟨hk,hm⟩|⟨hk|hk,c,hc,hv⟩
 ·exact wpAny_loadName_local G.fm.kind hk hns hm #[_,_,h,a,G]
 ·exact wpAny_loadName_cell G.fm.kind hk hc hv #[_,_,h,a,G]
 ·exact wpAny_loadName_free G.fm.kind hk hc hv #[_,_,h,a,G] hn
def Gl(C:Cx)(x:Str)(v:AV):Prop:=∃V,C.mg x=some V/\bF C.hb V v
def Gb(C:Cx)(x:Str)(V:Value):Prop:=C.mg x=b6/\C.mb x=some V
theorem bF.up{h h':Heap}{V:Value}{v:AV}(a:bF h V v)(k:∀b o,h.get? b=some o->h'.get? b=some o):bF h' V v:=a.mono λZ Z Z e=>k _ _ e
theorem aM.up{h h':Heap}{V:List Value}{v:List AV}(a:aM h V v)(k:∀b o,h.get? b=some o->h'.get? b=some o):aM h' V v:=a.mono λZ Z Z e=>k _ _ e
theorem Ev.glob{x:Str}{pos:Pos}{v:AV}{Q:AV->AH->Prop}(hx:ρ.get x=some .glob)(hg:Gl C x v)(h:Q v H)(hd:autoParam ((x==("__debug__":Str))=false) A2):Ev C n F (.Name x pos) ρ H Q:=λA g s Z G=>by
 refine bz G.loc.ns λm hns hr=>?_;refine bz hg λV hV a=>?_;refine W8 G.fm.kind (hr _ _ hx) (Calls.loadGlobal_global (mg:=C.mg) ?_ hV #[_,_,h,a.up G.qp,G]) hd;rw[G.fm.glob];exact C.nsG.keeps G.qp
theorem Ev.bin{l r:Expr}{op:Operator}{pos:Pos}{Q:AV->AH->Prop}(h:Ev C n F l ρ H (OpK C n F r (binaryOp op) ρ Q)):Ev C n F (.BinOp l op r pos) ρ H Q:=λA g s a G=>by
 refine wpAny_BinOp (fH (h A g s a G) λV s₁ v H₁ q r₁ G₁=>?_);obtain⟨g₁,dZ,keep,back,_⟩:=G₁.grow;refine fH (q A g₁ s₁ a dZ) λU s₂ u H₂ q₂ r₂ aR=>?_;obtain⟨g₂,dm,_,bh⟩:=aR.call;exact zE (q₂ A g₂ s₂ V U a dm (keep _ _ r₁ _ aR.keep) r₂) λZ s' v H' q r G'=>#[v,H',q,r,back _ _ _ (bh _ _ G')]
theorem Ev.cmp{l r:Expr}{op:CmpOp}{pos:Pos}{Q:AV->AH->Prop}(h:Ev C n F l ρ H (OpK C n F r (compareOp op) ρ Q))(hm:autoParam (behindInMarks op r=false) A1):Ev C n F (.Compare l [op] [r] pos) ρ H Q:=λA g s a G=>by
 refine wpAny_Compare1 (fH (h A g s a G) λV s₁ v H₁ q r₁ G₁=>?_) hm;obtain⟨g₁,dZ,keep,back,_⟩:=G₁.grow;refine fH (q A g₁ s₁ a dZ) λU s₂ u H₂ q₂ r₂ aR=>?_;obtain⟨g₂,dm,_,bh⟩:=aR.call;exact zE (q₂ A g₂ s₂ V U a dm (keep _ _ r₁ _ aR.keep) r₂) λZ s' v H' q r G'=>#[v,H',q,r,back _ _ _ (bh _ _ G')]
theorem Ev.un{e:Expr}{op:UnaryOp}{pos:Pos}{Q:AV->AH->Prop}(h:Ev C n F e ρ H (UnK C n (unaryOp op) Q)):Ev C n F (.UnaryOp op e pos) ρ H Q:=λA g s a G=>by
 refine wpAny_UnaryOp (fH (h A g s a G) λV s₁ v H₁ q r₁ G₁=>?_);obtain⟨g₂,dm,_,bh⟩:=G₁.call;exact zE (q A g₂ s₁ V a dm r₁) λZ s' v H' q r G'=>#[v,H',q,r,bh _ _ G']
theorem Ev.ite{t b o:Expr}{pos:Pos}{Q:AV->AH->Prop}(h:Tr C n F t ρ H (ad1 C n F b o ρ Q)):Ev C n F (.IfExp t b o pos) ρ H Q:=λA g s a G=>by
 refine wpAny_IfExp (Fg (h A g s a G) λc s₁ H₁ q G₁=>?_);cases c with
 |true=>exact q A g s₁ a G₁
 |false=>exact q A g s₁ a G₁
theorem Tr.not{e:Expr}{pos:Pos}{Q:Bool->AH->Prop}(h:Tr C n F e ρ H (ad2 Q)):Tr C n F (.UnaryOp .Not e pos) ρ H Q:=λA g s a G=>by
 show Wp C A (do return Bool.not ((<-isTrue e F.env (eval e F.env)))) _ s;exact wpAny_bind (Fg (h A g s a G) λb s₁ H₁ q G₁=>wpAny_pure #[H₁,q,G₁])
theorem Tr.val{e:Expr}{Q:Bool->AH->Prop}(h:Ev C n F e ρ H (ad3 C n Q))(he:autoParam (∀whole,isTrue e F.env whole=(do let v<-whole;standAt e.pos;holding [v] (truthy v))) A1):Tr C n F e ρ H Q:=λA g s a G=>by
 refine wpAny_isTrue_value (fH (h A g s a G) λV s₁ v H₁ q r₁ G₁=>?_) (he _);obtain⟨g₂,dm,_,bh⟩:=G₁.call;exact wmB (q A g₂ s₁ V a dm r₁) λZ s' H' q G'=>#[H',q,bh _ _ G']
theorem Tr.K_{op:BoolOp}{es:List Expr}{pos:Pos}{Q:Bool->AH->Prop}(h:gh C n F op es ρ H Q):Tr C n F (.BoolOp op es pos) ρ H Q:=λA g s a G=>wpAny_isTrue_BoolOp (h A g s a G)
theorem gh.La{Q:Bool->AH->Prop}(h:Q true H):gh C n F .And [] ρ H Q:=λA g s a G=>wpAny_allTrue_And_nil #[H,h,G]
theorem gh.PX{Q:Bool->AH->Prop}(h:Q false H):gh C n F .Or [] ρ H Q:=λA g s a G=>wpAny_allTrue_Or_nil #[H,h,G]
theorem gh.and{e:Expr}{es:List Expr}{Q:Bool->AH->Prop}(h:Tr C n F e ρ H (ad4 C n F es ρ Q)):gh C n F .And (e::es) ρ H Q:=λA g s a G=>by
 refine wpAny_allTrue_And_cons (Fg (h A g s a G) λb s₁ H₁ q G₁=>?_);cases b with
 |true=>exact q A g s₁ a G₁
 |false=>exact#[H₁,q,G₁]
theorem gh.or{e:Expr}{es:List Expr}{Q:Bool->AH->Prop}(h:Tr C n F e ρ H (OrK C n F es ρ Q)):gh C n F .Or (e::es) ρ H Q:=λA g s a G=>by
 refine wpAny_allTrue_Or_cons (Fg (h A g s a G) λb s₁ H₁ q G₁=>?_);cases b with
 |true=>exact#[H₁,q,G₁]
 |false=>exact q A g s₁ a G₁
theorem KW.bool{b:Bool}{Q:Bool->AH->Prop}(h:Q b H):KW C n (.bool b) H Q:=λA g s V Z G r=>r.ig (wpAny_truthy_bool #[H,h,G])
theorem uC.nil{pos:Pos}{Q:List AV->AH->Prop}(h:Q [] H):uC C n F [] pos ρ H Q:=λA g s a G=>wpAny_items_nil #[[],H,h,.nil,G]
theorem uC.cons {pos:Pos} {e:Expr} {es:List Expr} {Q:List AV->AH->Prop} (h:Ev C n F e ρ H (PU C n F es pos ρ Q))
 (he:autoParam (starEach (e::es) F.env=(false,eval e F.env)::starEach es F.env) A1):uC C n F (e::es) pos ρ H Q:=λA g s a G=>by
 refine wpAny_items_cons (fH (h A g s a G) λV s₁ v H₁ q r₁ G₁=>?_) he;obtain⟨g₁,dZ,keep,back,_⟩:=G₁.grow;exact PW (q A g₁ s₁ a dZ) λUs s₂ us H₂ q₂ r₂ aR=>#[_,H₂,q₂,.cons (keep _ _ r₁ _ aR.keep) r₂,back _ _ _ aR]
theorem uC.one(h:Ev C n F e ρ H λv H=>Q [v] H)(he:autoParam (starEach [e] F.env=(false,eval e F.env)::starEach [] F.env) A1):uC C n F [e] pos ρ H Q:=uC.cons (h.mono λv H q=>uC.nil q) he
theorem aG.nil{Q:Out->Loc->AH->Prop}(h:Q .next ρ H):aG C n F [] ρ H Q:=λA g s a G=>wpAny_execs_nil #[.next,ρ,H,h,trivial,G]
theorem aG.cons{st:Stmt}{rest:List Stmt}{Q:Out->Loc->AH->Prop}(h:Ex C n F st ρ H (ad5 C n F rest Q)):aG C n F (st::rest) ρ H Q:=λA g s a G=>by
 refine wpAny_execs_cons (wmF (h A g s a G) λfl s₁ o agR H₁ q r G₁=>?_);cases fl<;>cases o<;>first|exact r.elim|exact q A g s₁ a G₁|exact#[_,_,_,q,r,G₁]
theorem aG.one{st:Stmt}{Q:Out->Loc->AH->Prop}(h:Ex C n F st ρ H Q):aG C n F [st] ρ H Q:=aG.cons (h.mono λo r H q=>by cases o<;>first|exact aG.nil q|exact q)
theorem Ex.ite{t:Expr}{b o:List Stmt}{pos:Pos}{Q:Out->Loc->AH->Prop}(h:Tr C n F t ρ H (IfK C n F b o ρ Q)):Ex C n F (.If t b o pos) ρ H Q:=λA g s a G=>by
 refine wpAny_If (Fg (h A g s a G) λc s₁ H₁ q G₁=>?_);cases c with
 |true=>exact q A g s₁ a G₁
 |false=>exact q A g s₁ a G₁
theorem Ex.ad_{e:Expr}{pos:Pos}{Q:Out->Loc->AH->Prop}(h:Ev C n F e ρ H (ad6 ρ Q)):Ex C n F (.Return (some e) pos) ρ H Q:=λA g s a G=>
 wpAny_Return_some (fH (h A g s a G) λV s₁ v H₁ q r₁ G₁=>#[.ret v,ρ,H₁,q,r₁,G₁])
theorem Ex.pass{pos:Pos}{Q:Out->Loc->AH->Prop}(h:Q .next ρ H):Ex C n F (.Pass pos) ρ H Q:=λA g s a G=>wpAny_Pass #[.next,ρ,H,h,trivial,G]
theorem Ex.cont{pos:Pos}{Q:Out->Loc->AH->Prop}(h:Q .cont ρ H):Ex C n F (.Continue pos) ρ H Q:=λA g s a G=>wpAny_Continue #[.cont,ρ,H,h,trivial,G]
theorem Ex.expr{e:Expr}{pos:Pos}{Q:Out->Loc->AH->Prop}(h:Ev C n F e ρ H (ad7 ρ Q))(hi:interactive F.env=false)(hs:autoParam (swapsWith e b6 pos.line F.env=pure false) A1):Ex C n F (.Expr e pos) ρ H Q:=λA g s a G=>
 wpAny_Expr_any (fH (h A g s a G) λV s₁ v H₁ q r₁ G₁=>#[.next,ρ,H₁,q,trivial,G₁]) hi hs
theorem qt(hk:F.env.scope.kind=.function):interactive F.env=false:=by unfold interactive;rw[hk];rfl
end
end
section
theorem ez.up{P:Params}{h h':Heap}(k:∀b o,h.get? b=some o->h'.get? b=some o){ds:List DictEntry}{fs:List (Str×AV)}(r:ez P h ds fs):ez P h' ds fs:=by
 induction r with
 |nil=>exact .nil
 |cons e a _ ih=>exact .cons e (a.up k) ih
theorem cR.up{K:Type}{h h':Heap}(k:∀b o,h.get? b=some o->h'.get? b=some o){ds:List (K×Value)}{fs:List (K×AV)}(r:cR h ds fs):cR h' ds fs:=by
 induction r with
 |nil=>exact .nil
 |cons a _ ih=>exact .cons (a.up k) ih
theorem bY.kept{prog:Program}{w:World}{h h':Heap}(k:∀b (xs:Array Value) n,h.get? b=some #[.type "tuple",b6,.seq xs n,#[]]->h'.get? b=some #[.type "tuple",b6,.seq xs n,#[]]){x:List (Int×Int)}{vs:List Value}(r:bY prog w h x vs):bY prog w h' x vs:=by
 induction r with
 |nil=>exact .nil
 |cons a _ ih=>exact .cons (k _ _ _ a) ih
theorem lZ.kept{prog:Program}{w:World}{h h':Heap}(k:∀b (xs:Array Value) n,h.get? b=some #[.type "tuple",b6,.seq xs n,#[]]->h'.get? b=some #[.type "tuple",b6,.seq xs n,#[]]){x:List (Int×Int)}{a:Addr}(r:lZ prog w h x a):lZ prog w h' x a:=
 let#[vs,n,e,p]:=r;#[vs,n,k _ _ _ e,p.kept k]
theorem DictOf.kept{K:Type}[DecidableEq K]{prog:Program}{w:World}{knd:KeyKind prog w K}{h h':Heap}{a:Addr}{kv:List (K×Value)}(r:h.DictOf knd a kv)(k:∀o,h.get? a=some o->h'.get? a=some o):h'.DictOf knd a kv:=
 r.imp λZ=>.imp λZ=>.imp λZ=>.imp_left (k _)
theorem DictOfH.kept {prog:Program} {w:World} {h h':Heap} {a:Addr} {kv:List (List (Int×Int)×Addr×Value)} (r:h.DictOfH (qm prog w) a kv) (k:∀o,h.get? a=some o->h'.get? a=some o)
 (kt:∀b (xs:Array Value) n,h.get? b=some #[.type "tuple",b6,.seq xs n,#[]]->h'.get? b=some #[.type "tuple",b6,.seq xs n,#[]]):h'.DictOfH (qm prog w) a kv:=
 r.imp λZ=>.imp λZ=>.imp λZ=>.imp (k _) (.imp_right (.imp_right (.imp_right (.imp_left λx4 x hx=>lZ.kept kt (x4 x hx)))))
theorem ir.up{C:Cx}{h h':Heap}(k:∀b o,h.get? b=some o->h'.get? b=some o){a:Addr}{o:AO}(r:ir C h a o):ir C h' a o:=by
 cases o with
 |list vs=>obtain⟨xs,n,e,q⟩:=r;exact#[xs,n,k _ _ e,q.up k]
 |dI kvs=>refine bz r λkv d q=>?_;exact#[kv,DictOf.kept d (k a),q.up k]
 |dS kvs=>refine bz r λkv d q=>?_;exact#[kv,DictOf.kept d (k a),q.up k]
 |dN kvs=>refine bz r λkv d q=>?_;exact#[kv,DictOfH.kept d (k a) (λb xs n e=>k _ _ e),q.up k]
 |inst D dx fs=>obtain⟨xs,n,e,e',q,l⟩:=r;exact#[xs,n,k _ _ e,k _ _ e',q.up k,l]
theorem cJ.cE{C:Cx}{g:Fz}{H:AH}{s:Shared}(G:cJ C g H s){b:Addr}(f:cW H b):∃o,s.heap.get? b=some o:=let#[o,e,_]:=lE G.rel f;#[o,e]
theorem cJ.up{C:Cx}{g:Fz}{H:AH}{s s':Shared}(G:cJ C g H s)(k:∀b o,s.heap.get? b=some o->s'.heap.get? b=some o)(hs:s.heap.objs.size<=s'.heap.objs.size)(hg:s'.gens=s.gens)(ho:s'.os=s.os):cJ C g H s' where
 base:=G.base
 keep:=λb o e=>k _ _ (G.keep _ _ e)
 rel:=λa o e=>(G.rel a o e).up k
 off:=G.off
 dx:=G.dx
 inj:=G.inj
 gens:=hg.trans G.gens
 os:=ho.trans G.os
 size:=g9 G.size hs
 sys:=G.sys
theorem cJ.sz{C:Cx}{g:Fz}{H:AH}{s s':Shared}(G:cJ C g H s)(k:∀b o,s.heap.get? b=some o->s'.heap.get? b=some o):C.hb.objs.size<=s'.heap.objs.size:=by
 refine xE C.last λo e=>?_;have h1:=m7 (k _ _ (G.qp _ _ e));have h2:=C.lo;have key:∀a b:Nat,a - 1<b->a<=b:=λa b h=>by exact o10 h
 exact key _ _ h1
theorem cJ.up'{C:Cx}{g:Fz}{H:AH}{s s':Shared}(G:cJ C g H s)(k:∀b o,s.heap.get? b=some o->s'.heap.get? b=some o)(hg:autoParam (s'.gens=s.gens) A1)(ho:autoParam (s'.os=s.os) A1):cJ C g H s':=
 {G with keep:=λb o e=>k _ _ (G.keep _ _ e),rel:=λa o e=>(G.rel a o e).up k,gens:=hg.trans G.gens,os:=ho.trans G.os,size:=G.sz k}
noncomputable def CG(bs:List (Str×AV))(k:NameKind)(x:Str):LV:=match k with
 | .globalImplicit=>.glob
 |_=>match bs.lookup x with
  |some v=>.val v
  |b6=>.undef
noncomputable def dF(names:List (Str×NameKind))(bs:List (Str×AV)):Loc:=names.map λp=>(p.1,CG bs p.2 p.1)
noncomputable def eL:Out->AV
 | .ret v=>v
 |_=>.none
theorem vV{names:List (Str×NameKind)}{bs:List (Str×AV)}{x:Str}{v:LV}(h:(dF names bs).get x=some v):∃k,names.lookup x=some k/\v=CG bs k x:=by
 induction names with
 |nil=>exact gc h
 |cons p r ih=>
  obtain⟨y,k⟩:=p;simp only[dF,q7,Loc.kW] at h;by_cases hy:y=x
  ·subst hy;simp only[if_true,Y7] at h;exact#[k,by simp,h.symm]
  ·simp only[if_neg hy] at h;refine bz (ih h) λk' e q=>?_;refine#[k',?_,q];rw[v9];have:(x==y)=false:=by simp[q9 hy]
   rw[this];exact e
theorem AR{kindOf:Str->Option NameKind}:∀(bs:List (Str×Value)) (m:Str->Option Value) (x:Str) (V:Value),(bs.map (·.1)).Nodup->bs.lookup x=some V->kindOf x=some .local->bindL kindOf bs m x=some V:=by
 intro bs
 have out:∀(bs:List (Str×Value)) (m:Str->Option Value) (x:Str),x∉bs.map (·.1)->bindL kindOf bs m x=m x:=by
  intro bs;induction bs with
  |nil=>intro m x _;rfl
  |cons p r ih=>
   intro m x hn;obtain⟨y,U⟩:=p;simp only[q7,l9,not_or] at hn;rw[bindL,ih _ _ hn.2];split
   ·simp[hn.1]
   ·rfl
 induction bs with
 |nil=>intro m x V _ h;cases h
 |cons p r ih=>
  intro m x V hnd h hk;obtain⟨y,U⟩:=p;rw[q7,G5] at hnd;rw[v9] at h;rw[bindL];by_cases hy:x=y
  ·subst hy;simp at h;subst h;rw[out _ _ _ hnd.1,if_pos hk];simp
  ·have:(x==y)=false:=by simp[hy]
   rw[this] at h;exact ih _ _ _ hnd.2 h hk
theorem AS{kindOf:Str->Option NameKind}:∀(bs:List (Str×Value)) (m:Str->Option Value) (x:Str) (V:Value),(bs.map (·.1)).Nodup->bs.lookup x=some V->kindOf x≠some .local->bindC kindOf bs m x=some V:=by
 intro bs
 have out:∀(bs:List (Str×Value)) (m:Str->Option Value) (x:Str),x∉bs.map (·.1)->bindC kindOf bs m x=m x:=by
  intro bs;induction bs with
  |nil=>intro m x _;rfl
  |cons p r ih=>
   intro m x hn;obtain⟨y,U⟩:=p;simp only[q7,l9,not_or] at hn;rw[bindC,ih _ _ hn.2];split
   ·rfl
   ·simp[hn.1]
 induction bs with
 |nil=>intro m x V _ h;cases h
 |cons p r ih=>
  intro m x V hnd h hk;obtain⟨y,U⟩:=p;rw[q7,G5] at hnd;rw[v9] at h;rw[bindC];by_cases hy:x=y
  ·subst hy;simp at h;subst h;rw[out _ _ _ hnd.1,if_neg hk];simp
  ·have:(x==y)=false:=by simp[hy]
   rw[this] at h;exact ih _ _ _ hnd.2 h hk
theorem qu{h:Heap}{ps:List Str}{Vs:List Value}{vs:List AV}{x:Str}{v:AV}(r:aM h Vs vs)(e:(ps.zip vs).lookup x=some v):∃V,(ps.zip Vs).lookup x=some V/\bF h V v:=by
 induction ps generalizing Vs vs with
 |nil=>exact gc e
 |cons p ps ih=>
  ·refine aM.ind (P:=λVs vs=>aM h Vs vs->((p::ps).zip vs).lookup x=some v->∃V,((p::ps).zip Vs).lookup x=some V/\bF h V v) (λZ e=>nomatch e) (λ{V v vs Vs} a r _ _ e=>?_) r r e;rw[S8,v9] at e⊢;cases hb:x==p with
   |true=>rw[hb] at e;exact#[V,rfl,m9 e▸a]
   |false=>rw[hb] at e;exact ih r e
theorem Gq{α β:Type}{ps:List α}{vs:List β}(h:ps.length=vs.length):(ps.zip vs).map (·.1)=ps:=List.map_fst_zip (I5 h)
theorem aM.length{h:Heap}{Vs:List Value}{vs:List AV}(r:aM h Vs vs):Vs.length=vs.length:=aM.ind (P:=λV v=>V.length=v.length) rfl (λZ Z i=>congrArg Nat.succ i) r
theorem aM.append{h:Heap}{Vs Us:List Value}{vs us:List AV}(r:aM h Vs vs)(q:aM h Us us):aM h (Vs++Us) (vs++us):=aM.ind (P:=λV v=>aM h (V++Us) (v++us)) q (λa Z i=>.cons a i) r
theorem oU{c:Addr}{z:Str}{r:List (Str×Addr)}(hz:r.lookup z=some c):c∈r.map (·.2):=by
 induction r with
 |nil=>exact gc hz
 |cons p r ih=>
  rw[v9] at hz;cases b:z==p.1 with
  |true=>rw[b] at hz;cases hz;exact .head _
  |false=>rw[b] at hz;exact .tail _ (ih hz)
theorem nJ{cs:List (Str×Addr)}{x y:Str}{c:Addr}(hn:(cs.map (·.2)).Nodup)(h1:cs.lookup x=some c)(h2:cs.lookup y=some c):x=y:=by
 induction cs with
 |nil=>exact if_pos `a
 |cons p r ih=>
  rw[q7,G5] at hn;rw[v9] at h1 h2;cases b1:x==p.1 with
  |true=>
   rw[b1] at h1;cases b2:y==p.1 with
   |true=>exact(eq_of_beq b1).trans (eq_of_beq b2).symm
   |false=>rw[b2] at h2;exact absurd (oU (r:=r) (z:=y) h2) ((show p.2=c from m9 h1)▸hn.1)
  |false=>
   rw[b1] at h1;cases b2:y==p.1 with
   |true=>rw[b2] at h2;exact absurd (oU (r:=r) (z:=x) h1) ((show p.2=c from m9 h2)▸hn.1)
   |false=>rw[b2] at h2;exact ih hn.2 h1 h2
inductive FnI(C:Cx)(f:Addr)(ps:List Str)(names:List (Str×NameKind))(body:List Stmt)(ar:Nat)(ds:List AV):Prop
 |mk (name qual:Str) (params:Arguments) (scope:Scope) (dV kV:Value) (doc:Value) (pm:Value) (cdv ct:Value) (oc:Value) (od:Option Addr) (osl:Array (Option Value)) (k1:C.K.lookup f=some #[oc,od,.func (fnOf name qual params body scope dV kV doc pm b6 cdv ct),osl]) (k2:codeIn C.K cdv qual=true)
  (b:∀(s:Shared) (Vs:List Value),C.K.In s.heap->Vs.length=ar->∃Ds,aM C.hb Ds ds/\BindsTo s (fnOf name qual params body scope dV kV doc pm b6 cdv ct) #[Vs,[]] (ps.zip (Vs++Ds)))
  (r:scope.names=names/\scope.isCoroutine=false/\scope.isGenerator=false/\scope.kind=.function):FnI C f ps names body ar ds
structure mq(C:Cx)(f:Addr)(ps:List Str)(names:List (Str×NameKind))(body:List Stmt)(ar:Nat)(ds:List AV):Prop where
 aea:FnI C f ps names body ar ds
 len:ps.length=ar+ds.length
 nd:ps.Nodup
 kinds:(ps.all λx=>names.lookup x==some .local||names.lookup x==some .cell)=true
 cells:((cellsFrom 0 names []).map (·.1)).Nodup
 aeb:(names.all λp=>p.2==.local||p.2==.cell||p.2==.globalImplicit)=true
theorem mq.uD{C:Cx}{f:Addr}{ps:List Str}{names:List (Str×NameKind)}{body:List Stmt}{ar:Nat}{ds:List AV}(ok:mq C f ps names body ar ds){x:Str}{k:NameKind}(h:names.lookup x=some k):
 (k==.local||k==.cell||k==.globalImplicit)=true:=by
 have:=n9.mp ok.aeb;obtain⟨y,hy⟩:∃y,(y,k)∈names:=by
  clear this ok;induction names with
  |nil=>exact gc h
  |cons p r ih=>
   obtain⟨z,q⟩:=p;rw[v9] at h;split at h
   ·cases h;exact#[z,.head _]
   ·refine xE (ih h) λy hy=>?_;exact#[y,.tail _ hy]
 exact this _ hy
theorem ju.room{n:Nat}{A:Around}(h:ju n A):A.depth<recursionLimit:=by have:=h.depth;show _<1000;exact o11 this
def zF(C:Cx)(n:Nat)(f:Value)(vs:List AV)(H:AH)(Q:AV->AH->Prop):Prop:=
 ∀A g s Vs,ju n A->cJ C g H s->aM s.heap Vs vs->codeAny (model C.prog C.w) A (.call f #[Vs,[]]) (λr s'=>match r with| .ok (.ret v)=>PV C g Q v s'|_=>False) s
theorem aj.iL{C:Cx}{n:Nat}{f:Value}{vs:List AV}{H:AH}{Q:AV->AH->Prop}(h:zF C n f vs H Q):aj C n f vs H Q:=λA g s Vs a G r=>
 wpAny_call (codeAny_mono (h A g s Vs a G r) λr s' q=>by
  rcases r with e|(v|_|_|_)<;>first|exact q|exact q.elim)
theorem codeS_fn {C:Cx} {n:Nat} {H:AH} {f:Addr} {ps:List Str} {names:List (Str×NameKind)} {body:List Stmt} {ds vs:List AV} {Q:AV->AH->Prop} (ok:mq C f ps names body vs.length ds)
 (hbody:∀F:Fm,F.fn=true->F.env.scope.names=names->F.env.scope.kind=.function->aG C n F body (dF names (ps.zip (vs++ds))) H λo Z H'=>Q (eL o) H'):zF C (n+1) (.ref f) vs H Q:=by
 intro A g s Vs a G r;obtain⟨name,qual,params,scope,dV,kV,doc,pm,cdv,ct,oc,od,osl,ho,hcd,hb,hns,hco,hgen,hk⟩:=ok.aea;refine bz (hb s Vs G.K r.length) λDs hD hb=>?_;refine codeAny_call_function a.room (G.K _ _ ho) rfl hco hgen rfl (codeRec_of G.K hcd) (hb _ _ _ _ ?_);have hlen:ps.length=(Vs++Ds).length:=by rw[lG,r.length,hD.length];exact ok.len
 have Lb:(ps.zip (Vs++Ds)).map (·.1)=ps:=Gq hlen;have hkd:∀x∈ps,scope.names.lookup x=some .local\/scope.names.lookup x=some .cell:=λx hx=>by
  have:=n9.mp ok.kinds x hx;rw[hns];simpa using this
 have aec:((cellsFrom (s.heap.objs.size+1) scope.names []).map (·.1)).Nodup:=by
  rw[hns];exact cellsFrom_names names 0 (s.heap.objs.size+1) [] [] rfl▸ok.cells
 refine wpAny_newFunctionEnv_cells hk (λx hx=>?_) λenv he s' x=>?_
 ·have:x.1∈ps:=Lb▸C6 hx;rcases hkd _ this with q|q
  ·exact .inl q
  ·exact .inr #[q,cellsFrom_some _ _ _ (.inl q)]
 ·refine lC x.done λhh tk es kp=>?_;have k:=x.toInCall.keep;refine#[(C.lim.keeps G.qp).keeps k,codeAny_func ?_];have hloc:env.locals=s.heap.objs.size:=by subst he;rfl
  have hcl:env.cells=cellsFrom (s.heap.objs.size+1) scope.names []:=by subst he;rfl
  have hsc:env.scope=scope:=by subst he;rfl
  have hko:∀y,env.kindOf y=scope.names.lookup y:=λy=>by unfold W9;rw[hsc]
  let F:Fm:=#[env,true,[]];have uE:∀b∈F.own,s.heap.objs.size<=b:=λb hb=>by
   rcases l9.mp hb with rfl|hb
   ·exact I5 hloc.symm
   ·obtain⟨p,hp,rfl⟩:=m5.mp hb;have:=x.above p.1 p.2 hp;have h2:s.heap.objs.size<=env.locals:=I5 hloc.symm;exact K7 (M1 h2 this)
  have jw:∀b∈F.own,s.heap.get? b=b6:=λb hb=>by
   cases e:s.heap.get? b with
   |none=>rfl
   |some o=>exact absurd (m7 e) (I4.mpr (uE b hb))
  have sz:s.heap.objs.size<=s'.heap.objs.size:=by
   have:=x.toInCall.ns.lt;rw[hloc] at this;exact K7 this
  have G':cJ C g H s':=G.up k sz (by rw[es]) (by rw[es]);have GF:Gd C g F (dF names (ps.zip (vs++ds))) H s':=by
   refine{tocJ:=G',fm:=?_,loc:=?_,dh:=λb hb=>?_,cO:=λb hb f=>?_}
   ·refine#[by show env.scope.kind=_;rw[hsc];exact hk,by subst he;rfl,by subst he;rfl,λy z c h1 h2 Z=>nJ (cs:=env.cells) ?_ h1 h2,?_,?_,λZ x hx=>?_,λc hc=>hc]
    ·show(env.cells.map (·.2)).Nodup;rw[List.nodup_iff_pairwise_ne,List.pairwise_map];exact x.apart
    ·intro hm;refine bz (m5.mp hm) λp hp e=>?_;have:=x.above p.1 p.2 hp;exact absurd e (r9 this)
    ·show C.hb.objs.size<=env.locals;rw[hloc];exact G.size
    ·rw[show F.env.kindOf x=_ from hko x,hns] at hx;exact absurd (ok.uD hx) (!q8)
   ·have R:aM s'.heap (Vs++Ds) (vs++ds):=(r.up k).append (hD.up λb o e=>k _ _ (G.qp _ _ e));refine#[#[_,x.toInCall.ns,λy v e=>?_],λc hc=>?_]
    ·obtain⟨kd,Gr,rfl⟩:=vV e;have Ld:env.kindOf y=some kd:=by rw[hko,hns];exact Gr
     cases kd with
     |globalImplicit=>exact Ld
     |«local»=>
      show Holds F s'.heap _ y (match(ps.zip (vs++ds)).lookup y with|some v=>LV.val v|b6=>.undef);cases hl:(ps.zip (vs++ds)).lookup y with
      |none=>exact .inl Ld
      |some v=>
       refine bz (qu R hl) λV hV aV=>?_;exact#[V,aV,.inl #[Ld,AR _ _ _ _ (by rw[Lb];exact ok.nd) hV Ld]]
     |cell=>
      refine xE (O2.mp (cellsFrom_some (x:=y) scope.names (s.heap.objs.size+1) [] (.inl (by rw[hns];exact Gr)))) λc hc=>?_;have hc':env.cells.lookup y=some c:=by rw[hcl];exact hc
      show Holds F s'.heap _ y (match(ps.zip (vs++ds)).lookup y with|some v=>LV.val v|b6=>.undef);cases hl:(ps.zip (vs++ds)).lookup y with
      |none=>exact .inr #[Ld,c,hc']
      |some v=>
       refine bz (qu R hl) λV hV aV=>?_;have TP:=x.cell y c hc';rw[AS _ _ _ _ (by rw[Lb];exact ok.nd) hV (by rw[Ld];simp)] at TP;exact#[V,aV,.inr #[.inl Ld,c,hc',TP]]
     |free=>exact absurd (ok.uD Gr) (!q8)
     |globalExplicit=>exact absurd (ok.uD Gr) (!q8)
    ·obtain⟨p,hp,rfl⟩:=m5.mp (show c∈env.cells.map (·.2) from hc);exact#[_,x.cell p.1 p.2 (lookup_of_mem_nodup (by rw[hcl];exact aec) hp)]
   ·cases e:g b with
    |none=>rfl
    |some o=>have:=G.keep _ _ e;rw[jw b hb] at this;cases this
   ·refine xE (G.cE f) λo ho=>?_;rw[jw b hb] at ho;cases ho
  refine wpAny_mono (hbody F rfl (by show env.scope.names=_;rw[hsc];exact hns) (by show env.scope.kind=_;rw[hsc];exact hk) (A.deeper env) g s' a.deeper GF) (λfl s₂ #[o,ρ',H',q,rf,aR]=>?_) λZ Z x=>x.elim;cases fl<;>cases o<;>first|exact rf.elim|exact#[_,H',q,.none,aR.tocJ]|exact#[_,H',q,rf,aR.tocJ]
theorem CH {C:Cx} {n:Nat} {H:AH} {f:Addr} {ps:List Str} {names:List (Str×NameKind)} {body:List Stmt} {ds vs:List AV} {Q:AV->AH->Prop} (ok:mq C f ps names body vs.length ds)
 (hbody:∀F:Fm,F.fn=true->F.env.scope.names=names->F.env.scope.kind=.function->aG C n F body (dF names (ps.zip (vs++ds))) H λo Z H'=>Q (eL o) H'):aj C (n+1) (.ref f) vs H Q:=.iL (codeS_fn ok hbody)
end
section
section
variable{C:Cx}{n:Nat}{F:Fm}{ρ:Loc}{H:AH}
def eS(C:Cx)(f:Value):Prop:=∀h,C.K.In h->∃k,(k=Keeper.frame\/k=Keeper.machine\/k=Keeper.boundFrame)/\Looks (model C.prog C.w) h (keeperOf f) k
theorem eS.bi(id:String):eS C (.builtin id):=λh Z=>#[.machine,.inr (.inl rfl),Looks.of_pure rfl]
theorem eS.ty(id:String):eS C (.type id):=λh Z=>#[.machine,.inr (.inl rfl),Looks.of_pure rfl]
theorem eS.k(h:keepIn C.K f=true):eS C f:=λhh X=>keeps_K h hh X
inductive FV:AV->Value->Prop
 |ref (a:Addr):FV (.ref a) (.ref a)
 |ty (n:String):FV (.ty n) (.type n)
 |bi (n:String):FV (.bi n) (.builtin n)
theorem FV.eq(r:FV v f)(a:bF h V v):V=f:=by
 induction r with
 |ref x=>exact a.inv
 |ty x=>exact a.inv
 |bi x=>exact a.inv
noncomputable abbrev aed(C:Cx)(n:Nat)(f:Value)(Q:AV->AH->Prop):List AV->AH->Prop:=λvs H=>aj C n f vs H Q
inductive CI(C:Cx)(n:Nat)(Q:AV->AH->Prop)(fv:AV)(H:AH):Prop
 |mk (f:Value) (e:FV fv f) (k:eS C f) (q:aj C n f [] H Q):CI C n Q fv H
inductive Le(C:Cx)(n:Nat)(F:Fm)(es:List Expr)(pos:Pos)(ρ:Loc)(Q:AV->AH->Prop)(fv:AV)(H:AH):Prop
 |mk (f:Value) (e:FV fv f) (k:eS C f) (q:uC C n F es pos ρ H (aed C n f Q)):Le C n F es pos ρ Q fv H
theorem Ev.Lg(h:Ev C n F (.Name x np) ρ H (CI C n Q)):Ev C n F (.Call (.Name x np) [] [] pos) ρ H Q:=λA g s a G=>by
 refine wpAny_Call_ofName (fH (h A g s a G) λV s₁ fv H₁ z r₁ G₁=>z.casesOn λf e kp c=>?_);cases e.eq r₁;obtain⟨g₂,dm,_,bh⟩:=G₁.call;refine callWith_of (P:=λh=>C.K.In h) (M:=model C.prog C.w) rfl (λh X=>kp h X) (evalArgs_nil3 #[G₁.K,?_]);exact zE (c A g₂ s₁ [] a dm .nil) λZ s' v H' q r G'=>#[v,H',q,r,bh _ _ G']
theorem Ev.PY (h:Ev C n F (.Name x np) ρ H (Le C n F (e::es) pos ρ Q))
 (he:autoParam (starEach (e::es) F.env=(false,eval e F.env)::starEach es F.env) A1) (hplain:autoParam ((backTo pos (starEach es F.env)).any (·.1)=false) A1):Ev C n F (.Call (.Name x np) (e::es) [] pos) ρ H Q:=λA g s a G=>by
 refine wpAny_Call_ofName (fH (h A g s a G) λV s₁ fv H₁ z r₁ G₁=>z.casesOn λf ef kp c=>?_);cases ef.eq r₁;show Wp C A (callWith pos V [] (backTo pos (starEach (e::es) F.env)) []) _ s₁;have hc:=c A g s₁ a G₁;rw[he] at hc⊢;refine callWith_of (P:=λh=>C.K.In h) (M:=model C.prog C.w) (by show((false||(backTo pos (starEach es F.env)).any (·.1))||false)=false;rw[hplain];rfl) (λh X=>kp h X) (evalArgs_plain (PW hc λVs s₂ vs H₂ q r aR=>#[aR.K,?_]));obtain⟨g₂,dm,_,bh⟩:=aR.call;exact zE (q A g₂ s₂ Vs a dm r) λZ s' v H' q r G'=>#[v,H',q,r,bh _ _ G']
def fR(C:Cx)(ov:AV)(name:Str)(H:AH)(f:Value)(self:Bool):Prop:=
 ∀A g s V pl (Q:Value×List Value->Shared->Prop),cJ C g H s->bF s.heap V ov->(∀t,Q (f,if self then[V] else[]) {s with toks:=t})->Wp C A (getMethod V name pl) Q s
noncomputable abbrev PZ(C:Cx)(n:Nat)(f:Value)(sf:Bool)(ov:AV)(Q:AV->AH->Prop):List AV->AH->Prop:=λvs H=>aj C n f (if sf then ov::vs else vs) H Q
inductive CJ(C:Cx)(n:Nat)(name:Str)(Q:AV->AH->Prop)(ov:AV)(H:AH):Prop
 |mk (f:Value) (sf:Bool) (g:fR C ov name H f sf) (k:eS C f) (q:aj C n f (if sf then[ov] else[]) H Q):CJ C n name Q ov H
inductive IG(C:Cx)(n:Nat)(F:Fm)(name:Str)(es:List Expr)(pos:Pos)(ρ:Loc)(Q:AV->AH->Prop)(ov:AV)(H:AH):Prop
 |mk (f:Value) (sf:Bool) (g:fR C ov name H f sf) (k:eS C f) (q:uC C n F es pos ρ H (PZ C n f sf ov Q)):IG C n F name es pos ρ Q ov H
noncomputable def mcR(F:Fm)(o:Expr)(name:Str)(apos pos:Pos)(es:List Expr)(pl:Sem Bool):Sem Value:=do
 let ov<-eval o F.env
 standAt apos.atName
 let(f,first)<-holding [ov] (getMethod ov name pl)
 callWith pos f first (backTo pos (starEach es F.env)) (backToKw pos (keywordEach [] F.env))
theorem Ev.Lh (h:Ev C n F o ρ H (CJ C n name Q))
 (he:autoParam (eval (.Call (.Attribute o name apos) [] [] pos) F.env=mcR F o name apos pos [] pl) A1):Ev C n F (.Call (.Attribute o name apos) [] [] pos) ρ H Q:=λA g s a G=>by
 refine methodCall_KW (pl:=pl) (fH (h A g s a G) λV s₁ ov H₁ z r₁ G₁=>z.casesOn λf sf gm kp c=>?_) he;obtain⟨g₂,dm,_,bh⟩:=G₁.call;refine gm A g₂ s₁ V pl _ dm r₁ λt=>?_;refine callWith_of (P:=λh=>C.K.In h) (M:=model C.prog C.w) rfl (λh X=>kp h X) (evalArgs_nil3 #[G₁.K,?_]);rw[v7];refine zE (c A g₂ {s₁ with toks:=t} _ a (dm.at t) ?_) λZ s' v H' q r G'=>#[v,H',q,r,bh _ _ G'];cases sf with
 |true=>exact .cons r₁ .nil
 |false=>exact .nil
theorem Ev.P_ (h:Ev C n F o ρ H (IG C n F name (e::es) pos ρ Q))
 (he:autoParam (eval (.Call (.Attribute o name apos) (e::es) [] pos) F.env=mcR F o name apos pos (e::es) pl) A1)
 (he':autoParam (starEach (e::es) F.env=(false,eval e F.env)::starEach es F.env) A1) (hplain:autoParam ((backTo pos (starEach es F.env)).any (·.1)=false) A1):Ev C n F (.Call (.Attribute o name apos) (e::es) [] pos) ρ H Q:=λA g s a G=>by
 refine methodCall_KW (pl:=pl) (fH (h A g s a G) λV s₁ ov H₁ z r₁ G₁=>z.casesOn λf sf gm kp c=>?_) he;obtain⟨g₁,aee,_,_⟩:=G₁.call;refine gm A g₁ s₁ V pl _ aee r₁ λt=>?_;obtain⟨g₁,dZ,keep,back,_⟩:=(G₁.at t).grow;have hc:=c A g₁ {s₁ with toks:=t} a dZ;show Wp C A (callWith pos f (if sf then[V] else[]) (backTo pos (starEach (e::es) F.env)) []) _ _;rw[he'] at hc⊢;refine callWith_of (P:=λh=>C.K.In h) (M:=model C.prog C.w) (by show((false||(backTo pos (starEach es F.env)).any (·.1))||false)=false;rw[hplain];rfl) (λh X=>kp h X) (evalArgs_plain (PW hc λVs s₂ vs H₂ q r aR=>#[aR.K,?_]));obtain⟨g₂,dm,_,bh⟩:=aR.call;refine zE (q A g₂ s₂ _ a dm ?_) λZ s' v H' q r G'=>#[v,H',q,r,back _ _ _ (bh _ _ G')];cases sf with
 |true=>exact .cons (keep _ _ r₁ _ aR.keep) r
 |false=>exact r
end
end
section
noncomputable def fget:List (Str×AV)->Str->Option AV
 |[],_=>b6
 |(k,v)::r,x=>if k=x then some v else fget r x
noncomputable def xR:List (Str×AV)->Str->AV->List (Str×AV)
 |[],x,v=>[(x,v)]
 |(k,u)::r,x,v=>if k=x then(k,v)::r else(k,u)::xR r x v
theorem CK{p:Str×AV}{r:List (Str×AV)}{x:Str}:fget (p::r) x=if p.1=x then some p.2 else fget r x:=rfl
theorem Li{p:Str×AV}{r:List (Str×AV)}{x:Str}{v:AV}:xR (p::r) x v=if p.1=x then(p.1,v)::r else p::xR r x v:=rfl
theorem ez.find(r:ez P h ds fs)(hg:fget fs x=some v):∃e,ds.find? (·.key.isStr x)=some e/\bF h e.val v:=by
 induction r with
 |nil=>exact gc hg
 |@cons e y t _ _ _ hk a r ih=>
  rw[CK] at hg;rw[S6,show e.key.isStr x=(y==x) by rw[hk];rfl];by_cases hy:y=x
  ·subst hy;rw[if_pos rfl] at hg;rw[beq_self_eq_true];exact#[e,rfl,m9 hg▸a]
  ·rw[if_neg hy] at hg;rw[beq_eq_false_iff_ne.mpr hy];exact ih hg
theorem ez.noRef(r:ez P h ds fs):ds.any (·.refKey)=false:=by
 induction r with
 |nil=>rfl
 |cons hk a r ih=>rw[Z3,ih,DictEntry.refKey,hk];rfl
theorem ez.miss(r:ez P h ds fs)(hg:fget fs x=b6):ds.find? (·.key.isStr x)=b6:=by
 induction r with
 |nil=>rfl
 |@cons e y t _ _ _ hk a r ih=>
  rw[CK] at hg;rw[S6,show e.key.isStr x=(y==x) by rw[hk];rfl];by_cases hy:y=x
  ·exact TN (E1 (G0 (if_pos hy)) hg)
  ·rw[if_neg hy] at hg;rw[beq_eq_false_iff_ne.mpr hy];exact ih hg
theorem ez.getL(r:ez P h ds fs)(e:fget fs x=some v):∃V,U0 x ds=some (some V)/\bF h V v:=by
 refine bz (r.find e) λen he a=>?_;refine#[en.val,?_,a];unfold U0;rw[he]
theorem ez.AU(r:ez P h ds fs)(e:fget fs x=b6):U0 x ds=some b6:=by
 unfold U0;rw[r.miss e,r.noRef];rfl
theorem ez.put(hsh:Int)(a:bF h V v)(r:ez P h ds fs):ez P h (putL x hsh (.str x t) V ds) (xR fs x v):=by
 induction r with
 |nil=>exact .cons rfl a .nil
 |@cons e y t' u _ _ hk b r ih=>
  unfold putL;rw[Li];rw[show e.key.isStr x=(y==x) by rw[hk];rfl];by_cases hy:y=x
  ·subst hy;rw[beq_self_eq_true,if_pos rfl,if_pos rfl];exact .cons hk a r
  ·rw[beq_eq_false_iff_ne.mpr hy,if_neg hy,if_neg q8];exact .cons hk b ih
theorem vW(x:Str)(hsh:Int)(k v:Value):∀ds:List DictEntry,(putL x hsh k v ds).length<=ds.length+1
 |[]=>by exact n8 _
 |e::r=>by
  unfold putL;split
  ·simp
  ·simp only[x9];have:=vW x hsh k v r;exact o12 this
theorem ez.length(r:ez P h ds fs):ds.length=fs.length:=by
 induction r with
 |nil=>rfl
 |cons _ _ _ i=>exact congrArg Nat.succ i
theorem ju.new(h:ju (n+1) A):ju n (A.under (.builtin "type.__call__" #[.ref D::vs,[]])):=by
 have e1:(Code.builtin "type.__call__" #[.ref D::vs,[]]).weight=1:=by rfl
 have e2:(Code.builtin "type.__call__" #[.ref D::vs,[]]).cUnits=1:=by rfl
 refine#[h.handled,?_,?_]
 ·show A.depth+Code.weight _+_<=_;rw[e1];have:=h.depth;exact o6 this
 ·show A.units+Code.cUnits _+_+_<=_;rw[e2];have:=h.units;exact o5 this
theorem aA{H:AH}{x:Addr}{o:AO}{a:Addr}(hne:a≠x):(H.set x o) a=H a:=by exact if_neg `a
theorem cJ.Gs{C:Cx}{g:Fz}{H:AH}{hh:Heap}{gs:Array GenState}{d:Drawn}{t:Nat}{os:OsState}(D:Addr)(G:cJ C g H #[hh,gs,d,t,os]):
 cJ C g (H.set (hh.objs.size+1) (.inst D hh.objs.size [])) #[(hh.push emptyDict).push (instObj D hh.objs.size),gs,d,t,os]/\H (hh.objs.size+1)=b6/\H hh.objs.size=b6:=by
 have small:∀b:Nat,cW H b->b<hh.objs.size:=λb f=>by refine xE (G.cE f) λo ho=>?_;exact m7 ho
 have n1:H (hh.objs.size+1)=b6:=by
  cases e:H (hh.objs.size+1) with
  |none=>rfl
  |some o=>exact absurd (small _ (.inl #[o,e])) (I4.mpr (O0 _))
 have n0:H hh.objs.size=b6:=by
  cases e:H hh.objs.size with
  |none=>rfl
  |some o=>exact absurd (small _ (.inl #[o,e])) (C5 _)
 have kp:∀b o,hh.get? b=some o->((hh.push emptyDict).push (instObj D hh.objs.size)).get? b=some o:=λb o e=>j6 _ (j6 _ e);have g0:((hh.push emptyDict).push (instObj D hh.objs.size)).get? hh.objs.size=some emptyDict:=j6 _ (s9 _ rfl);have g1:((hh.push emptyDict).push (instObj D hh.objs.size)).get? (hh.objs.size+1)=some (instObj D hh.objs.size):=by
  have:=s9 (hh.push emptyDict) (o:=instObj D hh.objs.size) rfl
  rwa [A0] at this
 have gn:∀b,hh.objs.size<=b->g b=b6:=λb hb=>by
  cases e:g b with
  |none=>rfl
  |some o=>exact absurd (m7 (G.keep _ _ e)) (I4.mpr hb)
 refine#[{base:=G.base,keep:=λb o e=>kp _ _ (G.keep _ _ e),rel:=λa o e=>?_,off:=λb f=>?_,dx:=λa D' b fs e=>?_,inj:=λa a' D1 D2 b f1 f2 e1 e2=>?_,gens:=G.gens,os:=G.os,size:=?_,sys:=λa o e=>?_},n1,n0]
 ·by_cases ha:a=hh.objs.size+1
  ·subst ha;rw[AH.aq] at e;cases e;exact#[[],0,g1,g0,.nil,!s8 _]
  ·rw[aA ha] at e;exact(G.rel a o e).up kp
 ·by_cases hb:hh.objs.size<=b
  ·exact gn b hb
  ·rcases f with⟨o,ho⟩|⟨a,D',fs,ha⟩
   ·rw[aA (x:=hh.objs.size+1) (λz=>hb (by rw[z];exact O0 _))] at ho;exact G.off _ (.inl #[o,ho])
   ·by_cases hax:a=hh.objs.size+1
    ·subst hax;rw[AH.aq] at ha;cases ha;exact absurd (r7 _) hb
    ·rw[aA hax] at ha;exact G.off _ (.inr #[a,D',fs,ha])
 ·by_cases hax:a=hh.objs.size+1
  ·subst hax;rw[AH.aq] at e;cases e;rw[aA (C7 (J5 _))];exact n0
  ·rw[aA hax] at e;have:=small b (.inr #[a,D',fs,e]);rw[aA (C7 (U1 this))];exact G.dx _ _ _ _ e
 ·by_cases h1:a=hh.objs.size+1<;>by_cases h2:a'=hh.objs.size+1
  ·rw[h1,h2]
  ·subst h1;rw[AH.aq] at e1;cases e1;rw[aA h2] at e2;exact absurd (small _ (.inr #[a',D2,f2,e2])) (C5 _)
  ·subst h2;rw[AH.aq] at e2;cases e2;rw[aA h1] at e1;exact absurd (small _ (.inr #[a,D1,f1,e1])) (C5 _)
  ·rw[aA h1] at e1;rw[aA h2] at e2;exact G.inj _ _ _ _ _ _ _ e1 e2
 ·show _<=((hh.push emptyDict).push (instObj D hh.objs.size)).objs.size;rw[A0,A0];have:=G.size;exact N2 (N2 this)
 ·by_cases ha:a=hh.objs.size+1
  ·rw[ha];exact r9 (U1 (u7 C.lo G.size))
  ·rw[aA ha] at e;exact G.sys _ _ e
theorem fY {C:Cx} {n:Nat} {H:AH} {D fI:Addr} {vs:List AV} {Q:AV->AH->Prop} (hm:makesIn C.K D=true) (hi:findIn C.K (.ref D) "__init__"=some (some (.ref fI))) (hf:typeIn C.K (.ref fI)=some (.type "function"))
 (h:∀x dx,H x=b6->H dx=b6->x≠dx->zF C n (.ref fI) (.ref x::vs) (H.set x (.inst D dx [])) λv H'=>v=.none/\Q (.ref x) H'):zF C (n+1) (.ref D) vs H Q:=by
 intro A g s Vs a G r;obtain⟨hh,gs,d,t,os⟩:=s;refine kh (G.Gs D) λG' n1 n0=>?_;refine make_core (makes_of G.K hm) (looks_findIn G.K hi) (λself=>bind_fn G.K self hf) (.inl rfl) ?_;refine codeAny_mono (h _ _ n1 n0 (r9 (J5 _)) _ g _ (.ref (hh.objs.size+1)::Vs) a.new G' (.cons (.ref _) (r.up λb o e=>j6 _ (j6 _ e)))) λr s' q=>?_;rcases r with e|(v|_|_|_)<;>first|exact q.elim|skip
 obtain⟨v',H',⟨e,q⟩,ab,aR⟩:=q;subst e;cases ab;exact#[rfl,_,H',q,.ref _,aR]
def uF(C:Cx)(D:Addr)(name:Str):Prop:=plainGet C.K D name=true/\hasDictIn C.K D=true/\∃attr,findIn C.K (.ref D) name=some attr/\noGet C.K attr=true
def pY(C:Cx)(D:Addr)(name:Str):Prop:=findIn C.K (.ref D) "__setattr__"=some (some (.builtin "object.__setattr__"))/\plainOver C.K D=true/\takerIn C.K D name=some b6/\hasDictIn C.K D=true
theorem xS(a:bF h V v)(hv:∀i,v≠.bi i):handedIn V=true:=by
 cases a<;>first|rfl|exact absurd rfl (hv _)
section
variable{C:Cx}{n:Nat}{F:Fm}{ρ:Loc}{H:AH}
inductive zG(C:Cx)(name:Str)(Q:AV->AH->Prop)(ov:AV)(H:AH):Prop
 |mk (x D dx:Addr) (fs:List (Str×AV)) (v:AV) (e:ov=.ref x) (hx:H x=some (.inst D dx fs)) (hf:fget fs name=some v) (k:uF C D name) (nb:∀i,v≠.bi i) (q:Q v H):zG C name Q ov H
theorem Ev.attr (h:Ev C n F o ρ H (zG C name Q))
 (he:autoParam (eval (.Attribute o name pos) F.env=(do
  let ov<-eval o F.env
  standAt pos.atName
  let r<-holding [ov] (getAttr ov name true)
  letTemporaryGo o ov r
  pure r)) A1):Ev C n F (.Attribute o name pos) ρ H Q:=λA g s a G=>by
 refine Attribute_any_ (fH (h A g s a G) λV s₁ ov H₁ z r₁ G₁=>z.casesOn λx D dx fs v e hx hf k hnb q=>?_) he;rw[e] at r₁;refine r₁.bR ?_;obtain⟨ds,m,o1,o2,fr,_⟩:=G₁.rel _ _ hx;exact(fr.getL hf).elim λU u=>k.2.2.elim λattr w=>get_value G₁.K (InstAt.mk (ox:=instObj D dx) (od:=some (dictOf ds m)) o1 rfl rfl o2) (plainGet_of k.1).1 (findObj_own k.2.1 w.1 w.2 u.1) (xS u.2 hnb) #[v,H₁,q,u.2,G₁.at _]
theorem fR.inst(hx:H x=some (.inst D dx fs))(hf:fget fs name=b6)(hg:plainGet C.K D name=true)(hm:findIn C.K (.ref D) name=some (some (.ref f)))(ht:typeIn C.K (.ref f)=some (.type "function")):
 fR C (.ref x) name H (.ref f) true:=λA g s V pl Q G r hq=>by
 have hq:=hq s.toks;revert hq;refine r.bR λhq=>?_;obtain⟨ds,m,o1,o2,fr,_⟩:=G.rel _ _ hx;refine method_fn G.K (InstAt.mk (ox:=instObj D dx) (od:=some (dictOf ds m)) o1 rfl rfl o2) (plainGet_of hg).1 (plainGet_of hg).2 hm ht ?_ hq;show(lookIn name (dictOf ds m)).map _=_;rw[lookIn_dict,fr.AU hf];rfl
end
end
section
abbrev bZ(h h':Heap):Prop:=∀b (xs:Array Value) n,h.get? b=some #[.type "tuple",b6,.seq xs n,#[]]->h'.get? b=some #[.type "tuple",b6,.seq xs n,#[]]
theorem ez.kept{P:Params}{h h':Heap}(k:bZ h h'){ds:List DictEntry}{fs:List (Str×AV)}(r:ez P h ds fs):ez P h' ds fs:=by
 induction r with
 |nil=>exact .nil
 |cons e a _ ih=>exact .cons e (a.mono k) ih
theorem cR.kept{K:Type}{h h':Heap}(k:bZ h h'){ds:List (K×Value)}{fs:List (K×AV)}(r:cR h ds fs):cR h' ds fs:=by
 induction r with
 |nil=>exact .nil
 |cons a _ ih=>exact .cons (a.mono k) ih
theorem ir.kept{C:Cx}{h h':Heap}{a:Addr}{o:AO}(r:ir C h a o)(ka:∀ob,h.get? a=some ob->h'.get? a=some ob)(kd:∀D dx fs,o=.inst D dx fs->∀ob,h.get? dx=some ob->h'.get? dx=some ob)(kt:bZ h h'):ir C h' a o:=by
 cases o with
 |list vs=>obtain⟨xs,n,e,q⟩:=r;exact#[xs,n,ka _ e,q.mono kt]
 |dI kvs=>refine bz r λkv d q=>?_;exact#[kv,DictOf.kept d ka,q.kept kt]
 |dS kvs=>refine bz r λkv d q=>?_;exact#[kv,DictOf.kept d ka,q.kept kt]
 |dN kvs=>refine bz r λkv d q=>?_;exact#[kv,DictOfH.kept d ka kt,q.kept kt]
 |inst D dx fs=>obtain⟨xs,n,e,e',q,l⟩:=r;exact#[xs,n,ka _ e,kd _ _ _ rfl _ e',q.kept kt,l]
theorem cJ.off' {C:Cx} {g:Fz} {H:AH} {s s':Shared} (G:cJ C g H s) (X:Addr->Prop) (hg:∀b,X b->g b=b6) (hH:∀b,X b->¬cW H b) (hT:∀b (xs:Array Value) n,X b->s.heap.get? b≠some #[.type "tuple",b6,.seq xs n,#[]])
 (k:∀b o,¬X b->s.heap.get? b=some o->s'.heap.get? b=some o) (hs:s.heap.objs.size<=s'.heap.objs.size) (hgn:s'.gens=s.gens) (ho:s'.os=s.os):cJ C g H s'/\bZ s.heap s'.heap:=by
 have kt:bZ s.heap s'.heap:=λb xs n e=>k _ _ (λx=>hT _ _ _ x e) e;refine#[{base:=G.base,keep:=λb o e=>k _ _ (λx=>!gc (E1 (G0 (hg b x)) e)) (G.keep _ _ e),rel:=λa o e=>?_,off:=G.off,dx:=G.dx,inj:=G.inj,gens:=hgn.trans G.gens,os:=ho.trans G.os,size:=g9 G.size hs,sys:=G.sys},kt];refine(G.rel a o e).kept (λob=>k _ _ λx=>hH _ x (.inl #[o,e])) (λD dx fs eo ob=>k _ _ λx=>hH _ x (.inr #[a,D,fs,eo▸e])) kt
theorem lookup_mem{cs:List (Str×Addr)}{x:Str}{c:Addr}(h:cs.lookup x=some c):(x,c)∈cs:=by
 induction cs with
 |nil=>exact gc h
 |cons p r ih=>
  obtain⟨u,v⟩:=p;rw[v9] at h;split at h
  ·rename_i e;cases h;rw[beq_iff_eq.mp e];exact .head _
  ·exact .tail _ (ih h)
section
variable{C:Cx}{n:Nat}{F:Fm}{ρ:Loc}{H:AH}
theorem Gd.store {A:Around} {g:Fz} {s:Shared} {x:Str} {V:Value} {v:AV} {u:LV} {Q:Unit->Shared->Prop} (G:Gd C g F ρ H s) (hx:ρ.get x=some u) (hu:(match u with| .glob=>False|_=>True)) (hst:F.env.kindOf x=some .local\/(F.env.kindOf x≠some .free/\∀c,F.env.cells.lookup x=some c->c∈F.co)) (a:bF s.heap V v)
 (h:∀s',Gd C g F (ρ.set x (.val v)) H s'->bZ s.heap s'.heap->Q () s'):Wp C A (storeName F.env x V) Q s:=by
 refine bz G.loc.ns λm hns hr=>?_;have kd:F.env.kindOf x=some .local\/((F.env.kindOf x=some .cell\/F.env.kindOf x=some .free)/\∃c,F.env.cells.lookup x=some c):=by
  have:=hr _ _ hx;cases u with
  |undef=>rcases this with q|⟨q,c,hc⟩;exact .inl q;exact .inr #[.inl q,c,hc]
  |glob=>exact hu.elim
  |val v=>obtain⟨_,_,q|⟨q,c,hc,_⟩⟩:=this;exact .inl q.1;exact .inr #[q,c,hc]
 have hsome:(ρ.get x).isSome=true:=by rw[hx];rfl
 have hL:F.env.locals∈F.own:=v8;rcases kd with hk|⟨hk,c,hc⟩
 ·refine wpAny_storeName_local hk hns (λh' hn' hs'=>?_) (by rw[G.fm.kind];rfl);refine xA (G.tocJ.off' (s':={s with heap:=h',toks:=s.toks+1}) (λb=>b=F.env.locals) (λb e=>e▸G.dh _ hL) (λb e=>e▸G.cO _ hL) (λb xs n e=>e▸λq=>G.loc.fu q hL) (λb o nb e=>(hs'.2 b nb).trans e) (I5 hs'.1.symm) rfl rfl) λG' kt=>?_;refine h _ {tocJ:=G',fm:=G.fm,loc:=#[#[_,hn',λy w e=>?_],λc hc=>?_],dh:=G.dh,cO:=G.cO} kt
  ·by_cases hy:y=x
   ·subst hy;rw[Loc.l_ _ _ _ hsome] at e;cases e;exact#[V,a.mono kt,.inl #[hk,!if_pos rfl]]
   ·rw[Loc.qo _ _ _ _ hy] at e;have:=hr _ _ e;cases w with
    |undef=>exact this
    |glob=>exact this
    |val w=>
     refine bz this λW b q=>?_;refine#[W,b.mono kt,?_];rcases q with⟨q1,q2⟩|⟨q1,c,q2,q3⟩
     ·exact .inl #[q1,by simp[hy,q2]]
     ·exact .inr #[q1,c,q2,q3.sameBut hs' λz=>G.fm.locs (z▸C6 (lookup_mem q2))]
  ·refine xE (G.loc.cells c hc) λw hw=>?_;exact#[w,hw.sameBut hs' λz=>G.fm.locs (z▸G.fm.sub c hc)]
 ·have TQ:F.env.kindOf x≠some .free/\c∈F.co:=by
   rcases hst with q|⟨q1,q2⟩
   ·rcases hk with hk|hk<;>rw[hk] at q<;>cases q
   ·exact#[q1,q2 c hc]
  have hk':F.env.kindOf x=some .cell\/F.env.kindOf x=some .free:=hk;refine xE (G.loc.cells c TQ.2) λv₀ Qa=>?_;have hco:c∈F.own:=s7 _ TQ.2;have fin:∀h',h'.IsCell c (some V)->W0 c s.heap h'->Q () {s with heap:=h'}:=λh' hc' hs'=>by
   refine xA (G.tocJ.off' (s':={s with heap:=h'}) (λb=>b=c) (λb e=>e▸G.dh _ hco) (λb e=>e▸G.cO _ hco) (λb xs n e=>e▸λq=>G.loc.fu q hco) (λb o nb e=>(hs'.2 b nb).trans e) (I5 hs'.1.symm) rfl rfl) λG' kt=>?_;have hLc:F.env.locals≠c:=λz=>G.fm.locs (z▸C6 (lookup_mem hc));refine h _ {tocJ:=G',fm:=G.fm,loc:=#[#[m,hns.sameBut hs' hLc,λy w e=>?_],λd hd=>?_],dh:=G.dh,cO:=G.cO} kt
   ·by_cases hy:y=x
    ·subst hy;rw[Loc.l_ _ _ _ hsome] at e;cases e;exact#[V,a.mono kt,.inr #[hk',c,hc,hc']]
    ·rw[Loc.qo _ _ _ _ hy] at e;have:=hr _ _ e;cases w with
     |undef=>exact this
     |glob=>exact this
     |val w=>
      refine bz this λW b q=>?_;refine#[W,b.mono kt,?_];rcases q with q|⟨q1,c',q2,q3⟩
      ·exact .inl q
      ·exact .inr #[q1,c',q2,q3.sameBut hs' λz=>hy (G.fm.apart _ _ _ q2 (z▸hc) (z▸TQ.2))]
   ·by_cases vI:d=c
    ·exact#[_,vI▸hc']
    ·refine xE (G.loc.cells d hd) λw hw=>?_;exact#[w,hw.sameBut hs' vI]
  rcases hk with hk|hk
  ·exact wpAny_storeName_cell G.fm.kind hk hc Qa fin
  ·exact absurd hk TQ.1
theorem Gd.mu{g:Fz}{s:Shared}(G:Gd C g F ρ H s)(hfn:F.fn=true)(x:Str):F.env.kindOf x=some .local\/(F.env.kindOf x≠some .free/\∀c,F.env.cells.lookup x=some c->c∈F.co):=.inr #[G.fm.CE hfn x,λc hc=>by unfold Fm.co;rw[if_pos hfn];exact C6 (lookup_mem hc)]
end
end
section
theorem cJ.turn (G:cJ C g H s) (ha:H a=some o) (hy:y=a\/∃D fs,o=.inst D y fs) (X:Addr->Prop) (hX:∀b,X b->g b=b6/\¬cW H b/\∀(xs:Array Value) n,s.heap.get? b≠some #[.type "tuple",b6,.seq xs n,#[]])
 (k:∀b ob,b≠y->¬X b->s.heap.get? b=some ob->s'.heap.get? b=some ob) (r':bZ s.heap s'.heap->ir C s'.heap a o') (hd:∀D dx fs,o'=.inst D dx fs->∃D' fs',o=.inst D' dx fs')
 (hs:s.heap.objs.size<=s'.heap.objs.size\/C.hb.objs.size<=s'.heap.objs.size) (hgn:s'.gens=s.gens) (ho:s'.os=s.os):cJ C g (H.set a o') s'/\bZ s.heap s'.heap:=by
 have fy:cW H y:=by rcases hy with rfl|⟨D,fs,e⟩;exact .inl #[o,ha];exact .inr #[a,D,fs,e▸ha]
 have kt:bZ s.heap s'.heap:=λb xs n e=>k _ _ (λz=>oR G.rel e (z▸fy)) (λx=>(hX b x).2.2 _ _ e) e;have foot:∀b,cW (H.set a o') b->cW H b:=by
  rintro b (⟨q,hq⟩|⟨c,D,fs,hc⟩)
  ·by_cases hb:b=a
   ·subst hb;exact .inl #[o,ha]
   ·rw[aA hb] at hq;exact .inl #[q,hq]
  ·by_cases hc':c=a
   ·subst hc';rw[AH.aq] at hc;cases hc;refine sH (hd _ _ _ rfl) λD' fs' e=>?_;exact .inr #[c,D',fs',e▸ha]
   ·rw[aA hc'] at hc;exact .inr #[c,D,fs,hc]
 have xT:∀b,H b=b6->b≠a:=λb hb z=>by rw[z,ha] at hb;cases hb
 have bD:∀c D b fs,(H.set a o') c=some (.inst D b fs)->∃D' fs',H c=some (.inst D' b fs'):=λc D b fs hc=>by
  by_cases hc':c=a
  ·subst hc';rw[AH.aq] at hc;cases hc;refine sH (hd _ _ _ rfl) λD' fs' e=>?_;exact#[D',fs',e▸ha]
  ·rw[aA hc'] at hc;exact#[D,fs,hc]
 refine#[{base:=G.base,keep:=λb ob e=>k _ _ (λz=>by rw[z,G.off y fy] at e;cases e) (λx=>!gc (E1 (G0 ((hX b x).1)) e)) (G.keep _ _ e),rel:=λc oc e=>?_,off:=λb f=>G.off b (foot b f),dx:=λc D b fs e=>?_,inj:=λc c' D D' b f1 f2 e1 e2=>?_,gens:=hgn.trans G.gens,os:=ho.trans G.os,size:=hs.elim (g9 G.size) id,sys:=λc oc e=>(by by_cases hc:c=a;(subst hc;exact G.sys _ _ ha);(rw[aA hc] at e;exact G.sys _ _ e))},kt]
 ·by_cases hc:c=a
  ·subst hc;rw[AH.aq] at e;cases e;exact r' kt
  ·rw[aA hc] at e;refine(G.rel c oc e).kept (λob=>k _ _ (λz=>?_) λx=>(hX _ x).2.1 (.inl #[oc,e])) (λD dx fs eo ob=>k _ _ (λz=>?_) λx=>(hX _ x).2.1 (.inr #[c,D,fs,eo▸e])) kt
   ·rcases hy with rfl|⟨D,fs,eo⟩
    ·exact hc z
    ·have:=G.dx _ _ _ _ (eo▸ha);rw[<-z,e] at this;cases this
   ·subst eo;rcases hy with rfl|⟨D',fs',eo⟩
    ·have:=G.dx _ _ _ _ e;rw[z,ha] at this;cases this
    ·exact hc (G.inj _ _ _ _ _ _ _ (z▸e) (eo▸ha))
 ·refine sH (bD _ _ _ _ e) λD' fs' e'=>?_;have:=G.dx _ _ _ _ e';rw[aA (xT _ this)];exact this
 ·refine sH (bD _ _ _ _ e1) λZ Z Qc=>?_;refine sH (bD _ _ _ _ e2) λZ Z e2'=>?_;exact G.inj _ _ _ _ _ _ _ Qc e2'
theorem cJ.new {C:Cx} {g:Fz} {H:AH} {s:Shared} {o:AO} {ob:Obj} (G:cJ C g H s) (hf:ob.isFreed=false) (hn:∀D dx fs,o≠.inst D dx fs)
 (r:∀h',(∀b o,s.heap.get? b=some o->h'.get? b=some o)->h'.get? s.heap.objs.size=some ob->ir C h' s.heap.objs.size o):cJ C g (H.set s.heap.objs.size o) {s with heap:=s.heap.push ob}/\H s.heap.objs.size=b6:=by
 have kp:∀b o,s.heap.get? b=some o->(s.heap.push ob).get? b=some o:=λb o e=>j6 _ e;have small:∀b:Nat,cW H b->b<s.heap.objs.size:=λb f=>by refine xE (G.cE f) λo ho=>?_;exact m7 ho
 have n0:H s.heap.objs.size=b6:=by
  cases e:H s.heap.objs.size with
  |none=>rfl
  |some o=>exact absurd (small _ (.inl #[o,e])) (C5 _)
 have bD:∀c D b fs,(H.set s.heap.objs.size o) c=some (.inst D b fs)->H c=some (.inst D b fs):=λc D b fs hc=>by
  by_cases hc':c=s.heap.objs.size
  ·subst hc';rw[AH.aq] at hc;exact absurd (m9 hc) (hn _ _ _)
  ·rw[aA hc'] at hc;exact hc
 refine#[{base:=G.base,keep:=λb o e=>kp _ _ (G.keep _ _ e),rel:=λc oc e=>?_,off:=λb f=>?_,dx:=λc D b fs e=>?_,inj:=λc c' D D' b f1 f2 e1 e2=>G.inj _ _ _ _ _ _ _ (bD _ _ _ _ e1) (bD _ _ _ _ e2),gens:=G.gens,os:=G.os,size:=?_,sys:=λc oc e=>?_},n0]
 ·by_cases hc:c=s.heap.objs.size
  ·subst hc;rw[AH.aq] at e;cases e;exact r _ kp (s9 _ hf)
  ·rw[aA hc] at e;exact(G.rel c oc e).up kp
 ·rcases f with⟨q,hq⟩|⟨c,D,fs,hc⟩
  ·by_cases hb:b=s.heap.objs.size
   ·subst hb;cases e:g s.heap.objs.size with
    |none=>rfl
    |some o=>exact absurd (m7 (G.keep _ _ e)) (C5 _)
   ·rw[aA hb] at hq;exact G.off _ (.inl #[q,hq])
  ·exact G.off _ (.inr #[c,D,fs,bD _ _ _ _ hc])
 ·have e':=bD _ _ _ _ e;rw[aA (C7 (small b (.inr #[c,D,fs,e'])))];exact G.dx _ _ _ _ e'
 ·show _<=(s.heap.push ob).objs.size;rw[A0];exact N2 G.size
 ·by_cases hc:c=s.heap.objs.size
  ·rw[hc];exact r9 (u7 C.lo G.size)
  ·rw[aA hc] at e;exact G.sys _ _ e
section
variable{C:Cx}{n:Nat}{F:Fm}{ρ:Loc}{H:AH}
theorem Ex.asg (hx:ρ.get x=some u) (hu:(match u with| .glob=>False|_=>True)) (hfn:F.fn=true)
 (h:Ev C n F value ρ H (KZ x ρ Q)) (hs:autoParam (swapsWith value (some (.Name x px)) pos.line F.env=pure false) A1):Ex C n F (.Assign [.Name x px] value pos) ρ H Q:=λA g s a G=>
 wpAny_Assign_Name (fH (h A g s a G) λV s₁ v H₁ q r G₁=>G₁.store hx hu (G₁.mu hfn _) r λs' G' kt=>#[.next,_,H₁,q,trivial,G']) hs
noncomputable def led(hb h:Heap)(L dx:Addr):List (Addr×Obj):=(C4 h.objs.size).filterMap λa=>if a=L\/a=dx\/(hb.get? a).isSome then b6 else(h.get? a).map λo=>(a,o)
theorem CL(hp:p∈led hb h L dx):h.get? p.1=some p.2/\p.1≠L/\p.1≠dx/\hb.get? p.1=b6:=by
 unfold led at hp;refine bz (S9.mp hp) λa Z ha=>?_;split at ha
 ·exact gc ha
 ·rename_i hn;obtain⟨o,ho,rfl⟩:=l8.mp ha;refine#[ho,λz=>hn (.inl z),λz=>hn (.inr (.inl z)),?_];cases e:hb.get? a with
  |none=>rfl
  |some o=>exact absurd (.inr (.inr (!congrArg _ `a))) hn
theorem Gu(e:h.get? b=some o)(h1:b≠L)(h2:b≠dx)(h3:hb.get? b=b6):(b,o)∈led hb h L dx:=by
 unfold led;refine S9.mpr #[b,List.mem_range.mpr (m7 e),?_];rw[if_neg (by rintro(z|z|z);exact h1 z;exact h2 z;rw[h3] at z;cases z),e];rfl
inductive Qd(C:Cx)(name:Str)(v:AV)(ρ:Loc)(Q:Out->Loc->AH->Prop)(ov:AV)(H:AH):Prop
 |mk (x D dx:Addr) (fs fs':List (Str×AV)) (e:ov=.ref x) (hx:H x=some (.inst D dx fs)) (k:pY C D name) (l:fs.length<=30) (p:xR fs name v=fs') (q:Q .next ρ (H.set x (.inst D dx fs'))):Qd C name v ρ Q ov H
noncomputable abbrev aeh(C:Cx)(n:Nat)(F:Fm)(o:Expr)(name:Str)(ρ:Loc)(Q:Out->Loc->AH->Prop):AV->AH->Prop:=λv H=>Ev C n F o ρ H (Qd C name v ρ Q)
theorem Ex.CM
 (h:Ev C n F value ρ H (aeh C n F o name ρ Q))
 (hs:autoParam (swapsWith value (some (.Attribute o name pa)) pos.line F.env=pure false) A1):Ex C n F (.Assign [.Attribute o name pa] value pos) ρ H Q:=λA g s a G=>by
 refine plainObj_wpAny_Assign_Attribute (fH (h A g s a G) λV s₁ v H₁ q r G₁=>?_) hs;obtain⟨g₁,dZ,keep,back,_⟩:=G₁.grow;refine fH (q A g₁ s₁ a dZ) λU s₂ ov H₂ z r₂ aR=>z.casesOn λx D dx fs fs' e hx k hl hp q=>?_;rw[e] at r₂;rw[<-hp] at q;refine r₂.bR ?_;have rv:bF s₂.heap V v:=keep _ _ r _ aR.keep;obtain⟨ds,m,o1,o2,fr,hlen⟩:=aR.rel _ _ hx;refine bz aR.loc.ns λmL hns hr=>?_;have hL:F.env.locals∈F.own:=v8;have fdx:cW H₂ dx:=.inr #[x,D,fs,hx];have dxL:dx≠F.env.locals:=λz=>aR.cO _ hL (z▸fdx);have aej:C.hb.get? dx=b6:=by
  cases e:C.hb.get? dx with
  |none=>rfl
  |some o=>have:=aR.base _ _ e;rw[aR.off _ fdx] at this;cases this
 have FF:Fr C.hb F.env.locals s₂.heap mL:=#[hns,aR.qp,aR.fm.above];have NN:News C.hb F.env.locals s₂.heap ((dx,dictOf ds m)::led C.hb s₂.heap F.env.locals dx):=λp hp=>by
  rcases l9.mp hp with rfl|hp
  ·exact#[o2,dxL,aej]
  ·refine pG (CL hp) λp1 p2 p3 p4=>?_;exact#[p1,p2,p4]
 have hsome:(U0 name ds).isSome=true:=by
  unfold U0;split
  ·rfl
  ·rw[fr.noRef];rfl
 have l2:=vW name (Q6 C.w.params name) (.str name (s₂.toks+1)) V ds;have l1:=fr.length;refine set_dict (K:=C.K) (ox:=instObj D dx) (n':=putN name ds m) FF C.KR NN (InstAt.mk (od:=some (dictOf ds m)) o1 rfl rfl o2) rfl k.1 k.2.1 k.2.2.1 k.2.2.2 hsome rfl (Upd.head λp hp=>(CL hp).2.2.1) (!o13 l2 l1 hl) λh' F' N'=>?_;have kp:∀b ob,b≠dx->b≠F.env.locals->s₂.heap.get? b=some ob->h'.get? b=some ob:=λb ob h1 h2 e=>by
  cases e':C.hb.get? b with
  |some o'=>
   have:=aR.qp _ _ e';rw[e] at this;cases this;exact F'.keep _ _ e'
  |none=>exact(N' _ (s7 _ (Gu e h2 h1 e'))).1
 have hdx:h'.get? dx=some (dictOf (putL name (Q6 C.w.params name) (.str name (s₂.toks+1)) V ds) (putN name ds m)):=(N' _ v8).1;have xdx:x≠dx:=λz=>by have:=aR.dx _ _ _ _ hx;rw[<-z,hx] at this;cases this
 have xL:x≠F.env.locals:=λz=>aR.cO _ hL (z▸.inl #[_,hx]);obtain⟨GB,kt⟩:=aR.tocJ.turn (s':={s₂ with heap:=h',toks:=s₂.toks+2}) (o':=.inst D dx (xR fs name v)) hx (.inr #[D,fs,rfl]) (λb=>b=F.env.locals)
  (λb e=>#[e▸aR.dh _ hL,e▸aR.cO _ hL,λxs n q=>aR.loc.fu q (e▸hL)]) (λb ob h1 h2 e=>kp b ob h1 h2 e)
  (λkt=>#[_,_,kp _ _ xdx xL o1,hdx,(fr.kept kt).put _ (rv.mono kt),!o14 l2 l1 hl]) (λD' dx' fs' e=>by cases e;exact#[D,fs,rfl]) (.inr (g9 aR.fm.above (K7 F'.ns.lt))) rfl rfl
 have II:∀c w,c∈F.env.cells.map (·.2)->s₂.heap.IsCell c w->h'.IsCell c w:=λc w hc #[oc,ho,hd]=>by
  refine#[oc,kp _ _ (λz=>?_) (λz=>aR.fm.locs (z▸hc)) ho,hd];rw[z,o2] at ho;cases ho;cases hd
 refine#[.next,ρ,_,q,trivial,back _ _ _ {tocJ:=GB,fm:=aR.fm,loc:=#[#[mL,F'.ns,λy w e=>?_],λc hc=>?_],dh:=aR.dh,cO:=λb hb f=>?_}]
 ·have:=hr _ _ e;cases w with
  |undef=>exact this
  |glob=>exact this
  |val w=>
   refine bz this λW b q=>?_;refine#[W,b.mono kt,?_];rcases q with q|⟨q1,c',q2,q3⟩
   ·exact .inl q
   ·exact .inr #[q1,c',q2,II _ _ (C6 (lookup_mem q2)) q3]
 ·refine xE (aR.loc.cells c hc) λw hw=>?_;exact#[w,II _ _ (aR.fm.sub c hc) hw]
 ·have:=GB.off b f;have h0:=aR.cO b hb;apply h0;rcases f with⟨o,ho⟩|⟨c,D',fs',hc⟩
  ·by_cases hb':b=x
   ·subst hb';exact .inl #[_,hx]
   ·rw[aA hb'] at ho;exact .inl #[_,ho]
  ·by_cases hc':c=x
   ·subst hc';rw[AH.aq] at hc;cases hc;exact fdx
   ·rw[aA hc'] at hc;exact .inr #[_,_,_,hc]
theorem aM.size(r:aM h Vs vs)(l:vs.length<=1000000):Vs.length<=sizeLine:=by rw[r.length,sizeLine_eq];exact ND l
theorem sz(h:Nat.ble a b=true):a<=b:=b7 h
inductive IJ(Q:AV->AH->Prop)(vs:List AV)(H:AH):Prop
 |mk (l:vs.length<=1000000) (q:∀a,H a=b6->Q (.ref a) (H.set a (.list vs))):IJ Q vs H
inductive Qe(Q:AV->AH->Prop)(vs:List AV)(H:AH):Prop
 |mk (l:vs.length<=1000000) (q:Q (.tup vs) H):Qe Q vs H
theorem Ev.list(h:uC C n F es pos ρ H (IJ Q)):Ev C n F (.List es pos) ρ H Q:=λA g s a G=>by
 refine wpAny_List (PW (h A g s a G) λVs s₁ vs H₁ z r G₁=>z.casesOn λhl q=>#[r.size hl,?_]);obtain⟨g₂,dm,_,bh⟩:=G₁.call;refine xA (dm.new (o:=.list vs) (ob:={cls:=.type "list",data:=.seq Vs.toArray}) rfl (λZ Z Z e=>by cases e) λh' k e=>#[Vs,0,e,r.up k]) λG' n0=>?_;exact#[.ref s₁.heap.objs.size,_,q _ n0,.ref _,bh _ _ G']
theorem Ev.tup(h:uC C n F es pos ρ H (Qe Q)):Ev C n F (.Tuple es k pos) ρ H Q:=λA g s a G=>by
 refine wpAny_Tuple (PW (h A g s a G) λVs s₁ vs H₁ z r G₁=>z.casesOn λhl q=>#[r.size hl,?_]);obtain⟨g₂,dm,_,bh⟩:=G₁.call;have kp:∀b o,s₁.heap.get? b=some o->(s₁.heap.push {cls:=.type "tuple",data:=.seq Vs.toArray}).get? b=some o:=λb o e=>j6 _ e;have G':cJ C g₂ H₁ {s₁ with heap:=s₁.heap.push {cls:=.type "tuple",data:=.seq Vs.toArray}}:=dm.up kp (by show _<=(s₁.heap.push _).objs.size;rw[A0];exact O0 _) rfl rfl;exact#[.tup vs,H₁,q,.tup (s9 _ rfl) (r.up kp),bh _ _ G']
end
end
section
section
variable{C:Cx}{n:Nat}{F:Fm}{ρ:Loc}{H:AH}
theorem aB.bL(h:Q (.int (i+j)) H):aB C n (binaryOp .Add) (.int i) (.int j) H Q:=λA g s V U a G r r'=>by
 refine r.bB λZ=>?_;refine r'.bB λZ=>?_;with_reducible exact add_int #[_,_,h,.int _ _,G.at _]
theorem aB.fK(h:Q (.int (i - j)) H):aB C n (binaryOp .Sub) (.int i) (.int j) H Q:=λA g s V U a G r r'=>by
 refine r.bB λZ=>?_;refine r'.bB λZ=>?_;with_reducible exact sub_int #[_,_,h,.int _ _,G.at _]
theorem aB.Lj(hm:IntMulOk i j)(h:Q (.int (i*j)) H):aB C n (binaryOp .Mult) (.int i) (.int j) H Q:=λA g s V U a G r r'=>by
 refine r.bB λZ=>?_;refine r'.bB λZ=>?_;with_reducible exact mul_int #[_,_,h,.int _ _,G.at _] hm
theorem aB.Lk(h0:j≠0)(hs:j.natAbs<1073741824)(h:Q (.int (i.fdiv j)) H):aB C n (binaryOp .FloorDiv) (.int i) (.int j) H Q:=λA g s V U a G r r'=>by
 refine r.bB λZ=>?_;refine r'.bB λZ=>?_;with_reducible exact floordiv_int h0 #[_,_,h,.int _ _,G.at _] (.inl (PyProof.noPylong_small hs))
theorem aB.uG(h0:j≠0)(h:Q (.int (i.fmod j)) H):aB C n (binaryOp .Mod) (.int i) (.int j) H Q:=λA g s V U a G r r'=>by
 refine r.bB λZ=>?_;refine r'.bB λZ=>?_;with_reducible exact mod_int' h0 #[_,_,h,.int _ _,G.at _]
theorem aB.aek(h0:0<=j)(hs:(R8 i:Int)*j<=2 ^ 27)(h:Q (.int (i ^ j.toNat)) H):aB C n (binaryOp .Pow) (.int i) (.int j) H Q:=λA g s V U a G r r'=>by
 refine r.bB λZ=>?_;refine r'.bB λZ=>?_;with_reducible exact pow_int h0 hs #[_,_,h,.int _ _,G.at _]
theorem aB.Ll(h:Q (.int (Q8 i j)) H):aB C n (binaryOp .BitAnd) (.int i) (.int j) H Q:=λA g s V U a G r r'=>by
 refine r.bB λZ=>?_;refine r'.bB λZ=>?_;with_reducible exact and_int #[_,_,h,.int _ _,G.at _]
theorem aB.CN(h0:0<=j)(h:Q (.int (i.fdiv (2 ^ j.toNat))) H):aB C n (binaryOp .RShift) (.int i) (.int j) H Q:=λA g s V U a G r r'=>by
 refine r.bB λZ=>?_;refine r'.bB λZ=>?_;with_reducible exact rshift_int h0 #[_,_,h,.int _ _,G.at _]
theorem kY.fC(h:Q (.int (-i)) H):kY C n (unaryOp .USub) (.int i) H Q:=λA g s V a G r=>by
 refine r.bB λZ=>?_;with_reducible exact neg_int #[_,_,h,.int _ _,G.at _]
theorem kY.ael(h:Q (.bool (Bool.not (b))) H):kY C n (unaryOp .Not) (.bool b) H Q:=λA g s V a G r=>by
 refine r.ig ?_;with_reducible exact not_of (wpAny_truthy_bool #[_,_,h,.bool _,G])
theorem aB.ltI(h:Q (.bool (decide (i<j))) H):aB C n (compareOp .Lt) (.int i) (.int j) H Q:=λA g s V U a G r r'=>by
 refine r.bB λZ=>?_;refine r'.bB λZ=>?_;with_reducible exact lt_int #[_,_,h,.bool _,G]
theorem aB.Qf(h:Q (.bool (decide (j<i))) H):aB C n (compareOp .Gt) (.int i) (.int j) H Q:=λA g s V U a G r r'=>by
 refine r.bB λZ=>?_;refine r'.bB λZ=>?_;with_reducible exact gt_int #[_,_,h,.bool _,G]
theorem aB.leI(h:Q (.bool (decide (i<=j))) H):aB C n (compareOp .LtE) (.int i) (.int j) H Q:=λA g s V U a G r r'=>by
 refine r.bB λZ=>?_;refine r'.bB λZ=>?_;with_reducible exact PyProof.Rows.le_int #[_,_,h,.bool _,G]
theorem aB.IK(h:Q (.bool (decide (j<=i))) H):aB C n (compareOp .GtE) (.int i) (.int j) H Q:=λA g s V U a G r r'=>by
 refine r.bB λZ=>?_;refine r'.bB λZ=>?_;with_reducible exact PyProof.Rows.ge_int #[_,_,h,.bool _,G]
theorem aB.Gv(h:Q (.bool (decide (i=j))) H):aB C n (compareOp .Eq) (.int i) (.int j) H Q:=λA g s V U a G r r'=>by
 refine r.bB λZ=>?_;refine r'.bB λZ=>?_;with_reducible exact eq_int #[_,_,h,.bool _,G]
theorem aB.pH(h:Q (.bool (Bool.not (decide (i=j)))) H):aB C n (compareOp .NotEq) (.int i) (.int j) H Q:=λA g s V U a G r r'=>by
 refine r.bB λZ=>?_;refine r'.bB λZ=>?_;with_reducible exact ne_int #[_,_,h,.bool _,G]
theorem aB.eqB(h:Q (.bool (i==j)) H):aB C n (compareOp .Eq) (.bool i) (.bool j) H Q:=λA g s V U a G r r'=>by
 refine r.ig ?_;refine r'.ig ?_;with_reducible exact eq_bool #[_,_,h,.bool _,G]
theorem aB.fJ(h:Q (.bool (decide (x=y))) H):aB C n (compareOp .Eq) (.str x) (.str y) H Q:=λA g s V U a G r r'=>by
 refine r.fL λZ=>?_;refine r'.fL λZ=>?_;with_reducible exact PyProof.Rows.eq_str #[_,_,by rw[show(x==y)=decide (x=y) from rfl];exact h,.bool _,G]
theorem aB.MQ(h:Q (.bool (Bool.not (decide (x=y)))) H):aB C n (compareOp .NotEq) (.str x) (.str y) H Q:=λA g s V U a G r r'=>by
 refine r.fL λZ=>?_;refine r'.fL λZ=>?_;with_reducible exact PyProof.Rows.ne_str #[_,_,by rw[show(x !=y)= Bool.not (decide (x=y) )from rfl];exact h,.bool _,G]
theorem aB.gX(hs:x.length+y.length<=10000000)(h:Q (.str (x++y)) H):aB C n (binaryOp .Add) (.str x) (.str y) H Q:=λA g s V U a G r r'=>by
 refine r.fL λZ=>?_;refine r'.fL λZ=>?_;with_reducible exact PyProof.Rows.add_str (λt' tk=>#[_,_,h,.str _ _,G.at _]) (by rw[sizeLine_eq];exact o16 hs)
theorem aB.inS(h:Q (.bool (Bool.not ((F6 x y 0 x.length 1).isEmpty))) H):aB C n (compareOp .In) (.str y) (.str x) H Q:=λA g s V U a G r r'=>by
 refine r.fL λZ=>?_;refine r'.fL λZ=>?_;with_reducible exact PyProof.Rows.in_str #[_,_,h,.bool _,G]
theorem aB.aem(h:Q (.bool (Bool.not ((Bool.not ((F6 x y 0 x.length 1).isEmpty))))) H):aB C n (compareOp .NotIn) (.str y) (.str x) H Q:=λA g s V U a G r r'=>by
 refine r.fL λZ=>?_;refine r'.fL λZ=>?_;with_reducible exact PyProof.Rows.notIn_str #[_,_,h,.bool _,G]
noncomputable def AV.isNone:AV->Bool
 | .none=>true
 |_=>false
theorem vX(a:bF h V v):(V==.none)=v.isNone:=by cases a<;>rfl
theorem aB.Fi(h:Q (.bool v.isNone) H):aB C n (compareOp .Is) v .none H Q:=λA g s V U a G r r'=>by
 refine r'.CD ?_;exact is_none #[_,_,by rw[vX r];exact h,bF.bool _,G]
theorem aB.Lm(h:Q (.bool (Bool.not (v.isNone))) H):aB C n (compareOp .IsNot) v .none H Q:=λA g s V U a G r r'=>by
 refine r'.CD ?_;exact isNot_none #[_,_,by rw[vX r];exact h,bF.bool _,G]
mutual
inductive Den(C:Cx)(H:AH):AV->PyData->Prop
 |none:Den C H .none .none
 |bool (b:Bool):Den C H (.bool b) (.bool b)
 |int (i:Int):Den C H (.int i) (.int i)
 |str (x:Str):Den C H (.str x) (.str x)
 |tup {vs:List AV} {ds:List PyData}:nK C H vs ds->Den C H (.tup vs) (.tuple ds)
 |list {a:Addr} {vs:List AV} {ds:List PyData}:H a=some (.list vs)->nK C H vs ds->Den C H (.ref a) (.list ds)
 |base {a:Addr} {d:PyData} {as:List Addr}:Reads C.hb (.ref a) d as->Den C H (.ref a) d
inductive nK(C:Cx)(H:AH):List AV->List PyData->Prop
 |nil:nK C H [] []
 |cons {v:AV} {vs:List AV} {d:PyData} {ds:List PyData}:Den C H v d->nK C H vs ds->nK C H (v::vs) (d::ds)
end
theorem Den.reads(G:cJ C g H s)(x:Den C H v d)(r:bF s.heap V v):∃as,Reads s.heap V d as:=
 Den.rec (motive_1:=λv d Z=>∀V,bF s.heap V v->∃as,Reads s.heap V d as) (motive_2:=λv d Z=>∀V,aM s.heap V v->∃as,ReadsAll s.heap V d as)
  (λZ r=>r.CD #[_,.none]) (λZ Z r=>r.ig #[_,.bool _]) (λZ Z r=>r.bB λZ=>#[_,.int _ _]) (λZ Z r=>r.fL λZ=>#[_,.str _ _])
  (λZ i Z r=>r.tupI λZ Z e q=>(i _ q).elim λas z=>#[as,reads_tuple_at e rfl rfl z])
  (λe Z i Z r=>r.bR <| KS.casesOn (G.rel _ _ e) λxs m o q=>(i _ q).elim λas z=>#[_,reads_list_at o rfl rfl z])
  (λq Z r=>r.bR #[_,PyProof.Rows.Reads.keeps G.qp q])
  (λZ r=>r.cC #[_,.nil]) (λZ Z i j Z r=>r.aX λZ Z a q=>(i _ a).elim λZ z=>(j _ q).elim λZ y=>#[_,.cons z y]) x V r
theorem ju.deep{n:Nat}{A:Around}(a:ju n A){d e:Nat}(h:d<=60\/e<=60):A.units+1+min d e<cLine:=adP a.units h
theorem aB.eqD(hv:Den C H v d)(hu:Den C H u e)(cd:d.canLay0=true)(ce:e.canLay0=true)(hd:d.depth<=60)(h:Q (.bool (I7 d e)) H):aB C n (compareOp .Eq) v u H Q:=λA g s V U a G r r'=>by
 refine xE (hv.reads G r) λas z=>?_;refine xE (hu.reads G r') λbs y=>?_;exact PySem.SeqAt.compareEq_reads z y cd ce (by have:=a.deep (d:=d.depth) (e:=e.depth) (.inl hd);exact o17 this) #[_,_,h,.bool _,G]
theorem aB.CO{v u:AV}{d e:PyData}{Q:AV->AH->Prop}(hv:Den C H v d)(hu:Den C H u e)(cd:d.canLay0=true)(ce:e.canLay0=true)(hd:d.depth<=60)(h:Q (.bool (Bool.not (I7 d e))) H):aB C n (compareOp .NotEq) v u H Q:=λA g s V U a G r r'=>by
 refine xE (hv.reads G r) λas z=>?_;refine xE (hu.reads G r') λbs y=>?_;exact PySem.SeqAt.compareNe_reads z y cd ce (by have:=a.deep (d:=d.depth) (e:=e.depth) (.inl hd);exact o17 this) #[_,_,h,.bool _,G]
theorem aB.inT{v u:AV}{d:PyData}{es:List PyData}{Q:AV->AH->Prop}(hv:Den C H v d)(hu:Den C H u (.tuple es))(cd:d.canLay0=true)(ce:r8 es=true)(hd:d.depth<=60)(h:Q (.bool (es.any λy=>I7 y d)) H):aB C n (compareOp .In) v u H Q:=λA g s V U a G r r'=>by
 refine xE (hv.reads G r) λas z=>?_;refine xE (hu.reads G r') λbs y=>?_;exact PySem.SeqAt.in_tuple_reads y z ce cd (a.deep (.inr hd)) #[_,_,h,.bool _,G]
theorem aB.aen{v u:AV}{d:PyData}{es:List PyData}{Q:AV->AH->Prop}(hv:Den C H v d)(hu:Den C H u (.tuple es))(cd:d.canLay0=true)(ce:r8 es=true)(hd:d.depth<=60)(h:Q (.bool (Bool.not (es.any λy=>I7 y d))) H):aB C n (compareOp .NotIn) v u H Q:=λA g s V U a G r r'=>by
 refine xE (hv.reads G r) λas z=>?_;refine xE (hu.reads G r') λbs y=>?_;exact PySem.SeqAt.notIn_tuple_reads y z ce cd (a.deep (.inr hd)) #[_,_,h,.bool _,G]
theorem aB.inL{v u:AV}{d:PyData}{es:List PyData}{Q:AV->AH->Prop}(hv:Den C H v d)(hu:Den C H u (.list es))(cd:d.canLay0=true)(ce:r8 es=true)(hd:d.depth<=60)(h:Q (.bool (es.any λy=>I7 y d)) H):aB C n (compareOp .In) v u H Q:=λA g s V U a G r r'=>by
 refine xE (hv.reads G r) λas z=>?_;refine xE (hu.reads G r') λbs y=>?_;exact PySem.SeqAt.in_list_reads y z ce cd (a.deep (.inr hd)) #[_,_,h,.bool _,G]
theorem aB.aeo(hv:Den C H v d)(hu:Den C H u (.list es))(cd:d.canLay0=true)(ce:r8 es=true)(hd:d.depth<=60)(h:Q (.bool (Bool.not (es.any λy=>I7 y d))) H):aB C n (compareOp .NotIn) v u H Q:=λA g s V U a G r r'=>by
 refine xE (hv.reads G r) λas z=>?_;refine xE (hu.reads G r') λbs y=>?_;exact PySem.SeqAt.notIn_list_reads y z ce cd (a.deep (.inr hd)) #[_,_,h,.bool _,G]
theorem aM.get{h:Heap}{Vs:List Value}{vs:List AV}{k:Nat}{v:AV}(r:aM h Vs vs)(e:vs[k]? =some v):∃V,Vs[k]? =some V/\bF h V v:=
 aM.ind (P:=λVs vs=>∀k:Nat,vs[k]? =some v->∃V,Vs[k]? =some V/\bF h V v) (λZ e=>!gc e) (λa Z i k=>Nat.casesOn k (λe=>#[_,rfl,m9 e▸a]) i) r k e
theorem aH{h:Heap}{a:Addr}{xs:List Value}{m:Nat}(e:h.get? a=some #[.type "list",b6,.seq xs.toArray m,#[]]):h.IsList a xs.toArray:=#[_,e,rfl,m,rfl]
def aF(C:Cx)(n:Nat)(slice:Expr)(v i:AV)(H:AH)(Q:AV->AH->Prop):Prop:=
 ∀A g s V I value,ju n A->cJ C g H s->bF s.heap V v->bF s.heap I i->Wp C A (subscriptTail value slice V I) (PV C g Q) s
noncomputable abbrev Qg(C:Cx)(n:Nat)(slice:Expr)(v:AV)(Q:AV->AH->Prop):AV->AH->Prop:=λi H=>aF C n slice v i H Q
noncomputable abbrev aep(C:Cx)(n:Nat)(F:Fm)(slice:Expr)(ρ:Loc)(Q:AV->AH->Prop):AV->AH->Prop:=λv H=>Ev C n F slice ρ H (Qg C n slice v Q)
theorem Ev.sub(h:Ev C n F value ρ H (aep C n F slice ρ Q)):Ev C n F (.Subscript value slice pos) ρ H Q:=λA g s a G=>by
 refine Subscript_ (fH (h A g s a G) λV s₁ v H₁ q r₁ G₁=>?_);obtain⟨g₁,dZ,keep,back,_⟩:=G₁.grow;refine fH (q A g₁ s₁ a dZ) λU s₂ u H₂ q₂ r₂ aR=>?_;obtain⟨g₂,dm,_,bh⟩:=aR.call;exact zE (q₂ A g₂ s₂ V U value a dm (keep _ _ r₁ _ aR.keep) r₂) λZ s' v H' q r G'=>#[v,H',q,r,back _ _ _ (bh _ _ G')]
def vY(slice:Expr):Prop:=∀o i,subscripted slice false o i=operate [o,i] (getItem o i)
theorem aF.list{slice:Expr}{a:Addr}{vs:List AV}{k:Int}{v:AV}{Q:AV->AH->Prop}(hs:vY slice)(ha:H a=some (.list vs))(h0:0<=k)(hk:vs[k.toNat]? =some v)(hl:vs.length<=1000000)(h:Q v H):aF C n slice (.ref a) (.int k) H Q:=λA g s V I value Z G r r'=>by
 refine r.bR ?_;refine r'.bB λZ=>?_;obtain⟨xs,m,o,rr⟩:=G.rel _ _ ha;refine bz (rr.get hk) λV hV aV=>?_;have lt:k.toNat<vs.length:=by
  have:=c9.mp hk;exact this.1
 exact tail_any (aH o).typeIs slot_list_getitem.lookup (wpAny_getItem_list (aH o) h0 (!Pq lt hl) (by simpa using hV) #[_,_,h,aV,G]) (hs _ _)
end
end
section
structure Mv(fp:List Addr)(s s':Shared):Prop where
 keep:∀b o,b∉fp->s.heap.get? b=some o->s'.heap.get? b=some o
 gens:s'.gens=s.gens
 os:s'.os=s.os
abbrev iM(fp:List Addr)(h:Heap):Prop:=∀b∈fp,∃o,h.get? b=some o/\(o.cls≠.type "tuple"\/∀xs n,o.data≠.seq xs n)/\∀v,o.data≠.cell v
theorem iM.no(t:iM fp h)(hb:b∈fp)(e:h.get? b=some o):(o.cls≠.type "tuple"\/∀xs n,o.data≠.seq xs n)/\∀v,o.data≠.cell v:=by
 refine bz (t b hb) λo' e' q=>?_;rw[e] at e';cases e';exact q
theorem cJ.move{C:Cx}{g:Fz}{H:AH}{s s':Shared}{fp:List Addr}(G:cJ C g H s)(m:Mv fp s s')(hg:∀b∈fp,g b=b6)(hH:∀b∈fp,¬cW H b)(hT:iM fp s.heap)(hs:C.hb.objs.size<=s'.heap.objs.size):cJ C g H s'/\bZ s.heap s'.heap:=by
 have kt:bZ s.heap s'.heap:=λb xs n e=>m.keep _ _ (λx=>!(hT.no x e).1.elim (· rfl) (· _ _ rfl)) e;refine#[{base:=G.base,keep:=λb o e=>m.keep _ _ (λx=>!gc (E1 (G0 (hg b x)) e)) (G.keep _ _ e),rel:=λa o e=>?_,off:=G.off,dx:=G.dx,inj:=G.inj,gens:=m.gens.trans G.gens,os:=m.os.trans G.os,size:=hs,sys:=G.sys},kt];refine(G.rel a o e).kept (λob=>m.keep _ _ λx=>hH _ x (.inl #[o,e])) (λD dx fs eo ob=>m.keep _ _ λx=>hH _ x (.inr #[a,D,fs,eo▸e])) kt
structure d_(F:Fm)(g:Fz)(H:AH)(b:Addr):Prop where
 g:g b=b6
 H:¬cW H b
 F:b∉F.own
theorem Gd.move{C:Cx}{g:Fz}{F:Fm}{ρ:Loc}{H:AH}{s s':Shared}{fp:List Addr}(G:Gd C g F ρ H s)(m:Mv fp s s')(ho:∀b∈fp,d_ F g H b)(hT:iM fp s.heap):Gd C g F ρ H s'/\bZ s.heap s'.heap:=by
 obtain⟨mm,⟨o,es,ep,hob,hd,hk,hf⟩,hr⟩:=G.loc.ns;have hL:F.env.locals∉fp:=λx=>(ho _ x).F v8;have CP:=m.keep _ _ hL hob;refine xA (G.tocJ.move m (λb x=>(ho b x).g) (λb x=>(ho b x).H) hT (g9 G.fm.above (K7 (m7 CP)))) λG' kt=>?_;refine#[{tocJ:=G',fm:=G.fm,loc:=#[#[mm,#[o,es,ep,CP,hd,hk,hf],λx v e=>?_],λc hc=>?_],dh:=G.dh,cO:=G.cO},kt]
 ·have hr:=hr x v e;cases v with
  |undef=>exact hr
  |glob=>exact hr
  |val v=>
   refine bz hr λV a hh=>?_;refine#[V,a.mono kt,?_];rcases hh with hh|⟨hk,c,hc,oc,hoc,hdc⟩
   ·exact .inl hh
   ·exact .inr #[hk,c,hc,oc,m.keep _ _ (λx=>!(hT.no x hoc).2 _ hdc) hoc,hdc]
 ·refine lC (G.loc.cells c hc) λv oc hoc hdc=>?_;exact#[v,oc,m.keep _ _ (λx=>(ho _ x).F (s7 _ hc)) hoc,hdc]
structure Wk(C:Cx)(target:Expr)(it:Value)(fp:List Addr)(vs:List AV)(mw:Fz->Prop)(Ok:AH->Prop)(St:Nat->Heap->Prop):Prop where
 frame:∀i h h',St i h->(∀b∈fp,∀o,h.get? b=some o->h'.get? b=some o)->St i h'
 shape:∀i h,St i h->iM fp h
 item:∀i A g H s v,A.handled=b6->vs[i]? =some v->St i s.heap->cJ C g H s->mw g->Ok H->(∀b∈fp,¬cW H b)->Wp C A (pyNext it) (λr s₁=>∃V,r=some V/\Wp C A (letOwnedTupleGo target it V) (λZ s'=>Mv fp s s'/\bF s'.heap V v/\St (i+1) s'.heap) s₁) s
 vZ:∀g g':Fz,(∀b o,g b=some o->g' b=some o)->mw g->mw g'
 self:∀i A s (Q:Value->Shared->Prop),A.handled=b6->St i s.heap->Q it s->Wp C A (pyIter it) Q s
 done:∀A g H s,A.handled=b6->St vs.length s.heap->cJ C g H s->mw g->Ok H->Wp C A (pyNext it) (λr s'=>r=b6/\Mv fp s s') s
inductive IL(C:Cx)(g g':Fz)(F:Fm)(ρ:Loc)(H:AH)(s:Shared)(fp:List Addr):Prop
 |mk (G:Gd C g' F ρ H s) (back:∀ρ' H' s',Gd C g' F ρ' H' s'->Gd C g F ρ' H' s') (o:∀b∈fp,d_ F g' H b):IL C g g' F ρ H s fp
theorem Gd.zH(G:Gd C g F ρ H s)(ho:∀b∈fp,d_ F g H b):
 IL C g (aE s.heap H (F.own++fp)) F ρ H s fp:=by
 have hle:∀b o,g b=some o->aE s.heap H (F.own++fp) b=some o:=λb o e=>
  bq (G.keep _ _ e) (λf=>!gc (E1 (G0 (G.off b f)) e)) (λf=>by
   rcases s6.mp f with f|f
   ·exact gc (E1 (G0 (G.dh b f)) e)
   ·exact gc (E1 (G0 ((ho b f).g)) e))
 refine#[?_,λρ' H' s' G'=>?_,λb hb=>#[by unfold aE;rw[if_pos (.inr (u5 _ hb))],(ho b hb).H,(ho b hb).F]]
 ·exact{base:=λb o e=>hle _ _ (G.base _ _ e),keep:=λb o e=>(ku e).1,rel:=G.rel,off:=λb f=>by unfold aE;rw[if_pos (.inl f)],dx:=G.dx,inj:=G.inj,gens:=G.gens,os:=G.os,size:=G.size,sys:=G.sys,fm:=G.fm,loc:=G.loc,dh:=λb hb=>by unfold aE;rw[if_pos (.inr (B0 _ hb))],cO:=G.cO}
 ·exact{tocJ:=G'.tocJ.back hle G.base,fm:=G.fm,loc:=G'.loc,dh:=G.dh,cO:=G'.cO}
inductive ItQ(C:Cx)(F:Fm)(target:Expr)(g:Fz)(ρ:Loc)(Q:List AV->(AH->Prop)->AH->Prop)(it:Value)(s₂:Shared):Prop
 |mk (vs:List AV) (mw:Fz->Prop) (Ok:AH->Prop) (H₁:AH) (fp:List Addr) (St:Nat->Heap->Prop) (q:Q vs Ok H₁) (w:Wk C target it fp vs mw Ok St) (st:St 0 s₂.heap) (G:Gd C g F ρ H₁ s₂) (o:∀b∈fp,d_ F g H₁ b) (gk:mw (aE s₂.heap H₁ (F.own++fp))):ItQ C F target g ρ Q it s₂
inductive AsQ(C:Cx)(F:Fm)(g:Fz)(Q:Loc->Prop)(H:AH)(s s':Shared):Prop
 |mk (ρ':Loc) (q:Q ρ') (G:Gd C g F ρ' H s') (k:bZ s.heap s'.heap) (l:∀b,d_ F g H b->∀o,s.heap.get? b=some o->s'.heap.get? b=some o):AsQ C F g Q H s s'
def aZ(C:Cx)(n:Nat)(F:Fm)(target iter:Expr)(ρ:Loc)(H:AH)(Q:List AV->(AH->Prop)->AH->Prop):Prop:=
 ∀A g s,ju n A->Gd C g F ρ H s->Wp C A (eval iter F.env) (λx s₁=>Wp C A (pyIter x) (ItQ C F target g ρ Q) s₁) s
def b_(C:Cx)(F:Fm)(target:Expr)(v:AV)(ρ:Loc)(H:AH)(Q:Loc->Prop):Prop:=
 ∀A g s V,A.handled=b6->Gd C g F ρ H s->bF s.heap V v->Wp C A (assign target F.env V) (λZ=>AsQ C F g Q H s) s
theorem Gd.mz(G:Gd C g F ρ H s)(hb:b∈F.own):∃o,s.heap.get? b=some o:=by
 unfold Fm.own at hb;rcases l9.mp hb with rfl|hm
 ·obtain⟨m,⟨o,es,ep,ho,_⟩,_⟩:=G.loc.ns;exact#[o,ho]
 ·refine lC (G.loc.cells _ hm) λv o ho hd=>?_;exact#[o,ho]
theorem Gd.up(G:Gd C g F ρ H s)(k:∀b o,s.heap.get? b=some o->s'.heap.get? b=some o)(hg:autoParam (s'.gens=s.gens) A1)(ho:autoParam (s'.os=s.os) A1):Gd C g F ρ H s':=
 (G.move (fp:=[]) #[λb o Z e=>k b o e,hg,ho] (λb hb=>by cases hb) (λb hb=>by cases hb)).1
section
variable{C:Cx}{n:Nat}{F:Fm}{ρ:Loc}{H:AH}
noncomputable abbrev Qh(Inv:Nat->Loc->AH->Prop)(k:Nat)(Q:Out->Loc->AH->Prop):Out->Loc->AH->Prop:=λo cB cF=>match o with| .next=>Inv (k+1) cB cF| .cont=>Inv (k+1) cB cF| .brk=>Q .next cB cF| .ret v=>Q (.ret v) cB cF
noncomputable abbrev mC(C:Cx)(n:Nat)(F:Fm)(body:List Stmt)(H:AH)(K:Out->Loc->AH->Prop):Loc->Prop:=λρ=>aG C n F body ρ H K
inductive nM(C:Cx)(n:Nat)(F:Fm)(target:Expr)(body:List Stmt)(ρ:Loc)(Q:Out->Loc->AH->Prop)(vs:List AV)(Ok:AH->Prop)(H₁:AH):Prop
 |mk (Inv:Nat->Loc->AH->Prop) (i0:Inv 0 ρ H₁) (pI:∀k ρ' H',k<=vs.length->Inv k ρ' H'->Ok H')
  (turn:∀k v ρ' H',vs[k]? =some v->Inv k ρ' H'->b_ C F target v ρ' H' (mC C n F body H' (Qh Inv k Q)))
  (fin:∀ρ' H',Inv vs.length ρ' H'->Q .next ρ' H'):nM C n F target body ρ Q vs Ok H₁
theorem d_.at{g g':Fz}{H' cF:AH}{b:Addr}{o:Obj}{s:Shared}(ow:d_ F g H' b)(e:g' b=some o)(G:cJ C g' cF s):d_ F g cF b:=#[ow.g,λf=>(!gc (E1 (G0 (G.off b f)) e)),ow.F]
inductive AW(C:Cx)(g:Fz)(F:Fm)(Inv:Nat->Loc->AH->Prop)(N:Nat)(St:Nat->Heap->Prop)(fp:List Addr)(m:Nat)(s':Shared):Prop
 |mk (k:Nat) (ρ':Loc) (H':AH) (e:m+k=N) (iv:Inv k ρ' H') (st:St k s'.heap) (G:Gd C g F ρ' H' s') (o:∀b∈fp,d_ F g H' b):AW C g F Inv N St fp m s'
noncomputable abbrev IM(C:Cx)(g:Fz)(F:Fm)(A:Around)(Q:Out->Loc->AH->Prop):Result->Shared->Prop:=λr s'=>match r with
 | .ok f=>PF C g F Q f s'
 | .error e=>cameBackBy (model C.prog C.w) A F.env (λZ Z=>False) e s'
theorem CQ(e:m+k=N)(h:k<N):∃j,m=j+1:=by
 cases m with
 |zero=>rw[Nat.zero_add] at e;exact absurd (e▸h) (C5 _)
 |succ j=>exact#[j,rfl]
theorem zI(e:m+k=N)(h:k<N):m - 1<m:=(CQ e h).elim λj q=>q▸J5 j
theorem nx_eq(e:m+k=N)(h:k<N):m - 1+(k+1)=N:=(CQ e h).elim λj q=>by subst q;rw[X0,<-e,Nat.add_assoc,Nat.add_comm 1 k]
section
variable{g g₀:Fz}{A:Around}{s:Shared}{target:Expr}{body:List Stmt}{it:Value}{fp:List Addr}{vs:List AV}{mw:Fz->Prop}{Ok:AH->Prop}{St:Nat->Heap->Prop}{Inv:Nat->Loc->AH->Prop}{Q:Out->Loc->AH->Prop}
theorem AW.next (W:Wk C target it fp vs mw Ok St) {g':Fz} {m k:Nat} {s₅ s₆:Shared} {cB:Loc} {H' cF:AH} (hm:m+k=vs.length) (hk:k<vs.length) (st:St (k+1) s₅.heap) (kk:∀b∈fp,∀o,s₅.heap.get? b=some o->g' b=some o) (nN:Gd C g' F cB cF s₆) (G₀:Gd C g₀ F cB cF s₆) (ho:∀b∈fp,d_ F g₀ H' b)
 (q:Inv (k+1) cB cF):∃m',m'<m/\AW C g₀ F Inv vs.length St fp m' s₆:=
 #[m - 1,zI hm hk,k+1,cB,cF,nx_eq hm hk,q,W.frame _ _ _ st λb hb o e=>nN.keep _ _ (kk b hb o e),G₀,λb hb=>(W.shape _ _ st b hb).elim λo x=>(ho b hb).at (kk b hb o x.1) nN.tocJ]
theorem CR (a:ju n A) (W:Wk C target it fp vs mw Ok St) (jx:mw g₀) (pI:∀k ρ' H',k<=vs.length->Inv k ρ' H'->Ok H')
 (turn:∀k v ρ' H',vs[k]? =some v->Inv k ρ' H'->b_ C F target v ρ' H' (mC C n F body H' (Qh Inv k Q))) (fin:∀ρ' H',Inv vs.length ρ' H'->Q .next ρ' H')
 (jy:∀ρ' H' s',Gd C g₀ F ρ' H' s'->Gd C g F ρ' H' s') (x:AW C g₀ F Inv vs.length St fp vs.length s):codeAny (model C.prog C.w) A (.forLoop target it body [] F.env) (IM C g F A Q) s:=by
 refine codeAny_forLoop_any (AW C g₀ F Inv vs.length St fp) (λm s' x=>x.casesOn λk ρ' H' e iv st G' ho=>?_) vs.length x;cases hv:vs[k]? with
 |none=>
  have hk:k=vs.length:=Nat.le_antisymm (e▸Nat.le_add_left _ _) (X8.mp hv);refine wpAny_mono (W.done A g₀ H' s' a.handled (hk▸st) G'.tocJ jx (pI _ _ _ (I5 hk) iv)) (λr s₃ x=>?_) λZ Z x=>x.elim;rw[x.1];exact wpAny_execs_nil #[.next,ρ',H',fin _ _ (hk▸iv),trivial,jy _ _ _ (G'.move x.2 ho (W.shape _ _ st)).1]
 |some v=>
  have hk:k<vs.length:=(c9.mp hv).1;refine wpAny_mono (W.item k A g₀ H' s' v a.handled hv st G'.tocJ jx (pI _ _ _ (K7 hk) iv) λb hb=>(ho b hb).H) (λr s₃ x=>x.elim λV x=>?_) λZ Z x=>x.elim;rw[x.1];refine wpAny_mono x.2 (λZ s₄ x=>?_) λZ Z x=>x.elim;refine wpAny_mono (turn k v ρ' H' hv iv A g₀ s₄ V a.handled (G'.move x.1 ho (W.shape _ _ st)).1 x.2.1) (λZ s₅ y=>y.casesOn λoV q v_ Z keep=>?_) λZ Z x=>x.elim;obtain⟨g',wc,_,back,kept⟩:=v_.grow;refine wpAny_mono (q A g' s₅ a wc) (λfl s₆ y=>y.casesOn λo cB cF q fr=>?_) λZ Z x=>x.elim;have next:=AW.next (Inv:=Inv) W e hk (W.frame _ _ _ x.2.2 λb hb o e=>keep b (ho b hb) o e) (λb hb o e=>kept b o e (ho b hb).H (ho b hb).F) fr.2 (back _ _ _ fr.2) ho
  cases fl<;>cases o<;>first|exact fr.1.elim|exact next q|exact#[_,_,_,q,trivial,jy _ _ _ (back _ _ _ fr.2)]|exact#[_,_,_,q,fr.1,jy _ _ _ (back _ _ _ fr.2)]
end
theorem Ex.gY
 (h:aZ C n F target iter ρ H (nM C n F target body ρ Q)) (hs:autoParam (∀x,foldedSetIterable iter F.env x=pure x) A1):Ex C n F (.For target iter body [] pos) ρ H Q:=λA g s a G=>by
 refine wpAny_For (wm (h A g s a G) λx s₁ q=>wm q λit s₂ x=>x.casesOn λvs mw Ok H₁ fp St q W st aR ho jx=>q.casesOn λInv i0 pI turn fin=>?_) hs;obtain⟨aR,jy,ho⟩:=aR.zH ho;exact CR a W jx pI turn fin jy #[0,ρ,H₁,rfl,i0,st,aR,ho]
theorem b_.name(hx:ρ.get x=some u)(hu:(match u with| .glob=>False|_=>True))(hst:F.env.kindOf x=some .local\/(F.env.kindOf x≠some .free/\∀c,F.env.cells.lookup x=some c->c∈F.co))(h:Q (ρ.set x (.val v))):b_ C F (.Name x p) v ρ H Q:=λA g s V hh G a=>by
 obtain⟨g',G',_,back,kept⟩:=G.grow;exact wpAny_assign_Name (G'.store hx hu hst a λs' G' kt=>#[_,h,back _ _ _ G',kt,λb o ob e=>G'.keep _ _ (kept _ _ e o.H o.F)])
theorem b_.Qi{x:Str}{p:Pos}{v:AV}{u:LV}{Q:Loc->Prop}(hx:ρ.get x=some u)(hfn:F.fn=true)(h:Q (ρ.set x (.val v)))(hu:autoParam (match u with| .glob=>False|_=>True) A2):b_ C F (.Name x p) v ρ H Q:=λA g s V hh G a=>b_.name hx hu (G.mu hfn _) h A g s V hh G a
theorem ExtBut.mv{a:Addr}{h':Heap}{fp:List Addr}{s:Shared}(e:Heap.ExtBut a s.heap h')(ha:a∈fp){tk:Nat}:Mv fp s {s with heap:=h',toks:=tk}:=#[λb o hb q=>e b o (λz=>hb (z▸ha)) q,rfl,rfl]
theorem Gd.eV(G:Gd C g F ρ H s)(hb:s.heap.objs.size<=b):d_ F g H b:=by
 have nw:s.heap.get? b=b6:=by
  cases e:s.heap.get? b with
  |none=>rfl
  |some o=>exact absurd (m7 e) (I4.mpr hb)
 refine#[?_,λf=>?_,λf=>?_]
 ·cases e:g b with
  |none=>rfl
  |some o=>have:=G.keep _ _ e;rw[nw] at this;cases this
 ·refine xE (G.tocJ.cE f) λo e=>?_;rw[nw] at e;cases e
 ·refine xE (G.mz f) λo e=>?_;rw[nw] at e;cases e
def bu(C:Cx)(target:Expr):Prop:=∀r V A s (Q:Unit->Shared->Prop) (ob:Obj) nm,s.heap.get? r=some ob->ob.cls=.type nm->(nm="list_iterator"\/nm="tuple_iterator"\/nm="range_iterator"\/nm="str_ascii_iterator")->Q () s->Wp C A (letOwnedTupleGo target (.ref r) V) Q s
theorem bu.name:bu C (.Name x p):=λr V A s Q ob nm Z Z Z q=>wpAny_pure q
theorem bu.tup:bu C (.Tuple es k p):=λr V A s Q ob nm e hc hn q=>by
 cases V with
 |ref a=>
  show Wp C A (load r>>=_) Q s;refine wpAny_bind (wpAny_load e ?_);rw[hc];cases ob.data with
  |fields vs=>
   dsimp only;rw[if_neg]
   ·exact wpAny_pure q
   ·rcases hn with rfl|rfl|rfl|rfl<;>exact λq=>by cases q
  |_=>exact wpAny_pure q
 |_=>exact wpAny_pure q
inductive Ln(P:List AV->(AH->Prop)->AH->Prop)(v:AV)(H:AH):Prop
 |mk (a:Addr) (vs:List AV) (e:v=.ref a) (h:H a=some (.list vs)) (q:P vs (λH'=>H' a=some (.list vs)) H):Ln P v H
theorem aZ.list (h:Ev C n F iter ρ H (Ln Q))
 (ht:bu C target):aZ C n F target iter ρ H Q:=λA g s a G=>by
 refine fH (h A g s a G) λV s₁ v H₁ z r₁ G₁=>z.casesOn λl vs e hl q=>?_;rw[e] at r₁;refine r₁.bR ?_;obtain⟨xs,m,o,rr⟩:=G₁.rel _ _ hl;refine wpAny_pyIter_list (aH o) ?_;have kp:∀b o,s₁.heap.get? b=some o->(s₁.heap.push {cls:=.type "list_iterator",data:=.fields (List.toArray [.ref l,.int 0 0])}).get? b=some o:=λb o e=>j6 _ e;refine#[vs,λZ=>True,_,H₁,[s₁.heap.objs.size],λi h=>h.IsListIter s₁.heap.objs.size l i,q,?_,#[_,s9 _ rfl,rfl,rfl],G₁.up kp,λb hb=>G₁.eV (by rw[j0.mp hb];exact r7 _),trivial];refine{frame:=λi h h' st k=>?_,shape:=λi h st b hb=>?_,vZ:=λZ Z Z q=>q,item:=λi A g H s v hh hv st G Z hl nf=>?_,self:=λi A s Q Z st q=>wpAny_pyIter_listiter st q,done:=λA g H s hh st G Z hl=>?_}
 ·exact st.at λo e=>k _ (!.head _) o e
 ·refine f_ st λob e c d=>?_;rw[j0.mp hb];exact#[ob,e,.inl (by rw[c];simp),λv q=>by rw[d] at q;cases q]
 ·obtain⟨xs,m,o,rr⟩:=G.rel _ _ hl;refine bz (rr.get hv) λV hV aV=>?_;refine wpAny_pyNext_list_item st (aH o) (x:=V) (by simpa using hV) λh' it' sb=>#[V,rfl,?_];have mv:Mv [s₁.heap.objs.size] s {s with heap:=h'}:=ExtBut.mv sb.extBut (!.head _) (tk:=s.toks);refine f_ (id it') λob e c d=>?_;refine ht _ _ _ _ _ ob _ e c (.inl rfl) #[mv,aV.mono λb ys k e'=>mv.keep _ _ (λhb=>?_) e',it'];refine f_ (id st) λLo e2 c2 d2=>?_;rw[j0.mp hb,e2] at e';cases e';cases d2
 ·obtain⟨xs,m,o,rr⟩:=G.rel _ _ hl;refine wpAny_pyNext_list_end hh st (aH o) (by simp[rr.length]) λh' eb=>#[rfl,ExtBut.mv eb (!.head _) (tk:=s.toks)]
inductive IP(P:List AV->(AH->Prop)->AH->Prop)(v:AV)(H:AH):Prop
 |mk (vs:List AV) (e:v=.tup vs) (q:P vs (λZ=>True) H):IP P v H
theorem bF.Qj(r:bF h (.ref l) (.tup vs)):∃xs:List Value,h.get? l=some #[.type "tuple",b6,.seq xs.toArray 0,#[]]/\aM h xs vs:=r.inv.elim λa q=>q.elim λxs q=>#[xs,(Value.ref.inj q.2.2)▸q.1,q.2.1]
theorem aZ.tup (h:Ev C n F iter ρ H (IP Q))
 (ht:bu C target):aZ C n F target iter ρ H Q:=λA g s a G=>by
 refine fH (h A g s a G) λV s₁ v H₁ z r₁ G₁=>z.casesOn λvs e q=>?_;rw[e] at r₁;refine r₁.tupI λl xs o rr=>?_;have il:∀{h:Heap} {xs:List Value} {m:Nat},h.get? l=some #[.type "tuple",b6,.seq xs.toArray m,#[]]->h.IsTuple l xs.toArray:=λe=>#[_,e,rfl,_,rfl];refine wpAny_pyIter_tuple (il o) ?_;have kp:∀b o,s₁.heap.get? b=some o->(s₁.heap.push {cls:=.type "tuple_iterator",data:=.fields (List.toArray [.ref l,.int 0 0])}).get? b=some o:=λb o e=>j6 _ e;have aR:=G₁.up (s':={s₁ with heap:=s₁.heap.push {cls:=.type "tuple_iterator",data:=.fields (List.toArray [.ref l,.int 0 0])}}) kp;refine#[vs,λg=>∀h',jt g h'->bF h' (.ref l) (.tup vs),_,H₁,[s₁.heap.objs.size],λi h=>h.IsTupleIter s₁.heap.objs.size l i,q,?_,#[_,s9 _ rfl,rfl,rfl],aR,λb hb=>G₁.eV (by rw[j0.mp hb];exact r7 _),λh' k=>?_]
 ·refine{frame:=λi h h' st k=>?_,shape:=λi h st b hb=>?_,vZ:=λg g' le q h' k=>q h' (λb o e=>k b o (le b o e)),item:=λi A g H s v hh hv st G hg hl nf=>?_,self:=λi A s Q Z st q=>wpAny_pyIter_tupleiter st q,done:=λA g H s hh st G hg hl=>?_}
  ·refine f_ st λob e c d=>?_;exact#[ob,k _ (!.head _) _ e,c,d]
  ·refine f_ st λob e c d=>?_;rw[j0.mp hb];exact#[ob,e,.inl (by rw[c];simp),λv q=>by rw[d] at q;cases q]
  ·refine bz ((hg _ G.keep).Qj) λxs o rr=>?_;refine bz (rr.get hv) λV hV aV=>?_;refine wpAny_pyNext_tuple_item st (il o) (x:=V) (by simpa using hV) λh' it' sb=>#[V,rfl,?_];have mv:Mv [s₁.heap.objs.size] s {s with heap:=h'}:=ExtBut.mv sb.extBut (!.head _) (tk:=s.toks);refine f_ (id it') λob e c d=>?_;refine ht _ _ _ _ _ ob _ e c (.inr (.inl rfl)) #[mv,aV.mono λb ys k e'=>mv.keep _ _ (λhb=>?_) e',it'];refine f_ (id st) λLo e2 c2 d2=>?_;rw[j0.mp hb,e2] at e';cases e';cases d2
  ·refine bz ((hg _ G.keep).Qj) λxs o rr=>?_;refine wpAny_pyNext_tuple_end hh st (il o) (by simp[rr.length]) λh' eb=>#[rfl,ExtBut.mv eb (!.head _) (tk:=s.toks)]
 ·refine(bF.tup o rr:bF s₁.heap (.ref l) (.tup vs)).mono λb ys k' e=>k _ _ (bq (kp _ _ e) (G₁.tups e) λhm=>?_);rcases s6.mp hm with hm|hm
  ·exact G₁.loc.fu e hm
  ·rw[j0.mp hm] at e;exact absurd (m7 e) (C5 _)
theorem Wk.of {I:Addr} {target:Expr} {vs:List AV} {P:Nat->Value->Prop} {St:Nat->Heap->Prop} {nm:String} (W:∀A:Around,A.handled=b6->Walks C.prog C.w A I [I] [I] vs.length P St) (hP:∀i V v h,P i V->vs[i]? =some v->bF h V v)
 (sh:∀i h,St i h->∃o,h.get? I=some o/\o.cls=.type nm/\∃vs,o.data=.fields vs) (hn:nm="list_iterator"\/nm="tuple_iterator"\/nm="range_iterator"\/nm="str_ascii_iterator") (ht:bu C target):
 Wk C target (.ref I) [I] vs (λZ=>True) (λZ=>True) St where
 frame:=(W {} rfl).frame
 vZ:=λZ Z Z q=>q
 shape:=λi h st b hb=>by
  refine PK (sh _ _ st) λo e c vs q=>?_;rw[j0.mp hb];exact#[o,e,.inl (by rw[c];rcases hn with rfl|rfl|rfl|rfl<;>simp),λv q'=>by rw[q] at q';cases q']
 item:=λi A g H s v hh hv st G Z Z Z=>by
  refine(W A hh).item i s _ _ (c9.mp hv).1 st λV h' tk p st' kp=>#[V,rfl,?_];refine f_ (sh _ _ st') λo e c Z=>?_;exact ht _ _ _ _ _ o _ e c hn #[#[kp,rfl,rfl],hP _ _ _ _ p hv,st']
 self:=λi A s Q hh st q=>(W A hh).self i s _ _ st q
 done:=λA g H s hh st G Z Z=>(W A hh).done s _ _ st λh' tk kp=>#[rfl,kp,rfl,rfl]
end
end
section
section
variable{C:Cx}{n:Nat}{F:Fm}{ρ:Loc}{H:AH}
theorem iN(G:Gd C g F ρ H s)(hx:ρ.get x=some .glob)(hb:Gb C x V)(h:Q V s)(hd:autoParam ((x==("__debug__":Str))=false) A2):Wp C A (eval (.Name x pos) F.env) Q s:=by
 refine bz G.loc.ns λm hns hr=>?_;refine W8 G.fm.kind (hr _ _ hx) (Calls.loadGlobal_builtin (mg:=C.mg) (mb:=C.mb) ?_ hb.1 ?_ hb.2 h) hd
 ·rw[G.fm.glob];exact C.nsG.keeps G.qp
 ·rw[G.fm.PO];exact C.nsB.keeps G.qp
theorem Ev.gbi(hx:ρ.get x=some .glob)(hb:Gb C x (.builtin i))(h:Q (.bi i) H)(hd:autoParam ((x==("__debug__":Str))=false) A2):Ev C n F (.Name x pos) ρ H Q:=λA g s Z G=>iN G hx hb #[_,_,h,.bi _,G] hd
theorem Ev.gty(hx:ρ.get x=some .glob)(hb:Gb C x (.type i))(h:Q (.ty i) H)(hd:autoParam ((x==("__debug__":Str))=false) A2):Ev C n F (.Name x pos) ρ H Q:=λA g s Z G=>iN G hx hb #[_,_,h,.ty _,G] hd
noncomputable def nats(k:Nat):List AV:=(C4 k).map λi:Nat=>.int (i:Int)
theorem bx(k:Nat):(nats k).length=k:=by exact(b9 _).trans I8
theorem bk(h:(nats k)[i]? =some v):v=.int i/\i<k:=by
 unfold nats at h;rw[j9] at h;obtain⟨j,hj,rfl⟩:=l8.mp h;refine xE (c9.mp hj) λh1 h2=>?_;simp at h1 h2;subst h2;exact#[rfl,h1]
inductive iO(P:List AV->(AH->Prop)->AH->Prop)(v:AV)(H:AH):Prop
 |mk (k:Int) (e:v=.int k) (l:-(2 ^ 62)<=k) (u:k<2 ^ 62) (q:P (nats k.toNat) (λZ=>True) H):iO P v H
theorem aZ.range (hx:ρ.get ("range":Str)=some .glob) (hb:Gb C ("range":Str) (.type "range")) (h:Ev C n F e ρ H (iO Q))
 (ht:bu C target) (he:autoParam (starEach [e] F.env=[(false,eval e F.env)]) A1):aZ C n F target (.Call (.Name ("range":Str) np) [e] [] pos) ρ H Q:=λA g s a G=>by
 refine wpAny_Call_ofName (iN G hx hb ?_);show Wp C A (callWith pos _ [] (backTo pos (starEach [e] F.env)) []) _ s;rw[he];refine O7 rfl (O1 (J6 (fH (h A g s a G) λV s₁ v H₁ z r G₁=>z.casesOn λk e lo hi q=>Q4 ?_)));rw[e] at r;refine r.bB λt=>?_;refine call_range_1 (wpAny_pyIter_range (IsRange.new ..) (small_one `e `e lo hi) ?_);have hsz:T4 0 k 1=(k.toNat:Int):=by rw[rangeSize_one];split<;>first|exact adQ `a|exact adR `a
 have kp:∀b o,s₁.heap.get? b=some o->((s₁.heap.push {cls:=.type "range",data:=.fields (List.toArray [.int 0 s₁.toks,.int k t,.int 1 (s₁.toks+1)])}).push {cls:=.type "range_iterator",data:=.fields (List.toArray [rawInt 0,rawInt (T4 0 k 1),rawInt 1])}).get? b=some o:=λb o e=>j6 _ (j6 _ e);refine#[nats k.toNat,_,_,H₁,[_],λi h=>IsRangeIter h _ (0+(i:Nat)*1) ((k.toNat:Int) - (i:Nat)) 1,q,Wk.of (nm:="range_iterator") (λA hh=>by rw[bx];exact Walks.range hh _ 0 1 k.toNat) (λi V v h p e=>?_) (λi h st=>#[_,st,rfl,_,rfl]) (.inr (.inr (.inl rfl))) ht,?_,G₁.up kp,λb hb=>G₁.eV ?_,trivial]
 ·obtain⟨t,rfl⟩:=p;obtain⟨rfl,_⟩:=bk e;rw[show(0+(i:Int)*1)=i by exact o19];exact .int _ _
 ·have e1:(0+((0:Nat):Int)*1)=0:=by simp
  have e2:((k.toNat:Int) - ((0:Nat):Int))=T4 0 k 1:=by rw[hsz];simp
  dsimp only;rw[e1,e2];exact s9 _ rfl
 ·rw[j0.mp hb];show s₁.heap.objs.size<=(s₁.heap.push _).objs.size;rw[A0];exact O0 _
noncomputable def signs(x:Str):List AV:=x.cps.toList.map λc=>.str #[(List.toArray [c])]
inductive IQ(P:List AV->(AH->Prop)->AH->Prop)(v:AV)(H:AH):Prop
 |mk (x:Str) (e:v=.str x) (a:x.cps.all (·<128)=true) (q:P (signs x) (λZ=>True) H):IQ P v H
theorem aZ.str(h:Ev C n F iter ρ H (IQ Q))(ht:bu C target):aZ C n F target iter ρ H Q:=λA g s a G=>by
 refine fH (h A g s a G) λV s₁ v H₁ z r G₁=>z.casesOn λx e ha q=>?_;rw[e] at r;refine r.fL λt=>?_;refine wpAny_pyIter_ascii ha ?_;refine#[signs x,_,_,H₁,[_],λi h=>h.IsStrIter _ "str_ascii_iterator" x t i,q,Wk.of (nm:="str_ascii_iterator") (λA hh=>by rw[show(signs x).length=x.cps.size by exact b9 _];exact Walks.strAscii hh _ x t) (λi V v h p e=>?_) (λi h st=>?_) (.inr (.inr (.inr rfl))) ht,#[_,s9 _ rfl,rfl,rfl],G₁.up λb o e=>j6 _ e,λb hb=>G₁.eV (by rw[j0.mp hb];exact r7 _),trivial]
 ·obtain⟨c,u,hc,rfl⟩:=p;have:(signs x)[i]? =some (.str #[(List.toArray [c])]):=by simp[signs,hc]
  rw[this] at e;cases e;exact .str _ _
 ·refine f_ st λo e c d=>?_;exact#[o,e,c,_,d]
end
end
section
section
variable{C:Cx}{n:Nat}{F:Fm}{ρ:Loc}{H:AH}
noncomputable abbrev WhK(Inv:Nat->Loc->AH->Prop)(m:Nat)(Q:Out->Loc->AH->Prop):Out->Loc->AH->Prop:=λo cB cF=>match o with| .next=>∃m',m'<m/\Inv m' cB cF| .cont=>∃m',m'<m/\Inv m' cB cF| .brk=>Q .next cB cF| .ret v=>Q (.ret v) cB cF
noncomputable abbrev WhT(C:Cx)(n:Nat)(F:Fm)(body:List Stmt)(ρ:Loc)(Inv:Nat->Loc->AH->Prop)(m:Nat)(Q:Out->Loc->AH->Prop):Bool->AH->Prop:=λb H=>if b then aG C n F body ρ H (WhK Inv m Q) else Q .next ρ H
theorem Ex.nO (Inv:Nat->Loc->AH->Prop) (m₀:Nat) (i0:Inv m₀ ρ H)
 (turn:∀m ρ' H',Inv m ρ' H'->Tr C n F test ρ' H' (WhT C n F body ρ' Inv m Q)):
 Ex C n F (.While test body [] pos) ρ H Q:=λA g s a G=>by
 refine wpAny_While ?_;refine codeAny_whileLoop (λm s'=>∃ρ' H',Inv m ρ' H'/\Gd C g F ρ' H' s') (λm s' #[ρ',H',iv,G']=>?_) m₀ #[ρ,H,i0,G];refine wpAny_mono (turn m ρ' H' iv A g s' a G') (λb s₁ #[H₁,q,G₁]=>?_) λZ Z x=>x.elim;cases b with
 |false=>exact wpAny_execs_nil #[.next,ρ',H₁,q,trivial,G₁]
 |true=>
  refine wpAny_mono (q A g s₁ a G₁) (λfl s₂ #[o,cB,cF,q,fr,gj]=>?_) λZ Z x=>x.elim;cases fl<;>cases o<;>first|exact fr.elim|(refine bz q λm' l iv'=>?_;exact#[m',l,_,_,iv',gj])|exact#[_,_,_,q,trivial,gj]|exact#[_,_,_,q,fr,gj]
def e_(C:Cx)(F:Fm)(es:List Expr)(vs:List AV)(ρ:Loc)(H:AH)(Q:Loc->Prop):Prop:=
 ∀A g s Vs,A.handled=b6->Gd C g F ρ H s->aM s.heap Vs vs->Wp C A (assignInOrder ((assignEach es F.env).map (·.2)) Vs) (λZ s'=>∃ρ',Q ρ'/\Gd C g F ρ' H s'/\bZ s.heap s'.heap/\∀b,d_ F g H b->∀o,s.heap.get? b=some o->s'.heap.get? b=some o) s
theorem e_.nil(h:Q ρ):e_ C F [] [] ρ H Q:=λA g s Vs hh G r=>by
 exact r.cC (wpAny_pure #[ρ,h,G,λZ Z Z e=>e,λZ Z Z e=>e])
noncomputable abbrev aes(C:Cx)(F:Fm)(es:List Expr)(vs:List AV)(H:AH)(Q:Loc->Prop):Loc->Prop:=λρ=>e_ C F es vs ρ H Q
theorem e_.cons(h:b_ C F e v ρ H (aes C F es vs H Q))(he:autoParam ((assignEach (e::es) F.env).map (·.2)=assign e F.env::(assignEach es F.env).map (·.2)) A1):e_ C F (e::es) (v::vs) ρ H Q:=λA g s Vs hh G r=>by
 ·refine r.aX λV Vs a r=>?_;rw[he];show Wp C A (do holding Vs (assign e F.env V);assignInOrder ((assignEach es F.env).map (·.2)) Vs) _ s;refine wpAny_bind (wpAny_holding (wm (h A g s V hh G a) λZ s₁ x=>x.casesOn λρ' q G₁ kt kf=>?_));exact wm (q A g s₁ Vs hh G₁ (r.mono kt)) λZ s₂ y=>y.imp λoV y=>#[y.1,y.2.1,λb xs n e=>y.2.2.1 _ _ _ (kt _ _ _ e),λb o ob e=>y.2.2.2 b o ob (kf b o ob e)]
theorem ExtBut.up{s:Shared}{h':Heap}(e:Heap.ExtBut s.heap.objs.size s.heap h'):∀b o,s.heap.get? b=some o->h'.get? b=some o:=λb o q=>e b o (C7 (m7 q)) q
theorem b_.tup{es:List Expr}{k:Nat}{pos:Pos}{vs:List AV}{Q:Loc->Prop}(hl:(assignEach es F.env).length=vs.length)(hst:(assignEach es F.env).findIdx? (·.1)=b6)(h:e_ C F es vs ρ H Q):b_ C F (.Tuple es k pos) (.tup vs) ρ H Q:=λA g s V hh G r=>by
 refine r.tupI λa xs o rr=>?_;refine wpAny_assign_Tuple hh (items:=xs.toArray) #[_,o,rfl,_,rfl] (by rw[hl];simp[rr.length]) hst λh' eb=>?_;have up:=ExtBut.up eb;refine wm (h A g _ xs hh (G.up (s':={s with heap:=h'}) up) (rr.up up)) λZ s' x=>x.elim λρ' x=>#[ρ',x.1,x.2.1,λb ys n e=>x.2.2.1 _ _ _ (up _ _ e),λb o ob e=>x.2.2.2 b o ob (up _ _ e)]
noncomputable abbrev IS(Q:Out->Loc->AH->Prop)(H:AH):Loc->Prop:=λρ=>Q .next ρ H
noncomputable abbrev Qk(C:Cx)(F:Fm)(t:Expr)(ρ:Loc)(Q:Out->Loc->AH->Prop):AV->AH->Prop:=λv H=>b_ C F t v ρ H (IS Q H)
theorem Ex.qw (h:Ev C n F value ρ H (Qk C F (.Tuple es k tp) ρ Q))
 (hs:autoParam (swapsWithSole [.Tuple es k tp] value pos.line F.env=pure false) A1) (hw:autoParam (swappedStores [.Tuple es k tp] value F.env=pure b6) A1):Ex C n F (.Assign [.Tuple es k tp] value pos) ρ H Q:=λA g s a G=>
 Assign_Tuple (fH (h A g s a G) λV s₁ v H₁ q r G₁=>wm (q A g s₁ V a.handled G₁ r) λ_ s' #[ρ',q,G',_,_]=>#[.next,ρ',H₁,q,trivial,G']) hs hw
def tH(C:Cx)(F:Fm)(xs:List Str)(vs:List AV)(ρ:Loc)(H:AH)(Q:Loc->Prop):Prop:=
 ∀A g s Vs,Gd C g F ρ H s->aM s.heap Vs vs->Wp C A (assignInOrder (xs.map λn=>bindName F.env n) Vs) (λZ s'=>∃ρ',Q ρ'/\Gd C g F ρ' H s') s
theorem tH.nil(h:Q ρ):tH C F [] [] ρ H Q:=λA g s Vs G r=>by
 exact r.cC (wpAny_pure #[ρ,h,G])
theorem tH.cons{x:Str}{xs:List Str}{v:AV}{vs:List AV}{u:LV}{Q:Loc->Prop}(hx:ρ.get x=some u)(hu:(match u with| .glob=>False|_=>True))(hfn:F.fn=true)(h:tH C F xs vs (ρ.set x (.val v)) H Q):tH C F (x::xs) (v::vs) ρ H Q:=λA g s Vs G r=>by
 ·refine r.aX λV Vs a r=>?_;show Wp C A (do holding Vs (bindName F.env x V);assignInOrder (xs.map λn=>bindName F.env n) Vs) _ s;refine wpAny_bind (wpAny_holding (bindName_ (G.store hx hu (G.mu hfn _) a λs₁ G₁ kt=>?_)));exact h A g s₁ Vs G₁ (r.mono kt)
theorem aM.reverse(r:aM h Vs vs):aM h Vs.reverse vs.reverse:=aM.ind (P:=λV v=>aM h V.reverse v.reverse) .nil (λa Z i=>by rw[List.reverse_cons,List.reverse_cons];exact i.append (.cons a .nil)) r
inductive Ql(C:Cx)(F:Fm)(names:List Str)(ρ:Loc)(Q:Out->Loc->AH->Prop)(v:AV)(H:AH):Prop
 |mk (vs:List AV) (e:v=.tup vs) (l:names.length=vs.length) (q:tH C F names.reverse vs.reverse ρ H (IS Q H)):Ql C F names ρ Q v H
theorem Ex.Qm {es:List Expr} {k:Nat} {tp pos:Pos} {value:Expr} {names:List Str} {Q:Out->Loc->AH->Prop} (h:Ev C n F value ρ H (Ql C F names ρ Q))
 (hw:swappedStores [.Tuple es k tp] value F.env=pure (some names)) (hs:autoParam (swapsWithSole [.Tuple es k tp] value pos.line F.env=pure false) A1):Ex C n F (.Assign [.Tuple es k tp] value pos) ρ H Q:=λA g s a G=>by
 refine Assign_Tuple_swapped (fH (h A g s a G) λV s₁ v H₁ z r G₁=>z.casesOn λvs e hl q=>?_) hs hw;rw[e] at r;refine r.tupI λad xs o rr=>?_;have hn:names.length=xs.toArray.size:=by simp[rr.length,hl]
 rw[hn];refine wpAny_unpackItems_tuple a.handled (items:=xs.toArray) #[_,o,rfl,_,rfl] λh' eb=>?_;have up:=ExtBut.up eb;exact wm (q A g _ _ (G₁.up (s':={s₁ with heap:=h'}) up) (rr.up up).reverse) λ_ s' #[ρ',q,G']=>#[.next,ρ',H₁,q,trivial,G']
theorem tK(hne:t≠it):∀(m i:Nat) (s:Shared) (Q:List Value->Shared->Prop),s.heap.IsListIter it t i->s.heap.IsList t items->i+m<=items.size->
 (∀h',h'.IsListIter it t (i+m)->W0 it s.heap h'->Q ((items.toList.drop i).take m) {s with heap:=h'})->wpAny (model C.prog C.w) A (draw (.ref it) m) Q E s
 |0,i,s,Q,hit,_,_,hQ=>by
  show wpAny _ _ (pure []) Q E s;exact wpAny_pure (by simpa using hQ s.heap hit (Heap.SameBut.refl ..))
 |m+1,i,s,Q,hit,ht,hle,hQ=>by
  have hlt:i<items.size:=by exact o20 hle
  show wpAny _ _ (pyNext (.ref it)>>=_) Q E s;refine wpAny_bind (wpAny_pyNext_list_item hit ht (x:=items[i]) (by simp[hlt]) λh₁ xU hs₁=>?_);refine wpAny_bind (wpAny_holding (tK hne m (i+1) _ _ xU (ht.extBut hs₁.extBut hne) (!o21 hle) λh₂ Lp hs₂=>wpAny_pure ?_));have hd:items.toList.drop i=items[i]::items.toList.drop (i+1):=by simp[Y0,hlt]
  have:=hQ h₂ (by rw[show i+(m+1)=i+1+m by exact o22];exact Lp) (hs₁.trans hs₂);rw[hd,List.take_succ_cons] at this;exact this
theorem b_.list(ha:H a=some (.list vs))(hl:(assignEach es F.env).length=vs.length)(hst:(assignEach es F.env).findIdx? (·.1)=b6)(h:e_ C F es vs ρ H Q):b_ C F (.Tuple es k pos) (.ref a) ρ H Q:=λA g s V hh G r=>by
 refine r.bR ?_;obtain⟨xs,m,o,rr⟩:=G.rel _ _ ha;have hL:=aH o;have hlt:a≠s.heap.objs.size:=C7 (m7 o);have hsz:(assignEach es F.env).length=xs.toArray.size:=by rw[hl];simp[rr.length]
 show Wp C A (do standAt pos;unpack (.ref a) (assignEach es F.env)) _ s;refine wpAny_bind (wpAny_standAt ?_);unfold unpack;rw[hst];refine wpAny_bind (wpAny_holding ?_);unfold unpackItems;refine wpAny_bind ?_;unfold notIterableAtAll;refine wpAny_bind (wpAny_specialOf hL.typeIs slot_list_iter.lookup ?_);refine wpAny_pure ?_;simp only[C1,if_false];refine wpAny_bind (wpAny_holding (wpAny_pyIter_list hL ?_));rw[hsz];refine wpAny_bind (wpAny_holding (tK hlt xs.toArray.size 0 _ _ #[_,s9 _ rfl,rfl,rfl] (hL.push _) (!o23) λh₁ xU hs₁=>?_));have hall:List.take xs.toArray.size (List.drop 0 xs.toArray.toList)=xs:=by
  rw[List.drop_zero];simp
 rw[hall];rw[if_neg (by simp)];have ht₁:h₁.IsList a xs.toArray:=(hL.push _).extBut hs₁.extBut hlt;refine wpAny_bind (wpAny_holding (wpAny_pyNext_list_end hh xU ht₁ (by simp) λh₂ Qn=>?_));simp only[Option.isSome_none,C1,if_false];refine wpAny_pure ?_;have up:∀b o,s.heap.get? b=some o->h₂.get? b=some o:=λb o e=>Qn b o (C7 (m7 e)) (hs₁.extBut b o (C7 (m7 e)) (j6 _ e));exact wm (h A g _ xs hh (G.up (s':={s with heap:=h₂}) up) (rr.up up)) λ_ s' #[ρ',q,G',kt,kf]=>#[ρ',q,G',λb ys n e=>kt _ _ _ (up _ _ e),λb o ob e=>kf b o ob (up _ _ e)]
end
end
section
noncomputable def tL(cells:List (Str×Addr)):List (Str×NameKind)->List (Str×Addr)->List (Str×Addr)
 |[],acc=>acc
 |(x,k)::r,acc=>tL cells r (if k==.free then(match cells.lookup x with|some c=>(x,c)::acc|b6=>acc) else acc)
theorem zJ{cells:List (Str×Addr)}{x:Str}{k:NameKind}{r:List (Str×NameKind)}{acc:List (Str×Addr)}:tL cells ((x,k)::r) acc=tL cells r (if k==.free then(match cells.lookup x with|some c=>(x,c)::acc|b6=>acc) else acc):=rfl
theorem sO(h:∀p∈scope.names,p.2=.free->∃c,env.cells.lookup p.1=some c):closureFor scope env=pure (tL env.cells scope.names []):=by
 have key:∀(names:List (Str×NameKind)) (acc:List (Str×Addr)),(∀p∈names,p.2=.free->∃c,env.cells.lookup p.1=some c)->
  (forIn names acc (λ(x:Str×NameKind) cs=>(if(x.2==F1)=true then(do let a<-cellOf env x.1;pure (P9 ((x.1,a)::cs))) else pure (P9 cs):Sem (ForInStep (List (Str×Addr))))))=pure (tL env.cells names acc):=by
  intro names;induction names with
  |nil=>intro acc _;rfl
  |cons p r ih=>
   intro acc hp;obtain⟨x,k⟩:=p;rw[V4];by_cases hk:k=.free
   ·subst hk;refine xE (hp _ v8 rfl) λc hc=>?_;have e:cellOf env x=pure c:=by unfold cellOf;rw[show env.cells.lookup x=some c from hc]
    simp only[beq_self_eq_true,if_true,e];rw[zJ,if_pos (show(F1==F1)=true from rfl),show env.cells.lookup x=some c from hc];simpa using ih ((x,c)::acc) λp hm=>hp p (s7 _ hm)
   ·have:(k==F1)=false:=by simp[hk]
    simp only[this,C1,if_false];rw[zJ,if_neg (by rw[this];simp)];simpa using ih acc λp hm=>hp p (s7 _ hm)
 have:=key scope.names [] h;unfold closureFor;simpa using this
theorem we(names:List (Str×NameKind)):∀(acc:List (Str×Addr)),(∀p∈acc,cells.lookup p.1=some p.2)->∀p∈tL cells names acc,cells.lookup p.1=some p.2:=by
 induction names with
 |nil=>
  intro acc h;exact h
 |cons p0 r ih=>
  obtain⟨x,k⟩:=p0;intro acc h;rw[zJ];refine ih _ ?_;split
  ·split
   ·rename_i c hc;intro p hp;rcases l9.mp hp with rfl|hp
    ·exact hc
    ·exact h p hp
   ·exact h
  ·exact h
theorem Gw(hc:cells.lookup x=some c)(names:List (Str×NameKind)):∀(acc:List (Str×Addr)),((x,F1)∈names\/(x,c)∈acc)->(x,c)∈tL cells names acc:=by
 induction names with
 |nil=>
  intro acc h;rcases h with h|h;cases h;exact h
 |cons p0 r ih=>
  obtain⟨y,k⟩:=p0;intro acc h;rw[zJ];refine ih _ ?_;rcases h with h|h
  ·rcases l9.mp h with e|h
   ·cases e;right;rw[if_pos (show(F1==F1)=true from rfl),hc];exact v8
   ·exact .inl h
  ·right;split
   ·split
    ·exact s7 _ h
    ·exact h
   ·exact h
theorem sP{cs:List (Str×Addr)}{cells:List (Str×Addr)}{x:Str}{c:Addr}(hc:cells.lookup x=some c):(∀p∈cs,cells.lookup p.1=some p.2)->(x,c)∈cs->cs.lookup x=some c:=by
 induction cs with
 |nil=>intro _ h;cases h
 |cons p r ih=>
  intro ha hm;obtain⟨y,d⟩:=p;rw[v9];cases hb:x==y with
  |true=>
   have:=ha _ v8;rw[beq_iff_eq.mp hb] at hc;rw[hc] at this;cases this;rfl
  |false=>
   rcases l9.mp hm with e|hm
   ·cases e;simp at hb
   ·exact ih (λp hp=>ha p (s7 _ hp)) hm
theorem qx(names:List (Str×NameKind)):∀(n:Nat) (acc:List (Str×Addr)),(x,S4)∉names->(cellsFrom n names acc).lookup x=acc.lookup x:=by
 induction names with
 |nil=>
  intro _ _ _;exact rfl
 |cons p0 r ih=>
  obtain⟨y,k⟩:=p0;intro n acc h;have h2:(x,S4)∉r:=λm=>h (s7 _ m);unfold cellsFrom;split
  ·rename_i hk;rw[ih _ _ h2,v9];have:(x==y)=false:=by
    cases hb:x==y with
    |false=>rfl
    |true=>exfalso;apply h;rw[beq_iff_eq.mp hb,<-beq_iff_eq.mp hk];exact v8
   rw[this]
  ·exact ih _ _ h2
structure CS(lo:Nat)(cs:List (Str×Addr)):Prop where
 uniq:∀x y c,cs.lookup x=some c->cs.lookup y=some c->lo<=c->x=y
theorem pJ{lo:Nat}(names:List (Str×NameKind)):∀(n:Nat) (acc:List (Str×Addr)),lo<=n->(∀p∈acc,p.2<n)->CS lo acc->CS lo (cellsFrom n names acc):=by
 induction names with
 |nil=>
  intro _ _ _ _ h;exact h
 |cons p0 r ih=>
  obtain⟨y,k⟩:=p0;intro n acc l lt h;unfold cellsFrom;split
  ·refine ih (n+1) _ (!MO l) (λp hp=>?_) #[λx z c h1 h2 hl=>?_]
   ·rcases l9.mp hp with rfl|hp
    ·exact J5 _
    ·exact U1 (lt p hp)
   ·rw[v9] at h1 h2;cases b1:x==y<;>cases b2:z==y<;>rw[b1] at h1<;>rw[b2] at h2
    ·exact h.uniq _ _ _ h1 h2 hl
    ·cases h2;exact absurd (lt _ (lookup_mem h1)) (C5 _)
    ·cases h1;exact absurd (lt _ (lookup_mem h2)) (C5 _)
    ·rw[beq_iff_eq.mp b1,beq_iff_eq.mp b2]
  ·exact ih n acc l lt h
theorem uH(names:List (Str×NameKind)):∀(h:Heap) (acc:List (Str×Addr)) (p:Str×Addr),p∈cellsFrom h.objs.size names acc->p∈acc\/((pushCells h names).IsCell p.2 b6/\h.objs.size<=p.2):=by
 induction names with
 |nil=>
  intro _ _ p hp;exact .inl hp
 |cons p0 r ih=>
  obtain⟨y,k⟩:=p0;intro h acc p hp;unfold cellsFrom at hp;unfold pushCells;split at hp
  ·rename_i hk;rw[if_pos hk];have:=ih (h.push {cls:=.type "cell",data:=.cell b6}) ((y,h.objs.size)::acc) p (by rw[A0];exact hp);rcases this with m|⟨q,l⟩
   ·rcases l9.mp m with rfl|m
    ·refine .inr #[?_,r7 _];exact#[_,pushCells_keeps _ _ _ _ (s9 _ rfl),rfl]
    ·exact .inl m
   ·rw[A0] at l;exact .inr #[q,Nat.le_of_succ_le l]
  ·rename_i hk;rw[if_neg hk];exact ih h acc p hp
noncomputable def wg(ρ:Loc)(names:List (Str×NameKind)):Loc:=names.map λp=>(p.1,match p.2 with| .globalImplicit=>.glob| .free=>(ρ.get p.1).getD .undef|_=>.undef)
theorem CT:∀{x:Str} {v:LV},(wg ρ names).get x=some v->∃k,names.lookup x=some k/\(x,k)∈names/\v=(match k with| .globalImplicit=>.glob| .free=>(ρ.get x).getD .undef|_=>.undef):=by
 induction names with
 |nil=>
  intro _ _ h;exact gc h
 |cons p0 r ih=>
  obtain⟨y,k⟩:=p0;intro x v h;replace h:Loc.get ((y,_)::wg ρ r) x=some v:=h;rw[Loc.kW] at h;by_cases hy:y=x
  ·subst hy;rw[if_pos rfl] at h;exact#[k,by simp,v8,(m9 h).symm]
  ·rw[if_neg hy] at h;refine f_ (ih h) λk' e m q=>?_;refine#[k',?_,s7 _ m,q];rw[v9];have:(x==y)=false:=by simp[q9 hy]
   rw[this];exact e
theorem qy{env:Env}(names:List (Str×NameKind)):∀(x:Str),(names.map λ(n,k)=>if(k==F1&&env.scope.kind==.function&&env.kindOf n==some .cell) then(n,S4) else(n,k)).lookup x=
 (names.lookup x).map λk=>if(k==F1&&env.scope.kind==.function&&env.kindOf x==some .cell) then S4 else k:=by
 induction names with
 |nil=>
  intro _;exact rfl
 |cons p0 r ih=>
  obtain⟨n,k⟩:=p0;intro x;have ih:=ih x;show List.lookup x ((if(k==F1&&env.scope.kind==.function&&env.kindOf n==some .cell)=true then(n,S4) else(n,k))::_)=_;by_cases hc:(k==F1&&env.scope.kind==.function&&env.kindOf n==some .cell)=true
  ·rw[if_pos hc,v9,v9];cases hx:x==n with
   |true=>
    have:=beq_iff_eq.mp hx;subst this;simp only[I9,if_pos hc]
   |false=>exact ih
  ·rw[if_neg hc,v9,v9];cases hx:x==n with
   |true=>
    have:=beq_iff_eq.mp hx;subst this;simp only[I9,if_neg hc]
   |false=>exact ih
structure CF(F:Fm)(names:List (Str×NameKind))(F':Fm):Prop where
 fn:F'.fn=false
 kind:∀x k,names.lookup x=some k->k≠.free->F'.env.kindOf x=some k
 free:∀x,names.lookup x=some .free->F'.env.kindOf x≠some .local
 store:∀x,names.lookup x=some .cell->∀c,F'.env.cells.lookup x=some c->c∈F'.co
theorem CF.may(cf:CF F names F')(h:names.lookup x=some .local\/names.lookup x=some .cell):F'.env.kindOf x=some .local\/(F'.env.kindOf x≠some .free/\∀c,F'.env.cells.lookup x=some c->c∈F'.co):=by
 rcases h with h|h
 ·exact .inl (cf.kind _ _ h (by simp))
 ·exact .inr #[by rw[cf.kind _ _ h (by simp)];simp,cf.store _ h]
theorem Gd.zK(G:Gd C g F ρ H s)(hb:∀b∈fp,d_ F g H b)(hT:iM fp s.heap):
 cJ C (aE s.heap H fp) H s/\(∀V v,bF s.heap V v->∀h',jt (aE s.heap H fp) h'->bF h' V v)/\(∀H' s',cJ C (aE s.heap H fp) H' s'->Gd C g F ρ H' s'):=by
 have hle:∀b o,g b=some o->aE s.heap H fp b=some o:=λb o e=>bq (G.keep _ _ e) (λf=>!gc (E1 (G0 (G.off b f)) e)) (λf=>!gc (E1 (G0 ((hb b f).g)) e));have ab:∀V v,bF s.heap V v->∀h',jt (aE s.heap H fp) h'->bF h' V v:=λV v a h' k=>a.mono λb xs n e=>k _ _ (bq e (G.tups e) (λf=>(hT.no f e).1.elim (· rfl) (· _ _ rfl)));refine#[?_,ab,λH' s' G'=>?_]
 ·exact{base:=λb o e=>hle _ _ (G.base _ _ e),keep:=λb o e=>(ku e).1,rel:=G.rel,off:=λb f=>by unfold aE;rw[if_pos (.inl f)],dx:=G.dx,inj:=G.inj,gens:=G.gens,os:=G.os,size:=G.size,sys:=G.sys}
 have hown:∀b∈F.own,∀o,s.heap.get? b=some o->aE s.heap H fp b=some o:=λb hbo o e=>bq e (G.cO b hbo) (λf=>(hb b f).F hbo);have hL:F.env.locals∈F.own:=v8;refine{tocJ:=G'.back hle G.base,fm:=G.fm,loc:=?_,dh:=G.dh,cO:=λb hb f=>?_}
 ·obtain⟨m,⟨o,es,ep,ho,hd,hk,hf⟩,hr⟩:=G.loc.ns;refine#[#[m,#[o,es,ep,G'.keep _ _ (hown _ hL _ ho),hd,hk,hf],λx v e=>?_],λc hc=>?_]
  ·have hr:=hr x v e;cases v with
   |undef=>exact hr
   |glob=>exact hr
   |val v=>
    refine bz hr λV a hh=>?_;refine#[V,ab _ _ a _ G'.keep,?_];rcases hh with hh|⟨hk,c,hc,oc,hoc,hdc⟩
    ·exact .inl hh
    ·refine .inr #[hk,c,hc,oc,G'.keep _ _ (bq hoc (mh G.rel hoc hdc) (λf=>(hT.no f hoc).2 _ hdc)),hdc]
  ·refine lC (G.loc.cells c hc) λv o ho hd=>?_;exact#[v,o,G'.keep _ _ (hown _ (s7 _ hc) _ ho),hd]
 ·refine xE (G.mz hb) λo ho=>?_;have:=hown b hb o ho;rw[G'.off b f] at this;cases this
end
section
def kC(C:Cx)(n:Nat)(F:Fm)(ifs:List Expr)(ρ:Loc)(H:AH)(Q:Bool->AH->Prop):Prop:=
 ∀A g s,ju n A->Gd C g F ρ H s->Wp C A (forIn ifs true λc r=>if r=true then do let ok<-isTrue c F.env (eval c F.env);pure (P9 ok) else pure (P9 r)) (PT C g F ρ Q) s
section
variable{C:Cx}{n:Nat}{F:Fm}{ρ:Loc}{H:AH}
theorem kC.nil(h:Q true H):kC C n F [] ρ H Q:=λA g s a G=>wpAny_tests_nil #[H,h,G]
theorem kC.one(h:Tr C n F c ρ H Q):kC C n F [c] ρ H Q:=λA g s a G=>wpAny_tests_one (h A g s a G)
theorem AX (I:Nat->Shared->Prop)
 (turn:∀m s,I m s->Wp C A (pyNext it) (λr s₁=>match r with
  |b6=>R (.ok .next) s₁
  |some v=>Wp C A (letOwnedTupleGo target it v) (λZ s₁'=>Wp C A (assign target env v) (λZ s₂=>
   Wp C A (forIn ifs true λc r=>if r=true then do let ok<-isTrue c env (eval c env);pure (P9 ok) else pure (P9 r)) (λok s₃=>
    if ok=true then Wp C A (eval elt env) (λx s₄=>Wp C A (call (.builtin "list.append") [acc,x]) (λZ s₅=>∃m',m'<m/\I m' s₅) s₄) s₃
    else∃m',m'<m/\I m' s₃) s₂) s₁') s₁) s)
 (m:Nat) (h:I m s):codeAny (model C.prog C.w) A (.compLoop (.ListComp elt [#[target,iter,ifs,0]] scope pos) 0 it acc env) R s:=by
 refine codeAny_loop rfl I (λm s hI=>?_) m h;show wpAny _ A ((compTurn (.ListComp elt [#[target,iter,ifs,0]] scope pos) 0 it acc env).onRaise (λx=>do noteFrame x env;theTreesLotGoes x)) _ _ s;refine wpAny_noted ?_;have no:∀{α:Type} {Q:α->Shared->Prop} {E:Value->Shared->Prop} {t:Sem α} {s:Shared},Wp C A t Q s->wpAny (model C.prog C.w) A t Q E s:=λh=>wpAny_mono h (λZ Z x=>x) λZ Z x=>x.elim;rw[compTurn_list];refine wpAny_bind (wpAny_standAt (wpAny_bind (wpAny_mono (turn m s hI) (λr s₁ h₁=>?_) λZ Z x=>x.elim)));cases r with
 |none=>exact wpAny_pure h₁
 |some v=>
  refine wpAny_bind (wpAny_mono h₁ (λZ s₁' h₁'=>wpAny_bind (wpAny_mono h₁' (λZ s₂ h₂=>wpAny_bind (wpAny_mono h₂ (λok s₃ h₃=>?_) λZ Z x=>x.elim)) λZ Z x=>x.elim)) λZ Z x=>x.elim);cases ok with
  |false=>exact wpAny_pure #[rfl,h₃]
  |true=>
   exact wpAny_bind (wpAny_bind (wpAny_mono h₃ (λx s₄ h₄=>wpAny_bind (wpAny_mono h₄ (λZ s₅ h₅=>wpAny_pure (wpAny_pure #[rfl,h₅])) λZ Z x=>x.elim)) λZ Z x=>x.elim))
theorem cJ.adopt(G:cJ C g H s)(hH:¬cW H a)(hg:g a=b6)(o:s.heap.get? a=some #[.type "list",b6,.seq xs.toArray m,#[]])(r:aM s.heap xs ys)(ns:a≠sysModules):cJ C g (H.set a (.list ys)) s:=by
 have n0:H a=b6:=by
  cases e:H a with
  |none=>rfl
  |some o=>exact absurd (.inl #[o,e]) hH
 have bD:∀c D b fs,(H.set a (.list ys)) c=some (.inst D b fs)->H c=some (.inst D b fs):=λc D b fs hc=>by
  by_cases hc':c=a
  ·subst hc';rw[AH.aq] at hc;cases hc
  ·rw[aA hc'] at hc;exact hc
 refine{base:=G.base,keep:=G.keep,rel:=λc oc e=>?_,off:=λb f=>?_,dx:=λc D b fs e=>?_,inj:=λc c' D D' b f1 f2 e1 e2=>G.inj _ _ _ _ _ _ _ (bD _ _ _ _ e1) (bD _ _ _ _ e2),gens:=G.gens,os:=G.os,size:=G.size,sys:=λc oc e=>(by by_cases hc:c=a;(rw[hc];exact ns);(rw[aA hc] at e;exact G.sys _ _ e))}
 ·by_cases hc:c=a
  ·subst hc;rw[AH.aq] at e;cases e;exact#[xs,m,o,r]
  ·rw[aA hc] at e;exact G.rel c oc e
 ·rcases f with⟨q,hq⟩|⟨c,D,fs,hc⟩
  ·by_cases hb:b=a
   ·rw[hb];exact hg
   ·rw[aA hb] at hq;exact G.off _ (.inl #[q,hq])
  ·exact G.off _ (.inr #[c,D,fs,bD _ _ _ _ hc])
 ·have e':=bD _ _ _ _ e;rw[aA (λz=>hH (by rw[<-z];exact .inr #[c,D,fs,e']))];exact G.dx _ _ _ _ e'
theorem gJ
 (hQ:Q {scope:=scope,locals:=s.heap.objs.size,globals:=globals,cells:=cellsFrom (s.heap.objs.size+1) scope.names cl,qual:=qual,func:=b6,code:=outer.code,frame:=outer.frame,builtins:=outer.builtins}
  {s with heap:=pushCells (s.heap.push {cls:=.type "dict",data:=.dict #[]}) scope.names}):
 wpAny (model C.prog C.w) A (newFunctionEnv scope globals cl [] qual b6 .none (some outer)) Q E s:=by
 simp only[newFunctionEnv,Option.isSome_some,if_true];refine wpAny_bind (wpAny_alloc ?_);refine wpAny_bind (wpAny_layCells _ (λname kind cells=>!rfl) _ _ _ _ ?_);rw[show({s with heap:=s.heap.push {cls:=.type "dict",data:=.dict #[]}}:Shared).heap.objs.size=s.heap.objs.size+1 from A0 ..];exact wpAny_bind (wpAny_pure (wpAny_pure hQ))
end
end
section
theorem oW(items:Array Value)(n:Nat)(f:Array Value->Array Value):∃n',(#[.type "list",b6,.seq items n,#[]]:Obj).mapSeq f=#[.type "list",b6,.seq (f items) n',#[]]:=#[_,rfl]
theorem wh (o:s.heap.get? l=some #[.type "list",b6,.seq xs.toArray m,#[]]) (hsz:xs.length<=1000000)
 (hQ:∀h' m',h'.get? l=some #[.type "list",b6,.seq (xs++[x]).toArray m',#[]]->W0 l s.heap h'->Q .none {s with heap:=h'}):Wp C A (call (.builtin "list.append") [.ref l,x]) Q s:=by
 refine wpAny_call_entry slot_list_append (aH o).typeIs entry_list_append ?_ (args_list_append _ _);have:xs.toArray.size<=sizeLine:=by rw[sizeLine_eq];simp;exact ND hsz
 show wpAny _ _ (updateSeq l (·.push x)>>=λZ=>ret .none) _ _ s;refine wpAny_bind ?_;refine wpAny_updateSeq o rfl (wpAny_pure #[.none,rfl,?_]);refine xE (oW xs.toArray m (·.push x)) λn' e=>?_;refine hQ _ n' ?_ (Heap.SameBut.update ..);rw[G1 _ o rfl,e];simp
theorem tM(names:List (Str×NameKind)):∀(acc:List (Str×Addr)) (p:Str×Addr),p∈tL cells names acc->(p.1,F1)∈names\/p∈acc:=by
 induction names with
 |nil=>
  intro acc p h;exact .inr h
 |cons p0 r ih=>
  obtain⟨x,k⟩:=p0;intro acc p h;unfold tL at h;rcases ih _ p h with h|h
  ·exact .inl (s7 _ h)
  ·split at h
   ·rename_i hk;split at h
    ·rcases l9.mp h with rfl|h
     ·left;rw[<-beq_iff_eq.mp hk];exact v8
     ·exact .inr h
    ·exact .inr h
   ·exact .inr h
theorem iP{α:Type}{x:Str}{k:α}{names:List (Str×α)}:(names.map (·.1)).Nodup->(x,k)∈names->names.lookup x=some k:=by
 induction names with
 |nil=>
  intro _ h;cases h
 |cons p0 r ih=>
  obtain⟨y,j⟩:=p0;intro hn h;rw[q7,G5] at hn;rw[v9];rcases l9.mp h with e|h
  ·cases e;simp
  ·have:(x==y)=false:=by
    cases hb:x==y with
    |false=>rfl
    |true=>
     exfalso;apply hn.1;rw[<-beq_iff_eq.mp hb];exact C6 (f:=(·.1)) h
   rw[this];exact ih hn.2 h
theorem Qp(h:a+1<c):a<=c:=by exact o25 h
theorem aet(h:c<a)(h':c=a+1):False:=by exact o26 h h'
theorem aeu(h:a+2<=c)(h':c=a+1):False:=by exact o27 h h'
theorem aev(h:c<a)(h':a+1<c):False:=by exact o28 h' h
noncomputable def kZ(scope:Scope)(F:Fm)(a:Addr):Fm:=
 #[{scope:=relabel scope F.env,locals:=a+1,globals:=F.env.globals,cells:=cellsFrom (a+2) scope.names (tL F.env.cells scope.names []),qual:=F.env.qual,func:=b6,code:=F.env.code,frame:=F.env.frame,builtins:=F.env.builtins},false,((cellsFrom (a+2) scope.names (tL F.env.cells scope.names [])).map (·.2)).filter λc=>decide (a+1<c)]
section
variable{C:Cx}{n:Nat}{F:Fm}{ρ:Loc}{H:AH}
structure aP(F:Fm)(ρ:Loc)(scope:Scope):Prop where
 kind:scope.kind=.function
 nd:(scope.names.map (·.1)).Nodup
 xV:(scope.names.all λp=>p.2 !=.globalExplicit)=true
 free:∀p∈scope.names,p.2=.free->(∃v,ρ.get p.1=some (.val v))/\F.env.kindOf p.1≠some .local
theorem xW{g:Fz}{s:Shared}{scope:Scope}{fp:List Addr}{L:Obj}(G:Gd C g F ρ H s)(sc:aP F ρ scope)(ho:∀b∈fp,d_ F g H b)(hT:iM fp s.heap):
 Gd C (aE s.heap H fp) (kZ scope F s.heap.objs.size) (wg ρ scope.names) H {s with heap:=pushCells ((s.heap.push L).push {cls:=.type "dict",data:=.dict #[]}) scope.names}/\CF F scope.names (kZ scope F s.heap.objs.size):=by
 refine kh (G.zK ho hT) λG₀ ab Z=>?_;have kp:∀b o,s.heap.get? b=some o->(pushCells ((s.heap.push L).push {cls:=.type "dict",data:=.dict #[]}) scope.names).get? b=some o:=λb o e=>pushCells_keeps _ _ _ _ (j6 _ (j6 _ e));have sz2:((s.heap.push L).push {cls:=.type "dict",data:=.dict #[]}).objs.size=s.heap.objs.size+2:=by rw[A0,A0]
 have Qq:∀p∈tL F.env.cells scope.names [],∃o,s.heap.get? p.2=some o:=λp hp=>by
  rcases tM _ _ _ hp with h|h
  ·obtain⟨⟨v,hv⟩,hk⟩:=sc.free _ h rfl;refine bz G.loc.ns λm Z hr=>?_;obtain⟨V,_,⟨q,_⟩|⟨_,c,hc,oc,hoc,_⟩⟩:=hr _ _ hv
   ·exact absurd q hk
   ·have:=we scope.names [] (by intro p hp;cases hp) p hp;rw[hc] at this;cases this;exact#[oc,hoc]
  ·cases h
 have Gx:∀p∈tL F.env.cells scope.names [],p.2<s.heap.objs.size:=λp hp=>by refine xE (Qq p hp) λo e=>?_;exact m7 e
 have xX:∀p∈cellsFrom (s.heap.objs.size+2) scope.names (tL F.env.cells scope.names []),p∈tL F.env.cells scope.names []\/((pushCells ((s.heap.push L).push {cls:=.type "dict",data:=.dict #[]}) scope.names).IsCell p.2 b6/\s.heap.objs.size+2<=p.2):=λp hp=>by
  have:=uH scope.names ((s.heap.push L).push {cls:=.type "dict",data:=.dict #[]}) (tL F.env.cells scope.names []) p (by rw[sz2];exact hp)
  rwa [sz2] at this
 have kindOf:∀x,(kZ scope F s.heap.objs.size).env.kindOf x=(scope.names.lookup x).map λk=>if(k==F1&&F.env.scope.kind==.function&&F.env.kindOf x==some .cell) then S4 else k:=λx=>qy _ _
 have uE:∀b∈(kZ scope F s.heap.objs.size).own,s.heap.objs.size<=b:=λb hb=>by
  rcases l9.mp hb with rfl|hb
  ·exact O0 _
  ·have:=(I0.mp (show b∈Y8 _ _ from hb)).2;exact Qp (of_decide_eq_true this)
 have jw:∀b∈(kZ scope F s.heap.objs.size).own,s.heap.get? b=b6:=λb hb=>by
  cases e:s.heap.get? b with
  |none=>rfl
  |some o=>exact absurd (m7 e) (I4.mpr (uE b hb))
 have cellOf:∀x,scope.names.lookup x=some .cell->∀c,(x,c)∈cellsFrom (s.heap.objs.size+2) scope.names (tL F.env.cells scope.names [])->s.heap.objs.size+2<=c/\(pushCells ((s.heap.push L).push {cls:=.type "dict",data:=.dict #[]}) scope.names).IsCell c b6:=λx hx c hc=>by
  rcases xX _ hc with h|⟨h,l⟩
  ·rcases tM _ _ _ h with h|h
   ·have:=iP sc.nd h;rw[hx] at this;cases this
   ·cases h
  ·exact#[l,h]
 refine#[{tocJ:=G₀.up kp ?_ rfl rfl,fm:=?_,loc:=?_,dh:=λb hb=>?_,cO:=λb hb f=>?_},#[rfl,λx k hk hne=>?_,λx hx=>?_,λx hx c hc=>?_]]
 ·have:=(Heap.Ns.new (s.heap.push L) (.type "dict")).keeps (pushCells_keeps scope.names _);have:=this.lt;rw[A0] at this;exact Qp this
 ·refine#[sc.kind,G.fm.glob,G.fm.PO,λx y c h1 h2 hc=>?_,λhm=>?_,g9 G.size (O0 _),λh=>(by cases h),λc hc=>(I0.mp (show c∈Y8 _ _ from hc)).1]
  ·have lt:=of_decide_eq_true (I0.mp (show c∈Y8 _ _ from hc)).2;have:=pJ (lo:=s.heap.objs.size+2) scope.names (s.heap.objs.size+2) (tL F.env.cells scope.names []) (r7 _) (λp hp=>u7 (Gx p hp) (C2 _ _)) #[λx y c h1 Z hl=>absurd (Gx _ (lookup_mem h1)) (I4.mpr (g9 (C2 _ _) hl))];exact this.uniq _ _ _ h1 h2 lt
  ·refine bz (m5.mp hm) λp hp e=>?_;have e:p.2=s.heap.objs.size+1:=e;rcases xX p hp with h|⟨_,h⟩
   ·exact(aet (Gx p h) e).elim
   ·exact(aeu h e).elim
 ·refine#[#[λZ=>b6,?_,λx v e=>?_],λc hc=>?_]
  ·have:=(Heap.Ns.new (s.heap.push L) (.type "dict")).keeps (pushCells_keeps scope.names _);rw[A0] at this;exact this
  ·obtain⟨k,hk,hm,rfl⟩:=CT e;cases k with
   |globalImplicit=>exact(kindOf x).trans (by rw[hk];rfl)
   |«local»=>exact .inl ((kindOf x).trans (by rw[hk];rfl))
   |cell=>
    refine .inr #[(kindOf x).trans (by rw[hk];rfl),?_];exact O2.mp (cellsFrom_some scope.names _ _ (.inl hk))
   |globalExplicit=>have:=n9.mp sc.xV _ hm;simp at this
   |free=>
    obtain⟨⟨v,hv⟩,hk'⟩:=sc.free _ hm rfl;refine bz G.loc.ns λm Z hr=>?_;obtain⟨V,a,⟨q,_⟩|⟨_,c,hc,oc,hoc,hdc⟩⟩:=hr _ _ hv
    ·exact absurd q hk'
    ·dsimp only;rw[show ρ.get x=_ from hv,Option.getD_some];refine#[V,a.up kp,.inr #[?_,c,?_,oc,kp _ _ hoc,hdc]]
     ·rw[kindOf x,hk];simp only[I9];split
      ·exact .inl rfl
      ·exact .inr rfl
     ·show(cellsFrom _ scope.names _).lookup x=some c;rw[qx]
      ·exact sP hc (we _ _ (by intro p hp;cases hp)) (Gw hc _ _ (.inl hm))
      ·intro hm';have:=iP sc.nd hm';rw[hk] at this;cases this
  ·have hc':=I0.mp (show c∈Y8 _ _ from hc);obtain⟨p,hp,rfl⟩:=m5.mp hc'.1;rcases xX p hp with h|⟨h,_⟩
   ·exact(aev (Gx p h) (of_decide_eq_true hc'.2)).elim
   ·exact#[_,h]
 ·unfold aE;split
  ·rfl
  ·exact jw b hb
 ·refine xE (G.tocJ.cE f) λo e=>?_;rw[jw b hb] at e;cases e
 ·rw[kindOf x,hk];have:(k==F1)=false:=by simp[hne]
  simp only[I9,this,Bool.false_and,C1,if_false]
 ·rw[kindOf x,hx];simp only[I9];split<;>(intro q;cases q)
 ·have:=(cellOf x hx c (lookup_mem hc)).1;refine I0.mpr #[C6 (f:=(·.2)) (lookup_mem hc),decide_eq_true this]
end
end
section
theorem Wp.e{C:Cx}{α:Type}{A:Around}{t:Sem α}{Q:α->Shared->Prop}{E:Value->Shared->Prop}{s:Shared}(h:Wp C A t Q s):wpAny (model C.prog C.w) A t Q E s:=wpAny_mono h (λZ Z x=>x) λZ Z x=>x.elim
section
variable{C:Cx}{n:Nat}{F:Fm}{ρ:Loc}{H:AH}
noncomputable abbrev Qs(ρ:Loc)(Inv:Nat->List AV->Loc->AH->Prop)(k:Nat)(ys:List AV):AV->AH->Prop:=λy H=>Inv (k+1) (ys++[y]) ρ H
noncomputable abbrev aew(C:Cx)(n:Nat)(F:Fm)(elt:Expr)(ρ:Loc)(Inv:Nat->List AV->Loc->AH->Prop)(k:Nat)(ys:List AV):Bool->AH->Prop:=λb H=>if b then Ev C n F elt ρ H (Qs ρ Inv k ys) else Inv (k+1) ys ρ H
def jz(C:Cx)(n:Nat)(F:Fm)(names:List (Str×NameKind))(target elt:Expr)(ifs:List Expr)(vs:List AV)(Inv:Nat->List AV->Loc->AH->Prop):Prop:=
 ∀F',CF F names F'->∀k v ys ρ' H',vs[k]? =some v->Inv k ys ρ' H'->b_ C F' target v ρ' H' λoV=>kC C n F' ifs oV H' (aew C n F' elt oV Inv k ys)
inductive CU(C:Cx)(g:Fz)(F:Fm)(Inv:Nat->List AV->Loc->AH->Prop)(N:Nat)(St:Nat->Heap->Prop)(fp:List Addr)(c:Addr)(m:Nat)(s':Shared):Prop
 |mk (k:Nat) (ys:List AV) (ρ':Loc) (H':AH) (xs:List Value) (nn:Nat) (e:m+k=N) (l:ys.length<=k) (iv:Inv k ys ρ' H') (st:St k s'.heap) (G:Gd C g F ρ' H' s') (o:∀b∈fp,d_ F g H' b) (oa:d_ F g H' c) (ob:s'.heap.get? c=some #[.type "list",b6,.seq (List.toArray xs) nn,#[]]) (ab:aM s'.heap xs ys):CU C g F Inv N St fp c m s'
theorem AY {A:Around} {F':Fm} {g₀:Fz} {s:Shared} {target elt iter:Expr} {ifs:List Expr} {scope:Scope} {pos:Pos} {it:Value} {fp:List Addr} {vs:List AV} {mw:Fz->Prop} {Ok:AH->Prop} {St:Nat->Heap->Prop} {R:Result->Shared->Prop} {names:List (Str×NameKind)} {c:Addr} {Inv:Nat->List AV->Loc->AH->Prop}
 (a:ju n A) (W:Wk C target it fp vs mw Ok St) (jx:mw g₀) (aFp:c∉fp) (hlen:vs.length<=1000000) (pI:∀k ys ρ' H',k<=vs.length->Inv k ys ρ' H'->Ok H') (cf:CF F names F') (turn:jz C n F names target elt ifs vs Inv)
 (fin:∀ρ' ys H' s₃ xs nn,Inv vs.length ys ρ' H'->Gd C g₀ F' ρ' H' s₃->d_ F' g₀ H' c->s₃.heap.get? c=some #[.type "list",b6,.seq (List.toArray xs) nn,#[]]->aM s₃.heap xs ys->R (.ok .next) s₃)
 (x:CU C g₀ F' Inv vs.length St fp c vs.length s):codeAny (model C.prog C.w) A (.compLoop (.ListComp elt [#[target,iter,ifs,0]] scope pos) 0 it (.ref c) F'.env) R s:=by
 refine AX (CU C g₀ F' Inv vs.length St fp c) (λm s' x=>x.casesOn λk ys ρ' H' xs nn e hys iv st G' ho zL ob ab=>?_) vs.length x;cases hv:vs[k]? with
 |none=>
  have hk:k=vs.length:=Nat.le_antisymm (e▸Nat.le_add_left _ _) (X8.mp hv);refine wm (W.done A g₀ H' s' a.handled (hk▸st) G'.tocJ jx (pI _ _ _ _ (I5 hk) iv)) λr s₃ x=>?_;rw[x.1];refine xA (G'.move x.2 ho (W.shape _ _ st)) λgj kt=>?_;exact fin _ _ _ _ _ _ (hk▸iv) gj zL (x.2.keep _ _ aFp ob) (ab.mono kt)
 |some v=>
  have hk:k<vs.length:=(c9.mp hv).1;refine wm (W.item k A g₀ H' s' v a.handled hv st G'.tocJ jx (pI _ _ _ _ (K7 hk) iv) λb hb=>(ho b hb).H) λr s₃ x=>x.elim λV x=>?_;rw[x.1];refine wm x.2 λZ s₄ x=>?_;refine xA (G'.move x.1 ho (W.shape _ _ st)) λxY kt=>?_;refine wm (turn F' cf k v ys ρ' H' hv iv A g₀ s₄ V a.handled xY x.2.1) λZ s₅ y=>y.casesOn λoV q v_ kt' keep=>?_;have st5:=W.frame _ _ _ x.2.2 λb hb o e=>keep b (ho b hb) o e;have TR:=keep _ zL _ (x.1.keep _ _ aFp ob);have ab5:=(ab.mono kt).mono kt';obtain⟨g',wc,IT,back',kept⟩:=v_.grow;have kk:∀b,d_ F' g₀ H' b->∀o,s₅.heap.get? b=some o->g' b=some o:=λb hb o e=>kept b o e hb.H hb.F;have own:∀{cF:AH} {s₇:Shared},cJ C g' cF s₇->∀b∈fp,d_ F' g₀ cF b:=λwj b hb=>(W.shape _ _ st5 b hb).elim λo x=>(ho b hb).at (kk b (ho b hb) o x.1) wj;refine Fg (q A g' s₅ a wc) λb s₆ H₂ q nN=>?_;cases b with
  |false=>exact#[m - 1,zI e hk,k+1,ys,oV,H₂,xs,nn,nx_eq e hk,N2 hys,q,W.frame _ _ _ st5 λb hb o e=>nN.keep _ _ (kk b (ho b hb) o e),back' _ _ _ nN,own nN.tocJ,zL.at (kk _ zL _ TR) nN.tocJ,nN.keep _ _ (kk _ zL _ TR),ab5.keptBy IT nN.keep]
  |true=>
   refine fH (q A g' s₆ a nN) λY s₇ y cF q aY wj=>?_;have ob7:=wj.keep _ _ (kk _ zL _ TR);have hA7:=zL.at (kk _ zL _ TR) wj.tocJ;refine wh ob7 (by rw[ab.length];exact g9 hys (g9 (K7 hk) hlen)) λh' m' Lo sb=>?_;have mv7:Mv [c] s₇ {s₇ with heap:=h'}:=ExtBut.mv sb.extBut (.head _) (tk:=s₇.toks);refine xA ((back' _ _ _ wj).move mv7 (λb hb=>by rw[j0.mp hb];exact hA7) (λb hb=>by rw[j0.mp hb];exact#[_,ob7,.inl (by simp),λv q=>by cases q])) λaez kt8=>?_;exact#[m - 1,zI e hk,k+1,ys++[y],oV,cF,xs++[Y],m',nx_eq e hk,by rw[lG];exact M0 hys,q,W.frame _ _ _ st5 λb hb o e=>mv7.keep _ _ (λm=>aFp (j0.mp m▸hb)) (wj.keep _ _ (kk b (ho b hb) o e)),aez,own wj.tocJ,hA7,Lo,((ab5.keptBy IT wj.keep).mono kt8).append (.cons (aY.mono kt8) .nil)]
theorem qz {A:Around} {g:Fz} {s:Shared} {target elt iter:Expr} {ifs:List Expr} {scope:Scope} {pos:Pos} {it:Value} {fp:List Addr} {vs:List AV} {mw:Fz->Prop} {Ok:AH->Prop} {St:Nat->Heap->Prop} {RR:Value->Addr->Result->Shared->Prop}
 (a:ju n A) (G:Gd C g F ρ H s) (W:Wk C target it fp vs mw Ok St) (st:St 0 s.heap) (ho:∀b∈fp,d_ F g H b) (jx:mw (aE s.heap H (F.own++fp))) (sc:aP F ρ scope) (hlen:vs.length<=1000000)
 (Inv:Nat->List AV->Loc->AH->Prop) (i0:Inv 0 [] (wg ρ scope.names) H) (pI:∀k ys ρ' H',k<=vs.length->Inv k ys ρ' H'->Ok H') (turn:jz C n F scope.names target elt ifs vs Inv)
 (fin:∀a Lc s' m' ρ' ys H',Inv vs.length ys ρ' H'->H' a=b6->Gd C g F ρ (H'.set a (.list ys)) s'->s'.heap.Ns Lc m'->d_ F g (H'.set a (.list ys)) Lc->RR (.ref a) Lc (.ok .next) s'):
 Wp C A (newList []) (λacc s₃=>Wp C A (newFunctionEnv scope F.env.globals (tL F.env.cells scope.names []) [] F.env.qual b6 .none (some F.env)) (λcenv s₄=>
  codeAny (model C.prog C.w) A (.compStart (.ListComp elt [#[target,iter,ifs,0]] scope pos) 0 it acc {cenv with scope:=relabel scope F.env}) (RR acc cenv.locals) s₄) s₃) s:=by
 have hT:=W.shape _ _ st;refine xA (xW (L:={cls:=.type "list",data:=.seq ([]:List Value).toArray}) G sc ho hT) λGF cf=>?_;refine kh (G.zK ho hT) λG₀ Z back=>?_;have jx:mw (aE s.heap H fp):=W.vZ _ _ (λb o e=>by
  refine kh (ku e) λe1 e2 e3=>?_;exact bq e1 e2 λm=>e3 (u5 _ m)) jx
 have kp:∀b o,s.heap.get? b=some o->(pushCells ((s.heap.push {cls:=.type "list",data:=.seq ([]:List Value).toArray}).push {cls:=.type "dict",data:=.dict #[]}) scope.names).get? b=some o:=λb o e=>pushCells_keeps _ _ _ _ (j6 _ (j6 _ e));have Qt:∀b∈fp,b<s.heap.objs.size:=λb hb=>by refine bz (hT b hb) λo e Z=>?_;exact m7 e
 have nw:∀b,s.heap.objs.size<=b->s.heap.get? b=b6:=λb l=>by
  cases e:s.heap.get? b with
  |none=>rfl
  |some o=>exact absurd (m7 e) (I4.mpr l)
 have IU:=nw _ (r7 _);have IV:=nw _ (O0 _);have CV:∀b∈(kZ scope F s.heap.objs.size).own,s.heap.objs.size<b:=λb hb=>by
  rcases l9.mp hb with rfl|hb
  ·exact J5 _
  ·have:=(I0.mp (show b∈Y8 _ _ from hb)).2;exact Nat.lt_of_succ_lt (of_decide_eq_true this)
 have Qu:∀b,s.heap.get? b=b6->aE s.heap H fp b=b6:=λb e=>by unfold aE;split;rfl;exact e
 have ho':∀b∈fp,d_ (kZ scope F s.heap.objs.size) (aE s.heap H fp) H b:=λb hb=>#[by unfold aE;rw[if_pos (.inr hb)],(ho b hb).H,λm=>Nat.lt_asymm (Qt b hb) (CV b m)];have zL:d_ (kZ scope F s.heap.objs.size) (aE s.heap H fp) H s.heap.objs.size:=#[Qu _ IU,λf=>(by refine xE (G.tocJ.cE f) λo e=>?_;rw[IU] at e;cases e),λm=>C5 _ (CV _ m)];refine wpAny_newObj_type (gJ ?_);rw[show(s.heap.push {cls:=.type "list",data:=.seq ([]:List Value).toArray}).objs.size=s.heap.objs.size+1 from A0 ..];show codeAny _ A (.compStart _ 0 it (.ref s.heap.objs.size) (kZ scope F s.heap.objs.size).env) (RR _ (s.heap.objs.size+1)) _;have loop:codeAny (model C.prog C.w) A (.compLoop (.ListComp elt [#[target,iter,ifs,0]] scope pos) 0 it (.ref s.heap.objs.size) (kZ scope F s.heap.objs.size).env) (RR (.ref s.heap.objs.size) (s.heap.objs.size+1))
  {s with heap:=pushCells ((s.heap.push {cls:=.type "list",data:=.seq ([]:List Value).toArray}).push {cls:=.type "dict",data:=.dict #[]}) scope.names}:=by
  refine AY a W jx (λm=>C5 _ (Qt _ m)) hlen pI cf turn (λρ' ys H' s₃ xs nn iv gj zL o r=>?_) #[0,[],_,H,[],0,rfl,r7 _,i0,W.frame _ _ _ st λb Z o e=>kp b o e,GF,ho',zL,pushCells_keeps _ _ _ _ (j6 _ (s9 _ rfl)),.nil];have n0:H' s.heap.objs.size=b6:=by
   cases e:H' s.heap.objs.size with
   |none=>rfl
   |some o=>exact absurd (.inl #[o,e]) zL.H
  have xY:=gj.tocJ.adopt zL.H zL.g o r (r9 (u7 C.lo G.size));refine bz gj.loc.ns λm' hns Z=>?_;refine fin _ _ s₃ m' ρ' ys H' iv n0 (back _ _ xY) hns #[?_,λf=>?_,λf=>?_]
  ·cases e:g (s.heap.objs.size+1) with
   |none=>rfl
   |some o=>have:=G.keep _ _ e;rw[IV] at this;cases this
  ·rcases f with⟨q,hq⟩|⟨c,D,fs,hc⟩
   ·rw[aA (Nat.succ_ne_self _)] at hq;exact gj.cO _ v8 (.inl #[q,hq])
   ·by_cases hca:c=s.heap.objs.size
    ·subst hca;rw[AH.aq] at hc;cases hc
    ·rw[aA hca] at hc;exact gj.cO _ v8 (.inr #[c,D,fs,hc])
  ·refine xE (G.mz f) λo e=>?_;rw[IV] at e;cases e
 refine codeAny_compStart_list loop (Wp.e (W.self 0 A _ _ a.handled ?_ loop));exact W.frame _ _ _ st λb Z o e=>kp b o e
end
end
section
section
variable{C:Cx}{n:Nat}{F:Fm}{ρ:Loc}{H:AH}
theorem aP.clos(sc:aP F ρ scope)(G:Gd C g F ρ H s):closureFor scope F.env=pure (tL F.env.cells scope.names []):=sO λp hp hk=>by
 obtain⟨⟨v,hv⟩,hk'⟩:=sc.free p hp hk;refine bz G.loc.ns λm Z hr=>?_;obtain⟨V,_,⟨q,_⟩|⟨_,c,hc,_⟩⟩:=hr _ _ hv
 ·exact absurd q hk'
 ·exact#[c,hc]
theorem aP.names(sc:aP F ρ scope):∀x∈scope.names,x.2=.local->scope.names.lookup x.1=some .local:=λx hx hl=>iP sc.nd (by rw[<-hl];exact hx)
inductive zM(C:Cx)(n:Nat)(F:Fm)(target elt:Expr)(ifs:List Expr)(names:List (Str×NameKind))(ρ:Loc)(Q:Addr->AH->Prop)(vs:List AV)(Ok:AH->Prop)(H₁:AH):Prop
 |mk (l:vs.length<=1000000) (Inv:Nat->List AV->Loc->AH->Prop) (i0:Inv 0 [] (wg ρ names) H₁) (pI:∀k ys ρ' H',k<=vs.length->Inv k ys ρ' H'->Ok H') (turn:jz C n F names target elt ifs vs Inv)
  (fin:∀a ys ρ' H',Inv vs.length ys ρ' H'->H' a=b6->Q a (H'.set a (.list ys))):zM C n F target elt ifs names ρ Q vs Ok H₁
theorem Ev.comp (sc:aP F ρ scope)
 (h:aZ C n F target iter ρ H (zM C n F target elt ifs scope.names ρ λa H₂=>Q (.ref a) H₂)) (hs:autoParam (∀x,foldedSetIterable iter F.env x=pure x) A1):
 Ev C n F (.ListComp elt [#[target,iter,ifs,0]] scope pos) ρ H Q:=λA g s a G=>by
 rw[eval_ListComp];refine wpAny_comprehension_free (use:=b6) rfl hs (sc.clos G) sc.kind sc.names (wm (h A g s a G) λx s₁ q=>wm q λit s₂ z=>z.casesOn λvs mw Ok H₁ fp St z W st aR ho jx=>z.casesOn λhl Inv i0 pI turn fin=>?_);refine qz (RR:=λacc c=>compPost (model C.prog C.w) A (λZ Z=>False) b6 (PS C g F ρ Q) acc c) a aR W st ho jx sc hl Inv i0 pI turn λad Lc s' m' ρ' ys H' iv n0 G' hns ow=>?_;refine#[m',hns,λh' sb=>#[.ref ad,_,fin ad ys ρ' H' iv n0,.ref ad,?_]];refine qk hns λo es ep ho hd Z=>?_;refine(G'.move (fp:=[Lc]) (ExtBut.mv sb.extBut (!.head _) (tk:=s'.toks)) (λb hb=>by rw[j0.mp hb];exact ow) (λb hb=>by rw[j0.mp hb];exact#[o,ho,.inr (λxs n q=>by rw[hd] at q;cases q),λv q=>by rw[hd] at q;cases q])).1
theorem Ex.zN {x:Str} {px spos:Pos} {target elt iter:Expr} {ifs:List Expr} {scope:Scope} {pos:Pos} {u:LV} {Q:Out->Loc->AH->Prop} (sc:aP F ρ scope) (hx:ρ.get x=some u) (hu:(match u with| .glob=>False|_=>True)) (hfn:F.fn=true)
 (h:aZ C n F target iter ρ H (zM C n F target elt ifs scope.names ρ λa H₂=>Q .next (ρ.set x (.val (.ref a))) H₂))
 (hsw:swapsWith (.ListComp elt [#[target,iter,ifs,0]] scope pos) (some (.Name x px)) spos.line F.env=pure true) (hs:autoParam (∀x,foldedSetIterable iter F.env x=pure x) A1):
 Ex C n F (.Assign [.Name x px] (.ListComp elt [#[target,iter,ifs,0]] scope pos) spos) ρ H Q:=λA g s a G=>by
 rw[exec_Assign_Name_used _ _ _ _ hsw];refine wpAny_bind (wpAny_standAt (wpAny_bind ?_));show wpAny _ A (do let _<-comprehension (.ListComp elt [#[target,iter,ifs,0]] scope pos) scope F.env _ (newList []) false (eval iter F.env) (some (assign (.Name x px) F.env))) _ _ s;refine wpAny_bind (wpAny_mono (wpAny_comprehension_free (use:=some (assign (.Name x px) F.env)) (Q:=λZ s'=>PF C g F Q .next s') rfl hs (sc.clos G) sc.kind sc.names (wm (h A g s a G) λy s₁ q=>wm q λit s₂ z=>z.casesOn λvs mw Ok H₁ fp St z W st aR ho jx=>z.casesOn λhl Inv i0 pI turn fin=>?_)) (λZ s' q=>wpAny_pure (wpAny_pure q)) λZ Z x=>x);refine qz (RR:=λacc c=>compPost (model C.prog C.w) A (λZ Z=>False) (some (assign (.Name x px) F.env)) (λZ s'=>PF C g F Q .next s') acc c) a aR W st ho jx sc hl Inv i0 pI turn λad Lc s' m' ρ' ys H' iv n0 G' hns ow=>?_;obtain⟨g',G'',_,back,kept⟩:=G'.grow;show Wp C A (assign (.Name x px) F.env (.ref ad)) _ s';refine wpAny_assign_Name (G''.store hx hu (G''.mu hfn _) (.ref ad) λs'' G3 kt=>?_);refine kj hns λo es ep ho hd hk hf=>?_;have Qv:=G3.keep _ _ (kept _ _ ho ow.H ow.F);refine#[m',#[o,es,ep,Qv,hd,hk,hf],λh' sb=>#[.next,_,_,fin ad ys ρ' H' iv n0,trivial,?_]];refine((back _ _ _ G3).move (fp:=[Lc]) (ExtBut.mv sb.extBut (!.head _) (tk:=s''.toks)) (λb hb=>by rw[j0.mp hb];exact ow) (λb hb=>by rw[j0.mp hb];exact#[o,Qv,.inr (λxs n q=>by rw[hd] at q;cases q),λv q=>by rw[hd] at q;cases q])).1
end
end
section
section
variable{K:Type}[DecidableEq K]
noncomputable def dX(kvs:List (K×AV))(k:K):Option AV:=(kvs.find? λp=>p.1=k).map (·.2)
noncomputable def dO(kvs:List (K×AV))(k:K)(v:AV):List (K×AV):=if kvs.any (λp=>p.1=k) then kvs.map (λp=>if p.1=k then(p.1,v) else p) else kvs++[(k,v)]
theorem cR.at{h:Heap}{k:K}{kv:List (K×Value)}{kvs:List (K×AV)}(r:cR h kv kvs):(∃V v,valueAt kv k=some V/\dX kvs k=some v/\bF h V v)\/(valueAt kv k=b6/\dX kvs k=b6):=by
 unfold valueAt dX;induction r with
 |nil=>exact .inr #[rfl,rfl]
 |@cons j V v _ _ a r ih=>
  rw[S6,S6];by_cases e:j=k
  ·rw[show decide (j=k)=true from decide_eq_true e];exact .inl #[V,v,rfl,rfl,a]
  ·rw[show decide (j=k)=false from decide_eq_false e];exact ih
theorem cR.length(r:cR h kv kvs):kv.length=kvs.length:=by
 induction r with
 |nil=>rfl
 |cons _ _ i=>exact congrArg Nat.succ i
theorem cR.keys{h:Heap}{kv:List (K×Value)}{kvs:List (K×AV)}(r:cR h kv kvs):kv.map (·.1)=kvs.map (·.1):=by
 induction r with
 |nil=>rfl
 |cons _ _ i=>exact congrArg (List.cons _) i
theorem cR.append(r:cR h kv kvs)(q:cR h lv nH):cR h (kv++lv) (kvs++nH):=by
 induction r with
 |nil=>exact q
 |cons a _ ih=>exact .cons a ih
theorem cR.map{h:Heap}{k:K}{V:Value}{v:AV}(aV:bF h V v){kv:List (K×Value)}{kvs:List (K×AV)}(r:cR h kv kvs):cR h (kv.map λp=>if p.1=k then(p.1,V) else p) (kvs.map λp=>if p.1=k then(p.1,v) else p):=by
 induction r with
 |nil=>exact .nil
 |@cons j _ _ _ _ a r ih=>
  rw[q7,q7];by_cases e:j=k
  ·rw[if_pos e,if_pos e];exact .cons aV ih
  ·rw[if_neg e,if_neg e];exact .cons a ih
theorem cR.put{h:Heap}{k:K}{V:Value}{v:AV}{kv:List (K×Value)}{kvs:List (K×AV)}(r:cR h kv kvs)(aV:bF h V v):cR h (stored kv k V) (dO kvs k v):=by
 unfold stored dO;have e:(kv.any λp=>decide (p.1=k))=(kvs.any λp=>decide (p.1=k)):=by
  have:=congrArg (λl=>l.any λx=>decide (x=k)) r.keys;simpa [List.any_map,Q5] using this
 rw[e];split
 ·exact r.map aV
 ·exact r.append (.cons aV .nil)
end
structure DK (C:Cx) (K:Type) [DecidableEq K] where
 knd:KeyKind C.prog C.w K
 ao:List (K×AV)->AO
 rel:∀h a kvs,ir C h a (ao kvs)↔∃kv,h.DictOf knd a kv/\cR h kv kvs
 ni:∀kvs D dx fs,ao kvs≠.inst D dx fs
 key:K->AV
 is:∀{h:Heap} {V:Value} {k:K},bF h V (key k)->knd.is k V=true
noncomputable def oX(C:Cx):DK C Int:=#[intKind C.prog C.w,.dI,λZ Z Z=>Iff.rfl,λZ Z Z Z e=>(by cases e),AV.int,λa=>by cases a;exact intKind_is ..]
noncomputable def IW(C:Cx):DK C Str:=#[strKind C.prog C.w,.dS,λZ Z Z=>Iff.rfl,λZ Z Z Z e=>(by cases e),AV.str,λa=>by cases a;simp[PySem.strKind,Value.isStrOf]]
section
variable{C:Cx}{n:Nat}{F:Fm}{ρ:Loc}{H:AH}{K:Type}[DecidableEq K]
theorem cJ.oY(G:cJ C g H s)(ha:H a=some o):(a==sysModules)=false:=by simp[G.sys _ _ ha]
theorem aF.dict(d:DK C K){slice:Expr}{a:Addr}{kvs:List (K×AV)}{k:K}{v:AV}{Q:AV->AH->Prop}(hs:vY slice)(ha:H a=some (d.ao kvs))(hk:dX kvs k=some v)(h:Q v H):aF C n slice (.ref a) (d.key k) H Q:=λA g s V I value Z G r r'=>by
 refine r.bR ?_;refine bz ((d.rel _ _ _).mp (G.rel _ _ ha)) λkv hd rr=>?_;rcases rr.at (k:=k) with⟨W,w,e1,e2,aW⟩|⟨_,e2⟩
 ·rw[hk] at e2;cases e2;exact tail_any hd.typeIs slot_dict_getitem.lookup (wpAny_getItem_of (d.is r') hd.mapOf e1 #[_,_,h,aW,G.at _]) (hs _ _)
 ·exact TN (E1 (G0 (hk)) e2)
def cZ(C:Cx)(n:Nat)(o i v:AV)(H:AH)(Q:AH->Prop):Prop:=
 ∀A g s O I V,ju n A->cJ C g H s->bF s.heap O o->bF s.heap I i->bF s.heap V v->Wp C A (setItem O I V) (λZ s'=>∃H',Q H'/\cJ C g H' s') s
noncomputable abbrev Qw(ρ:Loc)(Q:Out->Loc->AH->Prop):AH->Prop:=λH=>Q .next ρ H
noncomputable abbrev Qx(C:Cx)(n:Nat)(ov v:AV)(ρ:Loc)(Q:Out->Loc->AH->Prop):AV->AH->Prop:=λiv H=>cZ C n ov iv v H (Qw ρ Q)
noncomputable abbrev Qy(C:Cx)(n:Nat)(F:Fm)(i:Expr)(v:AV)(ρ:Loc)(Q:Out->Loc->AH->Prop):AV->AH->Prop:=λov H=>Ev C n F i ρ H (Qx C n ov v ρ Q)
noncomputable abbrev Qz(C:Cx)(n:Nat)(F:Fm)(o i:Expr)(ρ:Loc)(Q:Out->Loc->AH->Prop):AV->AH->Prop:=λv H=>Ev C n F o ρ H (Qy C n F i v ρ Q)
theorem Ex.Lq
 (h:Ev C n F value ρ H (Qz C n F o i ρ Q))
 (hs:autoParam (swapsWith value (some (.Subscript o i pa)) pos.line F.env=pure false) A1):Ex C n F (.Assign [.Subscript o i pa] value pos) ρ H Q:=λA g s a G=>by
 refine wpAny_Assign_Subscript (fH (h A g s a G) λV s₁ v H₁ q r₁ G₁=>?_) hs;obtain⟨g₁,dZ,zO,tN,_⟩:=G₁.grow;refine fH (q A g₁ s₁ a dZ) λO s₂ ov H₂ q r₂ aR=>?_;obtain⟨g₂,QA,zP,CW,_⟩:=aR.grow;have r1':=zO _ _ r₁ _ aR.keep;refine fH (q A g₂ s₂ a QA) λI s₃ iv cF q xZ gj=>?_;obtain⟨aeA,aeB,_,QB⟩:=gj.call;exact wm (q A aeA s₃ O I V a aeB (zP _ _ r₂ _ gj.keep) xZ (zP _ _ r1' _ gj.keep)) λ_ s' #[H',q,G']=>#[.next,ρ,H',q,trivial,tN _ _ _ (CW _ _ _ (QB _ _ G'))]
theorem cZ.dict(d:DK C K){a:Addr}{kvs:List (K×AV)}{k:K}{v:AV}{Q:AH->Prop}(ha:H a=some (d.ao kvs))(hl:kvs.length<=1000000)(h:Q (H.set a (d.ao (dO kvs k v)))):cZ C n (.ref a) (d.key k) v H Q:=λA g s O I V Z G r r' rv=>by
 refine r.bR ?_;refine bz ((d.rel _ _ _).mp (G.rel _ _ ha)) λkv hd rr=>?_;refine wpAny_setItem_pairs (d.is r') hd (λh' hd' sb=>?_) (by rw[rr.length,sizeLine_eq];exact ND hl);have kt:bZ s.heap h':=λb xs m e=>sb.extBut _ _ (λz=>by
  refine kj hd λo es ep q Z hdat Z=>?_;rw[z,q] at e;cases e;cases hdat) e
 refine#[_,h,(G.turn (s':={s with heap:=h',toks:=s.toks+1}) ha (.inl rfl) (λZ=>False) (λZ f=>f.elim) (λb ob hb Z e=>sb.extBut _ _ hb e) (λkt=>(d.rel _ _ _).mpr #[_,hd',(rr.put rv).kept kt]) (λD dx fs e=>absurd e (d.ni _ _ _ _)) (.inl (I5 sb.1.symm)) rfl rfl).1]
end
end
section
theorem sliceRange_one(a b:Nat):sliceRange (a:Int) (b:Int) 1=(C4 (b - a)).map (a+·):=by
 unfold sliceRange;have e:(if(1:Int)>0 then(if(a:Int)<(b:Int) then((b:Int) - a+1 - 1) / 1 else 0) else(if(a:Int)>(b:Int) then((a:Int) - b - 1 - 1) / (-1) else 0)).toNat=b - a:=by
  rw[if_pos `e];split
  ·rw[Int.ediv_one];exact acr
  ·exact acs `a
 simp only[e];apply R9;intro k _;exact o29
theorem picks{α:Type}(l:List α)(a:Nat):∀m:Nat,((C4 m).map (a+·)).filterMap (l[·]?)=(l.drop a).take m:=by
 intro m;induction m with
 |zero=>exact rfl
 |succ m ih=>
  rw[K2,n6,List.filterMap_append,ih,X3]
  congr 1
  cases h:l[a+m]?<;>simp[List.getElem?_drop,h]
theorem wu(l:List Value)(k:Nat):slicePick l.toArray b6 (some (k:Int)) b6=(l.take k).toArray:=by
 unfold slicePick sliceBounds;dsimp only;have e:(match(some (k:Int):Option Int) with|b6=>(if(1:Int)>0 then(l.toArray.size:Int) else -1)|some i=>let i:=if i<0 then i+l.toArray.size else i;if(b6.getD 1:Int)>0 then max 0 (min i l.toArray.size) else max (-1) (min i ((l.toArray.size:Int) - 1)))=((min k l.length:Nat):Int):=by
  dsimp only;rw[if_neg (show¬(k:Int)<0 by exact NF),if_pos (show(b6.getD 1:Int)>0 by decide)];simp only[n7];exact Gk
 have h0:(b6.getD 1:Int)=1:=rfl;simp only[h0,show(1:Int)>0 by decide,if_true];rw[if_neg (show¬(k:Int)<0 by exact NF)];rw[show(max 0 (min (k:Int) (l.toArray.size:Int)))=((min k l.length:Nat):Int) by exact by assumption];rw[show(0:Int)=((0:Nat):Int) from rfl,sliceRange_one];have:=picks l 0 (min k l.length - 0);simp only[List.getElem?_toArray];rw[this];simp only[List.drop_zero,Nat.sub_zero]
 congr 1
 rw[List.take_eq_take_iff];exact o31
theorem x_(l:List Value)(k:Nat):slicePick l.toArray (some (k:Int)) b6 b6=(l.drop k).toArray:=by
 unfold slicePick sliceBounds;have h0:(b6.getD 1:Int)=1:=rfl;simp only[h0,show(1:Int)>0 by decide,if_true];rw[if_neg (show¬(k:Int)<0 by exact NF)];rw[show(max 0 (min (k:Int) (l.toArray.size:Int)))=((min k l.length:Nat):Int) by simp only[n7];exact Gk];rw[show(l.toArray.size:Int)=((l.length:Nat):Int) by exact rfl,sliceRange_one];have:=picks l (min k l.length) (l.length - min k l.length);simp only[List.getElem?_toArray];rw[this]
 congr 1
 by_cases h:k<=l.length
 ·rw[Nat.min_eq_left h,z9 (by simp)]
 ·rw[Nat.min_eq_right (!o32 h)];simp only[Nat.sub_self,List.take_zero];rw[List.drop_of_length_le (!o32 h)]
noncomputable def mD(x:Str)(i j:Nat):Str:=#[((x.cps.toList.drop i).take (j - i)).toArray]
theorem yc(x:Str)(i j:Nat)(t u:Tok):slicePicked x (some ((i:Int),t)) (some ((j:Int),u)) b6=(C4 (min j x.length - min i x.length)).map (min i x.length+·):=by
 unfold slicePicked Builtin.Str.strSliceIndices;simp only[I9,Option.map_none,show(b6.getD 1:Int)=1 from rfl,show(1:Int)>0 by decide,if_true];rw[if_neg (show¬(i:Int)<0 by exact NF),if_neg (show¬(j:Int)<0 by exact NF)];rw[show(max 0 (min (i:Int) (x.length:Int)))=((min i x.length:Nat):Int) by exact Gk,show(max 0 (min (j:Int) (x.length:Int)))=((min j x.length:Nat):Int) by exact Gk,sliceRange_one]
theorem yd(x:Str)(tx:Tok)(i j:Nat)(t u:Tok)(hi:i<=x.length)(hsz:x.length<=10000000)(h:∀t' k,Q (.str (mD x i j) t') {s with toks:=k}):(sliceMade x tx (some ((i:Int),t)) (some ((j:Int),u)) b6).post Q s:=by
 have e:(if(((b6:Option (Int×Tok)).map (·.1)).getD (1:Int)==1&&(slicePicked x (some ((i:Int),t)) (some ((j:Int),u)) b6).length==x.length)=true then x else#[((slicePicked x (some ((i:Int),t)) (some ((j:Int),u)) b6).filterMap (x.cps[·]?)).toArray])=mD x i j:=by
  rw[yc,Nat.min_eq_left hi]
  have key:(((C4 (min j x.length - i)).map (i+·)).filterMap (x.cps[·]?))=(x.cps.toList.drop i).take (j - i):=by
   have:=picks x.cps.toList i (min j x.length - i);simp only[Array.getElem?_toList] at this;rw[this,List.take_eq_take_iff];have:x.cps.toList.length=x.length:=by simp[I2]
   rw[U7,this];exact o33
  split
  ·rename_i hc;simp only[D0,beq_iff_eq,b9,I8] at hc;refine xA hc λZ hc=>?_;have hx:x.cps.toList.length=x.length:=by simp[I2]
   obtain⟨cps⟩:=x;unfold mD
   congr 1
   have:i=0\/cps.size=0:=by simp only[I2] at hc hi hx;exact o34 hc
   rcases this with rfl|h0
   ·rw[List.drop_zero,z9 (by simp only[I2] at hc hi hx⊢;simp at hx⊢;exact o35 hc)]
   ·obtain rfl:cps=#[]:=Array.eq_empty_of_size_eq_zero h0;simp
  ·rw[key];rfl
 unfold sliceMade;refine post_val_or_str #[?_,λt' k=>?_]
 ·rw[e,sizeLine_eq];have:(mD x i j).length<=x.length:=by simp only[mD,I2,n7,F3,U7];simp;exact o36
  exact o37 this hsz
 ·rw[e];exact h t' k
section
variable{C:Cx}{n:Nat}{F:Fm}{ρ:Loc}{H:AH}
theorem Gd.push(G:Gd C g F ρ H s)(o:Obj):Gd C g F ρ H {s with heap:=s.heap.push o}:=G.up λb ob e=>j6 _ e
theorem fh{lo hi:Option Expr}{p:Pos}{o i:Value}:subscripted (.Slice lo hi b6 p) false o i=operate [i,o] (getItem o i):=by
 exact rfl
inductive QC(Q:AV->AH->Prop)(v a b:AV)(H:AH):Prop
 |mk (x:Str) (i j:Nat) (e1:v=.str x) (e2:a=.int (i:Nat)) (e3:b=.int (j:Nat)) (l1:i<=x.length) (l2:x.length<=10000000) (q:Q (.str (mD x i j)) H):QC Q v a b H
noncomputable abbrev QD(C:Cx)(n:Nat)(F:Fm)(hi:Expr)(v:AV)(ρ:Loc)(Q:AV->AH->Prop):AV->AH->Prop:=λa H=>Ev C n F hi ρ H (QC Q v a)
noncomputable abbrev QE(C:Cx)(n:Nat)(F:Fm)(lo hi:Expr)(ρ:Loc)(Q:AV->AH->Prop):AV->AH->Prop:=λv H=>Ev C n F lo ρ H (QD C n F hi v ρ Q)
inductive QF(Q:AV->AH->Prop)(v b:AV)(H:AH):Prop
 |mk (a:Addr) (vs:List AV) (j:Nat) (e1:v=.ref a) (e2:b=.int (j:Nat)) (h:H a=some (.list vs)) (l:vs.length<=1000000) (q:∀c,H c=b6->Q (.ref c) (H.set c (.list (vs.take j)))):QF Q v b H
noncomputable abbrev aeC(C:Cx)(n:Nat)(F:Fm)(hi:Expr)(ρ:Loc)(Q:AV->AH->Prop):AV->AH->Prop:=λv H=>Ev C n F hi ρ H (QF Q v)
inductive QG(Q:AV->AH->Prop)(v b:AV)(H:AH):Prop
 |mk (a:Addr) (vs:List AV) (j:Nat) (e1:v=.ref a) (e2:b=.int (j:Nat)) (h:H a=some (.list vs)) (l:vs.length<=1000000) (q:∀c,H c=b6->Q (.ref c) (H.set c (.list (vs.drop j)))):QG Q v b H
noncomputable abbrev aeD(C:Cx)(n:Nat)(F:Fm)(lo:Expr)(ρ:Loc)(Q:AV->AH->Prop):AV->AH->Prop:=λv H=>Ev C n F lo ρ H (QG Q v)
theorem Ev.Lr {value lo hi:Expr} {p pos:Pos} {Q:AV->AH->Prop}
 (h:Ev C n F value ρ H (QE C n F lo hi ρ Q)):Ev C n F (.Subscript value (.Slice (some lo) (some hi) b6 p) pos) ρ H Q:=λA g s a G=>by
 refine Subscript_ (fH (h A g s a G) λV s₁ v H₁ q r₁ G₁=>wpAny_Slice ?_);obtain⟨g₁,dZ,zO,tN,_⟩:=G₁.grow;rw[evalPart_some,evalPart_some,evalPart_none];refine fH (q A g₁ s₁ a dZ) λI s₂ iv H₂ q r₂ aR=>?_;refine fH (q A g₁ s₂ a aR) λJ s₃ jv cF z xZ gj=>wpAny_pure (z.casesOn λx i j e1 e2 e3 hi hl qq=>?_);rw[e1] at r₁;rw[e2] at r₂;rw[e3] at xZ;refine r₁.fL λt=>?_;refine r₂.bB λti=>?_;refine xZ.bB λtj=>?_;refine tail_any (typeIs_str _ x t) PySem.F.slot_str_getitem.lookup (wpAny_getItem_str_slice (l:=some ((i:Int),ti)) (u:=some ((j:Int),tj)) (st:=b6) #[_,s9 _ rfl,rfl,rfl] rfl ?_) fh;exact yd x t i j ti tj hi hl λt' k=>#[_,_,qq,.str _ _,tN _ _ _ ((gj.push _).at k)]
theorem aM.take(k:Nat)(r:aM h Vs vs):aM h (Vs.take k) (vs.take k):=
 aM.ind (P:=λVs vs=>∀k,aM h (Vs.take k) (vs.take k)) (λk=>by rw[List.take_nil,List.take_nil];exact .nil) (λa Z i k=>Nat.casesOn k .nil λk=>.cons a (i k)) r k
theorem aM.drop(k:Nat)(r:aM h Vs vs):aM h (Vs.drop k) (vs.drop k):=
 aM.ind (P:=λVs vs=>∀k,aM h (Vs.drop k) (vs.drop k)) (λk=>by rw[List.drop_nil,List.drop_nil];exact .nil) (λa r i k=>Nat.casesOn k (.cons a r) i) r k
theorem Gd.newList(G:Gd C g F ρ H s)(r:aM s.heap Vs vs):Gd C g F ρ (H.set s.heap.objs.size (.list vs)) {s with heap:=s.heap.push {cls:=.type "list",data:=.seq Vs.toArray}}/\H s.heap.objs.size=b6:=by
 obtain⟨g₂,dm,_,bh⟩:=G.call;refine xA (dm.new (o:=.list vs) (ob:={cls:=.type "list",data:=.seq Vs.toArray}) rfl (λZ Z Z e=>by cases e) λh' k e=>#[Vs,0,e,r.up k]) λG' n0=>?_;exact#[bh _ _ G',n0]
theorem Ev.sliceTo {value hi:Expr} {p pos:Pos} {Q:AV->AH->Prop}
 (h:Ev C n F value ρ H (aeC C n F hi ρ Q)):Ev C n F (.Subscript value (.Slice b6 (some hi) b6 p) pos) ρ H Q:=λA g s a G=>by
 refine Subscript_ (fH (h A g s a G) λV s₁ v H₁ q r₁ G₁=>wpAny_Slice ?_);rw[evalPart_none,evalPart_some];refine wpAny_pure (fH (q A g s₁ a G₁) λJ s₂ jv H₂ x r₂ aR=>wpAny_pure (x.casesOn λad vs j e1 e2 e3 hl qq=>?_));rw[e1] at r₁;rw[e2] at r₂;refine r₁.bR ?_;refine r₂.bB λtj=>?_;obtain⟨xs,m,o,rr⟩:=aR.rel _ _ e3;refine tail_any ((aH o).push _).typeIs list_getitem_lookup (wpAny_getItem_list_slice ((aH o).push _) (X4 ..) .none (.int (j:Int) tj) .none (by simp) ?_ (by simpa using rr.size hl)) fh;rw[wu];have:=(aR.push {cls:=.type "slice",data:=.fields (List.toArray [.none,.int (j:Int) tj,.none])}).newList ((rr.take j).up λb ob e=>j6 _ e);exact#[_,_,qq _ this.2,.ref _,this.1]
theorem Ev.sliceFrom {value lo:Expr} {p pos:Pos} {Q:AV->AH->Prop}
 (h:Ev C n F value ρ H (aeD C n F lo ρ Q)):Ev C n F (.Subscript value (.Slice (some lo) b6 b6 p) pos) ρ H Q:=λA g s a G=>by
 refine Subscript_ (fH (h A g s a G) λV s₁ v H₁ q r₁ G₁=>wpAny_Slice ?_);rw[evalPart_none,evalPart_some];refine fH (q A g s₁ a G₁) λJ s₂ jv H₂ x r₂ aR=>wpAny_pure (wpAny_pure (x.casesOn λad vs j e1 e2 e3 hl qq=>?_));rw[e1] at r₁;rw[e2] at r₂;refine r₁.bR ?_;refine r₂.bB λtj=>?_;obtain⟨xs,m,o,rr⟩:=aR.rel _ _ e3;refine tail_any ((aH o).push _).typeIs list_getitem_lookup (wpAny_getItem_list_slice ((aH o).push _) (X4 ..) (.int (j:Int) tj) .none .none (by simp) ?_ (by simpa using rr.size hl)) fh;rw[x_];have:=(aR.push {cls:=.type "slice",data:=.fields (List.toArray [.int (j:Int) tj,.none,.none])}).newList ((rr.drop j).up λb ob e=>j6 _ e);exact#[_,_,qq _ this.2,.ref _,this.1]
end
end
section
section
variable{C:Cx}{n:Nat}{F:Fm}{ρ:Loc}{H:AH}
theorem aF.fT{slice:Expr}{a:Addr}{vs:List AV}{k:Int}{v:AV}{Q:AV->AH->Prop}(hs:vY slice)(ha:H a=some (.list vs))(h0:k<0)(h1:-(vs.length:Int)<=k)(hk:vs[(k+vs.length).toNat]? =some v)(hl:vs.length<=1000000)(h:Q v H):aF C n slice (.ref a) (.int k) H Q:=λA g s V I value Z G r r'=>by
 refine r.bR ?_;refine r'.bB λZ=>?_;obtain⟨xs,m,o,rr⟩:=G.rel _ _ ha;refine bz (rr.get hk) λV hV aV=>?_;have hlen:=rr.length;exact tail_any (aH o).typeIs slot_list_getitem.lookup (PySem.wpAny_getItem_list_neg (aH o) h0 (by simp only[n7];exact o38 h1 hlen) (!Pr h1 hl) (by simp only[n7,hlen];simpa using hV) #[_,_,h,aV,G]) (hs _ _)
theorem aF.tup{slice:Expr}{vs:List AV}{k:Int}{v:AV}{Q:AV->AH->Prop}(hs:vY slice)(h0:0<=k)(hk:vs[k.toNat]? =some v)(hl:vs.length<=1000000)(h:Q v H):aF C n slice (.tup vs) (.int k) H Q:=λA g s V I value Z G r r'=>by
 refine r.tupI λa xs o rr=>?_;refine r'.bB λt=>?_;refine bz (rr.get hk) λV hV aV=>?_;have hlen:=rr.length;have lt:k.toNat<vs.length:=(c9.mp hk).1;exact tail_any (s:=s) (T:="tuple") #[_,o,rfl] F.slot_tuple_getitem.lookup (P.getItem_tuple (k:=k.toNat) o (!acS h0) (!Pq lt hl) (seqIndex_of h0 (by simp only[n7];exact o39 lt hlen)) (by simpa using hV) #[_,_,h,aV,G]) (hs _ _)
theorem aF.str{slice:Expr}{x:Str}{k:Int}{c:Nat}{Q:AV->AH->Prop}(hs:vY slice)(h0:0<=k)(hk:x.cps[k.toNat]? =some c)(hl:x.length<=10000000)(h:Q (.str #[(List.toArray [c])]) H):aF C n slice (.str x) (.int k) H Q:=λA g s V I value Z G r r'=>by
 refine r.fL λt=>?_;refine r'.bB λu=>?_;have lt:k.toNat<x.length:=(Q9.mp hk).1;exact tail_any (s:=s) (T:="str") (typeIs_str s x t) F.slot_str_getitem.lookup (P.getItem_str (c:=c) (by simp;exact o40 h0 lt hl) (by rw[seqIndex_of h0 (!o41 lt)];simpa using hk) #[_,_,h,.str _ _,G.at _]) (hs _ _)
theorem aM.set(a:bF h V v):∀{Vs:List Value} {vs:List AV} (k:Nat),aM h Vs vs->aM h (Vs.set k V) (vs.set k v)
 |_,_,_,.nil=>.nil
 |_,_,0,.cons _ r=>.cons a r
 |_,_,k+1,.cons b r=>.cons b (aM.set a k r)
theorem cJ.upd{g:Fz}{s:Shared}{a:Addr}{vs us:List AV}{xs ys:List Value}{m:Nat}(G:cJ C g H s)(ha:H a=some (.list vs))(o:s.heap.get? a=some #[.type "list",b6,.seq xs.toArray m,#[]])(f:Array Value->Array Value)(hf:f xs.toArray=ys.toArray)(r:aM s.heap ys us){tk:Nat}:
 cJ C g (H.set a (.list us)) {s with heap:=s.heap.update a (D3 f),toks:=tk}/\bZ s.heap (s.heap.update a (D3 f)):=by
 have sb:=Heap.SameBut.update s.heap a (D3 f);refine G.turn (s':={s with heap:=s.heap.update a (D3 f),toks:=tk}) ha (.inl rfl) (λZ=>False) (λZ f=>f.elim) (λb ob hb Z e=>sb.extBut _ _ hb e) (λkt=>?_) (λD dx fs e=>by cases e) (.inl (I5 sb.1.symm)) rfl rfl;refine xE (oW xs.toArray m f) λn' e=>?_;refine#[ys,n',?_,r.mono kt];show(s.heap.update a (D3 f)).get? a=_;rw[G1 _ o rfl,e,hf]
theorem cZ.list{a:Addr}{vs:List AV}{k:Int}{v:AV}{Q:AH->Prop}(ha:H a=some (.list vs))(h0:0<=k)(hk:k<vs.length)(hl:vs.length<=1000000)(h:Q (H.set a (.list (vs.set k.toNat v)))):cZ C n (.ref a) (.int k) v H Q:=λA g s O I V Z G r r' rv=>by
 refine r.bR ?_;refine r'.bB λt=>?_;obtain⟨xs,m,o,rr⟩:=G.rel _ _ ha;have hlen:=rr.length;refine ki_setAt o h0 (!acT hk hl) (by simp only[n7];exact o42 hk hlen) #[_,h,(G.upd ha o (·.setIfInBounds k.toNat V) (ys:=xs.set k.toNat V) (by simp) (rr.set rv k.toNat)).1]
theorem cZ.fT{a:Addr}{vs:List AV}{k:Int}{v:AV}{Q:AH->Prop}(ha:H a=some (.list vs))(h0:k<0)(h1:-(vs.length:Int)<=k)(hl:vs.length<=1000000)(h:Q (H.set a (.list (vs.set (k+vs.length).toNat v)))):cZ C n (.ref a) (.int k) v H Q:=λA g s O I V Z G r r' rv=>by
 refine r.bR ?_;refine r'.bB λt=>?_;obtain⟨xs,m,o,rr⟩:=G.rel _ _ ha;have hlen:=rr.length;refine ki_setBack o h0 (by simp only[n7];exact o38 h1 hlen) (!Pr h1 hl) #[_,h,(G.upd ha o (·.setIfInBounds (k+xs.toArray.size).toNat V) (ys:=xs.set (k+vs.length).toNat V) (by simp[hlen]) (rr.set rv _)).1]
theorem aj.bM(ha:H a=some (.list vs))(hl:vs.length<=1000000)(h:Q (.int vs.length) H):aj C n (.builtin "len") [.ref a] H Q:=λA g s Vs Z G r=>by
 refine r.aX λZ Z a r=>?_;refine r.cC ?_;refine a.bR ?_;obtain⟨xs,m,o,rr⟩:=G.rel _ _ ha;refine call_len_list (aH o) (by simp only[n7,rr.length];exact acU hl) #[_,_,h,?_,(G.at _)];simp only[n7,rr.length];exact .int _ _
theorem aj.yf(hl:x.length<=10000000)(h:Q (.int x.length) H):aj C n (.builtin "len") [.str x] H Q:=λA g s Vs Z G r=>by
 refine r.aX λZ Z a r=>?_;refine r.cC ?_;refine a.fL λZ=>?_;exact P.len_str (!acV hl) #[_,_,h,.int _ _,G.at _]
theorem aj.aeE(hl:vs.length<=1000000)(h:Q (.int vs.length) H):aj C n (.builtin "len") [.tup vs] H Q:=λA g s Vs Z G r=>by
 refine r.aX λZ Z a r=>?_;refine r.cC ?_;refine a.tupI λad xs o rr=>?_;refine P.len_tuple o (by simp only[n7,rr.length];exact acW hl) #[_,_,h,?_,(G.at _)];simp only[n7,rr.length];exact .int _ _
theorem aj.QH{K:Type}[DecidableEq K](d:DK C K){a:Addr}{kvs:List (K×AV)}{Q:AV->AH->Prop}(ha:H a=some (d.ao kvs))(hl:kvs.length<=1000000)(h:Q (.int kvs.length) H):aj C n (.builtin "len") [.ref a] H Q:=λA g s Vs Z G r=>by
 refine r.aX λZ Z a r=>?_;refine r.cC ?_;refine a.bR ?_;refine bz ((d.rel _ _ _).mp (G.rel _ _ ha)) λkv hd rr=>?_;have hlen:=rr.length;refine call_len_dict (G.oY ha) hd (!acX hlen hl) #[_,_,h,?_,(G.at _)];rw[hlen];exact .int _ _
theorem aB.Ls(ha:H a=some (.list vs))(hb:H b=some (.list us))(hl:vs.length+us.length<=1000000)(h:∀c,H c=b6->Q (.ref c) (H.set c (.list (vs++us)))):aB C n (binaryOp .Add) (.ref a) (.ref b) H Q:=λA g s V U Z G r r'=>by
 refine r.bR ?_;refine r'.bR ?_;obtain⟨xs,m,o,rr⟩:=G.rel _ _ ha;obtain⟨ys,m',o',MR⟩:=G.rel _ _ hb;have l1:=rr.length;have l2:=MR.length;refine P.add_list o o' ?_ (by simp only[n7,sizeLine_eq];exact o43 hl l1 l2);refine xA (G.new (o:=.list (vs++us)) (ob:={cls:=.type "list",data:=.seq (xs.toArray++ys.toArray)}) rfl (λZ Z Z e=>by cases e) λh' k e=>#[xs++ys,0,by rw[e];simp,(rr.append MR).up k]) λG' n0=>?_;exact#[_,_,h _ n0,.ref _,G']
theorem aj.append{a:Addr}{vs:List AV}{v:AV}{Q:AV->AH->Prop}(ha:H a=some (.list vs))(hl:vs.length<=1000000)(h:Q .none (H.set a (.list (vs++[v])))):aj C n (.builtin "list.append") [.ref a,v] H Q:=λA g s Vs Z G r=>by
 refine r.aX λZ Z a r=>?_;refine r.aX λZ Z b r=>?_;refine r.cC ?_;refine a.bR ?_;obtain⟨xs,m,o,rr⟩:=G.rel _ _ ha;have l1:=rr.length;refine call_meets F.slot_list_append #[_,o,rfl] F.entry_list_append (F.args_list_append_2 _ _) (PySem.list_append _ _ _ _ (by simp only[n7,sizeLine_eq];exact MP l1 hl)) #[o,?_];exact#[_,_,h,.none,(G.upd (tk:=s.toks) ha o _ (ys:=xs++[_]) (by simp) (rr.append (.cons b .nil))).1]
theorem aj.extend{a b:Addr}{vs us:List AV}{Q:AV->AH->Prop}(ha:H a=some (.list vs))(hb:H b=some (.list us))(hl:vs.length+us.length<=1000000)(h:Q .none (H.set a (.list (vs++us)))):aj C n (.builtin "list.extend") [.ref a,.ref b] H Q:=λA g s Vs Z G r=>by
 refine r.aX λZ Z a r=>?_;refine r.aX λZ Z b r=>?_;refine r.cC ?_;refine a.bR ?_;refine b.bR ?_;obtain⟨xs,m,o,rr⟩:=G.rel _ _ ha;obtain⟨ys,m',o',MR⟩:=G.rel _ _ hb;have l1:=rr.length;have l2:=MR.length;have hs:xs.toArray.size+ys.toArray.size<=sizeLine:=by simp only[n7,sizeLine_eq];exact o43 hl l1 l2
 refine call_meets F.slot_list_extend #[_,o,rfl] F.entry_list_extend (F.args_list_extend_2 _ _) (AutoSeq1.list_extend_list_list_0 _ _ _ _ _ _ (by intro hc;have:=(F8.mp hc).2;unfold Builtin.List.listTooLong at this;have:=of_decide_eq_true this;exact o45 hs this) (!o46 hs) (!o47 hs)) #[o,o',?_];exact#[_,_,h,.none,(G.upd (tk:=s.toks) ha o _ (ys:=xs++ys) (by simp) (rr.append MR)).1]
theorem aM.last:∀{xs:List Value},aM h xs (vs++[v])->∃ys Y,xs=ys++[Y]/\aM h ys vs/\bF h Y v:=by
 induction vs with
 |nil=>exact λr=>r.aX λV W a r=>r.cC #[[],V,rfl,.nil,a]
 |cons u us ih=>exact λr=>r.aX λV W a r=>(ih r).elim λys q=>q.elim λY q=>#[V::ys,Y,congrArg (V::·) q.1,.cons a q.2.1,q.2.2]
theorem aj.pop{a:Addr}{vs:List AV}{v:AV}{Q:AV->AH->Prop}(ha:H a=some (.list (vs++[v])))(hl:vs.length<=1000000)(h:Q v (H.set a (.list vs))):aj C n (.builtin "list.pop") [.ref a] H Q:=λA g s Vs Z G r=>by
 refine r.aX λZ Z a r=>?_;refine r.cC ?_;refine a.bR ?_;obtain⟨xs,m,o,rr⟩:=G.rel _ _ ha;obtain⟨ys,Y,rfl,ry,aY⟩:=rr.last;have l1:=ry.length;refine call_meets F.slot_list_pop #[_,o,rfl] F.entry_list_pop (F.args_list_pop_1 _) (PySem.MeetsSeq.list_pop_last _ _ _ Y (by simp) (by simp only[n7,sizeLine_eq,lG,U6];exact o48 l1 hl)) #[o,?_];refine xA (G.upd (tk:=s.toks) ha o (λzs=>zs.eraseIdxIfInBounds ((ys++[Y]).toArray.size - 1)) (ys:=ys) (by simp[Array.eraseIdxIfInBounds,List.eraseIdx_append_of_length_le]) ry) λG' kt=>?_;exact#[_,_,h,aY.mono kt,G']
theorem fR.list{a:Addr}{vs:List AV}{name:String}{id:String}(ha:H a=some (.list vs))(slot:Slot "list" (bI name) id)(ty:typeOf (.builtin id)=pure (.type "method_descriptor")):fR C (.ref a) (bI name) H (.builtin id) true:=λA g s V pl Q G r hq=>by
 have hq:=hq s.toks;revert hq;refine r.bR λhq=>?_;obtain⟨xs,m,o,rr⟩:=G.rel _ _ ha;exact getMethod_builtin (aH o).typeIs F.plainAttrs_list slot ty (λb e=>by cases e;exact#[_,o,rfl]) hq
theorem fR.strm{x:Str}{name:String}{id:String}(slot:Slot "str" (bI name) id)(ty:typeOf (.builtin id)=pure (.type "method_descriptor")):fR C (.str x) (bI name) H (.builtin id) true:=λA g s V pl Q G r hq=>by
 have hq:=hq s.toks;revert hq;exact r.fL λt=>getMethod_builtin (typeIs_str s x t) F.plainAttrs_str slot ty λb e=>nomatch e
theorem fR.dict{K:Type}[DecidableEq K](d:DK C K){a:Addr}{kvs:List (K×AV)}{name:String}{id:String}(ha:H a=some (d.ao kvs))(slot:Slot "dict" (bI name) id)(ty:typeOf (.builtin id)=pure (.type "method_descriptor")):fR C (.ref a) (bI name) H (.builtin id) true:=λA g s V pl Q G r hq=>by
 have hq:=hq s.toks;revert hq;refine r.bR λhq=>?_;refine bz ((d.rel _ _ _).mp (G.rel _ _ ha)) λkv hd rr=>?_;exact getMethod_builtin hd.typeIs F.plainAttrs_dict slot ty (λb e=>by cases e;refine qk hd λo Z Z q ex Z=>?_;exact#[_,q,ex.2.1]) hq
theorem aj.aeF{K:Type}[DecidableEq K](d:DK C K){a:Addr}{kvs:List (K×AV)}{k:K}{v:AV}{Q:AV->AH->Prop}(ha:H a=some (d.ao kvs))(h:Q ((dX kvs k).getD v) H):aj C n (.builtin "dict.get") [.ref a,d.key k,v] H Q:=λA g s Vs Z G r=>by
 refine r.aX λZ Z a r=>?_;refine r.aX λZ Z b r=>?_;refine r.aX λZ Z c r=>?_;refine r.cC ?_;refine a.bR ?_;refine bz ((d.rel _ _ _).mp (G.rel _ _ ha)) λkv hd rr=>?_;refine call_meetsIn F.slot_dict_get hd.typeIs F.entry_dict_get (F.args_dict_get_3 _ _ _) (meets_dict_get_default d.knd _ (d.is b) (G.oY ha) _) #[_,hd.mapOf,?_];rcases rr.at (k:=k) with⟨W,w,e1,e2,aW⟩|⟨e1,e2⟩
 ·rw[e1];rw[e2] at h;exact#[_,_,h,aW,G.at _]
 ·rw[e1];rw[e2] at h;exact#[_,_,h,c,G.at _]
theorem aj.aeG{K:Type}[DecidableEq K](d:DK C K){a:Addr}{kvs:List (K×AV)}{k:K}{Q:AV->AH->Prop}(ha:H a=some (d.ao kvs))(h:Q ((dX kvs k).getD .none) H):aj C n (.builtin "dict.get") [.ref a,d.key k] H Q:=λA g s Vs Z G r=>by
 refine r.aX λZ Z a r=>?_;refine r.aX λZ Z b r=>?_;refine r.cC ?_;refine a.bR ?_;refine bz ((d.rel _ _ _).mp (G.rel _ _ ha)) λkv hd rr=>?_;refine call_meetsIn F.slot_dict_get hd.typeIs F.entry_dict_get (F.args_dict_get_2 _ _) (meets_dict_get d.knd _ (d.is b) (G.oY ha)) #[_,hd.mapOf,?_];rcases rr.at (k:=k) with⟨W,w,e1,e2,aW⟩|⟨e1,e2⟩
 ·rw[e1];rw[e2] at h;exact#[_,_,h,aW,G.at _]
 ·rw[e1];rw[e2] at h;exact#[_,_,h,.none,G.at _]
theorem Ev.zQ{pos:Pos}{Q:AV->AH->Prop}{K:Type}[DecidableEq K](d:DK C K)(h:∀a,H a=b6->Q (.ref a) (H.set a (d.ao []))):Ev C n F (.Dict [] [] pos) ρ H Q:=λA g s a G=>by
 refine wpAny_Dict_empty ?_;obtain⟨g₂,dm,_,bh⟩:=G.call;refine xA (dm.new (o:=d.ao []) (ob:={cls:=.type "dict",data:=.dict #[]}) rfl (λZ Z Z=>d.ni _ _ _ _) λh' k e=>(d.rel _ _ _).mpr #[[],#[_,#[],0,e,#[rfl,rfl,rfl],rfl,λZ he=>by simp at he,.nil,J9],.nil]) λG' n0=>?_;exact#[.ref _,_,h _ n0,.ref _,bh _ _ G']
end
end
section
section
variable{C:Cx}{n:Nat}{F:Fm}{ρ:Loc}{H:AH}
inductive bV(P:Bool->AH->Prop)(v:AV)(H:AH):Prop
 |mk (b:Bool) (e:v=.bool b) (q:P b H):bV P v H
noncomputable abbrev QI(C:Cx)(n:Nat)(F:Fm)(y:Expr)(ρ:Loc)(Q:AV->AH->Prop):Bool->AH->Prop:=λb H=>if b then Ev C n F y ρ H Q else Q (.bool false) H
noncomputable abbrev aeH(C:Cx)(n:Nat)(F:Fm)(y:Expr)(ρ:Loc)(Q:AV->AH->Prop):Bool->AH->Prop:=λb H=>if b then Q (.bool true) H else Ev C n F y ρ H Q
noncomputable abbrev aeI(C:Cx)(n:Nat)(F:Fm)(r:Expr)(o2:CmpOp)(u:AV)(ρ:Loc)(Q:AV->AH->Prop):Bool->AH->Prop:=λb H=>if b then Ev C n F r ρ H (KX C n (compareOp o2) u Q) else Q (.bool false) H
noncomputable abbrev aeJ(C:Cx)(n:Nat)(F:Fm)(r:Expr)(o1 o2:CmpOp)(v:AV)(ρ:Loc)(Q:AV->AH->Prop):AV->AH->Prop:=λu H=>aB C n (compareOp o1) v u H (bV (aeI C n F r o2 u ρ Q))
noncomputable abbrev QJ(C:Cx)(n:Nat)(F:Fm)(m r:Expr)(o1 o2:CmpOp)(ρ:Loc)(Q:AV->AH->Prop):AV->AH->Prop:=λv H=>Ev C n F m ρ H (aeJ C n F r o1 o2 v ρ Q)
noncomputable abbrev aeK(C:Cx)(n:Nat)(F:Fm)(r:Expr)(o2:CmpOp)(u:AV)(ρ:Loc)(Q:Bool->AH->Prop):Bool->AH->Prop:=λb H=>if b then Ev C n F r ρ H (KX C n (compareOp o2) u (bV Q)) else Q false H
noncomputable abbrev aeL(C:Cx)(n:Nat)(F:Fm)(r:Expr)(o1 o2:CmpOp)(v:AV)(ρ:Loc)(Q:Bool->AH->Prop):AV->AH->Prop:=λu H=>aB C n (compareOp o1) v u H (bV (aeK C n F r o2 u ρ Q))
noncomputable abbrev aeM(C:Cx)(n:Nat)(F:Fm)(m r:Expr)(o1 o2:CmpOp)(ρ:Loc)(Q:Bool->AH->Prop):AV->AH->Prop:=λv H=>Ev C n F m ρ H (aeL C n F r o1 o2 v ρ Q)
theorem Tr.cmp(h:Ev C n F l ρ H (OpK C n F r (compareOp op) ρ (bV Q)))(hm:autoParam (behindInMarks op r=false) A1):Tr C n F (.Compare l [op] [r] pos) ρ H Q:=λA g s a G=>by
 refine wpAny_isTrue_Compare1 (fH (h A g s a G) λV s₁ v H₁ q r₁ G₁=>?_) hm;obtain⟨g₁,dZ,keep,back,_⟩:=G₁.grow;refine fH (q A g₁ s₁ a dZ) λU s₂ u H₂ q₂ r₂ aR=>?_;obtain⟨g₂,dm,_,bh⟩:=aR.call;refine zE (q₂ A g₂ s₂ V U a dm (keep _ _ r₁ _ aR.keep) r₂) λW s' c H' z r G'=>z.casesOn λb e q=>?_;rw[e] at r;exact r.ig (wpAny_truthy_bool #[H',q,back _ _ _ (bh _ _ G')])
theorem Ev.aeN(h:Ev C n F x ρ H (bV (QI C n F y ρ Q))):Ev C n F (.BoolOp .And [x,y] pos) ρ H Q:=λA g s a G=>by
 refine wpAny_And2 (fH (h A g s a G) λV s₁ v H₁ z r₁ G₁=>z.casesOn λb e q=>?_);rw[e] at r₁;refine r₁.ig (wpAny_truthy_bool ?_);cases b with
 |true=>exact q A g s₁ a G₁
 |false=>exact#[_,H₁,q,.bool _,G₁]
theorem Ev.or2(h:Ev C n F x ρ H (bV (aeH C n F y ρ Q))):Ev C n F (.BoolOp .Or [x,y] pos) ρ H Q:=λA g s a G=>by
 refine wpAny_Or2 (fH (h A g s a G) λV s₁ v H₁ z r₁ G₁=>z.casesOn λb e q=>?_);rw[e] at r₁;refine r₁.ig (wpAny_truthy_bool ?_);cases b with
 |true=>exact#[_,H₁,q,.bool _,G₁]
 |false=>exact q A g s₁ a G₁
theorem yg{l m r:Expr}{o1 o2:CmpOp}{pos:Pos}{env:Env}:eval (.Compare l [o1,o2] [m,r] pos) env=(do
 let a<-eval l env;let b<-holding [a] (eval m env)
 standAt pos
 let c<-holding [a,b] (compareOp o1 a b)
 release [a,b] [c]
 if<-holding [c,b] (truthy c) then(do
  let d<-holding [b] (markedBehindIn o2 r (eval r env))
  standAt pos
  operate [b,d] (compareOp o2 b d)) else pure c):=rfl
theorem yh{l m r:Expr}{o1 o2:CmpOp}{pos:Pos}{env:Env}{whole:Sem Value}:isTrue (.Compare l [o1,o2] [m,r] pos) env whole=(do
 let a<-eval l env;let b<-holding [a] (eval m env)
 standAt pos
 let c<-holding [a,b] (compareOp o1 a b)
 release [a,b] [c]
 if<-holding [c,b] (truthy c) then(do
  let d<-holding [b] (markedBehindIn o2 r (eval r env))
  standAt pos
  let c<-operate [b,d] (compareOp o2 b d)
  holding [c] (truthy c)) else pure false):=rfl
theorem AZ(h:Q () s):wpAny M A (release a b) Q E s:=λΓ p hΓ=>by
 rw[Sem.wp_release];exact h
theorem qB {α:Type} {l m r:Expr} {o1 o2:CmpOp} {pos:Pos} {A:Around} {g:Fz} {s:Shared} {P:α->Shared->Prop} (fin:Value->Sem α) (no:Value->α) (a:ju n A) (G:Gd C g F ρ H s) {Q:AV->AH->Prop}
 (h:Ev C n F l ρ H (QJ C n F m r o1 o2 ρ Q))
 (hm:behindInMarks o2 r=false) (aeO:∀V s' v H',Q v H'->bF s'.heap V v->Gd C g F ρ H' s'->Wp C A (fin V) P s') (hno:∀s' H',Q (.bool false) H'->Gd C g F ρ H' s'->P (no (.bool false)) s'):
 Wp C A (do
  let a<-eval l F.env;let b<-holding [a] (eval m F.env)
  standAt pos
  let c<-holding [a,b] (compareOp o1 a b)
  release [a,b] [c]
  if<-holding [c,b] (truthy c) then(do
   let d<-holding [b] (markedBehindIn o2 r (eval r F.env))
   standAt pos
   let c<-operate [b,d] (compareOp o2 b d)
   fin c) else pure (no c)) P s:=by
 refine wpAny_bind (fH (h A g s a G) λV s₁ v H₁ q r₁ G₁=>wpAny_bind (wpAny_holding ?_));obtain⟨g₁,dZ,zO,tN,_⟩:=G₁.grow;refine fH (q A g₁ s₁ a dZ) λU s₂ u H₂ q r₂ aR=>wpAny_bind (wpAny_standAt (wpAny_bind (wpAny_holding ?_)));obtain⟨g₂,dm,zP,CW⟩:=aR.call;refine zE (q A g₂ s₂ V U a dm (zO _ _ r₁ _ aR.keep) r₂) λW s₃ c cF z xZ gj=>z.casesOn λb e q=>wpAny_bind (AZ (wpAny_bind (wpAny_holding ?_)));have r2':bF s₃.heap U u:=zP _ _ r₂ _ gj.keep;have IX:=CW _ _ gj;rw[e] at xZ;refine xZ.ig ?_;refine wpAny_truthy_bool ?_;cases b with
 |false=>exact wpAny_pure (hno _ _ q (tN _ _ _ IX))
 |true=>
  obtain⟨aeP,xY,QK,QL,_⟩:=IX.grow;rw[if_pos rfl];refine wpAny_bind (wpAny_holding ?_);rw[markedBehindIn_of_false hm];refine fH (q A aeP s₃ a xY) λD s₅ w akz q aeQ v_=>wpAny_bind (wpAny_standAt (wpAny_bind (wpAny_operateT ?_)));obtain⟨aeR,aeS,_,QM⟩:=v_.call;exact zE (q A aeR s₅ U D a aeS (QK _ _ r2' _ v_.keep) aeQ) λR s' c H' q r G'=>aeO _ _ _ _ q r (tN _ _ _ (QL _ _ _ (QM _ _ G')))
theorem Ev.Lu {l m r:Expr} {o1 o2:CmpOp} {pos:Pos} {Q:AV->AH->Prop} (h:Ev C n F l ρ H (QJ C n F m r o1 o2 ρ Q))
 (hm:autoParam (behindInMarks o2 r=false) A1):Ev C n F (.Compare l [o1,o2] [m,r] pos) ρ H Q:=λA g s a G=>by
 rw[yg];have:=qB (pos:=pos) (A:=A) (g:=g) (s:=s) (P:=PS C g F ρ Q) (λV=>pure V) (λc=>c) a G h hm (λV s' v H' q r G'=>wpAny_pure #[v,H',q,r,G']) (λs' H' q G'=>#[_,H',q,.bool _,G']);simpa using this
theorem Tr.Lu {l m r:Expr} {o1 o2:CmpOp} {pos:Pos} {Q:Bool->AH->Prop} (h:Ev C n F l ρ H (aeM C n F m r o1 o2 ρ Q))
 (hm:autoParam (behindInMarks o2 r=false) A1):Tr C n F (.Compare l [o1,o2] [m,r] pos) ρ H Q:=λA g s a G=>by
 rw[yh];refine qB (pos:=pos) (A:=A) (g:=g) (s:=s) (Q:=bV Q) (λc=>holding [c] (truthy c)) (λZ=>false) a G ?_ hm (λV s' v H' #[b,e,q] r G'=>?_) (λs' H' #[b,e,q] G'=>by cases e;exact#[H',q,G'])
 ·refine h.mono λv H₁ h=>h.mono λu H₂ h=>h.mono λc cF #[b,e,q]=>#[b,e,?_];cases b with
  |true=>exact q
  |false=>exact#[false,rfl,q]
 ·rw[e] at r;exact r.ig (wpAny_holding (wpAny_truthy_bool #[H',q,G']))
end
end
section
section
variable{C:Cx}{n:Nat}{F:Fm}{ρ:Loc}{H:AH}
theorem cJ.CX{g:Fz}{s s':Shared}{D:Addr}{xs:List Value}{m:Nat}{ys:List AV}(G:cJ C g H s)(k:∀b o,s.heap.get? b=some o->s'.heap.get? b=some o)(nw:s.heap.get? D=b6)(hns:D≠sysModules)(o:s'.heap.get? D=some #[.type "list",b6,.seq xs.toArray m,#[]])(r:aM s'.heap xs ys)(hg:autoParam (s'.gens=s.gens) A1)(ho:autoParam (s'.os=s.os) A1):cJ C g (H.set D (.list ys)) s'/\H D=b6:=by
 have nf:¬cW H D:=λf=>by refine xE (G.cE f) λo e=>?_;rw[nw] at e;cases e
 refine#[(G.up' k hg ho).adopt nf ?_ o r hns,?_]
 ·cases e:g D with
  |none=>rfl
  |some o=>have:=G.keep _ _ e;rw[nw] at this;cases this
 ·cases e:H D with
  |none=>rfl
  |some o=>exact absurd (.inl #[o,e]) nf
noncomputable def ak(ns:List Int):List AV:=ns.map AV.int
theorem aM.ints{h:Heap}{Vs:List Value}{ns:List Int}(r:aM h Vs (ak ns)):IntsAre Vs ns:=by
 induction ns generalizing Vs with
 |nil=>refine r.cC ?_;exact .nil
 |cons k ns ih=>refine r.aX λV Ws a r=>?_;refine a.bB λt=>?_;exact .cons _ _ (ih r)
theorem IntsAre.abs(r:IntsAre Vs ns):aM h Vs (ak ns):=by
 induction r with
 |nil=>exact .nil
 |cons k t _ ih=>exact .cons (.int k t) ih
theorem aj.sum(ha:H a=some (.list (ak ns)))(h:Q (.int ns.sum) H):aj C n (.builtin "sum") [.ref a] H Q:=λA g s Vs ao G r=>by
 refine r.aX λZ Z a r=>?_;refine r.cC ?_;refine a.bR ?_;obtain⟨xs,m,o,rr⟩:=G.rel _ _ ha;have hi:=rr.ints;refine xE hi.allInts.items λys hy=>?_;have hl:=aH o;rw[hy] at hl;refine sum_intListG ao.handled hl λh' tk t' hk=>#[_,_,h,?_,(G.up' (s':={s with heap:=h',toks:=tk}) hk)];have e1:ns=ys.toList.map (·.1):=by rw[<-nums_intItems,<-hy,<-hi.numsOf]
 have:preSum (numAt ys) ys.size=ns.sum:=by rw[preSum_eq,z9 (by simp),e1]
 rw[this];exact .int _ _
theorem aj.max(ha:H a=some (.list (ak ns)))(hne:0<ns.length)(h:∀M,M∈ns->(∀x∈ns,x<=M)->Q (.int M) H):aj C n (.builtin "max") [.ref a] H Q:=λA g s Vs ao G r=>by
 refine r.aX λZ Z a r=>?_;refine r.cC ?_;refine a.bR ?_;obtain⟨xs,m,o,rr⟩:=G.rel _ _ ha;have hi:=rr.ints;refine xE hi.allInts.items λys hy=>?_;have hl:=aH o;rw[hy] at hl;have hns:ns=ys.toList.map (·.1):=by rw[<-hi.numsOf,<-nums_intItems,<-hy]
 have hsz:0<ys.size:=by
  have h3:=hne;rw[hns,b9,O8] at h3;exact h3
 refine max_intList ao.handled hl hsz λv h' tk hv hk=>?_;obtain⟨t,rfl⟩:=intItems_at hv;refine xA (argBest_gt (numAt ys) (ys.size - 1)) λh1 h2=>?_;refine#[_,_,h _ ?_ λx hx=>?_,.int _ _,(G.up' (s':={s with heap:=h',toks:=tk}) hk)]
 ·rw[hns,numAt_eq];exact getD_mem (by rw[b9,O8];exact o49 hsz h1)
 ·rw[hns] at hx;obtain⟨j,hj,rfl⟩:=mem_getD hx;rw[b9,O8] at hj;rw[<-numAt_eq];exact h2 j (!o50 hj)
theorem aj.abs(h:Q (.int (if i<0 then -i else i)) H):aj C n (.builtin "abs") [.int i] H Q:=λA g s Vs Z G r=>by
 refine r.aX λZ Z a r=>?_;refine r.cC ?_;refine a.bB λZ=>?_;exact call_abs_int λu tk=>#[_,_,h,.int _ _,G.at _]
theorem wz:∀{a b:List Int},a.Perm b->a.Pairwise (·<=·)->b.Pairwise (·<=·)->a=b:=by
 intro a b p ha hb;exact List.Perm.eq_of_pairwise (λx y Z Z h1 h2=>!o51 h1 h2) ha hb p
theorem cR.get{K:Type}{h:Heap}{kv:List (K×Value)}{kvs:List (K×AV)}{j:Nat}{k:K}{x:Value}(r:cR h kv kvs)(e:kv[j]? =some (k,x)):∃v,kvs[j]? =some (k,v):=by
 induction r generalizing j with
 |nil=>exact gc e
 |@cons k' _ v _ _ a r ih=>
  cases j with
  |zero=>exact#[v,congrArg (λp:K×Value=>some (p.1,v)) (m9 e)]
  |succ j=>exact ih e
theorem aj.uI{a:Addr}{kvs:List (Int×AV)}{ks:List Int}{Q:AV->AH->Prop}(ha:H a=some (.dI kvs))(hl:kvs.length<64)(hp:ks.Perm (kvs.map (·.1)))(hs:ks.Pairwise (·<=·))(h:∀D,H D=b6->Q (.ref D) (H.set D (.list (ak ks)))):aj C n (.builtin "sorted") [.ref a] H Q:=λA g s Vs ao G r=>by
 refine r.aX λZ Z a r=>?_;refine r.cC ?_;refine a.bR ?_;refine bz (G.rel _ _ ha) λkv hD rr=>?_;refine xE hD.dictAt λep hat=>?_;have hlen:=rr.length;refine call_function_entry kind_sorted plain_sorted entry_sorted (args_sorted1 _) ?_;unfold Builtin.«sorted»;refine wpAny_bind (m:=checkCount "sorted" 1 1 _) (wpAny_pure ?_);refine wpAny_bind (kdu_collect (A:=A.in1) (kdl_dict (knd:=intKind C.prog C.w) (kvs:=kv) (ep:=ep) (G.oY ha)) ao.handled hat (kdl_size (!o52 hlen hl)) λh' tk acc hk hacc=>?_);have hl2:acc.toList.length=kv.length:=by rw[O8];exact hacc.1
 refine wpAny_bind (wpAny_newList ?_ (by rw[hl2,sizeLine_eq];exact o52 hlen hl))
 have hI:IntsAre acc.toList (kvs.map (·.1)):=by
  have:∀(l:List Value) (ms:List Int),l.length=ms.length->(∀(j:Nat) (v:Value),l[j]? =some v->∃(t:Tok) (k:Int),v=Value.int k t/\ms[j]? =some k)->IntsAre l ms:=by
   intro l;induction l with
   |nil=>intro ms e _;cases ms with|nil=>exact .nil|cons _ _=>simp at e
   |cons v l ih=>
    intro ms e hv;cases ms with
    |nil=>simp at e
    |cons k ms=>
     obtain⟨t,k',rfl,e'⟩:=hv 0 v rfl;simp at e';subst e';exact .cons _ _ (ih ms (by simpa using e) λj v hj=>by simpa using hv (j+1) v (by simpa using hj))
  refine this _ _ (by rw[hl2,hlen,b9]) λj v hv=>?_;refine lC (hacc.2 j v (by rw[<-Array.getElem?_toList];exact hv)) λk x hx hk'=>?_;obtain⟨t,rfl⟩:=Value.isInt_shape hk';refine xE (rr.get hx) λv' hv'=>?_;exact#[t,k,rfl,by rw[j9,hv'];rfl]
 have ho:(h'.push {cls:=.type "list",data:=.seq acc.toList.toArray}).get? h'.objs.size=some (seqObj "list" acc.toList.toArray 0):=s9 _ rfl;have hsz:s.heap.get? h'.objs.size=b6:=by
  cases e:s.heap.get? h'.objs.size with
  |none=>rfl
  |some o=>exact absurd (m7 (hk _ _ e)) (C5 _)
 have hns:h'.objs.size≠sysModules:=r9 (u7 C.lo (G.sz (s':={s with heap:=h'}) hk));refine wpAny_bind (wpAny_holding ?_);refine wpAny_call_entry W2 #[_,ho,rfl] V5 (list_sort_tree (n:=0) (vs:=acc.toList) ho hI (!o53 hl2 hlen hl) λout ns' hI' vI hs'=>#[.none,rfl,?_]) (W3 _);have e:ns'=ks:=wz (vI.trans hp.symm) hs' hs;subst e;refine xE (sortedHeap_at (out:=out) ho) λe he=>?_;have up:∀b o,s.heap.get? b=some o->(sortedHeap (h'.push {cls:=.type "list",data:=.seq acc.toList.toArray}) h'.objs.size acc.toList out).get? b=some o:=λb o q=>by
  have hb:=m7 (hk _ _ q);rw[sortedHeap_old (C7 hb) (by rw[A0];exact U1 hb)];exact j6 _ (hk _ _ q)
 refine xA (G.CX (s':={s with heap:=sortedHeap (h'.push {cls:=.type "list",data:=.seq acc.toList.toArray}) h'.objs.size acc.toList out,toks:=tk}) (D:=h'.objs.size) (xs:=out.toList) (m:=e) up hsz hns (by simpa using he) (IntsAre.abs hI')) λG' n0=>?_;exact wpAny_pure #[_,rfl,_,_,h _ n0,.ref _,G']
end
end
section
section
variable{C:Cx}{n:Nat}{F:Fm}{ρ:Loc}{H:AH}
noncomputable def aC(ys:List Str):List AV:=ys.map AV.str
theorem aM.strs:∀{Vs:List Value},aM h Vs (aC ys)->StrsAre Vs ys:=by
 induction ys with
 |nil=>exact λr=>r.cC .nil
 |cons k ns ih=>exact λr=>r.aX λV W a r=>a.fL λt=>.cons _ _ (ih r)
theorem k_:∀l:List (Str×Tok),aM h (strValues l) (aC (l.map (·.1)))
 |[]=>.nil
 |(x,t)::l=>.cons (.str x t) (k_ l)
theorem aj.join(ha:H a=some (.list (aC ys)))(hl:(ys.map (·.length)).sum+ys.length*x.length<=10000000)(h:Q (.str (S5 x ys)) H):aj C n (.builtin "str.join") [.str x,.ref a] H Q:=λA g s Vs Z G r=>by
 refine r.aX λZ Z a r=>?_;refine r.aX λZ Z b r=>?_;refine r.cC ?_;refine a.fL λZ=>?_;refine b.bR ?_;obtain⟨xs,m,o,rr⟩:=G.rel _ _ ha;exact join_list (aH o) (by simpa using rr.strs) (!o54 hl) λt' k=>#[_,_,h,.str _ _,G.at _]
theorem yi (hy:(y.length==0)=false) (hsz:x.length<=1000000) (hsz2:(O3 x (F6 x y 0 x.length (x.length+1)) y.length).length<=1000000)
 (hq:∀(l:List (Str×Tok)) k,l.map (·.1)=J7 x y->Q (.ref s.heap.objs.size) {s with heap:=s.heap.push {cls:=.type "list",data:=.seq (strValues l).toArray},toks:=k}):Wp C A (call (.builtin "str.split") [.str x t,.str y u]) Q s:=by
 cases h1:(decide (x.length<y.length)||decide (Builtin.Str.strKind x<Builtin.Str.strKind y))
 ·cases hf:(F6 x y 0 x.length (x.length+1)).isEmpty
  ·refine call_meets F.slot_str_split (typeIs_str _ _ _) Y9 (X5 _ _) (meets_str_split_sep x y t u h1 hy hf (by rw[sizeLine_eq];exact ND hsz) (by rw[sizeLine_eq];exact ND hsz2)) ?_;show wants Q _ _ {s with toks:=_,heap:=s.heap.push {cls:=.type "list",data:=.seq (strsFrom s.toks (O3 x (F6 x y 0 x.length (x.length+1)) y.length)).toArray}};rw[strsFrom_eq];exact hq (numbered s.toks _) _ ((numbered_texts _ _).trans ((if_neg (ne_true_of_eq_false h1)).trans (if_neg (ne_true_of_eq_false hf))).symm)
  ·exact call_meets F.slot_str_split (typeIs_str _ _ _) Y9 (X5 _ _) (meets_str_split_not_found x y t u h1 hy hf)
    (hq [(x,t)] s.toks ((if_neg (ne_true_of_eq_false h1)).trans (if_pos hf)).symm)
 ·exact call_meets F.slot_str_split (typeIs_str _ _ _) Y9 (X5 _ _) (meets_str_split_cannot_occur x y t u h1)
   (hq [(x,t)] s.toks (if_pos h1).symm)
theorem aj.split(hy:(y.length==0)=false)(hsz:x.length<=1000000)(hsz2:(O3 x (F6 x y 0 x.length (x.length+1)) y.length).length<=1000000)(h:∀a,H a=b6->Q (.ref a) (H.set a (.list (aC (J7 x y))))):aj C n (.builtin "str.split") [.str x,.str y] H Q:=λA g s Vs Z G r=>by
 refine r.aX λZ Z a r=>?_;refine r.aX λZ Z b r=>?_;refine r.cC ?_;refine a.fL λZ=>?_;refine b.fL λZ=>?_;refine yi hy hsz hsz2 λl k e=>?_;refine xA (G.new (o:=.list (aC (J7 x y))) (ob:={cls:=.type "list",data:=.seq (strValues l).toArray}) rfl (λZ Z Z e=>by cases e) λh' k' e'=>#[strValues l,0,e',e▸k_ l]) λG' n0=>?_;exact#[_,_,h _ n0,.ref _,G'.at k]
theorem aj.ord(h:Q (.int c) H):aj C n (.builtin "ord") [.str #[(List.toArray [c])]] H Q:=λA g s Vs Z G r=>by
 refine r.aX λZ Z a r=>?_;refine r.cC ?_;refine a.fL λZ=>?_;exact P.ord_of_char #[_,_,h,.int _ _,G.at _]
theorem aj.chr(h0:0<=i)(h1:i<=1114111)(h:Q (.str #[(List.toArray [i.toNat])]) H):aj C n (.builtin "chr") [.int i] H Q:=λA g s Vs Z G r=>by
 refine r.aX λZ Z a r=>?_;refine r.cC ?_;refine a.bB λZ=>?_;exact chr_of_range h0 h1 #[_,_,h,.str _ _,G.at _]
theorem aj.fL(hi:i.natAbs<2 ^ 1900)(h:Q (.str (bI (toString i))) H):aj C n (.type "str") [.int i] H Q:=λA g s Vs Z G r=>by
 refine r.aX λZ Z a r=>?_;refine r.cC ?_;refine a.bB λZ=>?_;refine P.str_of_int ?_ #[_,_,h,.str _ _,G.at _];by_cases h0:i.natAbs=0
 ·rw[h0];decide
 ·exact I6 ((Nat.log2_lt h0).mpr hi) (!b7 rfl)
theorem aj.bB(h:Q (.int i) H):aj C n (.type "int") [.int i] H Q:=λA g s Vs Z G r=>by
 refine r.aX λZ Z a r=>?_;refine r.cC ?_;refine a.bB λZ=>?_;exact call_int_int #[_,_,h,.int _ _,G]
theorem aj.QN(h:Q (.int (if b then 1 else 0)) H):aj C n (.type "int") [.bool b] H Q:=λA g s Vs Z G r=>by
 refine r.aX λZ Z a r=>?_;refine r.cC ?_;refine a.ig ?_;exact call_int_bool #[_,_,`a,.int _ _,G.at _]
theorem aj.QO(h0:0<=i)(h1:i<10 ^ 10)(h:Q (.int i) H):aj C n (.type "int") [.str (bI (toString i))] H Q:=λA g s Vs Z G r=>by
 refine r.aX λZ Z a r=>?_;refine r.cC ?_;refine a.fL λZ=>?_;exact KIN.call_num h0 h1 #[_,_,h,.int _ _,G.at _]
theorem aj.tuple{a:Addr}{vs:List AV}{Q:AV->AH->Prop}(ha:H a=some (.list vs))(hl:vs.length<=1000000)(h:Q (.tup vs) H):aj C n (.type "tuple") [.ref a] H Q:=λA g s Vs Z G r=>by
 refine r.aX λZ Z a r=>?_;refine r.cC ?_;refine a.bR ?_;obtain⟨xs,m,o,rr⟩:=G.rel _ _ ha;have l1:=rr.length;refine call_tuple_list (aH o) (λh' k=>?_) (by simp only[n7,sizeLine_eq];exact MP l1 hl);have up:∀b o,s.heap.get? b=some o->(h'.push {cls:=.type "tuple",data:=.seq xs.toArray}).get? b=some o:=λb o e=>j6 _ (k _ _ e);exact#[.tup vs,H,h,.tup (s9 _ rfl) (rr.up up),G.up' (s':={s with heap:=h'.push {cls:=.type "tuple",data:=.seq xs.toArray}}) up]
theorem eW{s:Shared}:s.heap.get? s.heap.objs.size=b6:=by
 cases e:s.heap.get? s.heap.objs.size with
 |none=>rfl
 |some o=>exact absurd (m7 e) (C5 _)
theorem aj.qC{a:Addr}{vs:List AV}{Q:AV->AH->Prop}(ha:H a=some (.list vs))(hl:vs.length<=1000000)(h:∀D,H D=b6->Q (.ref D) (H.set D (.list vs))):aj C n (.type "list") [.ref a] H Q:=λA g s Vs Z G r=>by
 refine r.aX λZ Z a r=>?_;refine r.cC ?_;refine a.bR ?_;obtain⟨xs,m,o,rr⟩:=G.rel _ _ ha;have l1:=rr.length;refine call_list_seq _ (.inl rfl) o rfl rfl (λh' c' k o'=>?_) (by simp only[n7,sizeLine_eq];exact MP l1 hl);refine xA (G.CX (s':={s with heap:=h'}) k eW (r9 (u7 C.lo G.size)) o' (rr.up k)) λG' n0=>?_;exact#[_,_,h _ n0,.ref _,G']
theorem aj.IY{vs:List AV}{Q:AV->AH->Prop}(hl:vs.length<=1000000)(h:∀D,H D=b6->Q (.ref D) (H.set D (.list vs))):aj C n (.type "list") [.tup vs] H Q:=λA g s Vs Z G r=>by
 refine r.aX λZ Z a r=>?_;refine r.cC ?_;refine a.tupI λad xs o rr=>?_;have l1:=rr.length;refine call_list_seq _ (.inr rfl) o rfl rfl (λh' c' k o'=>?_) (by simp only[n7,sizeLine_eq];exact MP l1 hl);refine xA (G.CX (s':={s with heap:=h'}) k eW (r9 (u7 C.lo G.size)) o' (rr.up k)) λG' n0=>?_;exact#[_,_,h _ n0,.ref _,G']
noncomputable def Ca:AV->String->Bool
 | .int _,"int"=>true
 | .bool _,"int"=>true
 | .str _,"str"=>true
 | .tup _,"tuple"=>true
 |_,_=>false
noncomputable def qD:AV->String
 | .none=>"NoneType"
 | .bool _=>"bool"
 | .int _=>"int"
 | .str _=>"str"
 |_=>"tuple"
theorem CY{s:Shared}{V:Value}{v:AV}(a:bF s.heap V v)(hv:∀x,v≠.ref x)(h2:∀x,v≠.ty x)(h3:∀x,v≠.bi x):s.TypeIs V (qD v):=by
 cases a with
 |none=>rfl
 |bool b=>rfl
 |int i t=>rfl
 |str x t=>rfl
 |ref x=>exact absurd rfl (hv x)
 |tup o _=>exact#[_,o,rfl]
 |ty x=>exact absurd rfl (h2 x)
 |bi x=>exact absurd rfl (h3 x)
end
end
section
@[elab_as_elim] theorem bF.QS{h:Heap}{P:Value->Prop}{V:Value}{i:String}(r:bF h V (.ty i))(k:P (.type i)):P V:=(show V=.type i from r.inv)▸k
theorem IZ(h:T="int"\/T="str"\/T="tuple"\/T="list"):typeOf (.type T)=pure (.type "type"):=by
 rcases h with rfl|rfl|rfl|rfl<;>kernel_rfl
theorem QT(hS:S="NoneType"\/S="bool"\/S="int"\/S="str"\/S="tuple")(h:T="int"\/T="str"\/T="tuple"\/T="list"):isSubtype (.type S) (.type T)=pure (S==T||(S=="bool"&&T=="int")):=by
 rcases hS with rfl|rfl|rfl|rfl|rfl<;>rcases h with rfl|rfl|rfl|rfl<;>(exact rfl)
theorem Lv(v:AV):qD v="NoneType"\/qD v="bool"\/qD v="int"\/qD v="str"\/qD v="tuple":=by
 cases v<;>first|exact .inl rfl|exact .inr (.inl rfl)|exact .inr (.inr (.inl rfl))|exact .inr (.inr (.inr (.inl rfl)))|exact .inr (.inr (.inr (.inr rfl)))
theorem CZ(hv:∀x,v≠.ref x)(h2:∀x,v≠.ty x)(h3:∀x,v≠.bi x)(h:T="int"\/T="str"\/T="tuple"\/T="list"):(qD v==T||(qD v=="bool"&&T=="int"))=Ca v T:=by
 cases v with
 |ref x=>exact absurd rfl (hv x)
 |ty x=>exact absurd rfl (h2 x)
 |bi x=>exact absurd rfl (h3 x)
 |none=>rcases h with rfl|rfl|rfl|rfl<;>rfl
 |bool b=>rcases h with rfl|rfl|rfl|rfl<;>rfl
 |int b=>rcases h with rfl|rfl|rfl|rfl<;>rfl
 |str b=>rcases h with rfl|rfl|rfl|rfl<;>rfl
 |tup b=>rcases h with rfl|rfl|rfl|rfl<;>rfl
theorem Lw(a:bF h V v)(hv:∀x,v≠.ref x)(h2:∀x,v≠.ty x)(h3:∀x,v≠.bi x)(hT:T="int"\/T="str"\/T="tuple"\/T="list"):Answers (λs=>s.TypeIs V (qD v)) V (.type T) (Ca v T):=by
 have hs:=QT (Lv v) hT;rw[CZ hv h2 h3 hT] at hs;have hm:=IZ hT;cases hk:Ca v T with
 |true=>
  rw[hk] at hs;exact Answers.of_true hm hs
 |false=>
  rw[hk] at hs;have hne:(T3 (qD v)==T3 T)=false:=by
   have e:=CZ hv h2 h3 hT;rw[hk,Bool.or_eq_false_iff] at e;have:qD v≠T:=by simpa using e.1
   simp[this]
  cases a with
  |none=>exact Answers.of_false_none hne hm hs
  |bool b=>exact Answers.of_false_bool hne hm hs
  |int i t=>exact Answers.of_false_int hne hm hs
  |str x t=>exact Answers.of_false_str hne hm hs
  |ref x=>exact absurd rfl (hv x)
  |tup o _=>exact Answers.of_false_tuple hne hm hs
  |ty x=>exact absurd rfl (h2 x)
  |bi x=>exact absurd rfl (h3 x)
theorem aeT(h:T="int"\/T="str"\/T="tuple"\/T="list"):isSubtype (.type "list") (.type T)=pure (T=="list"):=by
 rcases h with rfl|rfl|rfl|rfl<;>(exact rfl)
theorem Lx(hT:T="int"\/T="str"\/T="tuple"\/T="list"):Answers (λs=>s.TypeIs (.ref a) "list") (.ref a) (.type T) (T=="list"):=by
 have hs:=aeT hT;have hm:=IZ hT;cases hk:T=="list" with
 |true=>rw[hk] at hs;exact Answers.of_true hm hs
 |false=>
  rw[hk] at hs;have:T≠"list":=by simpa using hk
  exact Answers.of_false_list (by simp[q9 this]) hm hs
section
variable{C:Cx}{n:Nat}{H:AH}
theorem zR(an:Answers (λs=>s.TypeIs V Tx) V (.type T) b)(hx:s.TypeIs V Tx)(h:∀tk,Q (.bool b) {s with toks:=tk}):Wp C A (call (.builtin "isinstance") [V,.type T]) Q s:=by
 refine call_isinstance (S:=λZ R s=>s.TypeIs V Tx/\∀tk,R (.ok (.ret (.bool b))) {s with toks:=tk}) (λprog w A R s hs=>?_) #[hx,h];exact isinstance_outer (an 0 0 prog w A R s hs) (Shared.TypeIs.not_mainsLoader hs.1)
theorem aj.Cb{v:AV}{T:String}{Q:AV->AH->Prop}(hv:∀x,v≠.ref x)(h2:∀x,v≠.ty x)(h3:∀x,v≠.bi x)(hT:T="int"\/T="str"\/T="tuple"\/T="list")(h:Q (.bool (Ca v T)) H):aj C n (.builtin "isinstance") [v,.ty T] H Q:=λA g s Vs Z G r=>by
 refine r.aX λZ Z a r=>?_;refine r.aX λZ Z b r=>?_;refine r.cC ?_;refine b.QS ?_;exact zR (Lw a hv h2 h3 hT) (CY a hv h2 h3) λtk=>#[_,_,h,.bool _,G.at _]
theorem aj.aeU(ha:H a=some (.list vs))(hT:T="int"\/T="str"\/T="tuple"\/T="list")(h:Q (.bool (T=="list")) H):aj C n (.builtin "isinstance") [.ref a,.ty T] H Q:=λA g s Vs Z G r=>by
 refine r.aX λZ Z a r=>?_;refine r.aX λZ Z b r=>?_;refine r.cC ?_;cases b;refine a.bR ?_;obtain⟨xs,m,o,rr⟩:=G.rel _ _ ha;exact zR (Lx hT) #[_,o,rfl] λtk=>#[_,_,h,.bool _,G.at _]
theorem aj.Gy{v:AV}{T U:String}{Q:AV->AH->Prop}(hv:∀x,v≠.ref x)(h2:∀x,v≠.ty x)(h3:∀x,v≠.bi x)(hT:T="int"\/T="str"\/T="tuple"\/T="list")(hU:U="int"\/U="str"\/U="tuple"\/U="list")(h:Q (.bool (Ca v T||Ca v U)) H):aj C n (.builtin "isinstance") [v,.tup [.ty T,.ty U]] H Q:=λA g s Vs Z G r=>by
 refine r.aX λZ Z a r=>?_;refine r.aX λZ Z b r=>?_;refine r.cC ?_;refine b.tupI λZ Z o rr=>?_;revert o;refine rr.aX λZ Z c1 rr=>?_;refine rr.aX λZ Z c2 rr=>?_;refine rr.cC ?_;refine c1.QS ?_;refine c2.QS λo=>?_;refine IsiPair.tupleOf (cs:=[.type T,.type U]) (vs:=[Ca v T,Ca v U]) (.cons (Lw a hv h2 h3 hT) (.cons (Lw a hv h2 h3 hU) .nil)) (CY a hv h2 h3) o λtk=>#[_,_,h,?_,G.at _];simp only[Z3,List.any_nil,id,Bool.or_false];exact .bool _
theorem aj.QU{a:Addr}{vs:List AV}{T U:String}{Q:AV->AH->Prop}(ha:H a=some (.list vs))(hT:T="int"\/T="str"\/T="tuple"\/T="list")(hU:U="int"\/U="str"\/U="tuple"\/U="list")(h:Q (.bool (T=="list"||U=="list")) H):aj C n (.builtin "isinstance") [.ref a,.tup [.ty T,.ty U]] H Q:=λA g s Vs Z G r=>by
 refine r.aX λZ Z a r=>?_;refine r.aX λZ Z b r=>?_;refine r.cC ?_;refine a.bR ?_;refine b.tupI λZ Z o rr=>?_;revert o;refine rr.aX λZ Z c1 rr=>?_;refine rr.aX λZ Z c2 rr=>?_;refine rr.cC ?_;refine c1.QS ?_;refine c2.QS λo=>?_;obtain⟨xs,m,o',MR⟩:=G.rel _ _ ha;refine IsiPair.tupleOf (Tx:="list") (cs:=[.type T,.type U]) (vs:=[T=="list",U=="list"]) (.cons (Lx hT) (.cons (Lx hU) .nil)) #[_,o',rfl] o λtk=>#[_,_,h,?_,G.at _];simp only[Z3,List.any_nil,id,Bool.or_false];exact .bool _
end
end
section
theorem wA(w:World)(x:Str):Q6 w.params x=hashStr w x:=by
 first|rfl|(unfold Q6 hashStr;rfl)
noncomputable def QV(P:Params)(p:Str×Tok×Int×Tok):DictEntry:=#[Q6 P p.1,.str p.1 p.2.1,.int p.2.2.1 p.2.2.2]
noncomputable def bKv(L:List (Str×Tok×Int×Tok)):List (Str×AV):=L.map λp=>(p.1,.int p.2.2.1)
theorem wB{C:Cx}{a:Addr}{m:Nat}{L:List (Str×Tok×Int×Tok)}(hK:C.K.lookup a=some #[.type "dict",b6,.dict (L.map (QV C.w.params)).toArray m,#[]])(hn:(L.map (·.1)).Nodup){h:Heap}(X:C.K.In h):ir C h a (.dS (bKv L)):=by
 refine#[L.map λp=>(p.1,.int p.2.2.1 p.2.2.2),#[_,_,m,X _ _ hK,#[rfl,rfl,rfl],rfl,λe he=>?_,?_,?_],?_]
 ·have he:e∈L.map (QV C.w.params):=by simpa using he
  obtain⟨p,_,rfl⟩:=m5.mp he;exact#[p.1,!if_pos rfl,wA _ _]
 ·clear hK hn X;induction L with
  |nil=>exact .nil
  |cons p r ih=>exact .cons (!if_pos rfl) rfl ih
 ·simpa [K8,Q5] using hn
 ·clear hK hn X;induction L with
  |nil=>exact .nil
  |cons p r ih=>exact .cons (.int _ _) ih
section
variable{C:Cx}{n:Nat}{F:Fm}{ρ:Loc}{H:AH}
def zS(C:Cx)(a:Addr)(kvs:List (Str×AV)):Prop:=(a==sysModules)=false/\∀h,C.K.In h->ir C h a (.dS kvs)
theorem aF.based{slice:Expr}{a:Addr}{kvs:List (Str×AV)}{k:Str}{v:AV}{Q:AV->AH->Prop}(hs:vY slice)(ha:zS C a kvs)(hk:dX kvs k=some v)(h:Q v H):aF C n slice (.ref a) (.str k) H Q:=λA g s V I value Z G r r'=>by
 refine r.bR ?_;refine bz (((IW C).rel _ _ _).mp (ha.2 _ G.K)) λkv hd rr=>?_;rcases rr.at (k:=k) with⟨W,w,e1,e2,aW⟩|⟨_,e2⟩
 ·rw[hk] at e2;cases e2;exact tail_any hd.typeIs slot_dict_getitem.lookup (wpAny_getItem_of ((IW C).is r') hd.mapOf e1 #[_,_,h,aW,G.at _]) (hs _ _)
 ·exact TN (E1 (G0 (hk)) e2)
theorem aB.inBase(ha:zS C a kvs)(h:Q (.bool (dX kvs k).isSome) H):aB C n (compareOp .In) (.str k) (.ref a) H Q:=λA g s V U Z G r r'=>by
 refine r'.bR ?_;refine bz (((IW C).rel _ _ _).mp (ha.2 _ G.K)) λkv hd rr=>?_;refine wpAny_in_of ((IW C).is r) ha.1 hd.mapOf #[_,_,?_,.bool _,G.at _];rcases rr.at (k:=k) with⟨W,w,e1,e2,aW⟩|⟨e1,e2⟩<;>rw[e1]<;>rw[e2] at h<;>exact h
theorem aj.I_{K:Type}[DecidableEq K](d:DK C K){a:Addr}{kvs:List (K×AV)}{Q:AV->AH->Prop}(ha:H a=some (d.ao kvs))(hl:kvs.length<=1000000)(h:∀D,H D=b6->Q (.ref D) (H.set D (d.ao kvs))):aj C n (.type "dict") [.ref a] H Q:=λA g s Vs Z G r=>by
 refine r.aX λZ Z a r=>?_;refine r.cC ?_;refine a.bR ?_;refine bz ((d.rel _ _ _).mp (G.rel _ _ ha)) λkv hd rr=>?_;have hlen:=rr.length;refine kt_call_dict (G.oY ha) hd (by rw[sizeLine_eq];exact MP hlen hl) λh' hd' sb=>?_;have up:∀b o,s.heap.get? b=some o->h'.get? b=some o:=λb o e=>sb.extBut _ _ (C7 (m7 e)) (j6 _ e);have n0:H s.heap.objs.size=b6:=by
  cases e:H s.heap.objs.size with
  |none=>rfl
  |some o=>refine xE (G.cE (.inl #[o,e])) λob eo=>?_;rw[eW] at eo;cases eo
 have nf:¬cW H s.heap.objs.size:=λf=>by refine xE (G.cE f) λo e=>?_;rw[eW] at e;cases e
 have G':=G.up' (s':={s with heap:=h'}) up;refine#[_,_,h _ n0,.ref _,?_];have hg:g s.heap.objs.size=b6:=by
  cases e:g s.heap.objs.size with
  |none=>rfl
  |some o=>have:=G.keep _ _ e;rw[eW] at this;cases this
 have bD:∀c D b fs,(H.set s.heap.objs.size (d.ao kvs)) c=some (.inst D b fs)->H c=some (.inst D b fs):=λc D b fs hc=>by
  by_cases hc':c=s.heap.objs.size
  ·subst hc';rw[AH.aq] at hc;exact absurd (m9 hc) (d.ni _ _ _ _)
  ·rw[aA hc'] at hc;exact hc
 refine{base:=G'.base,keep:=G'.keep,rel:=λc oc e=>?_,off:=λb f=>?_,dx:=λc D b fs e=>?_,inj:=λc c' D D' b f1 f2 e1 e2=>G.inj _ _ _ _ _ _ _ (bD _ _ _ _ e1) (bD _ _ _ _ e2),gens:=G'.gens,os:=G'.os,size:=G'.size,sys:=λc oc e=>?_}
 ·by_cases hc:c=s.heap.objs.size
  ·subst hc;rw[AH.aq] at e;cases e;exact(d.rel _ _ _).mpr #[_,hd',rr.up up]
  ·rw[aA hc] at e;exact G'.rel c oc e
 ·rcases f with⟨q,hq⟩|⟨c,D,fs,hc⟩
  ·by_cases hb:b=s.heap.objs.size
   ·rw[hb];exact hg
   ·rw[aA hb] at hq;exact G.off _ (.inl #[q,hq])
  ·exact G.off _ (.inr #[c,D,fs,bD _ _ _ _ hc])
 ·have e':=bD _ _ _ _ e;rw[aA (λz=>nf (by rw[<-z];exact .inr #[c,D,fs,e']))];exact G.dx _ _ _ _ e'
 ·by_cases hc:c=s.heap.objs.size
  ·rw[hc];exact r9 (u7 C.lo G.size)
  ·rw[aA hc] at e;exact G.sys _ _ e
end
end
section
section
variable{C:Cx}{n:Nat}{F:Fm}{ρ:Loc}{H:AH}
theorem Ex.aeW(h:aG C n F body ρ H Q):Ex C n F (.Try body (h₀::hs) [] [] pos) ρ H Q:=λA g s a G=>by
 refine wpAny_Try_except (wpAny_mono (h A g s a G) (λfl s₁ #[o,ρ',H',q,fr,G']=>?_) λZ Z x=>x.elim);cases fl<;>cases o<;>first|exact fr.elim|exact wpAny_execs_nil #[_,_,_,q,trivial,G']|exact by assumption|exact by assumption
noncomputable abbrev EnK(Q:List AV->(AH->Prop)->AH->Prop):List AV->(AH->Prop)->AH->Prop:=λvs Ok H=>Q ((C4 vs.length).zipWith (λj u=>AV.tup [.int (j:Nat),u]) vs) Ok H
theorem aZ.enum (hx:ρ.get ("enumerate":Str)=some .glob) (hb:Gb C ("enumerate":Str) (.type "enumerate")) (h:Ev C n F e ρ H (Ln (EnK Q)))
 (he:autoParam (starEach [e] F.env=[(false,eval e F.env)]) A1):aZ C n F (.Tuple [.Name i pi,.Name v pv] k tp) (.Call (.Name ("enumerate":Str) np) [e] [] pos) ρ H Q:=λA g s a G=>by
 refine wpAny_Call_ofName (iN G hx hb ?_);show Wp C A (callWith pos _ [] (backTo pos (starEach [e] F.env)) []) _ s;rw[he];refine O7 rfl (O1 (J6 (fH (h A g s a G) λV s₁ ov H₁ z r G₁=>z.casesOn λl vs e hl q=>Q4 ?_)));rw[e] at r;refine r.bR ?_;obtain⟨xs,m,o,rr⟩:=G₁.rel _ _ hl;refine call_enumerate_1 o λh' he hit hsz k=>?_;refine wpAny_pyIter_enum he ?_;have ow:∀b∈[s₁.heap.objs.size+1,s₁.heap.objs.size],d_ F g H₁ b:=λb hb=>by
  rcases l9.mp hb with rfl|hb
  ·exact G₁.eV (O0 _)
  ·rw[j0.mp hb];exact G₁.eV (r7 _)
 refine#[_,λZ=>True,_,H₁,[s₁.heap.objs.size+1,s₁.heap.objs.size],λi h=>(∃old,IsEnum h (s₁.heap.objs.size+1) s₁.heap.objs.size i old)/\h.IsListIter s₁.heap.objs.size l i,q,?_,#[#[_,he],hit],G₁.up (s':={s₁ with heap:=h'}) k,ow,trivial];refine{frame:=λi h h' st k=>?_,shape:=λi h st b hb=>?_,vZ:=λZ Z Z q=>q,item:=λi A g H s v hh hv st G Z hl nf=>?_,self:=λi A s Q hh st q=>?_,done:=λA g H s hh st G Z hl=>?_}
 ·obtain⟨⟨old,x⟩,y⟩:=st;exact#[#[old,k _ (!.head _) _ x],y.at λo e=>k _ (!.tail _ (.head _)) o e]
 ·obtain⟨⟨old,x⟩,⟨ob,y,c,d⟩⟩:=st;rcases l9.mp hb with rfl|hb
  ·exact#[_,x,.inl (by simp),λv q=>by cases q]
  ·rw[j0.mp hb];exact#[ob,y,.inl (by rw[c];simp),λv q=>by rw[d] at q;cases q]
 ·obtain⟨⟨old,x⟩,y⟩:=st;obtain⟨xs,m,o,rr⟩:=G.rel _ _ hl;have hei:s₁.heap.objs.size+1≠s₁.heap.objs.size:=Nat.succ_ne_self _;have hlen:i<vs.length:=by
   have:=(c9.mp hv).1;simp only[V8,I8,Nat.min_self] at this;exact this
  have hu:vs[i]? =some vs[i]:=b8 hlen;have ev:v=.tup [.int (i:Nat),vs[i]]:=by
   rw[Q0,hu,List.getElem?_range hlen] at hv;simpa using hv.symm
  subst ev;refine bz (rr.get hu) λV hV aV=>?_;refine wpAny_pyNext_enum_item x y (aH o) (x:=V) (by simpa using hV) hei λh' ho it' hT hsz hk=>#[_,rfl,?_];refine wpAny_letOwnedTupleGo_enum ho λh2 he2 hs2=>?_;have fpn:∀b,b∉[s₁.heap.objs.size+1,s₁.heap.objs.size]->b≠s₁.heap.objs.size+1/\b≠s₁.heap.objs.size:=λb hb=>#[λz=>hb (by simp[z]),λz=>hb (by simp[z])];have mv:∀b ob,b∉[s₁.heap.objs.size+1,s₁.heap.objs.size]->s.heap.get? b=some ob->h2.get? b=some ob:=λb ob hb e=>(hs2.2 b (fpn b hb).1).trans (hk b ob (fpn b hb).1 (fpn b hb).2 e);have tne:s.heap.objs.size≠s₁.heap.objs.size+1:=λz=>by have:=m7 x;exact absurd this (by rw[<-z];exact C5 _)
  have hT2:h2.get? s.heap.objs.size=some _:=(hs2.2 _ tne).trans hT;have aeY:∀b (ys:Array Value) j,s.heap.get? b=some #[.type "tuple",b6,.seq ys j,#[]]->b∉[s₁.heap.objs.size+1,s₁.heap.objs.size]:=λb ys j e hb=>by
   rcases l9.mp hb with rfl|hb
   ·rw[x] at e;simp at e
   ·refine f_ y λob e2 c2 d2=>?_;rw[j0.mp hb,e2] at e;cases e;cases d2
  refine#[#[mv,rfl,rfl],.tup hT2 (.cons (.int _ _) (.cons (aV.mono λb ys j e=>mv _ _ (aeY _ _ _ e) e) .nil)),#[#[_,by simpa using he2],it'.at λob e=>(hs2.2 _ hei.symm).trans e]]
 ·obtain⟨⟨old,x⟩,y⟩:=st;exact wpAny_pyIter_enum x q
 ·obtain⟨⟨old,x⟩,y⟩:=st;obtain⟨xs,m,o,rr⟩:=G.rel _ _ hl;have e:((C4 vs.length).zipWith (λ(j:Nat) u=>AV.tup [.int (j:Nat),u]) vs).length=vs.length:=by simp
  rw[e] at x y;refine wpAny_pyNext_enum_end hh x y (aH o) (by simp[rr.length]) λh' hx=>#[rfl,λb ob hb e=>hx b ob (λz=>hb (by simp[z])) e,rfl,rfl]
end
end
section
theorem fR.cls(hg:specialIn C.K (.ref D) "__getattribute__"=some (some (.builtin "type.__getattribute__")))(hr:readsIn C.K D mc=true)(e:findCls C.K (.ref D) mc name=some (.val (.ref f))):fR C (.ref D) name H (.ref f) false:=λA g s V pl Q G r hq=>by
 cases r;exact method_cls G.K hg (cls_value G.K hr e rfl (hq _))
end
section
inductive Cc{α:Sort _}(p:α->Prop):Prop
 |mk (x0:α) (h:p x0):Cc p
inductive Gz{α:Sort _}{β:Sort _}(p:α->β->Prop):Prop
 |mk (x0:α) (x1:β) (h:p x0 x1):Gz p
inductive Ex3{α:Sort _}{β:Sort _}{γ:Sort _}(p:α->β->γ->Prop):Prop
 |mk (x0:α) (x1:β) (x2:γ) (h:p x0 x1 x2):Ex3 p
inductive Ex4{α:Sort _}{β:Sort _}{γ:Sort _}{δ:Sort _}(p:α->β->γ->δ->Prop):Prop
 |mk (x0:α) (x1:β) (x2:γ) (x3:δ) (h:p x0 x1 x2 x3):Ex4 p
inductive An3(p0 p1 p2:Prop):Prop
 |mk (h0:p0) (h1:p1) (h2:p2):An3 p0 p1 p2
inductive C_(p0 p1 p2 p3:Prop):Prop
 |mk (h0:p0) (h1:p1) (h2:p2) (h3:p3):C_ p0 p1 p2 p3
inductive TS(p0 p1 p2 p3 p4:Prop):Prop
 |mk (h0:p0) (h1:p1) (h2:p2) (h3:p3) (h4:p4):TS p0 p1 p2 p3 p4
inductive TU(p0 p1 p2 p3 p4 p5:Prop):Prop
 |mk (h0:p0) (h1:p1) (h2:p2) (h3:p3) (h4:p4) (h5:p5):TU p0 p1 p2 p3 p4 p5
inductive An7(p0 p1 p2 p3 p4 p5 p6:Prop):Prop
 |mk (h0:p0) (h1:p1) (h2:p2) (h3:p3) (h4:p4) (h5:p5) (h6:p6):An7 p0 p1 p2 p3 p4 p5 p6
inductive An8(p0 p1 p2 p3 p4 p5 p6 p7:Prop):Prop
 |mk (h0:p0) (h1:p1) (h2:p2) (h3:p3) (h4:p4) (h5:p5) (h6:p6) (h7:p7):An8 p0 p1 p2 p3 p4 p5 p6 p7
inductive An9(p0 p1 p2 p3 p4 p5 p6 p7 p8:Prop):Prop
 |mk (h0:p0) (h1:p1) (h2:p2) (h3:p3) (h4:p4) (h5:p5) (h6:p6) (h7:p7) (h8:p8):An9 p0 p1 p2 p3 p4 p5 p6 p7 p8
end
section
theorem qE(k:∀a o,H a=some o->H' a=some o)(f:cW H b):cW H' b:=by
 rcases f with⟨o,e⟩|⟨a,D,fs,e⟩
 ·exact .inl #[o,k _ _ e]
 ·exact .inr #[a,D,fs,k _ _ e]
theorem cJ.sub(G:cJ C g H' s)(k:∀a o,H a=some o->H' a=some o):cJ C g H s where
 base:=G.base
 keep:=G.keep
 rel:=λa o e=>G.rel a o (k _ _ e)
 off:=λb f=>G.off b (qE k f)
 dx:=λa D b fs e=>by
  cases q:H b with
  |none=>rfl
  |some o=>have:=k _ _ q;rw[G.dx _ _ _ _ (k _ _ e)] at this;cases this
 inj:=λa a' D D' b fs fs' e e'=>G.inj _ _ _ _ _ _ _ (k _ _ e) (k _ _ e')
 gens:=G.gens
 os:=G.os
 size:=G.size
 sys:=λa o e=>G.sys a o (k _ _ e)
theorem aj.forget(h:aj C n f vs H λv H'=>∃H₂,(∀a o,H₂ a=some o->H' a=some o)/\Q v H₂):aj C n f vs H Q:=λA g s Vs a G r=>
 zE (h A g s Vs a G r) λZ Z v H' q x y=>q.elim λH₂ q=>#[v,H₂,q.2,x,y.sub q.1]
def Kp(S:List Addr)(H H':AH):Prop:=∀b o,b∉S->H b=some o->H' b=some o
theorem Kp.refl:Kp S H H:=λZ Z Z e=>e
theorem Kp.trans{S:List Addr}{H H' qF:AH}(k:Kp S H H')(k':Kp S H' qF):Kp S H qF:=λb o n e=>k' b o n (k b o n e)
theorem Kp.mono(k:Kp S H H')(h:∀x∈S,x∈S'):Kp S' H H':=λb o n e=>k b o (λx=>n (h b x)) e
theorem Kp.any(k:Kp [] H H'):Kp S H H':=k.mono (λZ h=>nomatch h)
theorem Kp.mem{S:List Addr}{H:AH}{a:Addr}{o:AO}(h:a∈S):Kp S H (H.set a o):=λb o' n e=>by
 rw[aA (λq=>n (by rw[q];exact h))];exact e
theorem Kp.new{S:List Addr}{H:AH}{a:Addr}{o:AO}(h:H a=b6):Kp S H (H.set a o):=λb o' n e=>by
 rw[aA (λq=>by rw[q,h] at e;cases e)];exact e
theorem Kp.late{S:List Addr}{H H':AH}{a:Addr}{o:AO}(k:Kp S H H')(h:H a=b6\/a∈S):Kp S H (H'.set a o):=λb o' n e=>by
 rcases h with h|h
 ·rw[aA (λq=>by rw[q,h] at e;cases e)];exact k b o' n e
 ·rw[aA (λq=>n (by rw[q];exact h))];exact k b o' n e
theorem Kp.at(k:Kp S H H')(h:H a=some o)(n:a∉S):H' a=some o:=k a o n h
theorem Kp.aK(k:Kp [] H H')(h:H a=some o):H' a=some o:=k a o (!m8) h
theorem AH.aJ{H:AH}{a b:Addr}{o:AO}(ha:H a=b6)(hb:H b=some o):b≠a:=λq=>by rw[q,ha] at hb;cases hb
theorem aB.Ly(ha:H a=some (.dI kvs))(hb:H b=some (.dI []))(h:Q (.bool kvs.isEmpty) H):aB C n (compareOp .Eq) (.ref a) (.ref b) H Q:=λA g s V U ao G r r'=>by
 refine r.bR ?_;refine r'.bR ?_;refine bz (G.rel _ _ ha) λka da ra=>?_;refine bz (G.rel _ _ hb) λkb db rb=>?_;cases rb;have hl:=ra.length;refine keq_eq (knd:=intKind C.prog C.w) (r:=true) (G.oY ha) (G.oY hb) da db (by have:=ao.units;exact o55 this) (λq=>?_) #[_,_,?_,.bool _,G]
 ·cases ra with
  |nil=>exact .nil
  |cons _ _=>simp at q
 ·cases ra with
  |nil=>exact h
  |cons _ _=>exact h
noncomputable def LV.ok:LV->Prop
 | .glob=>False
 |_=>True
theorem Ex.qG {C:Cx} {n:Nat} {F:Fm} {ρ:Loc} {H:AH} {x:Str} {px pos:Pos} {value:Expr} {u:LV} {Q:Out->Loc->AH->Prop} (hx:ρ.get x=some u) (hu:u.ok) (hfn:F.fn=true)
 (h:Ev C n F value ρ H (KZ x ρ Q)) (hs:autoParam (swapsWith value (some (.Name x px)) pos.line F.env=pure false) A1):Ex C n F (.Assign [.Name x px] value pos) ρ H Q:=Ex.asg hx (by cases u<;>exact hu) hfn h hs
theorem b_.aT{C:Cx}{F:Fm}{ρ:Loc}{H:AH}{x:Str}{p:Pos}{v:AV}{u:LV}{Q:Loc->Prop}(hx:ρ.get x=some u)(hfn:F.fn=true)(hu:u.ok)(h:Q (ρ.set x (.val v))):b_ C F (.Name x p) v ρ H Q:=b_.Qi hx hfn h (by cases u<;>exact hu)
theorem yj(ha:H a=some (.list vs)):fR C (.ref a) "append" H (.builtin "list.append") true:=.list ha PySem.F.slot_list_append PySem.F.type_list_append
theorem yl(ha:H a=some (.list vs)):fR C (.ref a) "extend" H (.builtin "list.extend") true:=.list ha PySem.F.slot_list_extend PySem.F.type_list_extend
theorem GA(ha:H a=some (.list vs)):fR C (.ref a) "pop" H (.builtin "list.pop") true:=.list ha PySem.F.slot_list_pop PySem.F.type_list_pop
theorem Dc:fR C (.str x) "join" H (.builtin "str.join") true:=.strm PySem.F.slot_str_join PySem.F.type_str_join
theorem A_:fR C (.str x) "split" H (.builtin "str.split") true:=.strm PySem.F.slot_str_split PySem.F.type_str_split
theorem GC(ha:H a=some (.dI kvs)):fR C (.ref a) "get" H (.builtin "dict.get") true:=.dict (oX C) ha PySem.F.slot_dict_get PySem.F.type_dict_get
theorem Tr.mono(h:Tr C n F e ρ H Q)(k:∀b H',Q b H'->Q' b H'):Tr C n F e ρ H Q':=λA g s a G=>Fg (h A g s a G) λZ Z H' q r=>#[H',k _ _ q,r]
theorem aG.cut{C:Cx}{n:Nat}{F:Fm}{ρ:Loc}{H:AH}{st:Stmt}{rest:List Stmt}{Q:Out->Loc->AH->Prop}(P:Loc->AH->Prop)(h:Ex C n F st ρ H λo ρ' H'=>o=.next/\P ρ' H')(k:∀ρ' H',P ρ' H'->aG C n F rest ρ' H' Q):aG C n F (st::rest) ρ H Q:=
 aG.cons (h.mono λo ρ' H' #[e,p]=>by subst e;exact k _ _ p)
theorem Tr.known(b:Bool)(h:Tr C n F e ρ H λb' H'=>b'=b/\H'=H)(k:Q b H):Tr C n F e ρ H Q:=h.mono λb' H' #[e1,e2]=>by subst e1;subst e2;exact k
theorem Ev.known(v:AV)(h:Ev C n F e ρ H λb' H'=>b'=v/\H'=H)(k:Q v H):Ev C n F e ρ H Q:=h.mono λb' H' #[e1,e2]=>by subst e1;subst e2;exact k
theorem Ex.ae2(h:Q (.ret .none) ρ H):Ex C n F (.Return b6 pos) ρ H Q:=λA g s a G=>
 wpAny_Return_none #[.ret .none,ρ,H,h,.none,G]
set_option tactic.hygienic true in
theorem aP.of {F:Fm} {ρ:Loc} {scope:Scope} {names:List (Str×NameKind)} (hn:F.env.scope.names=names) (kind:scope.kind=.function) (nd:(scope.names.map (·.1)).Nodup) (xV:(scope.names.all λp=>p.2 !=.globalExplicit)=true)
 (free:(scope.names.all λp=>p.2 !=.free||((match ρ.get p.1 with|some (.val _)=>true|_=>false)&&names.lookup p.1 !=some .local))=true):aP F ρ scope where
 kind:=kind
 nd:=nd
 xV:=xV
 free:=λp hp e=>by
  have:=n9.mp free p hp;rw[e] at this;simp only[bne_self_eq_false,Bool.false_or,D0] at this;refine xA this λh1 h2=>?_;refine#[?_,?_]
  ·revert h1;split
   ·rename_i v hv;intro _;exact#[v,hv]
   ·intro h;cases h
  ·unfold W9;rw[hn];simpa using h2
section
variable{C:Cx}{n:Nat}{F:Fm}{ρ:Loc}{H:AH}
noncomputable abbrev QW(P:Nat->List AV->AH->Prop)(k:Nat)(ys:List AV):AV->AH->Prop:=λy H=>P (k+1) (ys++[y]) H
noncomputable abbrev QX(C:Cx)(n:Nat)(F:Fm)(elt:Expr)(ρ:Loc)(P:Nat->List AV->AH->Prop)(k:Nat)(ys:List AV):Bool->AH->Prop:=λb H=>if b then Ev C n F elt ρ H (QW P k ys) else P (k+1) ys H
def pZ(C:Cx)(n:Nat)(F:Fm)(names:List (Str×NameKind))(elt:Expr)(ifs:List Expr)(r:LV->Loc)(vs:List AV)(P:Nat->List AV->AH->Prop):Prop:=
 ∀F',CF F names F'->∀k v ys H',vs[k]? =some v->P k ys H'->kC C n F' ifs (r (.val v)) H' (QX C n F' elt (r (.val v)) P k ys)
inductive gZ(C:Cx)(n:Nat)(F:Fm)(elt:Expr)(ifs:List Expr)(names:List (Str×NameKind))(r:LV->Loc)(Q:Addr->AH->Prop)(vs:List AV)(Ok:AH->Prop)(H₁:AH):Prop
 |mk (l:vs.length<=1000000) (P:Nat->List AV->AH->Prop) (i0:P 0 [] H₁) (pI:∀k ys H',k<=vs.length->P k ys H'->Ok H') (turn:pZ C n F names elt ifs r vs P)
  (fin:∀a ys H',P vs.length ys H'->H' a=b6->Q a (H'.set a (.list ys))):gZ C n F elt ifs names r Q vs Ok H₁
theorem pZ.comp {names:List (Str×NameKind)} {x:Str} {px:Pos} {elt:Expr} {ifs:List Expr} {r:LV->Loc} {vs:List AV} {P:Nat->List AV->AH->Prop} (ym:∀u w,(r u).set x w=r w) (hget:∀u,(r u).get x=some u) (hk:names.lookup x=some .local\/names.lookup x=some .cell)
 (t:pZ C n F names elt ifs r vs P):jz C n F names (.Name x px) elt ifs vs λk ys ρ' H'=>(∃u,LV.ok u/\ρ'=r u)/\P k ys H':=by
 rintro F' cf k v ys ρ' H' hv ⟨⟨u,hu,rfl⟩,hp⟩;refine b_.name (hget u) (by cases u<;>exact hu) (cf.may hk) ?_;rw[ym];intro A g s a G;refine Fg (t F' cf k v ys H' hv hp A g s a G) λb s' H₂ q G'=>#[H₂,?_,G'];cases b with
 |true=>exact Ev.mono q λy cF p=>#[#[.val v,c7,rfl],p]
 |false=>exact#[#[.val v,c7,rfl],q]
theorem aZ.mono{target iter:Expr}{K K':List AV->(AH->Prop)->AH->Prop}(h:aZ C n F target iter ρ H K)(k:∀vs Ok H,K vs Ok H->K' vs Ok H):aZ C n F target iter ρ H K':=λA g s a G=>wm (h A g s a G) λZ Z q=>wm q λZ Z z=>z.casesOn λvs mw Ok H₁ fp St q w st G o gk=>#[vs,mw,Ok,H₁,fp,St,k _ _ _ q,w,st,G,o,gk]
theorem gZ.Dd(hr:wg ρ names=r .undef)(ym:∀u w,(r u).set x w=r w)(hget:∀u,(r u).get x=some u)(hk:names.lookup x=some .local\/names.lookup x=some .cell)(z:gZ C n F elt ifs names r Q vs Ok H₁):zM C n F (.Name x px) elt ifs names ρ Q vs Ok H₁:=
 z.casesOn λhl P p0 pok turn fin=>#[hl,λk ys ρ' H'=>(∃u,LV.ok u/\ρ'=r u)/\P k ys H',#[#[.undef,c7,hr],p0],λk ys Z H' hk' iv=>pok k ys H' hk' iv.2,turn.comp ym hget hk,λa ys Z H' iv=>fin a ys H' iv.2]
theorem Ev.bJ {x:Str} {px:Pos} {elt iter:Expr} {ifs:List Expr} {scope:Scope} {pos:Pos} {Q:AV->AH->Prop} (r:LV->Loc) (sc:aP F ρ scope) (hr:wg ρ scope.names=r .undef) (ym:∀u w,(r u).set x w=r w) (hget:∀u,(r u).get x=some u) (hk:scope.names.lookup x=some .local\/scope.names.lookup x=some .cell)
 (h:aZ C n F (.Name x px) iter ρ H (gZ C n F elt ifs scope.names r λa H₂=>Q (.ref a) H₂)) (hs:autoParam (∀y,foldedSetIterable iter F.env y=pure y) A1):
 Ev C n F (.ListComp elt [#[.Name x px,iter,ifs,0]] scope pos) ρ H Q:=by
 refine Ev.comp sc (aZ.mono h λZ Z Z=>gZ.Dd hr ym hget hk) hs
theorem Ex.dH {x:Str} {px:Pos} {elt iter:Expr} {ifs:List Expr} {scope:Scope} {pos:Pos} {Q:Out->Loc->AH->Prop} {y:Str} {py spos:Pos} {w:LV} (r:LV->Loc) (sc:aP F ρ scope) (hy:ρ.get y=some w) (hw:w.ok) (hfn:F.fn=true) (hr:wg ρ scope.names=r .undef) (ym:∀u w,(r u).set x w=r w) (hget:∀u,(r u).get x=some u) (hk:scope.names.lookup x=some .local\/scope.names.lookup x=some .cell)
 (h:aZ C n F (.Name x px) iter ρ H (gZ C n F elt ifs scope.names r λa H₂=>Q .next (ρ.set y (.val (.ref a))) H₂))
 (hsw:swapsWith (.ListComp elt [#[.Name x px,iter,ifs,0]] scope pos) (some (.Name y py)) spos.line F.env=pure true) (hs:autoParam (∀y,foldedSetIterable iter F.env y=pure y) A1):
 Ex C n F (.Assign [.Name y py] (.ListComp elt [#[.Name x px,iter,ifs,0]] scope pos) spos) ρ H Q:=by
 refine Ex.zN sc hy (by cases w<;>exact hw) hfn (aZ.mono h λZ Z Z=>gZ.Dd hr ym hget hk) hsw hs
end
theorem cT {F:Fm} {names:List (Str×NameKind)} (hn:F.env.scope.names=names) (hk:F.env.scope.kind=.function) {elt:Expr} {gens:List Comprehension} {scope:Scope} {pos py:Pos} {y:Str} {line:Nat} (b:Bool)
 (h:(names.lookup y==some .local&&py.line==pos.line&& Bool.not ((scope.names.any λ(n,k)=>n==y&&(k==.local||k==.cell))))=b):swapsWith (.ListComp elt gens scope pos) (some (.Name y py)) line F.env=pure b:=by
 subst h;unfold swapsWith Z4 W9;rw[hk,hn];rfl
theorem Kp.both(k:Kp [] H H'):∀a o,(H.set l o') a=some o->(H'.set l o') a=some o:=λa o e=>by
 by_cases h:a=l
 ·subst h;rw[AH.aq] at e⊢;exact e
 ·rw[aA h] at e⊢;exact k.aK e
theorem Kp.sub(k:Kp [] H H'):∀a o,H a=some o->H' a=some o:=λa o e=>k.aK e
theorem AH.De{H:AH}{a b:Addr}{o:AO}{l:List Addr}(hb:b∈l)(ha:a∉l):(H.set a o) b=H b:=aA λq=>ha (q▸hb)
theorem AH.GD{H:AH}{a b:Addr}{o:AO}{l:List Addr}(ha:a∈l)(hb:b∉l):(H.set a o) b=H b:=aA λq=>hb (q▸ha)
theorem aB.neB(h:Q (.bool (i !=j)) H):aB C n (compareOp .NotEq) (.bool i) (.bool j) H Q:=λA g s V U a G r r'=>by
 refine r.ig ?_;refine r'.ig ?_;exact ne_bool #[_,_,h,.bool _,G]
theorem b_.two{C:Cx}{F:Fm}{ρ Lz QY:Loc}{H:AH}{x y:Str}{px py pos:Pos}{k:Nat}{v v2:AV}{u w:LV}{Q:Loc->Prop}(hf:F.fn=true)(hx:ρ.get x=some u)(hu:u.ok)(h1:ρ.set x (.val v)=Lz)(hy:Lz.get y=some w)(hw:w.ok)(h2:Lz.set y (.val v2)=QY)(h:Q QY):b_ C F (.Tuple [.Name x px,.Name y py] k pos) (.tup [v,v2]) ρ H Q:=
 b_.tup rfl rfl (e_.cons (b_.aT hx hf hu (h1▸e_.cons (b_.aT hy hf hw (h2▸e_.nil h)))))
theorem Gd.sub(G:Gd C g F ρ H' s)(k:Kp [] H H'):Gd C g F ρ H s:=
 {tocJ:=G.tocJ.sub k.sub,fm:=G.fm,loc:=G.loc,dh:=G.dh,cO:=λb hb f=>G.cO b hb (qE k.sub f)}
theorem Tr.known'(b:Bool)(h:Tr C n F e ρ H λb' H'=>b'=b/\Kp [] H H')(k:Q b H):Tr C n F e ρ H Q:=λA g s a G=>Fg (h A g s a G) λZ Z H' q r=>#[H,q.1▸k,r.sub q.2]
theorem Ev.forget(h:Ev C n F e ρ H λv H'=>∃H₂,Kp [] H₂ H'/\Q v H₂):Ev C n F e ρ H Q:=λA g s a G=>fH (h A g s a G) λZ Z v' H' q r G'=>q.elim λH₂ q=>#[v',H₂,q.2,r,G'.sub q.1]
theorem e_.cD(e:ρ=ρ')(h:e_ C F es vs ρ' H Q):e_ C F es vs ρ H Q:=e▸h
theorem Kp.trans'(k:Kp [] H H1)(k':Kp [x] H1 H2)(hx:H x=b6):Kp [] H H2:=λb o n e=>k' b o (λz=>by rw[j0.mp z,hx] at e;cases e) (k b o n e)
section
variable{C:Cx}{n:Nat}{H:AH}{P:Bool->AH->Prop}
theorem MS{p:Prop}[Decidable p](h:p)(t:P true H):bV P (.bool (decide p)) H:=#[_,rfl,(decide_eq_true h).symm▸t]
theorem QZ{p:Prop}[Decidable p](h:¬p)(t:P false H):bV P (.bool (decide p)) H:=#[_,rfl,(decide_eq_false h).symm▸t]
theorem TV{p:Prop}[Decidable p](t:p->P true H)(f:¬p->P false H):bV P (.bool (decide p)) H:=if h:p then MS h (t h) else QZ h (f h)
theorem nqT{p:Prop}[Decidable p](h:p)(t:P false H):bV P (.bool (Bool.not (decide p))) H:=#[_,rfl,(decide_eq_true h).symm▸t]
theorem nqF{p:Prop}[Decidable p](h:¬p)(t:P true H):bV P (.bool (Bool.not (decide p))) H:=#[_,rfl,(decide_eq_false h).symm▸t]
theorem nqB{p:Prop}[Decidable p](t:p->P false H)(f:¬p->P true H):bV P (.bool (Bool.not (decide p))) H:=if h:p then nqT h (t h) else nqF h (f h)
section
variable{i j:Int}
theorem aB.ae3(h:i<j)(t:P true H):aB C n (compareOp .Lt) (.int i) (.int j) H (bV P):=.ltI (MS h t)
theorem aB.GG(h:¬(i<j))(t:P false H):aB C n (compareOp .Lt) (.int i) (.int j) H (bV P):=.ltI (QZ h t)
theorem aB.GH(t:i<j->P true H)(f:¬(i<j)->P false H):aB C n (compareOp .Lt) (.int i) (.int j) H (bV P):=.ltI (TV t f)
theorem aB.ae4(h:j<i)(t:P true H):aB C n (compareOp .Gt) (.int i) (.int j) H (bV P):=.Qf (MS h t)
theorem aB.uJ(h:¬(j<i))(t:P false H):aB C n (compareOp .Gt) (.int i) (.int j) H (bV P):=.Qf (QZ h t)
theorem aB.yp(t:j<i->P true H)(f:¬(j<i)->P false H):aB C n (compareOp .Gt) (.int i) (.int j) H (bV P):=.Qf (TV t f)
theorem aB.Q_(h:i<=j)(t:P true H):aB C n (compareOp .LtE) (.int i) (.int j) H (bV P):=.leI (MS h t)
theorem aB.Ra(h:j<=i)(t:P true H):aB C n (compareOp .GtE) (.int i) (.int j) H (bV P):=.IK (MS h t)
theorem aB.LA(h:¬(j<=i))(t:P false H):aB C n (compareOp .GtE) (.int i) (.int j) H (bV P):=.IK (QZ h t)
theorem aB.ae5(t:j<=i->P true H)(f:¬(j<=i)->P false H):aB C n (compareOp .GtE) (.int i) (.int j) H (bV P):=.IK (TV t f)
theorem aB.Df(h:¬(i=j))(t:P false H):aB C n (compareOp .Eq) (.int i) (.int j) H (bV P):=.Gv (QZ h t)
theorem aB.kI(t:i=j->P true H)(f:¬(i=j)->P false H):aB C n (compareOp .Eq) (.int i) (.int j) H (bV P):=.Gv (TV t f)
theorem aB.iQ(h:i=j)(t:P false H):aB C n (compareOp .NotEq) (.int i) (.int j) H (bV P):=.pH (nqT h t)
theorem aB.wC(t:i=j->P false H)(f:¬(i=j)->P true H):aB C n (compareOp .NotEq) (.int i) (.int j) H (bV P):=.pH (nqB t f)
end
section
variable{i j:Str}
theorem aB.ae6(h:i=j)(t:P true H):aB C n (compareOp .Eq) (.str i) (.str j) H (bV P):=.fJ (MS h t)
theorem aB.ae7(t:i=j->P false H)(f:¬(i=j)->P true H):aB C n (compareOp .NotEq) (.str i) (.str j) H (bV P):=.MQ (nqB t f)
end
end
end
section
noncomputable def LV.TX:LV->LV
 | .val _=>.undef
 |u=>u
noncomputable def Rb(us:List Str)(k:Str)(v:LV):LV:=cond (us.contains k) v.TX v
noncomputable def fo(us:List Str):Loc->Loc
 |[]=>[]
 |(k,v)::r=>(k,Rb us k v)::fo us r
theorem LB(us:List Str)(x:Str)(ρ:Loc):(fo us ρ).get x=(ρ.get x).map (Rb us x):=by
 induction ρ with
 |nil=>rfl
 |cons p r ih=>
  rw[show fo us (p::r)=(p.1,Rb us p.1 p.2)::fo us r from rfl,Loc.kW,Loc.kW];by_cases h:p.1=x
  ·rw[if_pos h,if_pos h,h];rfl
  ·rw[if_neg h,if_neg h];exact ih
theorem Holds.TX(nf:F.env.kindOf x≠some .free):∀{v:LV},Holds F h m x v->Holds F h m x v.TX
 | .undef,e=>e
 | .glob,e=>e
 | .val v,e=>by
  obtain⟨V,_,⟨k,_⟩|⟨k|k,c,hc,_⟩⟩:=e
  ·exact .inl k
  ·exact .inr #[k,c,hc]
  ·exact absurd k nf
theorem Holds.wk(nf:F.env.kindOf x≠some .free)(e:Holds F h m x v):Holds F h m x (Rb us x v):=by
 unfold Rb;cases us.contains x with
 |false=>exact e
 |true=>exact e.TX nf
theorem Gd.wk(hf:F.fn=true)(us:List Str)(G:Gd C g F ρ H s):Gd C g F (fo us ρ) H s:=
 {G with loc:=#[by
  refine bz G.loc.ns λm h1 h2=>?_;refine#[m,h1,λx v e=>?_];rw[LB] at e;obtain⟨u,hu,rfl⟩:=l8.mp e;exact(h2 x u hu).wk (G.fm.CE hf x),G.loc.cells]}
inductive WI(us:List Str)(dJ:Loc)(P:AH->Prop)(ρ:Loc)(H:AH):Prop
 |mk (e:fo us ρ=dJ) (p:P H):WI us dJ P ρ H
noncomputable abbrev Ja(us:List Str)(dJ:Loc)(I:Nat->AH->Prop)(k:Nat)(Q:Out->Loc->AH->Prop):Out->Loc->AH->Prop:=λo ρ H=>match o with| .next=>WI us dJ (I (k+1)) ρ H| .cont=>WI us dJ (I (k+1)) ρ H| .brk=>Q .next (fo us ρ) H| .ret v=>Q (.ret v) (fo us ρ) H
inductive WhN(us:List Str)(dJ:Loc)(I:Nat->AH->Prop)(m:Nat)(ρ:Loc)(H:AH):Prop
 |mk (m':Nat) (l:m'<m) (e:fo us ρ=dJ) (p:I m' H):WhN us dJ I m ρ H
noncomputable abbrev Rc(us:List Str)(dJ:Loc)(I:Nat->AH->Prop)(m:Nat)(Q:Out->Loc->AH->Prop):Out->Loc->AH->Prop:=λo ρ H=>match o with| .next=>WhN us dJ I m ρ H| .cont=>WhN us dJ I m ρ H| .brk=>Q .next (fo us ρ) H| .ret v=>Q (.ret v) (fo us ρ) H
section
variable{C:Cx}{n:Nat}{F:Fm}{ρ dJ:Loc}{H:AH}{us:List Str}{Q:Out->Loc->AH->Prop}
theorem Ex.wk{st:Stmt}(hf:F.fn=true)(e:fo us ρ=dJ)(h:Ex C n F st dJ H Q):Ex C n F st ρ H Q:=λA g s a G=>h A g s a (e▸G.wk hf us)
theorem aG.post{ss:List Stmt}(hf:F.fn=true)(us:List Str){K:Out->Loc->AH->Prop}(h:aG C n F ss ρ H K)(k:∀o ρ' H',K o ρ' H'->Q o (fo us ρ') H'):aG C n F ss ρ H Q:=λA g s a G=>wmF (h A g s a G) λfl s' o ρ' H' q r G'=>#[o,_,H',k _ _ _ q,r,G'.wk hf us]
inductive jl(C:Cx)(n:Nat)(F:Fm)(target:Expr)(body:List Stmt)(us:List Str)(dJ:Loc)(Q:Out->Loc->AH->Prop)(vs:List AV)(Ok:AH->Prop)(H₁:AH):Prop
 |mk (I:Nat->AH->Prop) (i0:I 0 H₁) (pI:∀k H',k<=vs.length->I k H'->Ok H')
  (turn:∀(k:Nat) v H',vs[k]? =some v->I k H'->∀K,(∀{o ρ' H'},Ja us dJ I k Q o ρ' H'->K o ρ' H')->b_ C F target v dJ H' (mC C n F body H' K))
  (fin:∀H',I vs.length H'->Q .next dJ H'):jl C n F target body us dJ Q vs Ok H₁
theorem b_.mono{target:Expr}{v:AV}{K K':Loc->Prop}(h:b_ C F target v ρ H K)(k:∀ρ,K ρ->K' ρ):b_ C F target v ρ H K':=λA g s V a G r=>wm (h A g s V a G r) λ_ _ #[ρ',q,G,kt,l]=>#[ρ',k _ q,G,kt,l]
theorem Ex.forR {target iter:Expr} {body:List Stmt} {pos:Pos} (hf:F.fn=true) (us:List Str) (e:fo us ρ=dJ)
 (h:aZ C n F target iter dJ H (jl C n F target body us dJ Q)) (hs:autoParam (∀x,foldedSetIterable iter F.env x=pure x) A1):Ex C n F (.For target iter body [] pos) ρ H Q:=by
 refine Ex.wk hf e (Ex.gY (aZ.mono h λvs Ok H₁ #[I,i0,pI,turn,fin]=>#[λk ρ' H'=>dJ=ρ'/\I k H',#[rfl,i0],λk Z H' l i=>pI k H' l i.2,λk v ρ' H' hv i=>?_,λρ' H' i=>i.1▸fin H' i.2]) hs);obtain⟨rfl,i⟩:=i;refine(turn k v H' hv i _ id).mono λLz b=>b.post hf us λo QY H2 q=>?_;cases o with
 |next=>exact#[q.1.symm,q.2]
 |cont=>exact#[q.1.symm,q.2]
 |brk=>exact q
 |ret v=>exact q
inductive WP(us:List Str)(dJ:Loc)(H0:AH)(ρ:Loc):AH->Prop
 |mk (e:fo us ρ=dJ):WP us dJ H0 ρ H0
noncomputable abbrev Jb(us:List Str)(dJ:Loc)(H0:AH)(Q:Out->Loc->AH->Prop):Out->Loc->AH->Prop:=λo ρ H=>match o with| .next=>WP us dJ H0 ρ H| .cont=>WP us dJ H0 ρ H| .brk=>Q .next (fo us ρ) H| .ret v=>Q (.ret v) (fo us ρ) H
theorem jl.pure (pI:Ok H₁)
 (turn:∀(k:Nat) v,vs[k]? =some v->∀K,(∀{o ρ' H'},Jb us dJ H₁ Q o ρ' H'->K o ρ' H')->b_ C F target v dJ H₁ (mC C n F body H₁ K)) (fin:Q .next dJ H₁):jl C n F target body us dJ Q vs Ok H₁:=
 #[λZ H'=>H₁=H',rfl,λZ Z Z e=>e▸pI,λk v H' hv e K kk=>e▸turn k v hv K (λ{o ρ' H'} q=>kk (by
  cases o with
  |next=>obtain⟨e⟩:=q;exact#[e,rfl]
  |cont=>obtain⟨e⟩:=q;exact#[e,rfl]
  |brk=>exact q
  |ret v=>exact q)),λH' e=>e▸fin]
noncomputable abbrev ae9(C:Cx)(n:Nat)(F:Fm)(body:List Stmt)(dJ:Loc)(K Q:Out->Loc->AH->Prop):Bool->AH->Prop:=λb H=>if b then aG C n F body dJ H K else Q .next dJ H
theorem Ex.Dg {test:Expr} {body:List Stmt} {pos:Pos} (hf:F.fn=true) (us:List Str) (e:fo us ρ=dJ) (I:Nat->AH->Prop) (m₀:Nat) (i0:I m₀ H)
 (turn:∀m H',I m H'->∀K,(∀{o ρ' H'},Rc us dJ I m Q o ρ' H'->K o ρ' H')->Tr C n F test dJ H' (ae9 C n F body dJ K Q)):Ex C n F (.While test body [] pos) ρ H Q:=by
 refine Ex.wk hf e (Ex.nO (λk ρ' H'=>dJ=ρ'/\I k H') m₀ #[rfl,i0] λm ρ' H' i=>?_);obtain⟨rfl,i⟩:=i;refine(turn m H' i _ id).mono λb H2 q=>?_;cases b with
 |false=>exact q
 |true=>
  refine aG.post (K:=Rc us dJ I m Q) hf us q λo QY H2 q=>?_;cases o with
  |next=>obtain⟨m',l,e,p⟩:=q;exact#[m',l,e.symm,p]
  |cont=>obtain⟨m',l,e,p⟩:=q;exact#[m',l,e.symm,p]
  |brk=>exact q
  |ret v=>exact q
end
inductive AtV(us:List AV)(k:Nat)(H0:AH)(y:AV):AH->Prop
 |mk (e:us[k]? =some y):AtV us k H0 y H0
theorem gZ.map {C:Cx} {n:Nat} {F:Fm} {elt:Expr} {names:List (Str×NameKind)} {r:LV->Loc} {Q:Addr->AH->Prop} {vs us:List AV} {Ok:AH->Prop} {H₁:AH} (hl:us.length=vs.length) (l:us.length<=1000000) (pI:Ok H₁)
 (turn:∀F',CF F names F'->∀(k:Nat) v,vs[k]? =some v->Ev C n F' elt (r (.val v)) H₁ (AtV us k H₁)) (fin:∀a,H₁ a=b6->Q a (H₁.set a (.list us))):gZ C n F elt [] names r Q vs Ok H₁:=
 #[hl▸l,λk ys H'=>ys=us.take k/\H₁=H',#[rfl,rfl],λZ Z Z Z e=>e.2▸pI,λF' cf k v ys H' hv e=>by
  obtain⟨rfl,rfl⟩:=e;refine kC.nil ((turn F' cf k v hv).mono λy H' q=>?_);obtain⟨e⟩:=q;exact#[by rw[List.take_add_one,e];rfl,rfl],λa ys H' e ha=>by
  obtain⟨rfl,rfl⟩:=e;rw[<-hl,z8];exact fin a ha]
inductive Dh(ys:List AV)(H0:AH)(us:List AV)(y:AV):AH->Prop
 |mk (e:ys=us++[y]):Dh ys H0 us y H0
inductive Di(ys:List AV)(H0:AH)(us:List AV):AH->Prop
 |mk (e:ys=us):Di ys H0 us H0
noncomputable abbrev LC(C:Cx)(n:Nat)(F:Fm)(elt:Expr)(ρ:Loc)(ys us:List AV)(H0:AH):Bool->AH->Prop:=λb H=>if b then Ev C n F elt ρ H (Dh ys H0 us) else Di ys H0 us H
theorem kC.mono{C:Cx}{n:Nat}{F:Fm}{ifs:List Expr}{ρ:Loc}{H:AH}{K K':Bool->AH->Prop}(h:kC C n F ifs ρ H K)(k:∀b H,K b H->K' b H):kC C n F ifs ρ H K':=λA g s a G=>wm (h A g s a G) λZ Z x=>x.casesOn λH' q r=>#[H',k _ _ q,r]
theorem gZ.zT {C:Cx} {n:Nat} {F:Fm} {elt:Expr} {ifs:List Expr} {names:List (Str×NameKind)} {r:LV->Loc} {Q:Addr->AH->Prop} {vs:List AV} {Ok:AH->Prop} {H₁:AH} {f:Nat->List AV} (l:vs.length<=1000000) (pI:Ok H₁) (f0:f 0=[])
 (turn:∀F',CF F names F'->∀(k:Nat) v,vs[k]? =some v->kC C n F' ifs (r (.val v)) H₁ (LC C n F' elt (r (.val v)) (f (k+1)) (f k) H₁)) (fin:∀a,H₁ a=b6->Q a (H₁.set a (.list (f vs.length)))):gZ C n F elt ifs names r Q vs Ok H₁:=
 #[l,λk ys H'=>f k=ys/\H₁=H',#[f0,rfl],λZ Z Z Z e=>e.2▸pI,λF' cf k v ys H' hv e=>by
  obtain⟨rfl,rfl⟩:=e;refine(turn F' cf k v hv).mono λb H q=>?_;cases b with
  |true=>exact Ev.mono q λy H' q=>by obtain⟨e⟩:=q;exact#[e,rfl]
  |false=>obtain⟨e⟩:=q;exact#[e,rfl],λa ys H' e ha=>by
  obtain⟨rfl,rfl⟩:=e;exact fin a ha]
def tO(us:List Str)(a b:Loc):Prop:=True
theorem tO.nil:tO us [] []:=trivial
theorem tO.glob(h:tO us r r'):tO us ((k,.glob)::r) ((k,.glob)::r'):=trivial
theorem tO.und(h:tO us r r'):tO us ((k,.undef)::r) ((k,.undef)::r'):=trivial
theorem tO.hit(c:us.contains k=true)(h:tO us r r'):tO us ((k,.val v)::r) ((k,.undef)::r'):=trivial
theorem tO.miss(c:us.contains k=false)(h:tO us r r'):tO us ((k,v)::r) ((k,v)::r'):=trivial
abbrev ae_(us:List Str)(ρ ρ':Loc):Prop:=tO us ρ ρ'->fo us ρ=ρ'
theorem newL{P:AH->Prop}{H:AH}{a:Addr}{vs:List AV}(ha:H a=b6)(h:∀H',Kp [] H H'->H' a=some (.list vs)->P H'):P (H.set a (.list vs)):=h _ (Kp.new ha) (AH.aq _ _ _)
theorem LD{P:AH->Prop}{H:AH}{a:Addr}{o:AO}(ha:H a=b6)(h:∀H',Kp [] H H'->H' a=some o->P H'):P (H.set a o):=h _ (Kp.new ha) (AH.aq _ _ _)
theorem g_{P:AH->Prop}{H:AH}{a:Addr}{o:AO}(h:∀H',Kp [a] H H'->H' a=some o->P H'):P (H.set a o):=h _ (Kp.mem (!.head _)) (AH.aq _ _ _)
theorem ne1(h:y≠x):y∉[x]:=λm=>h (j0.mp m)
theorem Kp.nn(k:Kp [] H H')(e:H' x=b6):H x=b6:=by
 cases q:H x with
 |none=>rfl
 |some o=>have:=k.aK q;rw[e] at this;cases this
theorem ints_set(l:List Int)(k:Nat)(v:Int):(ak l).set k (.int v)=ak (l.set k v):=by simp[ak]
theorem iO.nat{P:List AV->(AH->Prop)->AH->Prop}{k:Nat}{H:AH}(l:k<=1000000)(q:P (nats k) (λZ=>True) H):iO P (.int (k:Int)) H:=
 #[_,rfl,Int.le_trans `e (F7 k),Int.lt_of_le_of_lt (T6.mpr l) `e,q]
section
variable{C:Cx}{n:Nat}{F:Fm}{ρ dJ:Loc}{H₁:AH}{us:List Str}{Q:Out->Loc->AH->Prop}{target:Expr}{body:List Stmt}{k:Nat}
theorem jl.nats(I:Nat->AH->Prop)(i0:I 0 H₁)(turn:∀i H',i<k->I i H'->∀K,(∀{o ρ' H'},Ja us dJ I i Q o ρ' H'->K o ρ' H')->b_ C F target (.int (i:Int)) dJ H' (mC C n F body H' K))(fin:∀H',I k H'->Q .next dJ H'):jl C n F target body us dJ Q (nats k) (λZ=>True) H₁:=
 #[I,i0,λZ Z Z Z=>trivial,λi v H' hv hi K kk=>(bk hv).1▸turn i H' (bk hv).2 hi K kk,λH' h=>fin H' (bx k▸h)]
theorem jl.Dj(turn:∀i:Nat,i<k->∀K,(∀{o ρ' H'},Jb us dJ H₁ Q o ρ' H'->K o ρ' H')->b_ C F target (.int (i:Int)) dJ H₁ (mC C n F body H₁ K))(fin:Q .next dJ H₁):jl C n F target body us dJ Q (Mine.nats k) (λZ=>True) H₁:=
 .pure trivial (λi v hv K kk=>(bk hv).1▸turn i (bk hv).2 K kk) fin
end
inductive MT:List Expr->List Str->Prop
 |nil:MT [] []
 |cons {x:Str} {p:Pos} {es:List Expr} {xs:List Str} (h:MT es xs):MT (.Name x p::es) (x::xs)
noncomputable def LV.LF:LV->Bool
 | .glob=>true
 |_=>false
noncomputable def zU(ρ:Loc):List Str->List AV->Option Loc
 |[],[]=>some ρ
 |x::xs,v::vs=>cond ((ρ.get x).elim true LV.LF) b6 (zU (ρ.set x (.val v)) xs vs)
 |_,_=>b6
theorem e_.names(hf:F.fn=true)(d:MT es xs)(e:zU ρ xs vs=some ρ')(h:Q ρ'):e_ C F es vs ρ H Q:=by
 induction d generalizing ρ vs with
 |nil=>
  cases vs with
  |nil=>exact .nil (m9 e▸h)
  |cons=>exact gc e
 |@cons x p es xs d ih=>
  cases vs with
  |nil=>exact gc e
  |cons v vs=>
   have e:cond ((ρ.get x).elim true LV.LF) b6 (zU (ρ.set x (.val v)) xs vs)=some ρ':=e;cases hx:ρ.get x with
   |none=>rw[hx] at e;cases e
   |some u=>
    rw[hx] at e;have hu:u.ok:=by cases u with|glob=>exact gc e|_=>trivial
    exact .cons (b_.aT hx hf hu (ih (by cases u with|glob=>exact gc e|_=>exact e)))
def Jc(a:Loc)(xs:List Str)(vs:List AV)(b:Loc):Prop:=True
theorem Jc.nil:Jc ρ [] [] ρ:=trivial
theorem Jc.cons(s:ρ.set x (.val v)=Lz)(h:Jc Lz xs vs ρ'):Jc ρ (x::xs) (v::vs) ρ':=trivial
abbrev afa(ρ:Loc)(xs:List Str)(vs:List AV)(ρ':Loc):Prop:=Jc ρ xs vs ρ'->zU ρ xs vs=some ρ'
theorem Kp.hd(k:Kp [x] H H'):Kp (x::l) H H':=k.mono λy hy=>j0.mp hy▸.head _
theorem Kp.tl(k:Kp [x] H H')(h:x∈l):Kp (p::l) H H':=k.mono λy hy=>j0.mp hy▸.tail _ h
theorem MU(x:String):AV.str s≠AV.bi x:=λe=>nomatch e
theorem MV(x:String):AV.int s≠AV.bi x:=λe=>nomatch e
theorem TY(x:String):AV.tup s≠AV.bi x:=λe=>nomatch e
end
section
noncomputable def qH(k:List (Int×Int)):AV:=.tup (k.map λp=>.tup [.int p.1,.int p.2])
theorem bF.two(a:bF h V (.tup [.int i,.int j])):∃b t u,V=.ref b/\h.get? b=some #[.type "tuple",b6,.seq [Value.int i t,Value.int j u].toArray 0,#[]]:=by
 refine a.tupI λb xs e r=>?_;revert e;refine r.aX λV1 W a1 r1=>?_;refine a1.bB λt=>?_;refine r1.aX λV2 W a2 r2=>?_;refine a2.bB λu=>?_;refine r2.cC ?_;exact λe=>#[b,t,u,rfl,e]
theorem pairs_at{C:Cx}{h:Heap}{k:List (Int×Int)}:∀{xs:List Value},aM h xs (k.map λp=>.tup [.int p.1,.int p.2])->bY C.prog C.w h k xs:=by
 induction k with
 |nil=>exact λr=>r.cC .nil
 |cons p k ih=>exact λr=>r.aX λV W a r=>a.two.elim λb q=>q.elim λt q=>q.elim λu q=>q.1▸.cons q.2 (ih r)
theorem yq{C:Cx}{h:Heap}{V:Value}{k:List (Int×Int)}(a:bF h V (qH k)):∃b,V=.ref b/\lZ C.prog C.w h k b:=
 a.tupI λb xs e r=>#[b,rfl,_,_,e,pairs_at r]
section
variable{C:Cx}{n:Nat}{F:Fm}{ρ:Loc}{H:AH}{a:Addr}{kvs:List (List (Int×Int)×AV)}{k:List (Int×Int)}
theorem ju.nk(a:ju n A):(qm C.prog C.w).room A.in1:=by
 have:=a.units;show A.units+1+3<cLine;exact o56 this
theorem aF.zV{slice:Expr}{v:AV}{Q:AV->AH->Prop}(hs:vY slice)(ha:H a=some (.dN kvs))(hk:dX kvs k=some v)(h:Q v H):aF C n slice (.ref a) (qH k) H Q:=λA g s V I value ao G r r'=>by
 refine r.bR ?_;obtain⟨b,rfl,nk⟩:=yq (C:=C) r';refine bz (G.rel _ _ ha) λkv hd rr=>?_;rcases rr.at (k:=k) with⟨W,w,e1,e2,aW⟩|⟨_,e2⟩
 ·rw[hk] at e2;cases e2;have e1:valueAt (kvsOf kv) k=some W:=e1;rw[valueAt_kvsOf] at e1;obtain⟨p,hp,rfl⟩:=l8.mp e1;exact tail_any hd.typeIs slot_dict_getitem.lookup (wpAny_getItem_heap ao.nk nk hd hp #[_,_,h,aW,G.at _]) (hs _ _)
 ·exact TN (E1 (G0 (hk)) e2)
theorem aB.afb{Q:AV->AH->Prop}(ha:H a=some (.dN kvs))(h:Q (.bool (Bool.not ((dX kvs k).isSome))) H):aB C n (compareOp .NotIn) (qH k) (.ref a) H Q:=λA g s V U ao G r r'=>by
 refine r'.bR ?_;obtain⟨b,rfl,nk⟩:=yq (C:=C) r;refine bz (G.rel _ _ ha) λkv hd rr=>?_;refine wpAny_notIn_heap ao.nk nk (G.oY ha) hd #[_,_,?_,.bool _,G.at _];rcases rr.at (k:=k) with⟨W,w,e1,e2,aW⟩|⟨e1,e2⟩
 ·have e1:valueAt (kvsOf kv) k=some W:=e1;rw[valueAt_kvsOf] at e1;obtain⟨p,hp,rfl⟩:=l8.mp e1;rw[hp];rw[e2] at h;exact h
 ·have e1:valueAt (kvsOf kv) k=b6:=e1;rw[valueAt_kvsOf] at e1;rw[Option.map_eq_none_iff.mp e1];rw[e2] at h;exact h
theorem cZ.zV{v:AV}{Q:AH->Prop}(ha:H a=some (.dN kvs))(hl:kvs.length<=1000000)(h:Q (H.set a (.dN (dO kvs k v)))):cZ C n (.ref a) (qH k) v H Q:=λA g s O I V ao G r r' rv=>by
 refine r.bR ?_;obtain⟨b,rfl,nk⟩:=yq (C:=C) r';refine bz (G.rel _ _ ha) λkv hd rr=>?_;have hlen:=rr.length;rw[b9] at hlen;refine wpAny_setItem_heap ao.nk nk hd (λh' hd' sb=>?_) (by rw[sizeLine_eq];exact MP hlen hl);have kt:bZ s.heap h':=λb xs m e=>sb.extBut _ _ (λz=>by
  refine kj hd λo es ep q Z hdat Z=>?_;rw[z,q] at e;cases e;cases hdat) e
 have e:=kvsOf_storedH kv k b V;unfold kvsOf at e;refine#[_,h,(G.turn (o':=.dN (dO kvs k v)) (s':={s with heap:=h',toks:=s.toks+(qm C.prog C.w).draws k}) ha (.inl rfl) (λZ=>False) (λZ f=>f.elim) (λb ob hb Z e=>sb.extBut _ _ hb e) (λkt=>#[_,hd',by rw[e];exact(rr.put rv).kept kt]) (λD dx fs e=>by cases e) (.inl (I5 sb.1.symm)) rfl rfl).1]
theorem Ev.LH(h:∀a,H a=b6->Q (.ref a) (H.set a (.dN []))):Ev C n F (.Dict [] [] pos) ρ H Q:=λA g s a G=>by
 refine wpAny_Dict_empty ?_;obtain⟨g₂,dm,_,bh⟩:=G.call;refine xA (dm.new (o:=.dN []) (ob:={cls:=.type "dict",data:=.dict #[]}) rfl (λZ Z Z e=>nomatch e) λh' k e=>#[[],#[_,#[],0,e,#[rfl,rfl,rfl],rfl,rfl,(λZ he=>by simp at he),J9],.nil]) λG' n0=>?_;exact#[.ref _,_,h _ n0,.ref _,bh _ _ G']
end
end
section
noncomputable def KasT.run{α:Type}(f:Nat->Nat->Bool):KasT α->α
 | .ret a=>a
 | .ask i j k=>KasT.run f (k (f i j))
noncomputable def KasT.ok{α:Type}(n:Nat):KasT α->Bool
 | .ret _=>true
 | .ask i j k=>decide (i<n)&&decide (j<n)&&KasT.ok n (k true)&&KasT.ok n (k false)
noncomputable def KasT.lF{α:Type}:KasT α->List α
 | .ret a=>[a]
 | .ask _ _ k=>KasT.lF (k true)++KasT.lF (k false)
theorem KasT.uK{α:Type}(f:Nat->Nat->Bool):∀t:KasT α,KasT.run f t∈KasT.lF t
 | .ret a=>j0.mpr rfl
 | .ask i j k=>by
  have:=KasT.uK f (k (f i j));show KasT.run f (k (f i j))∈KasT.lF (k true)++KasT.lF (k false);cases h:f i j with
  |true=>rw[h] at this;exact B0 _ this
  |false=>rw[h] at this;exact u5 _ this
theorem KasT.wp_run{α:Type}{n:Nat}{f:Nat->Nat->Bool}{cmp:Nat->Nat->(Bool->Shared->Prop)->Shared->Prop}{I:Shared->Prop}(ask:∀i j D s,i<n->j<n->I s->(∀s',I s'->D (f i j) s')->cmp i j D s){Q:α->Shared->Prop}:
 ∀(t:KasT α) (s:Shared),KasT.ok n t=true->I s->(∀s',I s'->Q (KasT.run f t) s')->t.kasWp cmp Q s
 | .ret a,s,_,hi,hq=>hq s hi
 | .ask i j k,s,ho,hi,hq=>by
  replace ho:(decide (i<n)&&decide (j<n)&&KasT.ok n (k true)&&KasT.ok n (k false))=true:=ho;simp only[D0,decide_eq_true_eq] at ho;obtain⟨⟨⟨h1,h2⟩,h3⟩,h4⟩:=ho;refine ask i j _ s h1 h2 hi λs' hi'=>?_;refine KasT.wp_run ask (k (f i j)) s' ?_ hi' hq;cases f i j with
  |true=>exact h3
  |false=>exact h4
noncomputable def qJ(p q:Int×Int):Bool:=if p.1=q.1 then decide (p.2<q.2) else decide (p.1<q.1)
noncomputable def iu(ps:List (Int×Int)):List (Int×Int):=
 if ps.length<2 then ps else(KasT.run (λi j=>qJ (ps.getD i (0,0)) (ps.getD j (0,0))) (kas_sort ps.length)).toList.map λi=>ps.getD i (0,0)
theorem Rf:KasT.ok 2 (kas_sort 2)=true/\(KasT.lF (kas_sort 2)).all (λp=>p.toList.isPerm [0,1])=true:=by decide+kernel
theorem Rg:KasT.ok 3 (kas_sort 3)=true/\(KasT.lF (kas_sort 3)).all (λp=>p.toList.isPerm [0,1,2])=true:=by decide+kernel
theorem tQ{n:Nat}(h2:2<=n)(h3:n<=3):KasT.ok n (kas_sort n)=true/\∀f,(KasT.run f (kas_sort n)).toList.Perm (C4 n):=by
 obtain rfl|rfl:n=2\/n=3:=by exact o57 h2 h3
 ·exact#[Rf.1,λf=>List.isPerm_iff.mp (n9.mp Rf.2 _ (KasT.uK f _))]
 ·exact#[Rg.1,λf=>List.isPerm_iff.mp (n9.mp Rg.2 _ (KasT.uK f _))]
theorem gq{ps:List (Int×Int)}(h:ps.length<=3):(iu ps).Perm ps:=by
 unfold iu;split
 ·exact .refl _
 ·refine((tQ (!o64 `a) h).2 _).map _ |>.trans ?_
  refine List.Perm.of_eq (List.ext_getElem (!(b9 _).trans I8) λi h1 h2=>?_);simp at h1;simp[b8 h2]
noncomputable def bS(p:Int×Int):AV:=.tup [.int p.1,.int p.2]
section
variable{C:Cx}{n:Nat}{F:Fm}{ρ:Loc}{H:AH}
theorem uL(a:bF h V (bS p)):∃b t u,V=.ref b/\h.get? b=some #[.type "tuple",b6,.seq (List.toArray [.int p.1 t,.int p.2 u]) 0,#[]]:=a.two
theorem qO:∀{xs:List Value} {ps:List (Int×Int)},aM h xs (ps.map bS)->∀i,i<ps.length->∃b t u,xs.getD i Q7=.ref b/\h.get? b=some #[.type "tuple",b6,.seq (List.toArray [.int (ps.getD i (0,0)).1 t,.int (ps.getD i (0,0)).2 u]) 0,#[]]:=λ{xs ps} r i hi=>by
 refine bz (r.get (k:=i) (v:=bS (ps.getD i (0,0))) (by rw[j9,c8,b8 hi];rfl)) λV hV aV=>?_;rw[c8,hV];exact uL aV
theorem Dk{h:Heap}{ps:List (Int×Int)}:∀{xs:List Value},aM h xs (ps.map bS)->∃fs:List Value,KatTups h xs fs/\fs.length=ps.length/\∀v∈fs,∃i t,v=Value.int i t:=by
 induction ps with
 |nil=>exact λr=>r.cC #[[],.nil,rfl,λZ h=>nomatch h]
 |cons p ps ih=>
  refine λr=>r.aX λV W a r=>(ih r).elim λfs q=>(uL a).elim λb x=>x.elim λt x=>x.elim λu x=>x.1▸#[.int p.1 t::fs,.cons x.2 rfl rfl rfl q.1,congrArg (·+1) q.2.1,λv hv=>?_];cases hv with
  |head=>exact#[_,_,rfl]
  |tail _ hv=>exact q.2.2 v hv
theorem LJ (hx:s.heap.get? x=some #[.type "tuple",b6,.seq (List.toArray [.int p.1 t,.int p.2 u]) 0,#[]]) (hy:s.heap.get? y=some #[.type "tuple",b6,.seq (List.toArray [.int q.1 t',.int q.2 u']) 0,#[]])
 (h:D (qJ p q) s):Wp C A (keyLt' (tuples' true) (.ref x) (.ref y)) D s:=by
 refine kat_lt hx rfl hy rfl ?_;unfold qJ at h;refine kat_cons (wpAny_eqBool_int ?_);by_cases e:p.1=q.1
 ·rw[if_pos e] at h;rw[show(p.1==q.1)=true by exact decide_eq_true `a];refine kat_yes (kat_cons (wpAny_eqBool_int ?_));by_cases e2:p.2=q.2
  ·rw[show(p.2==q.2)=true by exact decide_eq_true `a];refine kat_yes (kat_nil ?_);rw[decide_eq_false (!o58 e2)] at h;exact h
  ·rw[show(p.2==q.2)=false by exact decide_eq_false `a];exact kat_no (kat_one _ _ (lt_int h))
 ·rw[if_neg e] at h;rw[show(p.1==q.1)=false by exact decide_eq_false `a];exact kat_no (oneLt_int h)
end
end
section
section
variable{C:Cx}{n:Nat}{F:Fm}{ρ:Loc}{H:AH}
theorem Ba{h:Heap}{xs:List Value}{ps:List (Int×Int)}(r:aM h xs (ps.map bS)):∀l:List Nat,(∀i∈l,i<ps.length)->aM h (l.map λi=>xs.getD i Q7) ((l.map λi=>ps.getD i (0,0)).map bS):=λl=>by
 induction l with
 |nil=>exact λZ=>.nil
 |cons i l ih=>
  intro hl;refine .cons ?_ (ih λj hj=>hl j (.tail _ hj));refine tG (qO r i (hl i (.head _))) λb t u e o=>?_;refine(e▸.tup o (.cons (.int _ _) (.cons (.int _ _) .nil)):bF h (xs.getD i Q7) (bS (ps.getD i (0,0))))
theorem yr {A:Around} {s:Shared} {a:Addr} {vs:List Value} {ps:List (Int×Int)} {m:Nat} {P:PySem.Fin->Shared->Prop} (ho:s.heap.get? a=some (seqObj "list" vs.toArray m)) (hp:aM s.heap vs (ps.map bS)) (h3:ps.length<=3)
 (h:∀(out:List Value) (H':Heap) (tk:Tok) (e:Nat),aM s.heap out ((iu ps).map bS)->(∀b o,b≠a->s.heap.get? b=some o->H'.get? b=some o)->H'.get? a=some (seqObj "list" out.toArray e)->P (.done (.ret .none)) {s with heap:=H',toks:=tk}):
 Wp C A (Builtin.«list.sort» #[[.ref a],[]]) P s:=by
 have hvl:vs.length=ps.length:=by rw[hp.length,b9]
 have ha:a<s.heap.objs.size:=m7 ho;rw[list_sort_plain];refine wpAny_bind (listItems_at ho rfl ?_);refine wpAny_bind (listUpdate_at ho rfl ?_ (by rw[n7,sizeLine_eq];exact TJ hvl h3) (s8 _));obtain⟨e1,ho1⟩:∃e1,(s.heap.update a (D3 λZ=>(#[]:Array Value))).get? a=some (seqObj "list" #[] e1):=#[_,get?_update_seq ho λZ=>#[]];refine wpAny_bind (seqEpoch_at ho1 rfl ?_);refine wpAny_bind (wpAny_newTuple ?_ (by show vs.length<=_;rw[sizeLine_eq];exact TJ hvl h3));refine wpAny_bind (wpAny_newList ?_ (s8 _));refine wpAny_holding ?_;have k6:∀b o,(s.heap.update a (D3 λZ=>(#[]:Array Value))).get? b=some o->(((s.heap.update a (D3 λZ=>(#[]:Array Value))).push {cls:=.type "tuple",data:=.seq vs.toArray}).push {cls:=.type "list",data:=.seq ([]:List Value).toArray}).get? b=some o:=λb o e=>j6 _ (j6 _ e);have k5:∀b o,b≠a->s.heap.get? b=some o->(s.heap.update a (D3 λZ=>(#[]:Array Value))).get? b=some o:=λb o hb e=>(S0 _ _ _ _ hb).trans e;show Wp C A _ _ {s with heap:=((s.heap.update a (D3 λZ=>(#[]:Array Value))).push {cls:=.type "tuple",data:=.seq vs.toArray}).push {cls:=.type "list",data:=.seq ([]:List Value).toArray}};have o6:=k6 _ _ ho1;have kp:∀b o,b≠a->s.heap.get? b=some o->_:=λb o hb e=>k6 b o (k5 b o hb e);generalize((s.heap.update a (D3 λZ=>(#[]:Array Value))).push {cls:=.type "tuple",data:=.seq vs.toArray}).push {cls:=.type "list",data:=.seq ([]:List Value).toArray}=h6 at o6 kp⊢;have fin:∀(out:List Value) (tk:Tok),aM s.heap out ((iu ps).map bS)->P (.done (.ret .none)) {s with heap:=h6.update a (D3 λZ=>out.toArray),toks:=tk}:=λout tk r=>
  h out _ tk _ r (λb o hb e=>(S0 _ _ _ _ hb).trans (kp b o hb e)) (get?_update_seq o6 λZ=>out.toArray)
 dsimp only;by_cases h2:vs.toArray.size<2
 ·rw[if_pos h2,if_pos h2];rw[n7] at h2;refine wpAny_bind (wpAny_pure ?_);rw[StateT.run_pure];refine wpAny_bind (wpAny_pure ?_);dsimp only;refine wpAny_bind (seqEpoch_at (s:={s with heap:=h6}) o6 rfl ?_)
  have eo:(arrOf (SortSt.mk' general' (vs.toArray.zip vs.toArray) #[] 7 none)).map (·.2)=vs.toArray:=by
   show(vs.toArray.zip vs.toArray).map (·.2)=vs.toArray;apply Array.toList_inj.mp;rw[Array.toList_map,Array.toList_zip,List.map_snd_zip (!r7 _)]
  rw[eo];refine wpAny_bind (listUpdate_at (s:={s with heap:=h6}) o6 rfl ?_ (s8 _) (by rw[n7,sizeLine_eq];exact o60 h2));simp only[bne_self_eq_false,C1,if_false];refine wpAny_pure (fin vs s.toks ?_);unfold iu;rw[if_pos (!o61 h2 hvl)];exact hp
 ·rw[if_neg h2,if_neg h2];rw[n7] at h2;have afc:∀b (xs:Array Value) k,s.heap.get? b=some #[.type "tuple",b6,.seq xs k,#[]]->h6.get? b=some #[.type "tuple",b6,.seq xs k,#[]]:=λb xs k e=>kp b _ (λq=>by rw[q,ho] at e;simp[seqObj] at e) e;have Bb:aM h6 vs (ps.map bS):=hp.mono afc;refine f_ (Dk Bb) λfs kt kl kv=>?_;refine xA (tQ (n:=ps.length) (!o62 hvl h2) h3) λt1 t2=>?_;refine wpAny_bind (kat_kind (s:={s with heap:=h6}) (T:=.type "int") kt (!o63 kl hvl h2) (λv hv=>by obtain⟨i,t,rfl⟩:=kv v hv;exact Looks.of_pure rfl) (!rfl) ?_);rw[show(T3 "int"!=T3 "tuple")=true by exact rfl]
  refine wpAny_bind (wpAny_mono (kat_run (κ:=tuples' true) (Q:=λst' s'=>∃tk,s'={s with heap:=h6,toks:=tk}/\failedOf st'=b6/\(arrOf st').map (·.2)=((KasT.run (λi j=>qJ (ps.getD i (0,0)) (ps.getD j (0,0))) (kas_sort vs.length)).toList.map λi=>vs.getD i Q7).toArray)
   (G:=λp s'=>p=KasT.run (λi j=>qJ (ps.getD i (0,0)) (ps.getD j (0,0))) (kas_sort vs.length)/\∃tk,s'={s with heap:=h6,toks:=tk}) rfl (!o64 h2) (!o65 hvl h3) (λp st' s' _ h1 h2 #[h3,tk,h4]=>#[tk,h4,h2,by rw[kat_snds rfl h1,h3]])
   (KasT.wp_run (n:=ps.length) (I:=λs'=>∃tk,s'={s with heap:=h6,toks:=tk}) (λi j D s' hi hj hs' hD=>?_) _ _ (by rw[hvl];exact t1) #[s.toks,rfl] λs' hs=>#[rfl,hs])) ?_ λZ Z e=>e)
  ·obtain⟨tk,rfl⟩:=hs';refine tG (qO Bb i hi) λx t u ex ox=>?_;refine tG (qO Bb j hj) λy t' u' ey oy=>?_;show Wp C A (keyLt' (tuples' true) (vs.getD i Q7) (vs.getD j Q7)) D _;rw[ex,ey];exact LJ ox oy (hD _ #[tk,rfl])
  ·rintro⟨⟨⟩,st'⟩ s' ⟨tk,rfl,hf,eo⟩;dsimp only;refine wpAny_bind (seqEpoch_at (s:={s with heap:=h6,toks:=tk}) o6 rfl ?_);have hlen:=(t2 λi j=>qJ (ps.getD i (0,0)) (ps.getD j (0,0))).length_eq;rw[eo];refine wpAny_bind (listUpdate_at (s:={s with heap:=h6,toks:=tk}) o6 rfl ?_ (s8 _) (by rw[n7,b9,hvl,hlen,sizeLine_eq,I8];exact o66 h3));rw[hf];simp only[bne_self_eq_false,C1,if_false];refine wpAny_pure (fin _ tk ?_);unfold iu;rw[if_neg (!o67 hvl h2),hvl];exact Ba hp _ λi hi=>by
    have:=(t2 λi j=>qJ (ps.getD i (0,0)) (ps.getD j (0,0))).mem_iff.mp hi;simpa using this
theorem aj.GI(ha:H a=some (.list (ps.map bS)))(h3:ps.length<=3)(h:∀D,H D=b6->Q (.ref D) (H.set D (.list ((iu ps).map bS)))):aj C n (.builtin "sorted") [.ref a] H Q:=λA g s Vs ao G r=>by
 refine r.aX λZ Z a r=>?_;refine r.cC ?_;refine a.bR ?_;obtain⟨xs,m,o,rr⟩:=G.rel _ _ ha;have zW:xs.length=ps.length:=by rw[rr.length,b9]
 refine call_function_entry kind_sorted plain_sorted entry_sorted (args_sorted1 _) ?_;unfold Builtin.«sorted»;refine wpAny_bind (m:=checkCount "sorted" 1 1 _) (wpAny_pure ?_);refine wpAny_bind (collect_list (aH o) ?_ (by rw[sizeLine_eq];exact TJ zW h3));refine wpAny_bind (wpAny_newList ?_ (by rw[sizeLine_eq];exact TJ zW h3))
 have up0:∀b ob,s.heap.get? b=some ob->((s.heap.push (seqObj "list" #[] 0)).update s.heap.objs.size (D3 (·++xs.toArray))).get? b=some ob:=λb ob e=>
  (S0 _ _ _ _ (C7 (m7 e))).trans (j6 _ e)
 have LK:s.heap.objs.size<=((s.heap.push (seqObj "list" #[] 0)).update s.heap.objs.size (D3 (·++xs.toArray))).objs.size:=by
  rw[Heap.size_update,A0];exact O0 _
 show Wp C A.in1 _ _ {s with heap:=((s.heap.push (seqObj "list" #[] 0)).update s.heap.objs.size (D3 (·++xs.toArray))).push {cls:=.type "list",data:=.seq xs.toArray}};generalize(s.heap.push (seqObj "list" #[] 0)).update s.heap.objs.size (D3 (·++xs.toArray))=h1 at up0 LK;have ho:(h1.push {cls:=.type "list",data:=.seq xs.toArray}).get? h1.objs.size=some (seqObj "list" xs.toArray 0):=s9 _ rfl;have up1:∀b ob,s.heap.get? b=some ob->(h1.push {cls:=.type "list",data:=.seq xs.toArray}).get? b=some ob:=λb ob e=>j6 _ (up0 b ob e);have nD:s.heap.get? h1.objs.size=b6:=by
  cases e:s.heap.get? h1.objs.size with
  |none=>rfl
  |some ob=>exact absurd (m7 e) (I4.mpr LK)
 have hns:h1.objs.size≠sysModules:=r9 (u7 C.lo (g9 G.size LK));refine wpAny_bind (wpAny_holding (wpAny_call_entry W2 #[_,ho,rfl] V5 (yr ho (rr.up up1) h3 λout h' tk e ab kp oa=>#[.none,rfl,?_]) (W3 _)));have up:∀b ob,s.heap.get? b=some ob->h'.get? b=some ob:=λb ob e=>kp b ob (λq=>by rw[q,nD] at e;cases e) (up1 b ob e);have ab':aM h' out ((iu ps).map bS):=ab.mono λb ys k e=>kp b _ (λq=>by rw[q,ho] at e;simp[seqObj] at e) e;refine xA (G.CX (s':={s with heap:=h',toks:=tk}) up nD hns oa ab') λG' n0=>?_;exact wpAny_pure #[_,rfl,_,_,h _ n0,.ref _,G']
end
end
section
theorem uM:typeLookup (.type "list") "keys"=pure b6:=by exact rfl
theorem jA:isSubtype (.type "AttributeError") (.type "AttributeError")=pure true:=by exact rfl
section
variable{prog:Program}{w:World}{A:Around}{E:Value->Shared->Prop}{s:Shared}{a:Addr}{xs:Array Value}{n:Nat}
theorem GJ{α:Type}{o:Value}{name msg:Str}{Q:α->Shared->Prop}(hh:A.handled=b6)(hm:msg.length<=sizeLine)(hq:∀h' tk e,(∀b ob,s.heap.get? b=some ob->h'.get? b=some ob)->(∃ob,h'.get? e=some ob/\ob.cls=.type "AttributeError")->E (.ref e) {s with heap:=h',toks:=tk}):
 wpAny (model prog w) A (raiseAttrError o name msg) Q E s:=by
 unfold raiseAttrError;refine wpAny_bind (wpAny_mkStr (wpAny_bind ?_) hm);unfold newExc newTuple;refine wpAny_bind (wpAny_newObj_type ?_);refine wpAny_bind (m:=firstArgMember _ _) (wpAny_of_eq (a:=Q7) (by rfl) ?_);refine wpAny_newObj_type ?_;refine wpAny_bind (wpAny_mkText (wpAny_bind ?_));have k0:∀b ob,s.heap.get? b=some ob->((s.heap.push {cls:=.type "tuple",data:=.seq [U8 msg s.toks].toArray}).push {cls:=.type "AttributeError",data:=.fields ((List.toArray [.ref s.heap.objs.size,.none,.none,.none,.bool false,.none])++ownMembersOf (.type "AttributeError") [.str msg s.toks])}).get? b=some ob:=λb ob e=>j6 _ (j6 _ e);have e0:((s.heap.push {cls:=.type "tuple",data:=.seq [U8 msg s.toks].toArray}).push {cls:=.type "AttributeError",data:=.fields ((List.toArray [.ref s.heap.objs.size,.none,.none,.none,.bool false,.none])++ownMembersOf (.type "AttributeError") [.str msg s.toks])}).get? (s.heap.push {cls:=.type "tuple",data:=.seq [U8 msg s.toks].toArray}).objs.size=some #[.type "AttributeError",b6,.fields (List.toArray [.ref s.heap.objs.size,.none,.none,.none,.bool false,.none,unsetMember,unsetMember]),#[]]:=s9 _ rfl;have nw:s.heap.get? (s.heap.push {cls:=.type "tuple",data:=.seq [U8 msg s.toks].toArray}).objs.size=b6:=Heap.get?_none_of_le (by rw[A0];exact o68);show wpAny _ _ (noteAttr (.ref (s.heap.push {cls:=.type "tuple",data:=.seq [U8 msg s.toks].toArray}).objs.size) o (.str name (s.toks+1))) _ _ {s with heap:=((s.heap.push {cls:=.type "tuple",data:=.seq [U8 msg s.toks].toArray}).push {cls:=.type "AttributeError",data:=.fields ((List.toArray [.ref s.heap.objs.size,.none,.none,.none,.bool false,.none])++ownMembersOf (.type "AttributeError") [.str msg s.toks])}),toks:=s.toks+1+1};generalize((s.heap.push {cls:=.type "tuple",data:=.seq [U8 msg s.toks].toArray}).push {cls:=.type "AttributeError",data:=.fields ((List.toArray [.ref s.heap.objs.size,.none,.none,.none,.bool false,.none])++ownMembersOf (.type "AttributeError") [.str msg s.toks])})=h2 at k0 e0⊢;generalize(s.heap.push {cls:=.type "tuple",data:=.seq [U8 msg s.toks].toArray}).objs.size=x at e0 nw⊢;have nx:∀b ob,s.heap.get? b=some ob->b≠x:=λb ob e z=>by rw[z,nw] at e;cases e
 generalize s.toks+1+1=tk;have hT:(#[h2,s.gens,s.drawn,tk,s.os]:Shared).TypeIs (.ref x) "AttributeError":=#[_,e0,rfl];unfold noteAttr lacksNameAndObj;refine wpAny_bind ?_;show wpAny _ _ (isInstance (.ref x) (.type "AttributeError")>>=_) _ _ _;refine wpAny_bind (wpAny_isInstance hT jA ?_);show wpAny _ _ (load _>>=_) _ _ _;refine wpAny_bind (wpAny_load e0 ?_);refine wpAny_pure ?_;rw[if_pos (by rfl)];refine wpAny_bind (wpAny_rule (wpAny_bind (wpAny_typeOf hT ?_)));refine wpAny_layMembers (s:=#[h2,s.gens,s.drawn,tk,s.os]) e0 rfl ?_;unfold raiseNew;refine wpAny_bind (wpAny_handled ?_);rw[hh];refine wpAny_bind (wpAny_pure (wpAny_throw ?_));exact hq _ _ _ (λb ob e=>(S0 _ _ _ _ (nx b ob e)).trans (k0 b ob e)) #[_,G1 _ e0 rfl,rfl]
theorem yt(hh:A.handled=b6){tk:Tok}{Q:PySem.Fin->Shared->Prop}(hx:s.heap.get? a=some #[.type "list",b6,.seq xs n,#[]])(hq:∀h' tk e,(∀b ob,s.heap.get? b=some ob->h'.get? b=some ob)->(∃ob,h'.get? e=some ob/\ob.cls=.type "AttributeError")->E (.ref e) {s with heap:=h',toks:=tk}):
 wpAny (model prog w) A (Builtin.«object.__getattribute__» #[[.ref a,.str "keys" tk],[]]) Q E s:=by
 obtain⟨h,g,d,t,os⟩:=s;have hT:(#[h,g,d,t,os]:Shared).TypeIs (.ref a) "list":=#[_,hx,rfl];have f4:=uM
 repeat (any_goals (first|assumption|wp_step))
 exact GJ hh `d hq
theorem Bc(hh:A.handled=b6){tk:Tok}{R:Result->Shared->Prop}(hx:s.heap.get? a=some #[.type "list",b6,.seq xs n,#[]])(hq:∀h' tk e,(∀b ob,s.heap.get? b=some ob->h'.get? b=some ob)->(∃ob,h'.get? e=some ob/\ob.cls=.type "AttributeError")->R (.error (.ref e)) {s with heap:=h',toks:=tk}):
 codeAny (model prog w) A (.call (.builtin "list.__getattribute__") #[[.ref a,.str "keys" tk],[]]) R s:=
 codeAny_call_builtin O4.plain F.entry_list_ga (O4.check _ _ _ _ _ _ _ _ (show s.TypeIs (.ref a) "list" from#[_,hx,rfl]) (F.args_list_getattribute_2 _ _) (yt (A:=A.in1) hh hx hq))
theorem GK(hh:A.handled=b6){tk:Tok}{Q:Value->Shared->Prop}(hx:s.heap.get? a=some #[.type "list",b6,.seq xs n,#[]])(hq:∀h' tk e,(∀b ob,s.heap.get? b=some ob->h'.get? b=some ob)->(∃ob,h'.get? e=some ob/\ob.cls=.type "AttributeError")->E (.ref e) {s with heap:=h',toks:=tk}):
 wpAny (model prog w) A (getAttrBy (.ref a) (.str "keys" tk) false) Q E s:=by
 obtain⟨h,g,d,t,os⟩:=s;have hT:(#[h,g,d,t,os]:Shared).TypeIs (.ref a) "list":=#[_,hx,rfl];have f2:=O4.lookup;have f3:=O4.bind (.ref a)
 repeat (any_goals (first|assumption|wp_step))
 refine Bc hh hx λh' tk' e k #[ob,he,hc]=>?_;have hT2:(#[h',g,d,tk',os]:Shared).TypeIs (.ref e) "AttributeError":=#[_,he,hc];have f5:=jA;have f6:typeLookup (.type "list") "__getattr__"=pure b6:=by rw[typeLookup_type,builtinLookup_eq_fast];kernel_rfl
 repeat (any_goals (first|assumption|wp_step))
 exact hq h' tk' e k #[ob,he,hc]
theorem LL(hh:A.handled=b6){Q:Option Value->Shared->Prop}(hx:s.heap.get? a=some #[.type "list",b6,.seq xs n,#[]])(hq:∀h' tk,(∀b ob,s.heap.get? b=some ob->h'.get? b=some ob)->Q b6 {s with heap:=h',toks:=tk}):
 wpAny (model prog w) A (getAttr? (.ref a) "keys") Q E s:=by
 unfold getAttr? getAttrBy?;refine wpAny_bind (wpAny_mkText (wpAny_bind (wpAny_attempt (GK hh hx λh' tk e k #[ob,he,hc]=>?_))));dsimp only;have hT2:(#[h',s.gens,s.drawn,tk,s.os]:Shared).TypeIs (.ref e) "AttributeError":=#[_,he,hc];refine wpAny_bind (wpAny_isInstance hT2 jA ?_);rw[if_pos rfl];exact wpAny_pure (hq h' tk k)
end
theorem jB:entryFor table "dict.update.loop"=some Builtin.«dict.update.loop»:=entryFor_of_tree `k
theorem tR{qs:List (Int×Int)}{k v:Int}(h:k∉qs.map (·.1)):dO (qs.map λx=>(x.1,AV.int x.2)) k (.int v)=(qs++[(k,v)]).map λx=>(x.1,AV.int x.2):=by
 unfold dO;rw[if_neg]
 ·simp
 ·rw[Bool.not_eq_true,U3];intro p hp;obtain⟨q,hq,rfl⟩:=m5.mp hp;simp;intro e;exact h (m5.mpr #[q,hq,e])
section
variable{C:Cx}{n:Nat}{H:AH}
theorem Dl{A:Around}{R:Result->Shared->Prop}{d it l:Addr}{xs:List Value}{ps:List (Int×Int)}{m:Nat}(hh:A.handled=b6)(hl1:l≠d)(hl2:l≠it)(hdi:d≠it)(hnd:(ps.map (·.1)).Nodup)(hlen:ps.length<=1000):
 ∀(r i:Nat) (s:Shared) (kv:List (Int×Value)),r+i=ps.length->s.heap.IsListIter it l i->s.heap.get? l=some #[.type "list",b6,.seq xs.toArray m,#[]]->aM s.heap xs (ps.map bS)->(∀b (ys:Array Value) k,s.heap.get? b=some #[.type "tuple",b6,.seq ys k,#[]]->b≠d/\b≠it)->s.heap.DictOf (intKind C.prog C.w) d kv->(∀h,cR h kv ((ps.take i).map λx=>(x.1,AV.int x.2)))->
  (∀h' tk kv',h'.DictOf (intKind C.prog C.w) d kv'->(∀h,cR h kv' (ps.map λx=>(x.1,AV.int x.2)))->(∀b ob,b≠d->b≠it->s.heap.get? b=some ob->h'.get? b=some ob)->R (.ok (.ret .none)) {s with heap:=h',toks:=tk})->
  codeAny (model C.prog C.w) A (.builtin "dict.update.loop" #[[.ref d,.ref it,rawInt i,.none],[]]) R s:=by
 intro r;induction r with
 |zero=>
  intro i s kv zX hi hl hx ht hd hk hR;have zW:xs.length=ps.length:=by rw[hx.length,b9]
  refine codeAny_builtin jB ?_;unfold Builtin.«dict.update.loop»;refine wpAny_bind (wpAny_pyNext_list_end (A:=_) hh hi (aH hl) (by simp;exact o69 zX zW) λh' eb=>?_);dsimp only;refine wpAny_bind (wpAny_pure (wpAny_pure ?_));have dk:∀ob,s.heap.get? d=some ob->h'.get? d=some ob:=λob e=>eb d ob hdi e;refine hR h' s.toks kv (DictOf.kept hd dk) ?_ λb ob Z hb e=>eb b ob hb e;rw[show ps.take i=ps by rw[z9 (!o70 zX)]] at hk;exact hk
 |succ r ih=>
  intro i s kv zX hi hl hx ht hd hk hR;have zW:xs.length=ps.length:=by rw[hx.length,b9]
  obtain⟨p,hp⟩:∃p,ps[i]? =some p:=#[_,b8 (!o71 zX)];refine xE (c9.mp hp) λq1 q2=>?_;refine bz (hx.get (k:=i) (v:=bS p) (by simp[hp])) λV hV aV=>?_;obtain⟨b,t,u,rfl,ob⟩:=uL aV;refine xA (ht _ _ _ ob) λbd bi=>?_;refine codeAny_builtin jB ?_;unfold Builtin.«dict.update.loop»;refine wpAny_bind (wpAny_pyNext_list_item hi (aH hl) (x:=.ref b) (by simpa using hV) λh' it' sb=>?_);have k1:∀c o,c≠it->s.heap.get? c=some o->h'.get? c=some o:=λc o hc e=>sb.extBut c o hc e;dsimp only;refine wpAny_bind (wpAny_holding ?_);have Lo:=k1 _ _ bi ob;have hT:(#[h',s.gens,s.drawn,s.toks,s.os]:Shared).TypeIs (.ref b) "tuple":=#[_,Lo,rfl];refine wpAny_bind (wpAny_tryCatch ?_);unfold Builtin.Dict.pairItems;refine wpAny_bind (wpAny_typeOf hT ?_);rw[if_pos (!rfl)];refine wpAny_bind (wpAny_seqItems Lo rfl (wpAny_pure ?_));dsimp only[Option.getD];refine(wpAny_holding (wpAny_dictSet_pairs (knd:=intKind C.prog C.w) (k:=p.1) (!intKind_is ..) (DictOf.kept hd λo e=>k1 d o hdi e) (λh2 hd2 sb2=>?_) (by rw[(hk s.heap).length,b9,F3,sizeLine_eq];exact o72 hlen)));have k2:∀c o,c≠d->h'.get? c=some o->h2.get? c=some o:=λc o hc e=>sb2.extBut c o hc e
  have hnew:p.1∉(ps.take i).map (·.1):=λhm=>by
   refine bz (m5.mp hm) λq hq e=>?_;refine TM hq λj hj ej=>?_;rw[F3] at hj;rw[Z0] at ej;have:=x7.mp hnd j i (by simp;exact TL hj) (by simp;exact o71 zX) (!NG hj);simp[q2,ej,e] at this
  refine wpAny_pure (a:=PySem.Fin.again _) #[Code.quiet_builtin _ `d,?_];refine ih (i+1) {s with heap:=h2,toks:=s.toks+1} _ (!o75 zX) (it'.at λo e=>k2 _ _ (q9 hdi) e) (k2 _ _ hl1 (k1 _ _ hl2 hl)) (hx.mono λc ys k e=>k2 _ _ (ht _ _ _ e).1 (k1 _ _ (ht _ _ _ e).2 e)) (λc ys k e=>?_) hd2 (λh=>?_) λh3 tk kv' d3 kv3 k3=>hR h3 tk kv' d3 kv3 λc o c1 c2 e=>k3 c o c1 c2 (k2 c o c1 (k1 c o c2 e))
  ·refine#[λz=>?_,λz=>?_]
   ·rw[z] at e;exact hd2.elim λo q=>q.elim λes q=>q.elim λep q=>by
     have e:h2.get? d=_:=e;rw[q.1] at e;cases e;cases q.2.2.1
   ·rw[z] at e;refine f_ (it'.at (h':=h2) λo e=>k2 _ _ (q9 hdi) e) λo q c1 c2=>?_;have e:h2.get? it=_:=e;rw[q] at e;cases e;cases c2
  ·rw[l7 q1,q2];have:=(hk h).put (k:=p.1) (bF.int p.2 u);rw[tR hnew] at this;exact this
theorem aj.Jd{a:Addr}{ps:List (Int×Int)}{Q:AV->AH->Prop}(ha:H a=some (.list (ps.map bS)))(hl:ps.length<=1000)(hnd:(ps.map (·.1)).Nodup)(h:∀D,H D=b6->Q (.ref D) (H.set D (.dI (ps.map λx=>(x.1,AV.int x.2))))):aj C n (.type "dict") [.ref a] H Q:=λA g s Vs ao G r=>by
 refine r.aX λZ Z r2 r=>?_;refine r.cC ?_;refine r2.bR ?_;obtain⟨xs,m,o,rr⟩:=G.rel _ _ ha;have zW:xs.length=ps.length:=by rw[rr.length,b9]
 refine callType_codes (Q₁:=λobj s₁=>obj=.ref s.heap.objs.size/\s₁={s with heap:=s.heap.push {cls:=.type "dict",data:=.dict #[]}}) F.kt_called_dict (F.kt_typeCall_dict_1 _) F.entry_dict_init (kt_code_dict_new _ #[rfl,rfl]) ?_;rintro obj s₁ ⟨rfl,rfl⟩;have hnew:(s.heap.push {cls:=.type "dict",data:=.dict #[]}).DictOf (intKind C.prog C.w) s.heap.objs.size []:=Heap.DictOf.new s.heap;have up1:∀b ob,s.heap.get? b=some ob->(s.heap.push {cls:=.type "dict",data:=.dict #[]}).get? b=some ob:=λb ob e=>j6 _ e;refine#[hnew.typeIs,F.args_dict_init_2 _ _,?_];unfold Builtin.«dict.__init__»;refine wpAny_bind ?_;unfold Builtin.Dict.selfAndRest;refine wpAny_bind (wpAny_notOrdered_dict hnew.typeIs ?_);show wpAny _ _ (pure (s.heap.objs.size,[L0 a])) _ _ _;refine wpAny_pure ?_;show wpAny _ _ (Builtin.Dict.updateFrom "dict.__init__" s.heap.objs.size (.ref a) [] .none) _ _ _;have o1:=up1 _ _ o;have fr:=eW (s:=s);have MW:∀b ob,s.heap.get? b=some ob->b≠s.heap.objs.size:=λb ob e z=>by rw[z,fr] at e;cases e
 generalize hd0:s.heap.objs.size=d at hnew o1 fr MW⊢;generalize s.heap.push {cls:=.type "dict",data:=.dict #[]}=h1 at hnew o1 up1⊢;unfold Builtin.Dict.updateFrom;refine wpAny_bind (wpAny_typeOf (s:={s with heap:=h1}) #[_,o1,rfl] ?_);rw[if_pos (!rfl)];refine wpAny_bind (LL (A:=A.in1.in1) (s:={s with heap:=h1}) ao.handled o1 λh2 tk k2=>?_);rw[if_pos (by rfl)];refine wpAny_bind (wpAny_rule (wpAny_bind (wpAny_pyIter_list (s:={s with heap:=h2,toks:=tk}) (aH (k2 _ _ o1)) ?_)));have hnew2:h2.DictOf (intKind C.prog C.w) d []:=DictOf.kept hnew λob e=>k2 _ _ e;have k3:∀b ob,h2.get? b=some ob->(h2.push {cls:=.type "list_iterator",data:=.fields (List.toArray [.ref a,.int 0 0])}).get? b=some ob:=λb ob e=>j6 _ e;have TZ:(h2.push {cls:=.type "list_iterator",data:=.fields (List.toArray [.ref a,.int 0 0])}).IsListIter h2.objs.size a 0:=#[_,s9 _ rfl,rfl,rfl];have T_:∀b ob,h2.get? b=some ob->b≠h2.objs.size:=λb ob e z=>by rw[z] at e;exact absurd (m7 e) (C5 _)
 have hdx:∃ob,h2.get? d=some ob:=by refine tG hnew2 λob Z Z q Z=>?_;exact#[ob,q]
 show wpAny _ _ _ _ _ {s with heap:=h2.push {cls:=.type "list_iterator",data:=.fields (List.toArray [.ref a,.int 0 0])},toks:=tk};generalize h2.push {cls:=.type "list_iterator",data:=.fields (List.toArray [.ref a,.int 0 0])}=h3 at k3 TZ⊢;generalize h2.objs.size=it at TZ T_⊢;have up3:∀b ob,s.heap.get? b=some ob->h3.get? b=some ob:=λb ob e=>k3 _ _ (k2 _ _ (up1 _ _ e));refine wpAny_pure (a:=PySem.Fin.again _) #[Code.quiet_builtin _ `d,?_];refine Dl (A:=A.in1) (C:=C) (xs:=xs) (ps:=ps) (m:=m) ao.handled (MW _ _ o) (T_ _ _ (k2 _ _ o1)) (by refine xE hdx λob e=>?_;exact T_ _ _ e) hnd hl ps.length 0 {s with heap:=h3,toks:=tk} [] (!o18) TZ (k3 _ _ (k2 _ _ o1)) (rr.up up3) (λb ys k e=>?_) (DictOf.kept hnew2 λob e=>k3 _ _ e) (λh=>.nil) λh' tk' kv' d' kr kp=>?_
 ·have e:h3.get? b=_:=e;refine#[λz=>?_,λz=>?_]
  ·rw[z] at e;refine kj hnew2 λob es ep q Z hdat Z=>?_;rw[k3 _ _ q] at e;cases e;cases hdat
  ·rw[z] at e;refine f_ TZ λob q c1 c2=>?_;rw[q] at e;cases e;cases c2
 ·have up:∀b ob,s.heap.get? b=some ob->h'.get? b=some ob:=λb ob e=>kp b ob (MW _ _ e) (T_ _ _ (k2 _ _ (up1 _ _ e))) (up3 _ _ e);have n0:H d=b6:=by
   cases e:H d with
   |none=>rfl
   |some ob=>refine xE (G.cE (.inl #[ob,e])) λLo eo=>?_;exact absurd rfl (MW _ _ eo)
  have nf:¬cW H d:=λf=>by refine xE (G.cE f) λob e=>?_;exact absurd rfl (MW _ _ e)
  have G':=G.up' (s':={s with heap:=h',toks:=tk'}) up;refine#[rfl,_,_,h _ n0,.ref _,?_];have hg:g d=b6:=by
   cases e:g d with
   |none=>rfl
   |some ob=>exact absurd rfl (MW _ _ (G.keep _ _ e))
  have bD:∀c D b fs,(H.set d (.dI (ps.map λx=>(x.1,AV.int x.2)))) c=some (.inst D b fs)->H c=some (.inst D b fs):=λc D b fs hc=>by
   by_cases hc':c=d
   ·subst hc';rw[AH.aq] at hc;cases hc
   ·rw[aA hc'] at hc;exact hc
  refine{base:=G'.base,keep:=G'.keep,rel:=λc oc e=>?_,off:=λb f=>?_,dx:=λc D b fs e=>?_,inj:=λc c' D D' b f1 f2 e1 e2=>G.inj _ _ _ _ _ _ _ (bD _ _ _ _ e1) (bD _ _ _ _ e2),gens:=G'.gens,os:=G'.os,size:=G'.size,sys:=λc oc e=>?_}
  ·by_cases hc:c=d
   ·subst hc;rw[AH.aq] at e;cases e;exact#[kv',d',kr _]
   ·rw[aA hc] at e;exact G'.rel c oc e
  ·rcases f with⟨q,hq⟩|⟨c,D,fs,hc⟩
   ·by_cases hb:b=d
    ·rw[hb];exact hg
    ·rw[aA hb] at hq;exact G.off _ (.inl #[q,hq])
   ·exact G.off _ (.inr #[c,D,fs,bD _ _ _ _ hc])
  ·have e':=bD _ _ _ _ e;rw[aA (λz=>nf (by rw[<-z];exact .inr #[c,D,fs,e']))];exact G.dx _ _ _ _ e'
  ·by_cases hc:c=d
   ·rw[hc,<-hd0];exact r9 (u7 C.lo G.size)
   ·rw[aA hc] at e;exact G.sys _ _ e
end
end
section
noncomputable def Bd:AV->Prop
 | .tup _=>False
 |_=>True
noncomputable def Dm:AO->Prop
 | .list vs=>∀v∈vs,Bd v
 | .dI kvs=>∀p∈kvs,Bd p.2
 | .dS kvs=>∀p∈kvs,Bd p.2
 | .dN _=>False
 | .inst _ _ fs=>∀p∈fs,Bd p.2
def Be(H:AH):Prop:=∀a o,H a=some o->Dm o
def Rh(ρ:Loc):Prop:=∀x v,ρ.get x=some (.val v)->Bd v
theorem bF.nt{h h':Heap}{V:Value}{v:AV}(a:bF h V v)(n:Bd v):bF h' V v:=
 bF.rec (motive_1:=λV v Z=>Bd v->bF h' V v) (motive_2:=λZ Z Z=>True) (λZ=>.none) (λb Z=>.bool b) (λi t Z=>.int i t) (λs t Z=>.str s t) (λa Z=>.ref a) (λZ Z Z n=>n.elim) (λm Z=>.ty m) (λm Z=>.bi m) trivial (λZ Z Z Z=>trivial) a n
theorem aM.nt{h h':Heap}{Vs:List Value}{vs:List AV}(r:aM h Vs vs)(n:∀v∈vs,Bd v):aM h' Vs vs:=
 aM.ind (P:=λV w=>(∀v∈w,Bd v)->aM h' V w) (λZ=>.nil) (λa Z i n=>.cons (a.nt (n _ (.head _))) (i λv hv=>n v (.tail _ hv))) r n
theorem cR.nt{K:Type}{h h':Heap}{es:List (K×Value)}{fs:List (K×AV)}(r:cR h es fs)(n:∀p∈fs,Bd p.2):cR h' es fs:=by
 induction r with
 |nil=>exact .nil
 |cons a _ i=>exact .cons (a.nt (n _ (.head _))) (i λv hv=>n v (.tail _ hv))
theorem ez.nt{P:Params}{h h':Heap}{es:List DictEntry}{fs:List (Str×AV)}(r:ez P h es fs)(n:∀p∈fs,Bd p.2):ez P h' es fs:=by
 induction r with
 |nil=>exact .nil
 |cons e a _ i=>exact .cons e (a.nt (n _ (.head _))) (i λv hv=>n v (.tail _ hv))
theorem ir.nt{C:Cx}{h h':Heap}{a:Addr}{o:AO}(r:ir C h a o)(n:Dm o)(ka:∀ob,h.get? a=some ob->h'.get? a=some ob)(kd:∀D dx fs,o=.inst D dx fs->∀ob,h.get? dx=some ob->h'.get? dx=some ob):ir C h' a o:=by
 cases o with
 |list vs=>obtain⟨xs,m,q,r⟩:=r;exact#[xs,m,ka _ q,r.nt n]
 |dI kvs=>obtain⟨kv,⟨o,es,ep,q,q2⟩,r⟩:=r;exact#[kv,#[o,es,ep,ka _ q,q2],r.nt n]
 |dS kvs=>obtain⟨kv,⟨o,es,ep,q,q2⟩,r⟩:=r;exact#[kv,#[o,es,ep,ka _ q,q2],r.nt n]
 |dN kvs=>exact n.elim
 |inst D dx fs=>obtain⟨ds,m,q1,q2,r,l⟩:=r;exact#[ds,m,ka _ q1,kd _ _ _ rfl _ q2,r.nt n,l]
abbrev mF(fp:List Addr)(h:Heap):Prop:=∀b∈fp,∃o,h.get? b=some o/\∀v,o.data≠.cell v
theorem mF.no{fp:List Addr}{h:Heap}(t:mF fp h){b:Addr}(hb:b∈fp){o:Obj}(e:h.get? b=some o):∀v,o.data≠.cell v:=by
 refine bz (t b hb) λo' e' q=>?_;rw[e] at e';cases e';exact q
theorem Gd.Dp{C:Cx}{g:Fz}{F:Fm}{ρ:Loc}{H:AH}{s s':Shared}{fp:List Addr}(G:Gd C g F ρ H s)(m:Mv fp s s')(ho:∀b∈fp,d_ F g H b)(hT:mF fp s.heap)(nl:Rh ρ)(nh:Be H):Gd C g F ρ H s':=by
 obtain⟨mm,⟨o,es,ep,hob,hd,hk,hf⟩,hr⟩:=G.loc.ns;have hL:F.env.locals∉fp:=λx=>(ho _ x).F v8;have CP:=m.keep _ _ hL hob;refine{base:=G.base,keep:=λb o e=>m.keep _ _ (λx=>!gc (E1 (G0 ((ho b x).g)) e)) (G.keep _ _ e),rel:=λa o e=>?_,off:=G.off,dx:=G.dx,inj:=G.inj,gens:=m.gens.trans G.gens,os:=m.os.trans G.os,size:=g9 G.fm.above (K7 (m7 CP)),sys:=G.sys,fm:=G.fm,loc:=#[#[mm,#[o,es,ep,CP,hd,hk,hf],λx v e=>?_],λc hc=>?_],dh:=G.dh,cO:=G.cO}
 ·exact(G.rel a o e).nt (nh a o e) (λob=>m.keep _ _ λx=>(ho _ x).H (.inl #[o,e])) (λD dx fs eo ob=>m.keep _ _ λx=>(ho _ x).H (.inr #[a,D,fs,eo▸e]))
 ·have hr:=hr x v e;cases v with
  |undef=>exact hr
  |glob=>exact hr
  |val v=>
   refine bz hr λV a hh=>?_;refine#[V,a.nt (nl x v e),?_];rcases hh with hh|⟨hk,c,hc,oc,hoc,hdc⟩
   ·exact .inl hh
   ·exact .inr #[hk,c,hc,oc,m.keep _ _ (λx=>!(hT.no x hoc) _ hdc) hoc,hdc]
 ·refine lC (G.loc.cells c hc) λv oc hoc hdc=>?_;exact#[v,oc,m.keep _ _ (λx=>(ho _ x).F (s7 _ hc)) hoc,hdc]
theorem zne{m a b:Nat}(h:a≠b):m+a≠m+b:=λe=>h (Nat.add_left_cancel e)
theorem Dq{m l1 l2:Nat}(h1:l1<m)(h2:l2<m):ZipApart (m+4) (m+2) (m+3) m (m+1) l1 l2:=by
 constructor<;>(show @Ne Nat _ _;first|exact zne `e|exact zne (a:=0) `e|exact zne (b:=0) `e|exact C7 (Nat.lt_add_right _ `a)|exact r9 (Nat.lt_add_right _ `a)|exact C7 `a|exact r9 `a)
noncomputable abbrev Je(Inv:Nat->Loc->AH->Prop)(k:Nat)(Q:Out->Loc->AH->Prop):Out->Loc->AH->Prop:=λo cB cF=>match o with| .next=>∃H₂,(∀a o,H₂ a=some o->cF a=some o)/\Inv (k+1) cB H₂| .cont=>∃H₂,(∀a o,H₂ a=some o->cF a=some o)/\Inv (k+1) cB H₂| .brk=>Q .next cB cF| .ret v=>Q (.ret v) cB cF
structure mG(h:Heap)(z TI TO i1 i2 l1 l2:Addr)(k:Nat):Prop where
 z:IsZip h z TI TO .none
 TI:IsPair h TI (.ref i1) (.ref i2)
 TO:∃a b,IsPair h TO a b
 i1:h.IsListIter i1 l1 k
 i2:h.IsListIter i2 l2 k
noncomputable abbrev Jf(z TI TO i1 i2:Addr):List Addr:=[z,TI,TO,i1,i2]
theorem Ri{P:Addr->Prop}{a b c d e:Addr}(h1:P a)(h2:P b)(h3:P c)(h4:P d)(h5:P e):∀x∈[a,b,c,d,e],P x:=
 I3.mpr #[h1,I3.mpr #[h2,I3.mpr #[h3,I3.mpr #[h4,I3.mpr #[h5,List.forall_mem_nil _]]]]]
section
variable{h h':Heap}{z TI TO i1 i2 l1 l2:Addr}{k:Nat}
theorem tT{i l:Addr}(x:h.IsListIter i l k):∃o,h.get? i=some o/\∀v,o.data≠.cell v:=x.elim λo q=>#[o,q.1,λv e=>by rw[q.2.2] at e;cases e]
theorem mG.look(st:mG h z TI TO i1 i2 l1 l2 k):mF (Jf z TI TO i1 i2) h:=
 Ri #[_,st.z,λv q=>by cases q] #[_,st.TI,λv q=>by cases q] (st.TO.elim λa x=>x.elim λb x=>#[_,x,λv q=>by cases q]) (tT st.i1) (tT st.i2)
theorem mG.frame(st:mG h z TI TO i1 i2 l1 l2 k)(kk:∀b∈Jf z TI TO i1 i2,∀o,h.get? b=some o->h'.get? b=some o):mG h' z TI TO i1 i2 l1 l2 k:=
 #[kk z (.head _) _ st.z,kk TI (.tail _ (.head _)) _ st.TI,st.TO.elim λa x=>x.elim λb x=>#[a,b,kk TO (.tail _ (.tail _ (.head _))) _ x],st.i1.at λo e=>kk i1 (.tail _ (.tail _ (.tail _ (.head _)))) o e,st.i2.at λo e=>kk i2 (.tail _ (.tail _ (.tail _ (.tail _ (.head _))))) o e]
theorem Dt{s:Shared}(hk:∀c o,c≠z->c≠TO->c≠i1->c≠i2->s.heap.get? c=some o->h'.get? c=some o):Mv (Jf z TI TO i1 i2) s {s with heap:=h'}:=
 #[λb o nb e=>hk b o (λq=>nb (q▸.head _)) (λq=>nb (q▸.tail _ (.tail _ (.head _)))) (λq=>nb (q▸.tail _ (.tail _ (.tail _ (.head _))))) (λq=>nb (q▸.tail _ (.tail _ (.tail _ (.tail _ (.head _)))))) e,rfl,rfl]
end
section
variable{C:Cx}{n:Nat}{F:Fm}{ρ:Loc}{H:AH}
inductive Du(C:Cx)(g:Fz)(F:Fm)(Inv:Nat->Loc->AH->Prop)(N:Nat)(z TI TO i1 i2 l1 l2:Addr)(m:Nat)(s':Shared):Prop
 |mk (k:Nat) (ρ':Loc) (H':AH) (e:m+k=N) (iv:Inv k ρ' H') (st:mG s'.heap z TI TO i1 i2 l1 l2 k) (G:Gd C g F ρ' H' s') (o:∀b∈Jf z TI TO i1 i2,d_ F g H' b):Du C g F Inv N z TI TO i1 i2 l1 l2 m s'
section
variable{g g₀:Fz}{z TI TO i1 i2 l1 l2:Addr}{Inv:Nat->Loc->AH->Prop}{N:Nat}
theorem Du.next {g':Fz} {m k:Nat} {s₅ s₆:Shared} {cB:Loc} {H' cF:AH} (hm:m+k=N) (hk:k<N) (st:mG s₅.heap z TI TO i1 i2 l1 l2 (k+1)) (kk:∀b∈Jf z TI TO i1 i2,∀o,s₅.heap.get? b=some o->g' b=some o) (nN:Gd C g' F cB cF s₆) (G₀:Gd C g₀ F cB cF s₆) (ho:∀b∈Jf z TI TO i1 i2,d_ F g₀ H' b)
 (q:∃H₂,(∀a o,H₂ a=some o->cF a=some o)/\Inv (k+1) cB H₂):∃m',m'<m/\Du C g₀ F Inv N z TI TO i1 i2 l1 l2 m' s₆:=by
 refine bz q λH₂ hsub iv'=>?_;refine#[m - 1,zI hm hk,k+1,cB,H₂,nx_eq hm hk,iv',st.frame λb hb o e=>nN.keep _ _ (kk b hb o e),G₀.sub λa o Z e=>hsub a o e,λb hb=>#[(ho b hb).g,λf=>?_,(ho b hb).F]];refine bz (st.look b hb) λo e Z=>?_;have:=kk b hb o e;rw[nN.off b (qE hsub f)] at this;cases this
theorem Dv {A:Around} {s:Shared} {es:List Expr} {k0:Nat} {tp:Pos} {body:List Stmt} {Q:Out->Loc->AH->Prop} {vs1 vs2:List AV} (a:ju n A) (D:ZipApart z TI TO i1 i2 l1 l2) (hN:N=min vs1.length vs2.length) (st:mG s.heap z TI TO i1 i2 l1 l2 0) (G:Gd C g₀ F ρ H s) (jy:∀ρ' H' s',Gd C g₀ F ρ' H' s'->Gd C g F ρ' H' s') (ho:∀b∈Jf z TI TO i1 i2,d_ F g₀ H b)
 (i0:Inv 0 ρ H) (nt:∀k ρ' H',Inv k ρ' H'->Rh ρ'/\Be H'/\H' l1=some (.list vs1)/\H' l2=some (.list vs2))
 (turn:∀k v1 v2 ρ' H',vs1[k]? =some v1->vs2[k]? =some v2->Inv k ρ' H'->b_ C F (.Tuple es k0 tp) (.tup [v1,v2]) ρ' H' (mC C n F body H' (Je Inv k Q)))
 (fin:∀ρ' H',Inv N ρ' H'->Q .next ρ' H'):codeAny (model C.prog C.w) A (.forLoop (.Tuple es k0 tp) (.ref z) body [] F.env) (IM C g F A Q) s:=by
 refine codeAny_forLoop_any (Du C g₀ F Inv N z TI TO i1 i2 l1 l2) (λm s' x=>x.casesOn λk ρ' H' e iv st G' ho=>?_) N #[0,ρ,H,rfl,i0,st,G,ho];refine pG (nt _ _ _ iv) λnl nh b1 b2=>?_;obtain⟨Ua,m1,o1,MX⟩:=G'.rel _ _ b1;obtain⟨Ub,m2,o2,MY⟩:=G'.rel _ _ b2;refine sH st.TO λZ Z y3=>?_;by_cases hk:k<N
 ·have k1:k<vs1.length:=u7 (hN▸hk) (Nat.min_le_left _ _);have k2:k<vs2.length:=u7 (hN▸hk) (Nat.min_le_right _ _);have g1:vs1[k]? =some vs1[k]:=b8 k1;have g2:vs2[k]? =some vs2[k]:=b8 k2;refine bz (MX.get g1) λV1 hV1 aV1=>?_;refine bz (MY.get g2) λV2 hV2 aV2=>?_;refine wpAny_pyNext_zip_item D st.z st.TI y3 st.i1 st.i2 (aH o1) (aH o2) (x:=V1) (y:=V2) (by simpa using hV1) (by simpa using hV2) λh2 c1 c2 c3 c4 c5 c6 hk2=>?_;refine wpAny_letOwnedTupleGo_zip c1 λh3 w1 w2=>?_;have t3:=w2.extBut _ _ (λq=>by have:=m7 st.z;rw[<-q] at this;exact C5 _ this) c5;have xY:=G'.Dp (Dt λc o q1 q2 q3 q4 e=>w2.extBut _ _ q1 (hk2 c o q1 q2 q3 q4 e)) ho st.look nl nh;have st4:mG h3 z TI TO i1 i2 l1 l2 (k+1):=#[w1,w2.extBut _ _ D.TIz (hk2 _ _ D.TIz D.TITO D.TIi1 D.TIi2 st.TI),#[_,_,w2.extBut _ _ D.TOz c2],c3.extBut w2.extBut D.i1z,c4.extBut w2.extBut D.i2z];refine wpAny_mono (turn k _ _ ρ' H' g1 g2 iv A g₀ _ _ a.handled xY (.tup t3 (.cons (aV1.nt (nh _ _ b1 _ (m6 k1))) (.cons (aV2.nt (nh _ _ b2 _ (m6 k2))) .nil)))) (λZ s₅ x=>x.casesOn λoV q v_ Z keep=>?_) λZ Z x=>x.elim;obtain⟨g',wc,_,back,kept⟩:=v_.grow;refine wpAny_mono (q A g' s₅ a wc) (λfl s₆ x=>x.casesOn λo cB cF q MZ=>?_) λZ Z x=>x.elim;have next:=Du.next (Inv:=Inv) e hk (st4.frame λb hb o e=>keep b (ho b hb) o e) (λb hb o e=>kept b o e (ho b hb).H (ho b hb).F) MZ.2 (back _ _ _ MZ.2) ho
  cases fl<;>cases o<;>first|exact MZ.1.elim|exact next q|exact#[_,_,_,q,trivial,jy _ _ _ (back _ _ _ MZ.2)]|exact#[_,_,_,q,MZ.1,jy _ _ _ (back _ _ _ MZ.2)]
 ·have hk:k=N:=Nat.le_antisymm (e▸Nat.le_add_left _ _) (I4.mp hk);have hend:Ua.toArray[k]? =b6\/Ub.toArray[k]? =b6:=by
   rw[hk,hN];have l1e:=MX.length;have l2e:=MY.length;rcases Nat.le_total vs1.length vs2.length with q|q
   ·left;rw[Nat.min_eq_left q];simp;exact JS l1e
   ·right;rw[Nat.min_eq_right q];simp;exact JS l2e
  refine wpAny_pyNext_zip_end a.handled D st.z st.TI y3 st.i1 st.i2 (aH o1) (aH o2) hend λh3 Uc=>?_;exact wpAny_execs_nil #[.next,ρ',H',fin _ _ (hk▸iv),trivial,jy _ _ _ (G'.Dp (Dt Uc) ho st.look nl nh)]
end
theorem Ex.LM {x1 x2:Str} {np p1 p2 cp tp pos:Pos} {es:List Expr} {k0:Nat} {body:List Stmt} {Q:Out->Loc->AH->Prop} {l1 l2:Addr} {vs1 vs2:List AV} (hz:ρ.get ("zip":Str)=some .glob) (gz:Gb C ("zip":Str) (.type "zip"))
 (e1:Ev C n F (.Name x1 p1) ρ H λv H'=>v=.ref l1/\H=H') (e2:Ev C n F (.Name x2 p2) ρ H λv H'=>v=.ref l2/\H=H') (a1:H l1=some (.list vs1)) (a2:H l2=some (.list vs2))
 (Inv:Nat->Loc->AH->Prop) (i0:Inv 0 ρ H) (nt:∀k ρ' H',Inv k ρ' H'->Rh ρ'/\Be H'/\H' l1=some (.list vs1)/\H' l2=some (.list vs2))
 (turn:∀k v1 v2 ρ' H',vs1[k]? =some v1->vs2[k]? =some v2->Inv k ρ' H'->b_ C F (.Tuple es k0 tp) (.tup [v1,v2]) ρ' H' (mC C n F body H' (Je Inv k Q)))
 (fin:∀ρ' H',Inv (min vs1.length vs2.length) ρ' H'->Q .next ρ' H')
 (he:autoParam (starEach [.Name x1 p1,.Name x2 p2] F.env=[(false,eval (.Name x1 p1) F.env),(false,eval (.Name x2 p2) F.env)]) A1)
 (hs:autoParam (∀y,foldedSetIterable (.Call (.Name ("zip":Str) np) [.Name x1 p1,.Name x2 p2] [] cp) F.env y=pure y) A1):
 Ex C n F (.For (.Tuple es k0 tp) (.Call (.Name ("zip":Str) np) [.Name x1 p1,.Name x2 p2] [] cp) body [] pos) ρ H Q:=λA g s a G=>by
 refine wpAny_For ?_ hs;refine wpAny_Call_ofName (iN G hz gz ?_);show Wp C A (callWith cp _ [] (backTo cp (starEach [.Name x1 p1,.Name x2 p2] F.env)) []) _ s;rw[he];refine O7 rfl (O1 (J6 (fH (e1 A g s a G) λV1 s₁ v1 H₁ q r1 G₁=>J6 ?_)));obtain⟨rfl,rfl⟩:=q;refine r1.bR ?_;refine fH (e2 A g s₁ a G₁) λV2 s₂ v2 H₁ q r2 aR=>Q4 ?_;obtain⟨rfl,rfl⟩:=q;refine r2.bR ?_;obtain⟨Ua,m1,o1,MX⟩:=aR.rel _ _ a1;obtain⟨Ub,m2,o2,MY⟩:=aR.rel _ _ a2;refine call_zip_2 (aH o1) (aH o2) λh' z1 z2 z3 z4 z5 z6 k=>?_;refine wpAny_pyIter_zip z1 ?_;have ow:∀b∈Jf (s₂.heap.objs.size+4) (s₂.heap.objs.size+2) (s₂.heap.objs.size+3) s₂.heap.objs.size (s₂.heap.objs.size+1),d_ F g H b:=λb hb=>aR.eV (Ri (P:=λb=>s₂.heap.objs.size<=b) (C2 _ _) (C2 _ _) (C2 _ _) (r7 _) (C2 _ _) b hb);obtain⟨gj,jy,ho⟩:=(aR.up (s':={s₂ with heap:=h'}) k).zH ow;exact Dv a (Dq (m7 o1) (m7 o2)) rfl #[z1,z2,#[_,_,z3],z4,z5] gj jy ho i0 nt turn fin
end
end
section
section
variable{C:Cx}{n:Nat}
theorem aj.frame (sub:∀a o,H₁ a=some o->H a=some o)
 (h:aj C n f vs H₁ λv H'=>∀qF,(∀a o,H' a=some o->qF a=some o)->(∀a o,H a=some o->H₁ a=b6->qF a=some o)->Q v qF):aj C n f vs H Q:=λA g s Vs a G r=>by
 have G₁:=G.sub sub;have nf:∀{a:Addr} {o:AO},H a=some o->H₁ a=b6->¬cW H₁ a:=λ{a o} e e1 ft=>by
  rcases ft with⟨o',q⟩|⟨b,D,fs,q⟩
  ·exact gc (E1 (G0 (e1)) q)
  ·have:=G.dx _ _ _ _ (sub _ _ q);rw[e] at this;cases this
 have Ud:∀{a dx:Addr} {D:Addr} {fs},H a=some (.inst D dx fs)->H₁ a=b6->¬cW H₁ dx:=λ{a dx D fs} e e1 ft=>by
  rcases ft with⟨o',q⟩|⟨b,D',fs',q⟩
  ·have:=G.dx _ _ _ _ e;rw[sub _ _ q] at this;cases this
  ·have:=G.inj _ _ _ _ _ _ _ e (sub _ _ q);subst this;rw[e1] at q;cases q
 have hle:∀b o,g b=some o->aE s.heap H₁ [] b=some o:=λb o e=>
  bq (G.keep _ _ e) (λft=>!gc (E1 (G0 (G₁.off b ft)) e)) m8
 have aR:cJ C (aE s.heap H₁ []) H₁ s:={base:=λb o e=>hle _ _ (G.base b o e),keep:=λb o e=>(ku e).1,rel:=G₁.rel,off:=λb ft=>by unfold aE;rw[if_pos (.inl ft)],dx:=G₁.dx,inj:=G₁.inj,gens:=G.gens,os:=G.os,size:=G.size,sys:=G₁.sys};refine zE (h A _ s Vs a aR r) λV s' v H' q rv G'=>?_;have kp:∀{b:Addr} {ob:Obj},s.heap.get? b=some ob->¬cW H₁ b->s'.heap.get? b=some ob:=λe nf=>G'.keep _ _ (bq e nf m8);have kt:bZ s.heap s'.heap:=λb xs m e=>kp e (G₁.tups e);have offs:∀{b:Addr} {ob:Obj},s.heap.get? b=some ob->¬cW H₁ b->¬cW H' b:=λe nf ft=>by
  have:=G'.off _ ft;rw[bq e nf m8] at this;cases this
 have osm:∀{a:Addr} {o:AO},H a=some o->∃ob,s.heap.get? a=some ob:=λe=>by
  refine bz ((G.rel _ _ e).at) λob q Z=>?_;exact#[ob,q]
 have odx:∀{a dx D:Addr} {fs},H a=some (.inst D dx fs)->∃ob,s.heap.get? dx=some ob:=λe=>by
  obtain⟨ds,m,q1,q2,_⟩:=G.rel _ _ e;exact#[_,q2]
 obtain⟨qF,eH⟩:∃qF:AH,qF=λa=>match H' a with|some o=>some o|none=>match H₁ a with|some _=>b6|none=>H a:=#[_,rfl]
 have h1:∀a o,H' a=some o->qF a=some o:=λa o e=>by rw[eH];simp only[e]
 have h2:∀a o,H a=some o->H₁ a=b6->qF a=some o:=λa o e e1=>by
  rw[eH];refine xE (osm e) λob q=>?_;have:H' a=b6:=by
   cases z:H' a with
   |none=>rfl
   |some o'=>exact absurd (.inl #[o',z]) (offs q (nf e e1))
  simp only[this,e1,e]
 have h3:∀a o,qF a=some o->H' a=some o\/(H a=some o/\H₁ a=b6):=λa o e=>by
  rw[eH] at e;cases z:H' a with
  |some o'=>simp only[z] at e;exact .inl e
  |none=>
   simp only[z] at e;cases y:H₁ a with
   |some o'=>simp only[y] at e;cases e
   |none=>simp only[y] at e;exact .inr #[e,rfl]
 refine#[v,qF,q qF h1 h2,rv,{base:=G.base,keep:=λb o e=>G'.keep _ _ (hle _ _ e),rel:=λa o e=>?_,off:=λb ft=>?_,dx:=λa D b fs e=>?_,inj:=λa a' D D' b fs fs' e e'=>?_,gens:=G'.gens,os:=G'.os,size:=G'.size,sys:=λa o e=>?_}]
 ·rcases h3 a o e with e|⟨e,e1⟩
  ·exact G'.rel _ _ e
  ·exact(G.rel _ _ e).kept (λob q=>kp q (nf e e1)) (λD dx fs eo ob q=>by subst eo;exact kp q (Ud e e1)) kt
 ·rcases ft with⟨o,e⟩|⟨a,D,fs,e⟩
  ·rcases h3 _ _ e with e|⟨e,e1⟩
   ·cases z:g b with
    |none=>rfl
    |some o'=>have:=hle _ _ z;rw[G'.off b (.inl #[o,e])] at this;cases this
   ·exact G.off b (.inl #[o,e])
  ·rcases h3 _ _ e with e|⟨e,e1⟩
   ·cases z:g b with
    |none=>rfl
    |some o'=>have:=hle _ _ z;rw[G'.off b (.inr #[a,D,fs,e])] at this;cases this
   ·exact G.off b (.inr #[a,D,fs,e])
 ·cases z:qF b with
  |none=>rfl
  |some o=>
   rcases h3 _ _ e with e|⟨e,e1⟩<;>rcases h3 _ _ z with z|⟨z,z1⟩
   ·have:=G'.dx _ _ _ _ e;rw[z] at this;cases this
   ·refine xE (osm z) λob q=>?_;exact absurd (.inr #[a,D,fs,e]) (offs q (nf z z1))
   ·refine xE (odx e) λob q=>?_;exact absurd (.inl #[o,z]) (offs q (Ud e e1))
   ·have:=G.dx _ _ _ _ e;rw[z] at this;cases this
 ·rcases h3 _ _ e with e|⟨e,e1⟩<;>rcases h3 _ _ e' with e'|⟨e',Qc⟩
  ·exact G'.inj _ _ _ _ _ _ _ e e'
  ·refine xE (odx e') λob q=>?_;exact absurd (.inr #[a,D,fs,e]) (offs q (Ud e' Qc))
  ·refine xE (odx e) λob q=>?_;exact absurd (.inr #[a',D',fs',e']) (offs q (Ud e e1))
  ·exact G.inj _ _ _ _ _ _ _ e e'
 ·rcases h3 _ _ e with e|⟨e,e1⟩
  ·exact G'.sys _ _ e
  ·exact G.sys _ _ e
end
end
section
section
variable{prog:Program}{w:World}{A:Around}{E:Value->Shared->Prop}{s:Shared}
abbrev yu(h:Heap)(z TI TO a:Addr)(f:Bool):Prop:=h.get? z=some {cls:=.type "zip",dict:=b6,data:=.fields (List.toArray [rawInt a,.bool f,.bool false,.ref TI,.ref TO]),slots:=#[]}
theorem zY(hz:yu s.heap z TI TO a f)(ha:s.heap.get? a=some oa)(hQ:∀h',yu h' z TI TO a true->W0 z s.heap h'->Q false {s with heap:=h'}):wpAny (model prog w) A (G2 (.ref z)) Q E s:=by
 unfold G2;refine wpAny_bind (wpAny_field hz rfl (x:=rawInt a) rfl ?_);show wpAny _ _ (loadIfAlive ((a:Int).toNat)>>=_) _ _ _;rw[j7];refine wpAny_bind (kdx_alive ha ?_);simp only[Option.isNone_some,C1,if_false];refine wpAny_bind (wpAny_field hz rfl (x:=.bool f) rfl ?_);cases f with
 |true=>
  rw[if_neg (show¬((Value.bool true !=Value.bool true)=true) from q8)];exact wpAny_pure (hQ _ hz (Heap.SameBut.refl _ _))
 |false=>
  rw[if_pos (show(Value.bool false !=Value.bool true)=true from rfl)];refine wpAny_bind (wpAny_setField_rec hz (!b7 rfl) λh₃ Rj oZ=>?_);exact wpAny_pure (hQ h₃ Rj oZ)
theorem GL {z TI TO i1 i2 l1 l2 a:Addr} {f:Bool} {oa:Obj} {k1 k2:Nat} {xs ys:Array Value} {x y:Value} {Q:Value->Shared->Prop} (D:ZipApart z TI TO i1 i2 l1 l2)
 (hz:yu s.heap z TI TO a f) (ha:s.heap.get? a=some oa) (hTI:IsPair s.heap TI (.ref i1) (.ref i2))
 (h1:s.heap.IsListIter i1 l1 k1) (h2:s.heap.IsListIter i2 l2 k2) (hl1:s.heap.IsList l1 xs) (hl2:s.heap.IsList l2 ys) (hx:xs[k1]? =some x) (hy:ys[k2]? =some y)
 (hQ:∀h',yu h' z TI TO a true->h'.IsListIter i1 l1 (k1+1)->h'.IsListIter i2 l2 (k2+1)->IsPair h' s.heap.objs.size x y->h'.objs.size=s.heap.objs.size+1->
  (∀c o,c≠z->c≠i1->c≠i2->s.heap.get? c=some o->h'.get? c=some o)->Q (.ref s.heap.objs.size) {s with heap:=h'}):
 wpAny (model prog w) A (Builtin.«zip.__next__» #[[.ref z],[]]) (λfin s'=>∃v,fin=.done (.ret v)/\Q v s') E s:=by
 show wpAny _ _ (field (.ref z) 2>>=_) _ _ _;refine wpAny_bind (wpAny_field hz rfl (x:=.bool false) rfl ?_);show wpAny _ _ (field (.ref z) 3>>=_) _ _ _;refine wpAny_bind (wpAny_field hz rfl (x:=.ref TI) rfl ?_);refine wpAny_bind (wpAny_seqItems hTI rfl ?_);show wpAny _ _ (G2 (.ref z)>>=_) _ _ _;refine wpAny_bind (zY hz ha λh₁ Jg hs₁=>?_);show wpAny _ _ (_>>=_) _ _ _;refine wpAny_bind ?_;rw[List.forIn_toArray,V4];refine wpAny_bind (wpAny_bind (wpAny_holding ?_));show wpAny _ _ (M6 (.ref i1)>>=_) _ _ _;refine wpAny_bind (wpAny_nextOf_list_item (h1.extBut hs₁.extBut D.i1z) (hl1.extBut hs₁.extBut D.l1z) hx λh₂ Jh hs₂=>wpAny_pure ?_);refine wpAny_pure ?_;show wpAny _ _ (forIn (_::_) _ _) _ _ _;rw[V4];refine wpAny_bind (wpAny_bind (wpAny_holding ?_));show wpAny _ _ (M6 (.ref i2)>>=_) _ _ _;refine wpAny_bind (wpAny_nextOf_list_item ((h2.extBut hs₁.extBut D.i2z).extBut hs₂.extBut D.i12.symm)
  ((hl2.extBut hs₁.extBut D.l2z).extBut hs₂.extBut D.l2i1) hy λh₃ Rk oZ=>wpAny_pure ?_)
 refine wpAny_pure ?_;refine wpAny_pure ?_;show wpAny _ _ (_>>=_) _ _ _;refine wpAny_bind (wpAny_newTuple ?_ (by show(2:Nat)<=sizeLine;rw[sizeLine_eq];decide));have hsz:h₃.objs.size=s.heap.objs.size:=by rw[oZ.1,hs₂.1,hs₁.1]
 have Rl:∀c o,c≠z->c≠i1->c≠i2->s.heap.get? c=some o->h₃.get? c=some o:=λc o c1 c2 c3 e=>oZ.extBut _ _ c3 (hs₂.extBut _ _ c2 (hs₁.extBut _ _ c1 e));have Rm:yu h₃ z TI TO a true:=oZ.extBut _ _ D.i2z.symm (hs₂.extBut _ _ D.i1z.symm Jg);refine wpAny_pure #[_,rfl,?_];show Q (.ref h₃.objs.size) _;rw[hsz];refine hQ _ (j6 _ Rm) ((Jh.extBut oZ.extBut D.i12).at λo e=>j6 _ e) (Rk.at λo e=>j6 _ e) ?_ (by rw[A0,hsz]) λc o c1 c2 c3 e=>j6 _ (Rl c o c1 c2 c3 e);rw[<-hsz];exact s9 _ rfl
theorem LN (hh:A.handled=b6) (D:ZipApart z TI TO i1 i2 l1 l2)
 (hz:yu s.heap z TI TO a f) (ha:s.heap.get? a=some oa) (hTI:IsPair s.heap TI (.ref i1) (.ref i2))
 (h1:s.heap.IsListIter i1 l1 k1) (h2:s.heap.IsListIter i2 l2 k2) (hl1:s.heap.IsList l1 xs) (hl2:s.heap.IsList l2 ys) (hend:xs[k1]? =b6\/ys[k2]? =b6)
 (hE:∀h' e,(∀c o,c≠z->c≠i1->c≠i2->s.heap.get? c=some o->h'.get? c=some o)->(∃o,h'.get? e=some o/\o.cls=.type "StopIteration")->E (.ref e) {s with heap:=h'}):
 wpAny (model prog w) A (Builtin.«zip.__next__» #[[.ref z],[]]) Q E s:=by
 show wpAny _ _ (field (.ref z) 2>>=_) _ _ _;refine wpAny_bind (wpAny_field hz rfl (x:=.bool false) rfl ?_);show wpAny _ _ (field (.ref z) 3>>=_) _ _ _;refine wpAny_bind (wpAny_field hz rfl (x:=.ref TI) rfl ?_);refine wpAny_bind (wpAny_seqItems hTI rfl ?_);show wpAny _ _ (G2 (.ref z)>>=_) _ _ _;refine wpAny_bind (zY hz ha λh₁ Jg hs₁=>?_);show wpAny _ _ (_>>=_) _ _ _;refine wpAny_bind ?_;rw[List.forIn_toArray,V4];refine wpAny_bind (wpAny_bind (wpAny_holding ?_));show wpAny _ _ (M6 (.ref i1)>>=_) _ _ _;cases hx:xs[k1]? with
 |none=>
  refine wpAny_bind (wpAny_nextOf_list_end hh (h1.extBut hs₁.extBut D.i1z) (hl1.extBut hs₁.extBut D.l1z) hx λh₂ e hs₂ he=>?_);exact hE h₂ e (λc o c1 c2 c3 q=>hs₂ _ _ c2 (hs₁.extBut _ _ c1 q)) he
 |some x=>
  have hy:ys[k2]? =b6:=by rcases hend with h|h;rw[hx] at h;cases h;exact h
  refine wpAny_bind (wpAny_nextOf_list_item (h1.extBut hs₁.extBut D.i1z) (hl1.extBut hs₁.extBut D.l1z) hx λh₂ Jh hs₂=>wpAny_pure ?_);refine wpAny_pure ?_;simp only[];refine wpAny_bind (wpAny_bind (wpAny_holding ?_));show wpAny _ _ (M6 (.ref i2)>>=_) _ _ _;refine wpAny_bind (wpAny_nextOf_list_end hh ((h2.extBut hs₁.extBut D.i2z).extBut hs₂.extBut D.i12.symm) ((hl2.extBut hs₁.extBut D.l2z).extBut hs₂.extBut D.l2i1) hy λh₃ e oZ he=>?_);exact hE h₃ e (λc o c1 c2 c3 q=>oZ _ _ c3 (hs₂.extBut _ _ c2 (hs₁.extBut _ _ c1 q))) he
inductive sQ(h:Heap)(z TI TO i1 i2 l1 l2 S:Addr)(k:Nat):Prop
 |mk (zq:(k=0/\IsZip h z TI TO .none)\/∃a f oa,yu h z TI TO a f/\h.get? a=some oa/\a≠z/\a≠i1/\a≠i2/\a≠S) (tq:IsPair h TI (.ref i1) (.ref i2)) (oq:∃a b,IsPair h TO a b) (q1:h.IsListIter i1 l1 k) (q2:h.IsListIter i2 l2 k):sQ h z TI TO i1 i2 l1 l2 S k
structure uN(z TI TO i1 i2 l1 l2 S:Addr):Prop extends ZipApart z TI TO i1 i2 l1 l2 where
 lt:z<S/\TI<S/\TO<S/\i1<S/\i2<S/\l1<S/\l2<S
theorem uN.ne(D:uN z TI TO i1 i2 l1 l2 S):True/\S≠l1/\S≠l2/\S≠z/\S≠TI/\S≠TO/\S≠i2/\S≠i1:=by
 refine zD D.lt λa b c d e f g=>?_;exact#[trivial,r9 f,r9 g,r9 a,r9 b,r9 c,r9 e,r9 d]
theorem sQ.keep{h h':Heap}{z TI TO i1 i2 l1 l2 S:Addr}{k:Nat}(x:sQ h z TI TO i1 i2 l1 l2 S k)(D:uN z TI TO i1 i2 l1 l2 S)(hk:∀b o,b≠S->h.get? b=some o->h'.get? b=some o):sQ h' z TI TO i1 i2 l1 l2 S k:=by
 refine lY D.ne λZ d1 d2 dz Ue M_ Na Nb=>?_;obtain⟨xz,GN,⟨a,b,Nc⟩,x1,x2⟩:=x;refine#[?_,hk _ _ (q9 Ue) GN,#[a,b,hk _ _ (q9 M_) Nc],x1.at λo e=>hk _ o (q9 Nb) e,x2.at λo e=>hk _ o (q9 Na) e];rcases xz with⟨e,hz⟩|⟨a,f,oa,hz,ha,a1,a2,a3,a4⟩
 ·exact .inl #[e,hk _ _ (q9 dz) hz]
 ·exact .inr #[a,f,oa,hk _ _ (q9 dz) hz,hk _ _ a4 ha,a1,a2,a3,a4]
theorem GO {z TI TO i1 i2 l1 l2 S:Addr} {k:Nat} {xs ys:Array Value} {x y:Value} {Q:Option Value->Shared->Prop} (D:uN z TI TO i1 i2 l1 l2 S) (st:sQ s.heap z TI TO i1 i2 l1 l2 S k) (hS:S<s.heap.objs.size)
 (hl1:s.heap.IsList l1 xs) (hl2:s.heap.IsList l2 ys) (hx:xs[k]? =some x) (hy:ys[k]? =some y)
 (hQ:∀h',sQ h' z TI TO i1 i2 l1 l2 S (k+1)->IsPair h' s.heap.objs.size x y->h'.objs.size=s.heap.objs.size+1->
  (∀c o,c≠z->c≠TO->c≠i1->c≠i2->s.heap.get? c=some o->h'.get? c=some o)->Q (some (.ref s.heap.objs.size)) {s with heap:=h'}):
 wpAny (model prog w) A (pyNext (.ref z)) Q E s:=by
 have fr:∀{b o},s.heap.get? b=some o->s.heap.objs.size≠b:=λe=>r9 (m7 e);obtain⟨xz,GN,⟨a,b,Nc⟩,⟨o1,x1,x1'⟩,⟨o2,x2,Ug⟩⟩:=st;have f1:=fr x1;have f2:=fr x2;rcases xz with⟨rfl,hz⟩|⟨a',f,oa,hz,ha,a1,a2,a3,a4⟩
 ·have fz:=fr hz;refine wpAny_pyNext_zip_item D.toZipApart hz GN Nc #[o1,x1,x1'] #[o2,x2,Ug] hl1 hl2 hx hy λh' c1 c2 c3 c4 c5 c6 hk=>?_;exact hQ h' #[.inr #[_,_,_,c1,c5,fz,f1,f2,r9 hS],hk _ _ D.TIz D.TITO D.TIi1 D.TIi2 GN,#[_,_,c2],c3,c4] c5 c6 hk
 ·have hT:s.TypeIs (.ref z) "zip":=#[_,hz,rfl];unfold pyNext;exact wpAny_bind (wpAny_attempt (wpAny_callSpecial?_slot (name:=bI "__next__") hT V6
   (wpAny_call_entry V6 hT F.entry_zip_next
    (GL D.toZipApart hz ha GN #[o1,x1,x1'] #[o2,x2,Ug] hl1 hl2 hx hy λh' c1 c3 c4 c5 c6 hk=>wpAny_pure (hQ h' #[.inr #[_,_,_,c1,hk _ _ a1 a2 a3 ha,a1,a2,a3,a4],hk _ _ D.TIz D.TIi1 D.TIi2 GN,#[_,_,hk _ _ D.TOz D.TOi1 D.TOi2 Nc],c3,c4] c5 c6 λc o q1 Z q3 q4 e=>hk c o q1 q3 q4 e)) (F.args_zip_next_1 _))))
theorem GP (hh:A.handled=b6) (D:uN z TI TO i1 i2 l1 l2 S) (st:sQ s.heap z TI TO i1 i2 l1 l2 S k)
 (hl1:s.heap.IsList l1 xs) (hl2:s.heap.IsList l2 ys) (hend:xs[k]? =b6\/ys[k]? =b6)
 (hQ:∀h',(∀c o,c≠z->c≠TO->c≠i1->c≠i2->s.heap.get? c=some o->h'.get? c=some o)->Q b6 {s with heap:=h'}):wpAny (model prog w) A (pyNext (.ref z)) Q E s:=by
 obtain⟨xz,GN,⟨a,b,Nc⟩,x1,x2⟩:=st;rcases xz with⟨rfl,hz⟩|⟨a',f,oa,hz,ha,a1,a2,a3,a4⟩
 ·exact wpAny_pyNext_zip_end hh D.toZipApart hz GN Nc x1 x2 hl1 hl2 hend hQ
 ·have hT:s.TypeIs (.ref z) "zip":=#[_,hz,rfl];unfold pyNext;refine wpAny_bind (wpAny_attempt (wpAny_callSpecial?_slot (name:=bI "__next__") hT V6
   (wpAny_call_entry V6 hT F.entry_zip_next (LN hh D.toZipApart hz ha GN x1 x2 hl1 hl2 hend λh' e hk he=>?_) (F.args_zip_next_1 _))))
  refine bz he λo ho hc=>?_;refine wpAny_bind (wpAny_isInstance (T:="StopIteration") (b:=true) #[o,ho,hc] isSubtype_stop ?_);exact wpAny_pure (hQ _ λc o q1 Z q3 q4 e=>hk c o q1 q3 q4 e)
structure Rn(xs ys:Array Value)(lo:Addr)(h:Heap)(as:List Addr):Prop where
 above:∀a∈as,lo<a
 pairs:∀(j:Nat) (a:Addr),as[j]? =some a->∃x y,xs[j]? =some x/\ys[j]? =some y/\IsPair h a x y
end
section
variable{prog:Program}{w:World}{A:Around}{s:Shared}{R:Result->Shared->Prop}{xs ys:Array Value}
theorem GQ {z TI TO i1 i2 l1 l2 S:Addr} (hh:A.handled=b6) (D:uN z TI TO i1 i2 l1 l2 S) (hn:min xs.size ys.size<=sizeLine) (res:Value) {h₁:Heap}
 (hR:∀h' tk acc c as,(∀b o,b≠S->b≠z->b≠TO->b≠i1->b≠i2->h₁.get? b=some o->h'.get? b=some o)->h'.get? S=some {cls:=.type "list",dict:=b6,data:=.seq acc c,slots:=#[]}->as.length=min xs.size ys.size->Rn xs ys S h' as->
  acc.toList=as.map L0->R (.ok (.ret res)) {s with heap:=h',toks:=tk}):
 ∀(k i:Nat) (h:Heap) (tk c:Nat) (acc:Array Value) (as:List Addr),min xs.size ys.size - i=k->i<=min xs.size ys.size->sQ h z TI TO i1 i2 l1 l2 S i->h.IsList l1 xs->h.IsList l2 ys->(∀b o,b≠S->b≠z->b≠TO->b≠i1->b≠i2->h₁.get? b=some o->h.get? b=some o)->
  h.get? S=some {cls:=.type "list",dict:=b6,data:=.seq acc c,slots:=#[]}->acc.toList=as.map L0->as.length=i->Rn xs ys S h as->
  codeAny (model prog w) A (.builtin "list.extend.loop" #[[.ref S,.ref z,res],[]]) R {s with heap:=h,toks:=tk}:=by
 refine lY D.ne λZ d1 d2 dz Ue M_ Na Nb=>?_;refine zD D.lt λtz tTI tTO t1 t2 Uh tl2=>?_;intro k;induction k with
 |zero=>
  intro i h tk c acc as hk hi hst hl1 hl2 hkeep hS hacc hal hG;have hin:i=min xs.size ys.size:=by exact o78 hk hi
  have hend:xs[i]? =b6\/ys[i]? =b6:=by
   rcases Nat.le_total xs.size ys.size with q|q
   ·left;exact U4 (!o79 q hin)
   ·right;exact U4 (!o80 q hin)
  refine codeAny_builtin Y3 ?_;rw[Around.under_plainId J1 _];show wpAny _ A.in1 (pyNext (.ref z)>>=_) _ _ _;refine wpAny_bind (GP (s:={s with heap:=h,toks:=tk}) (A:=A.in1) hh D hst hl1 hl2 hend λh' he=>?_);refine wpAny_pure (hR h' tk acc c as (λb o h1 h2 h3 h4 h5 e=>he b o h2 h3 h4 h5 (hkeep b o h1 h2 h3 h4 h5 e)) (he S _ dz M_ Nb Na hS) (!o81 hal hin) #[hG.above,λj a hj=>?_] hacc);refine Cw (hG.pairs j a hj) λx y e1 e2 e3=>?_;have hb:=hG.above a (j8 hj);exact#[x,y,e1,e2,he a _ (r9 (I6 tz hb)) (r9 (I6 tTO hb)) (r9 (I6 t1 hb)) (r9 (I6 t2 hb)) e3]
 |succ k ih=>
  intro i h tk c acc as hk hi hst hl1 hl2 hkeep hS hacc hal hG;have hlt:i<min xs.size ys.size:=by exact o82 hk
  have hx:xs[i]? =some _:=R4 (!NG hlt);have hy:ys[i]? =some _:=R4 (!TL hlt);have hsz:acc.size=i:=by rw[<-O8,hacc,b9,hal]
  refine codeAny_builtin Y3 ?_;rw[Around.under_plainId J1 _];show wpAny _ A.in1 (pyNext (.ref z)>>=_) _ _ _;refine wpAny_bind (GO (s:={s with heap:=h,toks:=tk}) (S:=S) D hst (m7 hS) hl1 hl2 hx hy λh' afl ht hz hkp=>?_);dsimp only at ht hz hkp⊢;have hS':=hkp S _ dz M_ Nb Na hS;have up:∀b o,b≠S->h'.get? b=some o->(h'.update S (D3 (·.push (L0 h.objs.size)))).get? b=some o:=λb o hb e=>(P7 _ _ (q9 hb)).trans e;have hSl:S<h.objs.size:=m7 hS;show wpAny _ A.in1 (updateSeq S (·.push (L0 h.objs.size))>>=_) _ _ _;refine wpAny_bind ?_;refine wpAny_updateSeq hS' rfl (wpAny_pure #[plainId_quiet J1 _,ih (i+1) _ tk _ (acc.push (L0 h.objs.size)) (as++[h.objs.size]) (!o83 hk) (!o84 hlt) (afl.keep D up) ((hl1.at λo e=>hkp l1 o D.l1z D.l1TO D.l1i1 D.l1i2 e).at λo e=>up l1 o (q9 d1) e) ((hl2.at λo e=>hkp l2 o D.l2z D.l2TO D.l2i1 D.l2i2 e).at λo e=>up l2 o (q9 d2) e)
   (λb o h1 h2 h3 h4 h5 e=>up b o h1 (hkp b o h2 h3 h4 h5 (hkeep b o h1 h2 h3 h4 h5 e))) (G1 _ hS' rfl) (by rw[Array.toList_push,hacc,n6];rfl) (by rw[lG,hal];rfl) #[?_,?_]]) (by rw[hsz];exact o85 hn hlt) (by show(acc.push (L0 h.objs.size)).size<=sizeLine+1;rw[Array.size_push,hsz];exact o86 hn hlt)
  ·intro a ha;rcases s6.mp ha with ha|ha
   ·exact hG.above a ha
   ·rw[j0.mp ha];exact hSl
  ·intro j b hj;rcases Nat.lt_trichotomy j as.length with h1|h1|h1
   ·rw[F0 h1] at hj;refine Cw (hG.pairs j b hj) λx y e1 e2 e3=>?_;have hb:=hG.above b (j8 hj);exact#[x,y,e1,e2,up b _ (r9 hb) (hkp b _ (r9 (I6 tz hb)) (r9 (I6 tTO hb)) (r9 (I6 t1 hb)) (r9 (I6 t2 hb)) e3)]
   ·subst h1;have hb:h.objs.size=b:=by simpa using hj
    subst hb;exact#[_,_,by rw[hal];exact hx,by rw[hal];exact hy,up _ _ (r9 hSl) ht]
   ·have hnone:(as++[h.objs.size])[j]? =b6:=Q2 (by rw[lG,U6];exact o87 h1);rw[hnone] at hj;cases hj
end
theorem Bf:typeLookup (.type "zip") "__len__"=pure b6:=by exact rfl
theorem yw:typeLookup (.type "zip") "__length_hint__"=pure b6:=by exact rfl
section
variable{prog:Program}{w:World}{A:Around}{E:Value->Shared->Prop}{s:Shared}{xs ys:Array Value}
theorem GR(hT:s.TypeIs (.ref z) "zip")(h:Q true s):wpAny (model prog w) A (W4 (.ref z)) Q E s:=by
 unfold W4;refine wpAny_bind (wpAny_specialOf hT Bf ?_);show wpAny _ _ (specialOf (L0 z) "__length_hint__">>=_) _ _ _;refine wpAny_bind (wpAny_specialOf hT yw ?_);exact wpAny_pure h
theorem Bg {R:Result->Shared->Prop} {z TI TO i1 i2 l1 l2 S:Addr} (hh:A.handled=b6) (D:uN z TI TO i1 i2 l1 l2 S) (hst:sQ s.heap z TI TO i1 i2 l1 l2 S 0) (hz:IsZip s.heap z TI TO .none) (hl1:s.heap.IsList l1 xs) (hl2:s.heap.IsList l2 ys) (res:Value) (c₀:Nat) (hS:s.heap.get? S=some {cls:=.type "list",data:=.seq #[] c₀}) (hn:min xs.size ys.size<=sizeLine)
 (hR:∀h' tk acc c as,(∀b o,b≠S->b≠z->b≠TO->b≠i1->b≠i2->s.heap.get? b=some o->h'.get? b=some o)->h'.get? S=some {cls:=.type "list",dict:=b6,data:=.seq acc c,slots:=#[]}->as.length=min xs.size ys.size->Rn xs ys S h' as->
  acc.toList=as.map L0->R (.ok (.ret res)) {s with heap:=h',toks:=tk}):
 wpAny (model prog w) A.in1 (K9 (.ref S) (.ref z) res)
  (λfin s'=>match fin with| .done f=>R (.ok f) s'| .again c'=>c'.quiet=true/\codeAny (model prog w) A c' R s') (λe s'=>R (.error e) s') s:=by
 refine lY D.ne λZ d1 d2 dz Ue M_ Na Nb=>?_;have hT:s.TypeIs (.ref z) "zip":=#[_,hz,rfl];unfold K9;refine wpAny_bind (wpAny_typeOf (T:="zip") hT ?_);have h1:Z5 (.ref S) (.ref z)=false:=by simp[Z5,dz]
 have h2:(T3 "zip"==T3 "list")=false:=by decide
 have h3:(T3 "zip"==T3 "tuple")=false:=by decide
 simp only[h1,h2,h3,Bool.or_false,C1,if_false];refine wpAny_bind (wpAny_pyIter_zip hz ?_);refine wpAny_bind (wpAny_holding (GR hT ?_));have key:∀(h:Heap) (c₁ tk:Nat),(∀b o,b≠S->s.heap.get? b=some o->h.get? b=some o)->h.get? S=some {cls:=.type "list",data:=.seq #[] c₁}->codeAny (model prog w) A (.builtin "list.extend.loop" #[[.ref S,.ref z,res],[]]) R {s with heap:=h,toks:=tk}:=λh c₁ tk hk Ro=>
  GQ (s:=s) (h₁:=s.heap) hh D hn res hR _ 0 h tk c₁ #[] [] rfl (s8 _) (hst.keep D hk) (hl1.at λo e=>hk l1 o (q9 d1) e) (hl2.at λo e=>hk l2 o (q9 d2) e) (λb o q Z Z Z Z e=>hk b o q e) Ro rfl rfl #[(λZ ha=>nomatch ha),(λj a hj=>by simp at hj)]
 refine wpAny_ite_split (λZ=>?_) (λZ=>wpAny_pure #[plainId_quiet J1 _,key _ c₀ _ (λb o Z e=>e) hS]);refine wpAny_bind (wpAny_rule ?_);refine wpAny_bind ?_;show wpAny _ _ (updateSeq S (·.push .none)>>=λZ=>updateSeq S (·.pop)) _ _ _;refine wpAny_bind (wpAny_updateSeq hS rfl ?_);have zZ:=G1 (D3 (·.push Q7)) hS rfl;refine wpAny_updateSeq (hz:=by seq_fits) zZ rfl ?_;have Rp:=G1 (D3 (·.pop)) zZ rfl;refine wpAny_pure #[plainId_quiet J1 _,key _ _ _ (λb o hb e=>?_) Rp];exact(P7 _ _ (q9 hb)).trans ((P7 _ _ (q9 hb)).trans e)
end
section
variable{prog:Program}{w:World}{A:Around}{E:Value->Shared->Prop}{s:Shared}{xs ys:Array Value}
theorem GS {R:Result->Shared->Prop} {z TI TO i1 i2 l1 l2 S:Addr} (hh:A.handled=b6) (D:uN z TI TO i1 i2 l1 l2 S) (hst:sQ s.heap z TI TO i1 i2 l1 l2 S 0) (hz:IsZip s.heap z TI TO .none) (hl1:s.heap.IsList l1 xs) (hl2:s.heap.IsList l2 ys) (hS:s.heap.get? S=some {cls:=.type "list",data:=.seq #[]}) (hn:min xs.size ys.size<=sizeLine)
 (hR:∀h' tk acc c as,(∀b o,b≠S->b≠z->b≠TO->b≠i1->b≠i2->s.heap.get? b=some o->h'.get? b=some o)->h'.get? S=some {cls:=.type "list",dict:=b6,data:=.seq acc c,slots:=#[]}->as.length=min xs.size ys.size->Rn xs ys S h' as->
  acc.toList=as.map L0->R (.ok (.ret .none)) {s with heap:=h',toks:=tk}):
 wpAny (model prog w) A.in1 (Builtin.«list.__init__» #[[.ref S,.ref z],[]])
  (λfin s'=>match fin with| .done f=>R (.ok f) s'| .again c'=>c'.quiet=true/\codeAny (model prog w) A c' R s') (λe s'=>R (.error e) s') s:=by
 refine lY D.ne λZ d1 d2 dz Ue M_ Na Nb=>?_;show wpAny _ _ (do let old<-Builtin.List.listItems (.ref S);Builtin.List.listUpdate (.ref S) (λZ=>#[]);letGo old.toList.reverse;K9 (.ref S) (.ref z) .none) _ _ s;refine wpAny_bind ?_;unfold Builtin.List.listItems;refine wpAny_bind (wpAny_seqItems hS rfl (wpAny_pure ?_));show wpAny _ _ (updateSeq S (λZ=>#[])>>=λZ=>letGo (#[]:Array Value).toList.reverse>>=λZ=>K9 (.ref S) (.ref z) .none) _ _ s;refine wpAny_bind (wpAny_updateSeq hS rfl ?_);have zZ:=G1 (D3 (λZ=>(#[]:Array Value))) hS rfl;have LO:∀b o,b≠S->s.heap.get? b=some o->(s.heap.update S (D3 (λZ=>(#[]:Array Value)))).get? b=some o:=
  λb o hb e=>(P7 _ _ (q9 hb)).trans e
 refine wpAny_bind (wpAny_letGo ?_);refine Bg (xs:=xs) (ys:=ys) hh D (hst.keep D LO) (LO _ _ (q9 dz) hz) (hl1.at λo e=>LO l1 o (q9 d1) e) (hl2.at λo e=>LO l2 o (q9 d2) e) .none _ zZ hn λh' tk acc c as hk hS' hl hG hacc=>?_;exact hR h' tk acc c as (λb o q1 q2 q3 q4 q5 e=>hk b o q1 q2 q3 q4 q5 (LO b o q1 e)) hS' hl hG hacc
theorem GU (hh:A.handled=b6) (D:ZipApart z TI TO i1 i2 l1 l2) (hz:IsZip s.heap z TI TO .none) (hTI:IsPair s.heap TI (.ref i1) (.ref i2)) (hTO:IsPair s.heap TO a b)
 (h1:s.heap.IsListIter i1 l1 0) (h2:s.heap.IsListIter i2 l2 0) (hl1:s.heap.IsList l1 xs) (hl2:s.heap.IsList l2 ys) (q1:l1<s.heap.objs.size) (q2:l2<s.heap.objs.size) (hn:min xs.size ys.size<=sizeLine)
 (hQ:∀h' tk acc c as,(∀b o,b≠z->b≠TO->b≠i1->b≠i2->s.heap.get? b=some o->h'.get? b=some o)->h'.get? s.heap.objs.size=some {cls:=.type "list",dict:=b6,data:=.seq acc c,slots:=#[]}->as.length=min xs.size ys.size->Rn xs ys s.heap.objs.size h' as->
  acc.toList=as.map L0->Q (.ref s.heap.objs.size) {s with heap:=h',toks:=tk}):
 wpAny (model prog w) A (call (.type "list") [.ref z]) Q E s:=by
 refine callType_codes (Q₁:=λobj s₁=>obj=.ref s.heap.objs.size/\s₁={s with heap:=s.heap.push {cls:=.type "list",data:=.seq #[]}}) PySem.F.called_list (PySem.F.typeCall_list_1 _) PySem.F.entry_list_init
  (code_list_new _ #[rfl,rfl]) λobj s₁ h₁=>?_
 obtain⟨rfl,rfl⟩:=h₁;have hS:(s.heap.push {cls:=.type "list",data:=.seq #[]}).get? s.heap.objs.size=some {cls:=.type "list",data:=.seq #[]}:=s9 _ rfl;have up:∀{b o},s.heap.get? b=some o->(s.heap.push {cls:=.type "list",data:=.seq #[]}).get? b=some o:=λe=>j6 _ e;refine bz (id h1) λo1 x1 x1'=>?_;refine bz (id h2) λo2 x2 Ug=>?_;have D':uN z TI TO i1 i2 l1 l2 s.heap.objs.size:=#[D,m7 hz,m7 hTI,m7 hTO,m7 x1,m7 x2,q1,q2];refine#[#[_,hS,rfl],PySem.F.args_list_init_2 _ _,GS (xs:=xs) (ys:=ys) (A:=A.in1) hh D' #[.inl #[rfl,up hz],up hTI,#[_,_,up hTO],h1.at λo e=>up e,h2.at λo e=>up e] (up hz) (hl1.at λo e=>up e) (hl2.at λo e=>up e) hS hn λh' tk acc c as hk hS' hl hG hacc=>?_];exact#[rfl,hQ h' tk acc c as (λb o e1 e2 e3 e4 e=>hk b o (C7 (m7 e)) e1 e2 e3 e4 (up e)) hS' hl hG hacc]
end
section
variable{C:Cx}{n:Nat}{F:Fm}{ρ:Loc}{H:AH}
theorem GV:∀{vs:List AV},Vs.length=vs.length->(∀(j:Nat) V v,Vs[j]? =some V->vs[j]? =some v->bF h V v)->aM h Vs vs:=by
 induction Vs with
 |nil=>exact λ{vs} l k=>V3 l.symm▸.nil
 |cons V Vs ih=>exact λ{vs}=>vs.casesOn (λl Z=>nomatch l) λv vs l k=>.cons (k 0 V v rfl rfl) (ih (Nat.succ.inj l) λj V v e1 e2=>k (j+1) V v e1 e2)
inductive afm(l1:Addr)(vs1:List AV)(Q:AV->AH->Prop)(u:AV)(H₂:AH):Prop
 |mk (l2:Addr) (vs2:List AV) (e:u=.ref l2) (h1:H₂ l1=some (.list vs1)) (h2:H₂ l2=some (.list vs2)) (q:∀D,H₂ D=b6->Q (.ref D) (H₂.set D (.list (I1 (λa b=>AV.tup [a,b]) vs1 vs2))))
inductive Rq(C:Cx)(n:Nat)(F:Fm)(e2:Expr)(ρ:Loc)(Q:AV->AH->Prop)(v:AV)(H₁:AH):Prop
 |mk (l1:Addr) (vs1:List AV) (e:v=.ref l1) (hl:vs1.length<=1000000) (q:Ev C n F e2 ρ H₁ (afm l1 vs1 Q)):Rq C n F e2 ρ Q v H₁
theorem Ev.GW (hl:ρ.get ("list":Str)=some .glob) (gl:Gb C ("list":Str) (.type "list")) (hz:ρ.get ("zip":Str)=some .glob) (gz:Gb C ("zip":Str) (.type "zip"))
 (h:Ev C n F a ρ H (Rq C n F b ρ Q)) (he:autoParam (starEach [a,b] F.env=[(false,eval a F.env),(false,eval b F.env)]) A1)
 (tU:autoParam (starEach [.Call (.Name ("zip":Str) np2) [a,b] [] cp] F.env=[(false,eval (.Call (.Name ("zip":Str) np2) [a,b] [] cp) F.env)]) A1):
 Ev C n F (.Call (.Name ("list":Str) np1) [.Call (.Name ("zip":Str) np2) [a,b] [] cp] [] pos) ρ H Q:=λA g s ao G=>by
 refine wpAny_Call_ofName (iN G hl gl ?_);show Wp C A (callWith pos _ [] (backTo pos (starEach [.Call (.Name ("zip":Str) np2) [a,b] [] cp] F.env)) []) _ s;rw[tU];refine O7 rfl (O1 (J6 ?_));refine wpAny_Call_ofName (iN G hz gz ?_);show Wp C A (callWith cp _ [] (backTo cp (starEach [a,b] F.env)) []) _ s;rw[he];refine O7 rfl (O1 (J6 (fH (h A g s ao G) λV1 s₁ v1 H₁ z r1 G₁=>z.casesOn λl1 vs1 q1 hn q=>J6 ?_)));rw[q1] at r1;refine r1.bR ?_;refine fH (q A g s₁ ao G₁) λV2 s₂ v2 H₂ z r2 aR=>z.casesOn λl2 vs2 q1 a1 a2 hQ=>Q4 ?_;rw[q1] at r2;refine r2.bR ?_;obtain⟨Ua,m1,o1,MX⟩:=aR.rel _ _ a1;obtain⟨Ub,m2,o2,MY⟩:=aR.rel _ _ a2;refine call_zip_2 (aH o1) (aH o2) λh' z1 z2 z3 z4 z5 z6 k=>?_;refine Q4 ?_;have D:ZipApart (s₂.heap.objs.size+4) (s₂.heap.objs.size+2) (s₂.heap.objs.size+3) s₂.heap.objs.size (s₂.heap.objs.size+1) l1 l2:=Dq (m7 o1) (m7 o2);have ol1:=k _ _ o1;have ol2:=k _ _ o2;have L1:=MX.length;have L2:=MY.length;refine GU (s:={s₂ with heap:=h'}) (xs:=Ua.toArray) (ys:=Ub.toArray) ao.handled D z1 z2 z3 z4 z5 (aH ol1) (aH ol2) (m7 ol1) (m7 ol2) (by simp only[n7,sizeLine_eq];exact o88 L1 hn) λh'' tk acc c as hk hS hal hG hacc=>?_;have lt:∀{b o},s₂.heap.get? b=some o->b<s₂.heap.objs.size:=λe=>m7 e;have up:∀b o,s₂.heap.get? b=some o->h''.get? b=some o:=λb o e=>by
  have l:=lt e;refine hk b o ?_ ?_ ?_ ?_ (k _ _ e)
  ·exact C7 (u7 l (C2 _ _))
  ·exact C7 (u7 l (C2 _ _))
  ·exact C7 l
  ·exact C7 (u7 l (C2 _ _))
 have fresh:s₂.heap.get? h'.objs.size=b6:=by
  cases e:s₂.heap.get? h'.objs.size with
  |none=>rfl
  |some o=>have:=m7 e;rw[z6] at this;exact absurd this (I4.mpr (C2 _ _))
 have kt:∀b (ys:Array Value) j,s₂.heap.get? b=some #[.type "tuple",b6,.seq ys j,#[]]->h''.get? b=some #[.type "tuple",b6,.seq ys j,#[]]:=λb ys j e=>up _ _ e;have aL:aM h'' (as.map L0) (I1 (λa b=>AV.tup [a,b]) vs1 vs2):=by
  refine GV (by rw[b9,hal,V8,n7,n7,L1,L2]) λj V v e1 e2=>?_;rw[j9] at e1;obtain⟨ad,ea,rfl⟩:=l8.mp e1;refine Cw (hG.pairs j ad ea) λx y p1 p2 p3=>?_;have hj:j<(I1 (λa b=>AV.tup [a,b]) vs1 vs2).length:=(c9.mp e2).1;rw[V8] at hj;have g1:vs1[j]? =some _:=b8 (!NG hj);have g2:vs2[j]? =some _:=b8 (!TL hj);rw[Q0,g1,g2] at e2;cases e2;refine bz (MX.get g1) λV1 hV1 aV1=>?_;refine bz (MY.get g2) λV2 hV2 aV2=>?_;have q1:x=V1:=by simp at p1;rw[hV1] at p1;exact(m9 p1).symm
  have q2:y=V2:=by simp at p2;rw[hV2] at p2;exact(m9 p2).symm
  subst q1;subst q2;exact .tup p3 (.cons (aV1.mono kt) (.cons (aV2.mono kt) .nil))
 refine xA (aR.tocJ.CX (s':={s₂ with heap:=h'',toks:=tk}) (xs:=as.map L0) (m:=c) up fresh (r9 (u7 C.lo (g9 aR.size (by rw[z6];exact C2 _ _)))) (by rw[<-hacc,Array.toArray_toList];exact hS) aL) λG' n0=>?_;have gj:=aR.up (s':={s₂ with heap:=h'',toks:=tk}) up;refine#[_,_,hQ _ n0,.ref _,{tocJ:=G',fm:=aR.fm,loc:=gj.loc,dh:=aR.dh,cO:=λb hb ft=>?_}];have nb:b≠h'.objs.size:=λe=>by refine xE (aR.mz hb) λo q=>?_;rw[e,fresh] at q;cases q
 rcases ft with⟨o,e⟩|⟨a',D',fs,e⟩
 ·rw[AH.lD _ _ nb] at e;exact aR.cO b hb (.inl #[o,e])
 ·by_cases q:a'=h'.objs.size
  ·rw[q,AH.aq] at e;cases e
  ·rw[AH.lD _ _ q] at e;exact aR.cO b hb (.inr #[a',D',fs,e])
end
end
section
section
variable{C:Cx}{n:Nat}{F:Fm}{ρ:Loc}{H:AH}
def qQ(C:Cx)(n:Nat)(F:Fm)(names:List (Str×NameKind))(elt:Expr)(ifs:List Expr)(r:LV->LV->Loc)(vs:List (AV×AV))(P:Nat->List AV->AH->Prop):Prop:=
 ∀F',CF F names F'->∀k v w ys H',vs[k]? =some (v,w)->P k ys H'->kC C n F' ifs (r (.val v) (.val w)) H' (QX C n F' elt (r (.val v) (.val w)) P k ys)
theorem qQ.comp {names:List (Str×NameKind)} {x y:Str} {px py tp:Pos} {k0:Nat} {elt:Expr} {ifs:List Expr} {r:LV->LV->Loc} {vs:List (AV×AV)} {P:Nat->List AV->AH->Prop} (sx:∀u w z,(r u w).set x z=r z w) (sy:∀u w z,(r u w).set y z=r u z) (gx:∀u w,(r u w).get x=some u) (gy:∀u w,(r u w).get y=some w)
 (hx:names.lookup x=some .local\/names.lookup x=some .cell) (hy:names.lookup y=some .local\/names.lookup y=some .cell)
 (t:qQ C n F names elt ifs r vs P):jz C n F names (.Tuple [.Name x px,.Name y py] k0 tp) elt ifs (vs.map λp=>AV.tup [p.1,p.2]) λk ys ρ' H'=>(∃u w,LV.ok u/\LV.ok w/\ρ'=r u w)/\P k ys H':=by
 rintro F' cf k v ys ρ' H' hv ⟨⟨u,w,hu,hw,rfl⟩,hp⟩;rw[j9] at hv;obtain⟨⟨a,b⟩,hab,rfl⟩:=l8.mp hv;refine b_.tup rfl rfl ?_;refine e_.cons (b_.name (gx u w) (by cases u<;>exact hu) (cf.may hx) ?_);refine e_.cD (sx _ _ _) ?_;refine e_.cons (b_.name (gy _ w) (by cases w<;>exact hw) (cf.may hy) ?_);refine e_.cD (sy _ _ _) ?_;refine e_.nil ?_;intro A g s ao G;refine Fg (t F' cf k a b ys H' hab hp A g s ao G) λc s' H₂ q G'=>#[H₂,?_,G'];cases c with
 |true=>exact Ev.mono q λy cF p=>#[#[.val a,.val b,c7,c7,rfl],p]
 |false=>exact#[#[.val a,.val b,c7,c7,rfl],q]
end
end
section
set_option maxHeartbeats 0
noncomputable def Dw(P:Params)(x:Str):Option Value:=match(KK P).lookup 3 with
 |some #[_,_,.dict es _,_]=>(es.toList.find? (·.key.isStr x)).map (·.val)
 |_=>b6
structure CC(C:Cx):Prop where
 K:C.K=KK C.w.params
 gl:∀x,C.mg x=Dw C.w.params x
theorem CC.look{C:Cx}(cc:CC C){f:Addr}{r:Option Obj}(h:(KK C.w.params).lookup f=r):C.K.lookup f=r:=by rw[cc.K];exact h
theorem CC.code{C:Cx}(cc:CC C){v:Value}{q:Str}(h:codeIn (KK C.w.params) v q=true):codeIn C.K v q=true:=by rw[cc.K];exact h
noncomputable def fD(P:Params)(f:Addr):FuncData:=match(KK P).lookup f with
 |some #[_,_,.func d,_]=>d
 |_=>default
noncomputable def p_(s:Stmt):List (Str×NameKind):=(fS s).names
noncomputable def wD(s:Stmt):List Str:=(fP s).args.map (·.arg)
noncomputable def z_(s:Stmt)(ar ds:Nat):Bool:=decide ((wD s).length=ar+ds)&&decide (wD s).Nodup&&((wD s).all λx=>(p_ s).lookup x==some .local||(p_ s).lookup x==some .cell)&&decide ((cellsFrom 0 (p_ s) []).map (·.1)).Nodup&&((p_ s).all λp=>p.2==.local||p.2==.cell||p.2==.globalImplicit)
noncomputable def Nd(P:Params)(f:Addr)(s:Stmt):FuncData:=fnOf (fD P f).name (fD P f).qualname (fP s) (fB s) (fS s) (fD P f).defaults (fD P f).kwdefaults (fD P f).doc (fD P f).pyModule b6 (fD P f).code (fD P f).closureTuple
theorem Rr {C:Cx} (cc:CC C) {f:Addr} {s:Stmt} {ar:Nat} {ds:List AV} (k1:(KK C.w.params).lookup f=some #[.type "function",b6,.func (Nd C.w.params f s),#[]]) (k2:codeIn (KK C.w.params) (fD C.w.params f).code (fD C.w.params f).qualname=true)
 (b:∀(sh:Shared) (Vs:List Value),C.K.In sh.heap->Vs.length=ar->∃Ds,aM C.hb Ds ds/\BindsTo sh (Nd C.w.params f s) #[Vs,[]] ((wD s).zip (Vs++Ds)))
 (r:((fS s).isCoroutine,(fS s).isGenerator,(fS s).kind)=(false,false,.function)) (k:z_ s ar ds.length=true):mq C f (wD s) (p_ s) (fB s) ar ds:=by
 unfold z_ at k;simp only[D0,decide_eq_true_eq] at k;obtain⟨⟨⟨⟨h1,h2⟩,h3⟩,h4⟩,h5⟩:=k;simp only[Prod.mk.injEq] at r;exact#[#[_,_,_,_,_,_,_,_,_,_,_,_,_,cc.look k1,cc.code k2,b,rfl,r.1,r.2.1,r.2.2],h1,h2,h3,h4,h5]
noncomputable def yx(Vs:List Value)(n:Nat):List Value:=(C4 n).map λi=>Vs.getD i .none
theorem qb{Vs:List Value}{n:Nat}(h:Vs.length=n):yx Vs n=Vs:=by
 subst h;exact List.ext_getElem (by simp[yx]) λi h1 h2=>by simp[yx,b8 h2]
noncomputable def fkL(P:Params)(f:Addr)(s:Stmt)(ar n:Nat):=((KK P).lookup f,codeIn (KK P) (fD P f).code (fD P f).qualname,((fS s).isCoroutine,(fS s).isGenerator,(fS s).kind),z_ s ar n,λVs=>bindArgs (Nd P f s) #[yx Vs ar,[]])
noncomputable def fkR(P:Params)(f:Addr)(s:Stmt)(k:List Value->Sem (List (Str×Value))):Option Obj×Bool×(Bool×Bool×ScopeKind)×Bool×(List Value->Sem (List (Str×Value))):=(some #[.type "function",b6,.func (Nd P f s),#[]],true,(false,false,.function),true,k)
theorem aO{C:Cx}(cc:CC C){f:Addr}{s:Stmt}{ar:Nat}(e:fkL C.w.params f s ar 0=fkR C.w.params f s λVs=>pure ((wD s).zip (yx Vs ar))):mq C f (wD s) (p_ s) (fB s) ar []:=
 Rr cc (congrArg (·.1) e) (congrArg (·.2.1) e) (λsh Vs X l=>#[[],.nil,BindsTo.of_eq (by rw[v7,<-qb l];rewrite [qb l];exact qb l▸congrFun (congrArg (·.2.2.2.2) e) Vs)]) (congrArg (·.2.2.1) e) (congrArg (·.2.2.2.1) e)
noncomputable def bKs(fd:FuncData)(Vs:List Value):{k:Option (Array Value)->Sem (List (Str×Value)) // bindArgs fd #[Vs,[]]=seqItems? fd.defaults>>=k}:=#[_,rfl]
noncomputable def fkD(P:Params)(f:Addr)(s:Stmt)(ar n:Nat)(T:Addr)(items:List Value):=((KK P).lookup f,codeIn (KK P) (fD P f).code (fD P f).qualname,((fS s).isCoroutine,(fS s).isGenerator,(fS s).kind),z_ s ar n,(fD P f).defaults,(KK P).lookup T,λVs=>(bKs (Nd P f s) (yx Vs ar)).1 (some items.toArray))
noncomputable def fkE(P:Params)(f:Addr)(s:Stmt)(T:Addr)(items:List Value)(k:List Value->Sem (List (Str×Value))):Option Obj×Bool×(Bool×Bool×ScopeKind)×Bool×Value×Option Obj×(List Value->Sem (List (Str×Value))):=(some #[.type "function",b6,.func (Nd P f s),#[]],true,(false,false,.function),true,.ref T,some #[.type "tuple",b6,.seq items.toArray 0,#[]],k)
theorem lq{C:Cx}(cc:CC C){f:Addr}{s:Stmt}{ar:Nat}(T:Addr){items Ds:List Value}{ds:List AV}(hD:aM C.hb Ds ds)(e:fkD C.w.params f s ar ds.length T items=fkE C.w.params f s T items λVs=>pure ((wD s).zip (yx Vs ar++Ds))):mq C f (wD s) (p_ s) (fB s) ar ds:=
 Rr cc (congrArg (·.1) e) (congrArg (·.2.1) e) (λsh Vs X l=>#[Ds,hD,BindsTo.of_defaults (congrArg (·.2.2.2.2.1) e) (X _ _ (cc.look (congrArg (·.2.2.2.2.2.1) e))) rfl (bKs _ _).2 (qb l▸congrFun (congrArg (·.2.2.2.2.2.2) e) Vs)]) (congrArg (·.2.2.1) e) (congrArg (·.2.2.2.1) e)
def En(C:Cx)(n:Nat)(H:AH)(Q:AV->AH->Prop)(s:Stmt)(ρ:Loc):Prop:=∀F:Fm,F.fn=true->F.env.scope.names=p_ s->F.env.scope.kind=.function->aG C n F (fB s) ρ H λo Z H'=>Q (eL o) H'
theorem enter{C:Cx}{n:Nat}{H:AH}{Q:AV->AH->Prop}{f:Addr}{s:Stmt}{ds vs:List AV}{ρ:Loc}(ok:mq C f (wD s) (p_ s) (fB s) vs.length ds)(e:dF (p_ s) ((wD s).zip (vs++ds))=ρ)(h:En C n H Q s ρ):aj C (n+1) (.ref f) vs H Q:=
 CH ok λF f1 f2 f3=>e▸h F f1 f2 f3
section
variable{C:Cx}{n:Nat}{H:AH}{Q:AV->AH->Prop}(cc:CC C){v0 v1 v2 v3 v4 v5 v6:AV}
include cc
theorem nP:mq C 124 (wD (mS 15 0)) (p_ (mS 15 0)) (fB (mS 15 0)) 2 [.int 0]:=lq cc 117 (items:=[(.int 0 370)]) (Ds:=[(.int 0 370)]) (.cons (.int _ _) .nil) `k
theorem mH(h:En C n H Q (mS 15 1) [("self",.val v0),("len",.glob)]):aj C (n+1) (.ref 131) [v0] H Q:=enter (aO cc `k) `k h
theorem nQ(h:En C n H Q (mS 15 2) [("self",.val v0),("ahead",.val (.int 0)),("at",.undef),("len",.glob)]):aj C (n+1) (.ref 139) [v0] H Q:=enter (lq cc 132 (items:=[(.int 0 387)]) (Ds:=[(.int 0 387)]) (.cons (.int _ _) .nil) `k) `k h
theorem nR(h:En C n H Q (mS 15 2) [("self",.val v0),("ahead",.val v1),("at",.undef),("len",.glob)]):aj C (n+1) (.ref 139) [v0,v1] H Q:=enter (lq cc 132 (items:=[(.int 0 387)]) .nil `k) `k h
theorem nT(h:En C n H Q (mS 15 3) [("self",.val v0),("word",.val v1),("len",.glob)]):aj C (n+1) (.ref 146) [v0,v1] H Q:=enter (aO cc `k) `k h
theorem qT(h:En C n H Q (mS 15 4) [("self",.val v0),("sign",.undef)]):aj C (n+1) (.ref 153) [v0] H Q:=enter (aO cc `k) `k h
theorem jC(h:En C n H Q (mS 15 5) [("self",.val v0),("word",.val v1),("len",.glob)]):aj C (n+1) (.ref 160) [v0,v1] H Q:=enter (aO cc `k) `k h
theorem jD(h:En C n H Q (mS 15 6) [("self",.val v0),("signs",.val v1),("begun",.undef),("len",.glob)]):aj C (n+1) (.ref 167) [v0,v1] H Q:=enter (aO cc `k) `k h
theorem iw(h:En C n H Q (mS 15 14) [("self",.val v0),("sign",.undef),("PLAIN_ESCAPES",.glob),("chr",.glob),("OCTAL_SIGNS",.glob),("HEX_SIGNS",.glob)]):aj C (n+1) (.ref 224) [v0] H Q:=enter (aO cc `k) `k h
theorem nU(h:En C n H Q (mS 15 15) [("self",.val v0),("end",.val v1),("signs",.undef),("sign",.undef)]):aj C (n+1) (.ref 231) [v0,v1] H Q:=enter (aO cc `k) `k h
theorem pK(h:En C n H Q (tS 17) [("sign",.val v0),("marks",.val v1),("code",.undef),("ord",.glob),("hex_escape",.glob)]):aj C (n+1) (.ref 252) [v0,v1] H Q:=enter (aO cc `k) `k h
theorem yy(h:En C n H Q (tS 18) [("text",.val v0),("end",.val v1)]):aj C (n+1) (.ref 257) [v0,v1] H Q:=enter (aO cc `k) `k h
theorem GX(h:En C n H Q (tS 19) [("mask",.val v0),("found",.undef),("at",.undef),("left",.undef)]):aj C (n+1) (.ref 264) [v0] H Q:=enter (aO cc `k) `k h
theorem qU(h:En C n H Q (mS 24 0) [("self",.val v0),("names",.val v1),("terminal_count",.val v2),("lefts",.val v3),("lengths",.val v4),("befores",.val v5),("number",.undef),("range",.glob)]):aj C (n+1) (.ref 278) [v0,v1,v2,v3,v4,v5] H Q:=enter (aO cc `k) `k h
theorem mJ(h:En C n H Q (mS 24 7) [("self",.val v0),("state",.val v1)]):aj C (n+1) (.ref 327) [v0,v1] H Q:=enter (aO cc `k) `k h
theorem yz(h:En C n H Q (tS 26) [("row",.val v0),("tuple",.glob),("sorted",.glob)]):aj C (n+1) (.ref 367) [v0] H Q:=enter (aO cc `k) `k h
theorem uO(h:En C n H Q (tS 27) [("rows",.val v0),("firsts",.undef),("owners",.undef),("number",.undef),("key",.undef),("range",.glob),("len",.glob),("row_key",.glob)]):aj C (n+1) (.ref 374) [v0] H Q:=enter (aO cc `k) `k h
theorem nW(h:En C n H Q (tS 28) [("rows",.val v0),("owners",.val v1),("keyed",.undef),("number",.undef),("range",.glob),("len",.glob),("sorted",.glob)]):aj C (n+1) (.ref 379) [v0,v1] H Q:=enter (aO cc `k) `k h
theorem uP:mq C 393 (wD (mS 29 0)) (p_ (mS 29 0)) (fB (mS 29 0)) 1 []:=aO cc `k
theorem pL(h:En C n H Q (mS 29 1) [("self",.val v0),("cell",.val v1),("len",.glob)]):aj C (n+1) (.ref 400) [v0,v1] H Q:=enter (aO cc `k) `k h
theorem uQ(h:En C n H Q (mS 29 2) [("self",.val v0),("base",.val v1),("columns",.val v2),("column",.undef)]):aj C (n+1) (.ref 407) [v0,v1,v2] H Q:=enter (aO cc `k) `k h
theorem mK(h:En C n H Q (mS 29 3) [("self",.val v0),("columns",.val v1),("base",.undef)]):aj C (n+1) (.ref 414) [v0,v1] H Q:=enter (aO cc `k) `k h
theorem uR(h:En C n H Q (mS 29 4) [("self",.val v0),("many",.val v1),("len",.glob)]):aj C (n+1) (.ref 421) [v0,v1] H Q:=enter (aO cc `k) `k h
theorem wF(h:En C n H Q (mS 29 5) [("self",.val v0),("owner",.val v1),("row",.val v2),("columns",.undef),("base",.undef),("column",.undef),("sorted",.glob)]):aj C (n+1) (.ref 428) [v0,v1,v2] H Q:=enter (aO cc `k) `k h
theorem uS(h:En C n H Q (tS 30) [("rows",.val v0),("owners",.undef),("comb",.undef),("bases",.undef),("number",.undef),("owners_of",.glob),("Comb",.glob),("packing_order",.glob)]):aj C (n+1) (.ref 440) [v0] H Q:=enter (aO cc `k) `k h
theorem yC(h:En C n H Q (tS 31) [("bases",.val v0),("table",.val v1),("check",.val v2),("owner",.val v3),("row",.val v4),("column",.val v5),("cell",.undef),("len",.glob)]):aj C (n+1) (.ref 447) [v0,v1,v2,v3,v4,v5] H Q:=enter (aO cc `k) `k h
theorem lH:mq C 461 (wD (mS 32 0)) (p_ (mS 32 0)) (fB (mS 32 0)) 5 []:=aO cc `k
theorem mO(h:En C n H Q (mS 32 1) [("self",.val v0),("row",.val v1),("column",.val v2),("look_up",.glob)]):aj C (n+1) (.ref 468) [v0,v1,v2] H Q:=enter (aO cc `k) `k h
theorem iR(h:En C n H Q (mS 32 2) [("self",.val v0),("owner",.undef),("held",.undef),("cell",.undef),("range",.glob),("len",.glob)]):aj C (n+1) (.ref 473) [v0] H Q:=enter (aO cc `k) `k h
theorem gu(h:En C n H Q (mS 32 5) [("self",.val v0),("many",.val v1),("row",.undef),("owner",.undef),("len",.glob),("range",.glob)]):aj C (n+1) (.ref 494) [v0,v1] H Q:=enter (aO cc `k) `k h
theorem fU(h:En C n H Q (mS 32 6) [("self",.val v0),("columns",.val v1),("cell",.undef),("owner",.undef),("len",.glob),("range",.glob)]):aj C (n+1) (.ref 501) [v0,v1] H Q:=enter (aO cc `k) `k h
theorem lI(h:En C n H Q (mS 32 7) [("self",.val v0),("many",.val v1),("columns",.val v2),("found",.undef),("rows",.undef),("row",.undef),("range",.glob)]):aj C (n+1) (.ref 508) [v0,v1,v2] H Q:=enter (aO cc `k) `k h
theorem qX(h:En C n H Q (tS 33) [("rows",.val v0),("bases",.undef),("table",.undef),("check",.undef),("pack_rows",.glob),("PackedRows",.glob),("owners_of",.glob)]):aj C (n+1) (.ref 522) [v0] H Q:=enter (aO cc `k) `k h
theorem jE:mq C 536 (wD (mS 34 0)) (p_ (mS 34 0)) (fB (mS 34 0)) 7 []:=aO cc `k
theorem fV(h:En C n H Q (mS 34 1) [("self",.val v0),("len",.glob)]):aj C (n+1) (.ref 543) [v0] H Q:=enter (aO cc `k) `k h
theorem h_(h:En C n H Q (mS 34 2) [("self",.val v0),("state",.val v1),("terminal",.val v2),("found",.undef)]):aj C (n+1) (.ref 550) [v0,v1,v2] H Q:=enter (aO cc `k) `k h
theorem jF(h:En C n H Q (mS 34 3) [("self",.val v0),("state",.val v1),("nonterminal",.val v2),("row",.undef),("found",.undef),("len",.glob)]):aj C (n+1) (.ref 557) [v0,v1,v2] H Q:=enter (aO cc `k) `k h
theorem pM(h:En C n H Q (tS 41) [("code",.val v0),("at",.val v1),("op",.undef),("worth",.undef),("LEAVING",.glob),("JUMPS",.glob)]):aj C (n+1) (.ref 581) [v0,v1] H Q:=enter (aO cc `k) `k h
theorem nX(h:En C n H Q (tS 42) [("op",.val v0),("worth",.val v1),("FUNCTIONS",.glob)]):aj C (n+1) (.ref 588) [v0,v1] H Q:=enter (aO cc `k) `k h
theorem cA(h:En C n H Q (tS 43) [("op",.val v0),("worth",.val v1),("length",.val v2),("JUMPS",.glob),("isinstance",.glob),("int",.glob),("str",.glob),("LEVELS",.glob),("FUNCTIONS",.glob),("WORDS",.glob)]):aj C (n+1) (.ref 595) [v0,v1,v2] H Q:=enter (aO cc `k) `k h
theorem sR(h:En C n H Q (tS 44) [("code",.val v0),("at",.undef),("pair",.undef),("depths",.undef),("waiting",.undef),("depth",.undef),("taken",.undef),("put",.undef),("enumerate",.glob),("is_pair",.glob),("len",.glob),("ActionError",.glob),("str",.glob),("range",.glob),("taken_and_put",.glob),("goals_behind",.glob)]):aj C (n+1) (.ref 600) [v0] H Q:=enter (aO cc `k) `k h
theorem iS(h:En C n H Q (tS 48) [("value",.val v0),("isinstance",.glob),("str",.glob),("escaped",.glob),("tuple",.glob),("list",.glob)]):aj C (n+1) (.ref 605) [v0] H Q:=enter (aO cc `k) `k h
theorem lJ:mq C 619 (wD (mS 49 0)) (p_ (mS 49 0)) (fB (mS 49 0)) 2 []:=aO cc `k
theorem mQ(h:En C n H Q (mS 49 1) [("self",.val v0),("word",.val v1),("items",.val v2),("str",.glob),("len",.glob)]):aj C (n+1) (.ref 624) [v0,v1,v2] H Q:=enter (aO cc `k) `k h
theorem lK(h:En C n H Q (mS 49 2) [("self",.val v0),("str",.glob),("len",.glob)]):aj C (n+1) (.ref 631) [v0] H Q:=enter (aO cc `k) `k h
theorem lM:mq C 652 (wD (mS 50 0)) (p_ (mS 50 0)) (fB (mS 50 0)) 2 []:=aO cc `k
theorem lP(h:En C n H Q (mS 50 2) [("self",.val v0),("word",.val v1)]):aj C (n+1) (.ref 666) [v0,v1] H Q:=enter (aO cc `k) `k h
theorem lQ(h:En C n H Q (mS 50 3) [("self",.val v0),("word",.val v1)]):aj C (n+1) (.ref 673) [v0,v1] H Q:=enter (aO cc `k) `k h
theorem iT(h:En C n H Q (mS 50 4) [("self",.val v0)]):aj C (n+1) (.ref 680) [v0] H Q:=enter (aO cc `k) `k h
theorem kJ(h:En C n H Q (mS 50 5) [("self",.val v0),("sign",.undef),("figures",.undef),("FIGURES",.glob),("len",.glob),("MOST_FIGURES_lines",.glob),("int",.glob)]):aj C (n+1) (.ref 687) [v0] H Q:=enter (aO cc `k) `k h
theorem jG(h:En C n H Q (mS 50 6) [("self",.val v0),("depth",.val (.int 0)),("found",.undef),("FIGURES",.glob)]):aj C (n+1) (.ref 695) [v0] H Q:=enter (lq cc 688 (items:=[(.int 0 1240)]) (Ds:=[(.int 0 1240)]) (.cons (.int _ _) .nil) `k) `k h
theorem fE(h:En C n H Q (mS 50 6) [("self",.val v0),("depth",.val v1),("found",.undef),("FIGURES",.glob)]):aj C (n+1) (.ref 695) [v0,v1] H Q:=enter (lq cc 688 (items:=[(.int 0 1240)]) .nil `k) `k h
theorem jm(h:En C n H Q (mS 50 7) [("self",.val v0),("depth",.val v1),("found",.undef),("MOST_DEPTH",.glob),("tuple",.glob)]):aj C (n+1) (.ref 702) [v0,v1] H Q:=enter (aO cc `k) `k h
theorem kK(h:En C n H Q (mS 50 8) [("self",.val v0),("word",.val v1),("many",.undef),("found",.undef),("turn",.undef),("range",.glob)]):aj C (n+1) (.ref 709) [v0,v1] H Q:=enter (aO cc `k) `k h
theorem iy(h:En C n H Q (mS 50 9) [("self",.val v0),("word",.val v1),("least",.val (.none)),("most",.val (.none)),("many",.val (.none)),("found",.undef),("item",.undef),("is_out",.undef),("len",.glob),("isinstance",.glob),("int",.glob)]):aj C (n+1) (.ref 717) [v0,v1] H Q:=enter (lq cc 710 (items:=[.none,.none,.none]) (Ds:=[.none,.none,.none]) (.cons .none (.cons .none (.cons .none .nil))) `k) `k h
theorem iz(h:En C n H Q (mS 50 9) [("self",.val v0),("word",.val v1),("least",.val v2),("most",.val v3),("many",.val (.none)),("found",.undef),("item",.undef),("is_out",.undef),("len",.glob),("isinstance",.glob),("int",.glob)]):aj C (n+1) (.ref 717) [v0,v1,v2,v3] H Q:=enter (lq cc 710 (items:=[.none,.none,.none]) (Ds:=[.none]) (.cons .none .nil) `k) `k h
theorem iA(h:En C n H Q (mS 50 9) [("self",.val v0),("word",.val v1),("least",.val v2),("most",.val v3),("many",.val v4),("found",.undef),("item",.undef),("is_out",.undef),("len",.glob),("isinstance",.glob),("int",.glob)]):aj C (n+1) (.ref 717) [v0,v1,v2,v3,v4] H Q:=enter (lq cc 710 (items:=[.none,.none,.none]) .nil `k) `k h
theorem mR(h:En C n H Q (mS 50 10) [("self",.val v0),("word",.val v1),("least",.val v2),("most",.val v3)]):aj C (n+1) (.ref 724) [v0,v1,v2,v3] H Q:=enter (aO cc `k) `k h
theorem kL(h:En C n H Q (mS 50 11) [("self",.val v0),("word",.val v1),("found",.undef),("at",.undef),("range",.glob),("len",.glob),("isinstance",.glob),("str",.glob)]):aj C (n+1) (.ref 731) [v0,v1] H Q:=enter (aO cc `k) `k h
theorem jH(h:En C n H Q (mS 50 12) [("self",.val v0)]):aj C (n+1) (.ref 738) [v0] H Q:=enter (aO cc `k) `k h
theorem iB(h:En C n H Q (mS 50 13) [("self",.val v0),("text",.val v1),("own",.undef),("at",.undef),("len",.glob),("TableError",.glob)]):aj C (n+1) (.ref 745) [v0,v1] H Q:=enter (aO cc `k) `k h
theorem wG(h:En C n H Q (tS 54) [("writer",.val v0),("prefix",.val v1),("rows",.val v2)]):aj C (n+1) (.ref 760) [v0,v1,v2] H Q:=enter (aO cc `k) `k h
theorem q_(h:En C n H Q (tS 55) [("reader",.val v0),("prefix",.val v1),("many",.val v2),("columns",.val v3),("least",.val (.none)),("most",.val (.none)),("bases",.undef),("table",.undef),("check",.undef),("found",.undef),("flaw",.undef),("PackedRows",.glob)]):aj C (n+1) (.ref 768) [v0,v1,v2,v3] H Q:=enter (lq cc 761 (items:=[.none,.none]) (Ds:=[.none,.none]) (.cons .none (.cons .none .nil)) `k) `k h
theorem rm(h:En C n H Q (tS 55) [("reader",.val v0),("prefix",.val v1),("many",.val v2),("columns",.val v3),("least",.val v4),("most",.val v5),("bases",.undef),("table",.undef),("check",.undef),("found",.undef),("flaw",.undef),("PackedRows",.glob)]):aj C (n+1) (.ref 768) [v0,v1,v2,v3,v4,v5] H Q:=enter (lq cc 761 (items:=[.none,.none]) .nil `k) `k h
theorem pN(h:En C n H Q (tS 56) [("packed",.val v0),("codes",.val v1),("writer",.undef),("LineWriter",.glob),("PARSER_HEAD",.glob),("add_rows",.glob)]):aj C (n+1) (.ref 775) [v0,v1] H Q:=enter (aO cc `k) `k h
theorem sS(h:En C n H Q (tS 57) [("reader",.val v0),("names",.undef),("count",.undef),("lefts",.undef),("lengths",.undef),("befores",.undef),("rule",.undef),("FIRST_NAMES",.glob),("len",.glob),("range",.glob)]):aj C (n+1) (.ref 782) [v0] H Q:=enter (aO cc `k) `k h
theorem pO(h:En C n H Q (tS 58) [("reader",.val v0),("actions",.val v1),("states",.val v2),("rules",.val v3),("row",.undef),("column",.undef),("number",.undef),("is_shift",.undef),("is_rule",.undef),("sorted",.glob),("ACCEPT",.glob),("BARRED",.glob)]):aj C (n+1) (.ref 789) [v0,v1,v2,v3] H Q:=enter (aO cc `k) `k h
theorem sU(h:En C n H Q (tS 59) [("reader",.val v0),("gotos",.val v1),("defaults",.val v2),("masks",.val v3),("states",.val v4),("rows",.undef),("number",.undef),("state",.undef),("range",.glob),("len",.glob),("sorted",.glob)]):aj C (n+1) (.ref 796) [v0,v1,v2,v3,v4] H Q:=enter (aO cc `k) `k h
theorem mU(h:En C n H Q (tS 60) [("reader",.val v0),("code",.val v1),("pair",.undef),("error",.undef),("isinstance",.glob),("tuple",.glob),("len",.glob),("str",.glob),("check_code",.glob),("list",.glob),("ActionError",.glob)]):aj C (n+1) (.ref 803) [v0,v1] H Q:=enter (aO cc `k) `k h
theorem rq(h:En C n H Q (tS 61) [((bI "text"),.val v0),((bI "reader"),.undef),((bI "frame"),.undef),((bI "count"),.undef),((bI "rules"),.undef),((bI "others"),.undef),((bI "defaults"),.undef),((bI "states"),.undef),((bI "actions"),.undef),((bI "goto_defaults"),.undef),((bI "masks"),.undef),((bI "gotos"),.undef),((bI "codes"),.undef),((bI "held"),.undef),((bI "packed"),.undef),((bI "LineReader"),.glob),((bI "PARSER_HEAD"),.glob),((bI "read_frame"),.glob),((bI "len"),.glob),((bI "read_rows"),.glob),((bI "need_actions"),.glob),((bI "need_gotos"),.glob),((bI "PackedTables"),.glob),((bI "write_parser"),.glob)]):aj C (n+1) (.ref 808) [v0] H Q:=enter (aO cc `k) `k h
theorem sV(h:En C n H Q (tS 62) [("packed",.val v0),("found",.undef),("row",.undef),("nonterminal",.undef),("state",.undef),("range",.glob),("len",.glob),("bits",.glob)]):aj C (n+1) (.ref 815) [v0] H Q:=enter (aO cc `k) `k h
theorem yD(h:En C n H Q (tS 64) [("script",.val v0)]):aj C (n+1) (.ref 820) [v0] H Q:=enter (aO cc `k) `k h
theorem wH(h:En C n H Q (tS 65) [("pen",.val v0),("many",.val v1),("digit",.undef),("spot",.undef),("cell",.undef),("great",.undef),("mixed",.undef),("int",.glob),("sum",.glob),("len",.glob),("abs",.glob)]):aj C (n+1) (.ref 827) [v0,v1] H Q:=enter (aO cc `k) `k h
theorem wI(h:En C n H Q (tS 66) [("pen",.val v0),("some",.val v1),("_law_draw",.glob),("len",.glob)]):aj C (n+1) (.ref 834) [v0,v1] H Q:=enter (aO cc `k) `k h
theorem uT(h:En C n H Q (tS 67) [("pen",.val v0),("count",.val v1),("others",.val v2),("sides",.undef),("sizes",.undef),("aheads",.undef),("turn",.undef),("range",.glob),("_law_draw",.glob),("_law_pick",.glob)]):aj C (n+1) (.ref 841) [v0,v1,v2] H Q:=enter (aO cc `k) `k h
theorem wJ(h:En C n H Q (tS 68) [("pen",.val v0),("word",.undef),("some",.undef),("_law_pick",.glob),("_law_draw",.glob)]):aj C (n+1) (.ref 848) [v0] H Q:=enter (aO cc `k) `k h
theorem sW(h:En C n H Q (tS 69) [((bI "pen"),.val v0),((bI "size"),.undef),((bI "count"),.undef),((bI "names"),.undef),((bI "others"),.undef),((bI "sides"),.undef),((bI "sizes"),.undef),((bI "aheads"),.undef),((bI "lines"),.undef),((bI "state"),.undef),((bI "line"),.undef),((bI "terminal"),.undef),((bI "way"),.undef),((bI "goals"),.undef),((bI "symbol"),.undef),((bI "one"),.undef),((bI "usuals"),.undef),((bI "at"),.undef),((bI "masks"),.undef),((bI "rests"),.undef),((bI "frame"),.undef),((bI "rules"),.undef),((bI "packed"),.undef),((bI "_law_draw"),.glob),((bI "len"),.glob),((bI "_law_rules"),.glob),((bI "range"),.glob),((bI "_law_pick"),.glob),((bI "ACCEPT"),.glob),((bI "BARRED"),.glob),((bI "dict"),.glob),((bI "PackedTables"),.glob),((bI "packed_rows"),.glob)]):aj C (n+1) (.ref 853) [v0] H Q:=enter (aO cc `k) `k h
theorem kO(h:En C n H Q (tS 70) [("found",.val v0),("packed",.val v1),("lines",.val v2),("goals",.val v3),("codes",.val v4),("held",.undef),("heard",.undef),("state",.undef),("terminal",.undef),("at",.undef),("pairs",.undef),("range",.glob),("len",.glob),("goto_pairs",.glob)]):aj C (n+1) (.ref 860) [v0,v1,v2,v3,v4] H Q:=enter (aO cc `k) `k h
theorem uU(h:En C n H Q (tS 71) [("packed",.val v0),("lines",.val v1),("goals",.val v2),("codes",.val v3),("list",.glob)]):aj C (n+1) (.ref 865) [v0,v1,v2,v3] H Q:=enter (aO cc `k) `k h
theorem wK(h:En C n H Q (tS 72) [("packed",.val v0),("parts",.val v1),("names",.undef),("sides",.undef),("sizes",.undef),("aheads",.undef),("rules",.undef),("lines",.undef),("goals",.undef),("codes",.undef),("one",.undef),("usuals",.undef),("size",.undef),("masks",.undef),("rests",.undef),("usual",.undef),("frame",.undef),("len",.glob),("zip",.glob),("dict",.glob),("range",.glob),("PackedTables",.glob),("packed_rows",.glob)]):aj C (n+1) (.ref 870) [v0,v1] H Q:=enter (aO cc `k) `k h
theorem sX(h:En C n H Q (tS 73) [("pen",.val v0),("packed",.val v1),("parts",.val v2),("names",.undef),("sides",.undef),("sizes",.undef),("aheads",.undef),("rules",.undef),("lines",.undef),("goals",.undef),("codes",.undef),("way",.undef),("count",.undef),("spot",.undef),("state",.undef),("terminal",.undef),("_law_draw",.glob),("len",.glob),("ACCEPT",.glob),("BARRED",.glob)]):aj C (n+1) (.ref 877) [v0,v1,v2] H Q:=enter (aO cc `k) `k h
theorem uV(h:En C n H Q (tS 74) [("packed",.val v0),("parts",.val v1),("text",.val v2),("found",.undef),("read_parser",.glob),("_law_parser_alike",.glob),("write_parser",.glob)]):aj C (n+1) (.ref 884) [v0,v1,v2] H Q:=enter (aO cc `k) `k h
theorem LP(h:En C n H Q (tS 75) [("script",.val v0),("pen",.undef),("packed",.undef),("lines",.undef),("goals",.undef),("codes",.undef),("text",.undef),("parts",.undef),("words",.undef),("other",.undef),("answer",.undef),("pairs",.undef),("unlike",.undef),("_law_pen",.glob),("_law_parser",.glob),("write_parser",.glob),("_law_parts",.glob),("_law_holds",.glob),("_law_turned",.glob),("_law_made",.glob),("list",.glob),("zip",.glob),("len",.glob)]):aj C (n+1) (.ref 889) [v0] H Q:=enter (aO cc `k) `k h
end
noncomputable abbrev glL:List (Str×Value):=[((bI "SMALL"),.str (bI "abcdefghijklmnopqrstuvwxyz") 196),((bI "LETTERS"),.str (bI "abcdefghijklmnopqrstuvwxyzABCDEFGHIJKLMNOPQRSTUVWXYZ") 199),((bI "FIGURES"),.str (bI "0123456789") 201),((bI "NAME_SIGNS"),.str (bI "abcdefghijklmnopqrstuvwxyzABCDEFGHIJKLMNOPQRSTUVWXYZ_0123456789") 205),((bI "HEX_SIGNS"),.str (bI "0123456789abcdefABCDEF") 208),((bI "OCTAL_SIGNS"),.str (bI "01234567") 210),((bI "MOST_FIGURES_source"),.int 4000 212),((bI "PLAIN_ESCAPES"),.ref 22),((bI "Position"),.ref 46),((bI "position_of"),.ref 57),((bI "ToolError"),.ref 82),((bI "ActionError"),.ref 95),((bI "TableError"),.ref 107),((bI "Cursor"),.ref 234),((bI "hex_escape"),.ref 245),((bI "escaped_sign"),.ref 252),((bI "escaped"),.ref 257),((bI "bits"),.ref 264),((bI "ACCEPT"),.int 1048576 555),((bI "BARRED"),.int (-1048576) 560),((bI "UNDEFINED"),.int 2 562),((bI "Tables"),.ref 358),((bI "row_key"),.ref 367),((bI "owners_of"),.ref 374),((bI "packing_order"),.ref 379),((bI "Comb"),.ref 431),((bI "pack_rows"),.ref 440),((bI "look_up"),.ref 447),((bI "PackedRows"),.ref 511),((bI "packed_rows"),.ref 522),((bI "PackedTables"),.ref 567),((bI "LEVELS"),.ref 571),((bI "FUNCTIONS"),.ref 572),((bI "goals_behind"),.ref 581),((bI "taken_and_put"),.ref 588),((bI "is_pair"),.ref 595),((bI "check_code"),.ref 600),((bI "MOST_DEPTH"),.int 2 1128),((bI "MOST_FIGURES_lines"),.int 160 1130),((bI "show_item"),.ref 605),((bI "LineWriter"),.ref 634),((bI "LineReader"),.ref 748),((bI "PARSER_HEAD"),.str (bI "grammarmill parser 1") 1333),((bI "FIRST_NAMES"),.ref 753),((bI "add_rows"),.ref 760),((bI "read_rows"),.ref 768),((bI "write_parser"),.ref 775),((bI "read_frame"),.ref 782),((bI "need_actions"),.ref 789),((bI "need_gotos"),.ref 796),((bI "need_code"),.ref 803),((bI "read_parser"),.ref 808),((bI "goto_pairs"),.ref 815),((bI "_law_pen"),.ref 820),((bI "_law_draw"),.ref 827),((bI "_law_pick"),.ref 834),((bI "_law_rules"),.ref 841),((bI "_law_code"),.ref 848),((bI "_law_parser"),.ref 853),((bI "_law_parser_alike"),.ref 860),((bI "_law_parts"),.ref 865),((bI "_law_made"),.ref 870),((bI "_law_turned"),.ref 877),((bI "_law_holds"),.ref 884),((bI "law"),.ref 889)]
noncomputable abbrev gbL:List (Str×Value):=[((bI "len"),.builtin "len"),((bI "sorted"),.builtin "sorted"),((bI "max"),.builtin "max"),((bI "sum"),.builtin "sum"),((bI "abs"),.builtin "abs"),((bI "isinstance"),.builtin "isinstance"),((bI "ord"),.builtin "ord"),((bI "chr"),.builtin "chr"),((bI "range"),.type "range"),((bI "int"),.type "int"),((bI "str"),.type "str"),((bI "tuple"),.type "tuple"),((bI "list"),.type "list"),((bI "dict"),.type "dict"),((bI "enumerate"),.type "enumerate"),((bI "zip"),.type "zip")]
noncomputable abbrev gmL:List (Str×Addr×Addr):=[((bI "is_done"),(234,131)),((bI "peek"),(234,139)),((bI "starts"),(234,146)),((bI "take"),(234,153)),((bI "skip"),(234,160)),((bI "take_while"),(234,167)),((bI "escape"),(234,224)),((bI "quoted"),(234,231)),((bI "state_count"),(567,543)),((bI "explicit"),(567,550)),((bI "goto"),(567,557)),((bI "default"),(567,327)),((bI "is_free"),(431,400)),((bI "fits"),(431,407)),((bI "first_fit"),(431,414)),((bI "grow"),(431,421)),((bI "put"),(431,428)),((bI "get"),(511,468)),((bI "unpacked"),(511,473)),((bI "flaw_of_rows"),(511,494)),((bI "flaw_of_cells"),(511,501)),((bI "flaw"),(511,508)),((bI "add"),(634,624)),((bI "text"),(634,631)),((bI "fail"),(748,659)),((bI "need"),(748,666)),((bI "head"),(748,673)),((bI "end_line"),(748,680)),((bI "whole"),(748,687)),((bI "item"),(748,695)),((bI "bracket"),(748,702)),((bI "items"),(748,709)),((bI "numbers"),(748,717)),((bI "one"),(748,724)),((bI "texts"),(748,731)),((bI "finish"),(748,738)),((bI "need_same"),(748,745))]
noncomputable def Nf:List (Addr×Str):=[(234,(bI "text")),(234,(bI "at")),(567,(bI "names")),(567,(bI "terminal_count")),(567,(bI "lefts")),(567,(bI "lengths")),(567,(bI "befores")),(567,(bI "defaults")),(567,(bI "numbers")),(567,(bI "actions")),(567,(bI "bases")),(567,(bI "table")),(567,(bI "check")),(567,(bI "owners")),(567,(bI "gotos")),(567,(bI "goto_bases")),(567,(bI "goto_table")),(567,(bI "goto_check")),(567,(bI "goto_owners")),(567,(bI "goto_defaults")),(567,(bI "goto_masks")),(431,(bI "table")),(431,(bI "check")),(511,(bI "bases")),(511,(bI "table")),(511,(bI "check")),(511,(bI "owners")),(634,(bI "lines")),(748,(bI "cursor")),(748,(bI "lines"))]
theorem Rt(P:Params):(glL.map λp=>Dw P p.1)=glL.map λp=>some p.2:=by kernel_rfl
theorem Ru(P:Params):(gbL.map λp=>(Dw P p.1,bootBuiltins p.1,decide (p.1=("__name__":Str))))=gbL.map λp=>(b6,some p.2,false):=by kernel_rfl
theorem Rv(P:Params):(Nf.map λp=>((plainGet (KK P) p.1 p.2,hasDictIn (KK P) p.1,findIn (KK P) (.ref p.1) p.2),(findIn (KK P) (.ref p.1) "__setattr__",plainOver (KK P) p.1,takerIn (KK P) p.1 p.2)))=Nf.map λZ=>((true,true,some b6),(some (some (.builtin "object.__setattr__")),true,some b6)):=by kernel_rfl
theorem Rw(P:Params):(gmL.map λp=>(plainGet (KK P) p.2.1 p.1,findIn (KK P) (.ref p.2.1) p.1,typeIn (KK P) (.ref p.2.2)))=gmL.map λp=>(true,some (some (.ref p.2.2)),some (.type "function")):=by kernel_rfl
noncomputable def nof{α:Type}(l:List (Str×α))(x:Str):Bool:=S3 true (λa _ r=> Bool.not (decide (a.1=x))&&r) l
theorem Dy{l:List (Str×AV)}{x:Str}:nof l x=true->fget l x=b6:=by
 induction l with
 |nil=>exact λ_=>rfl
 |cons a l ih=>exact λh=>have h:=F8.mp h;(if_neg (of_decide_eq_false (Y5 _ |>.mp h.1))).trans (ih h.2)
theorem yE{α:Type}{l:List (Str×α)}{x:Str}{v:α}(h:l.find? (λp=>p.1==x)=some (x,v)):(x,v)∈l:=R5 h
section
variable{C:Cx}(cc:CC C)
include cc
theorem glK{x:Str}{V:Value}{v:AV}(m:glL.find? (λp=>p.1==x)=some (x,V))(a:bF C.hb V v):Gl C x v:=#[V,(cc.gl x).trans (U5.mp (Rt C.w.params) _ (yE m)),a]
theorem Ng{x:Str}{V:Value}(m:gbL.find? (λp=>p.1==x)=some (x,V)):Gb C x V:=have h:=U5.mp (Ru C.w.params) _ (yE m)
 #[(cc.gl x).trans (congrArg (·.1) h),(C.bt x (of_decide_eq_false (congrArg (·.2.2) h))).trans (congrArg (·.2.1) h)]
theorem aU:Gb C (bI "range") (.type "range"):=Ng cc `k
theorem Dz:Gb C (bI "zip") (.type "zip"):=Ng cc `k
theorem GY:Gb C (bI "list") (.type "list"):=Ng cc `k
theorem uW:Gb C (bI "enumerate") (.type "enumerate"):=Ng cc `k
theorem atK{D:Addr}{x:Str}(m:decide ((D,x)∈Nf)=true):uF C D x/\pY C D x:=by
 have h:=U5.mp (Rv C.w.params) _ (of_decide_eq_true m);unfold uF pY;rw[cc.K];exact#[#[congrArg (·.1.1) h,congrArg (·.1.2.1) h,b6,congrArg (·.1.2.2) h,rfl],congrArg (·.2.1) h,congrArg (·.2.2.1) h,congrArg (·.2.2.2) h,congrArg (·.1.2.1) h]
theorem atA{D:Addr}{x:Str}(m:Cf (#[]:Array Nat).size (decide ((D,x)∈Nf))=0):uF C D x:=(atK cc (jq m)).1
theorem stK{D:Addr}{x:Str}(m:Cf (#[]:Array Nat).size (decide ((D,x)∈Nf))=0):pY C D x:=(atK cc (jq m)).2
theorem gmK{nm:Str}{D f:Addr}(m:gmL.find? (λp=>p.1==nm)=some (nm,D,f)){H:AH}{x dx:Addr}{fs:List (Str×AV)}(hx:H x=some (.inst D dx fs))(hf:Cf (#[]:Array Nat).size (nof fs nm)=0):fR C (.ref x) nm H (.ref f) true:=
 have h:=U5.mp (Rw C.w.params) _ (yE m)
 .inst hx (Dy (jq hf)) (cc.K▸congrArg (·.1) h) (cc.K▸congrArg (·.2.1) h) (cc.K▸congrArg (·.2.2) h)
end
theorem DA{C:Cx}(cc:CC C):Gl C (bI "WORDS") (.tup [.str (bI "yyerrok"),.str (bI "yyclearin"),.str (bI "YYERROR"),.str (bI "YYABORT"),.str (bI "YYACCEPT")]):=#[.ref 570,by rw[cc.gl];kernel_rfl,.tup (xs:=[(.str (bI "yyerrok") 1003),(.str (bI "yyclearin") 1004),(.str (bI "YYERROR") 1005),(.str (bI "YYABORT") 1006),(.str (bI "YYACCEPT") 1007)]) (C.KR _ _ (cc.look `k)) (.cons (.str _ _) (.cons (.str _ _) (.cons (.str _ _) (.cons (.str _ _) (.cons (.str _ _) (.nil))))))]
theorem yF{C:Cx}(cc:CC C):Gl C (bI "LEAVING") (.tup [.str (bI "YYERROR"),.str (bI "YYABORT"),.str (bI "YYACCEPT")]):=#[.ref 573,by rw[cc.gl];kernel_rfl,.tup (xs:=[(.str (bI "YYERROR") 1085),(.str (bI "YYABORT") 1086),(.str (bI "YYACCEPT") 1087)]) (C.KR _ _ (cc.look `k)) (.cons (.str _ _) (.cons (.str _ _) (.cons (.str _ _) (.nil))))]
theorem DB{C:Cx}(cc:CC C):Gl C (bI "JUMPS") (.tup [.str (bI "jump"),.str (bI "unless"),.str (bI "when")]):=#[.ref 574,by rw[cc.gl];kernel_rfl,.tup (xs:=[(.str (bI "jump") 1089),(.str (bI "unless") 1090),(.str (bI "when") 1091)]) (C.KR _ _ (cc.look `k)) (.cons (.str _ _) (.cons (.str _ _) (.cons (.str _ _) (.nil))))]
theorem yG{C:Cx}(cc:CC C):makesIn C.K 234=true/\findIn C.K (.ref 234) "__init__"=some (some (.ref 124))/\typeIn C.K (.ref 124)=some (.type "function"):=#[by rw[cc.K];kernel_rfl,by rw[cc.K];kernel_rfl,by rw[cc.K];kernel_rfl]
theorem yH{C:Cx}(cc:CC C):makesIn C.K 567=true/\findIn C.K (.ref 567) "__init__"=some (some (.ref 536))/\typeIn C.K (.ref 536)=some (.type "function"):=#[by rw[cc.K];kernel_rfl,by rw[cc.K];kernel_rfl,by rw[cc.K];kernel_rfl]
theorem yI{C:Cx}(cc:CC C):makesIn C.K 431=true/\findIn C.K (.ref 431) "__init__"=some (some (.ref 393))/\typeIn C.K (.ref 393)=some (.type "function"):=#[by rw[cc.K];kernel_rfl,by rw[cc.K];kernel_rfl,by rw[cc.K];kernel_rfl]
theorem yJ{C:Cx}(cc:CC C):makesIn C.K 511=true/\findIn C.K (.ref 511) "__init__"=some (some (.ref 461))/\typeIn C.K (.ref 461)=some (.type "function"):=#[by rw[cc.K];kernel_rfl,by rw[cc.K];kernel_rfl,by rw[cc.K];kernel_rfl]
theorem yK{C:Cx}(cc:CC C):makesIn C.K 634=true/\findIn C.K (.ref 634) "__init__"=some (some (.ref 619))/\typeIn C.K (.ref 619)=some (.type "function"):=#[by rw[cc.K];kernel_rfl,by rw[cc.K];kernel_rfl,by rw[cc.K];kernel_rfl]
theorem yL{C:Cx}(cc:CC C):makesIn C.K 748=true/\findIn C.K (.ref 748) "__init__"=some (some (.ref 652))/\typeIn C.K (.ref 652)=some (.type "function"):=#[by rw[cc.K];kernel_rfl,by rw[cc.K];kernel_rfl,by rw[cc.K];kernel_rfl]
end
section
theorem rz(cc:CC C):fR C (.ref 358) "__init__" H (.ref 278) false:=.cls (mc:=.type "type") (by rw[cc.K];kernel_rfl) (by rw[cc.K];kernel_rfl) (by rw[cc.K];kernel_rfl)
end
section
theorem aG.cD(e:ρ=ρ')(h:aG C n F ss ρ' H Q):aG C n F ss ρ H Q:=e▸h
theorem Bh{A B:Prop}(h:x=true)(q:A):(if x=true then A else B):=by rw[if_pos h];exact q
theorem wL{A B:Prop}(h:¬x=true)(q:B):(if x=true then A else B):=by rw[if_neg h];exact q
def LG{α:Type}(l:List (Str×α))(x:Str)(v:α):Prop:=True
theorem LG.c0{α:Type}{x:Str}{v:α}{r:List (Str×α)}:LG ((x,v)::r) x v:=trivial
theorem LG.sk{α:Type}{a:Str×α}{r:List (Str×α)}{x:Str}{v:α}(g:LG r x v):LG (a::r) x v:=trivial
def LS{α:Type}(l:List (Str×α))(x:Str)(v:α)(r:List (Str×α)):Prop:=True
theorem LS.c0{α:Type}{x:Str}{u v:α}{r:List (Str×α)}:LS ((x,u)::r) x v ((x,v)::r):=trivial
theorem LS.sk{α:Type}{a:Str×α}{r r':List (Str×α)}{x:Str}{v:α}(g:LS r x v r'):LS (a::r) x v (a::r'):=trivial
theorem LS.nil{α:Type}{x:Str}{v:α}:LS [] x v [(x,v)]:=trivial
abbrev afr(ρ:Loc)(x:Str)(v:LV):Prop:=LG ρ x v->ρ.get x=some v
abbrev afs(fs:List (Str×AV))(x:Str)(v:AV):Prop:=LG fs x v->fget fs x=some v
abbrev aft(ρ:Loc)(x:Str)(v:LV)(ρ':Loc):Prop:=LS ρ x v ρ'->ρ.set x v=ρ'
abbrev afu(fs:List (Str×AV))(x:Str)(v:AV)(fs':List (Str×AV)):Prop:=LS fs x v fs'->xR fs x v=fs'
def LI{α:Type}(l:List (Str×α))(x:Str)(v:α)(i:Nat):Prop:=True
theorem LI.c0{α:Type}{x:Str}{v:α}{r:List (Str×α)}:LI ((x,v)::r) x v 0:=trivial
theorem LI.sk{α:Type}{a:Str×α}{r:List (Str×α)}{x:Str}{v:α}{i:Nat}(g:LI r x v i):LI (a::r) x v (i+1):=trivial
noncomputable def LQ{α:Type}(l:List (Str×α)):Nat->Option (Str×α):=S3 (λ_=>b6) (λa _ r i=>U9 (some a) (λj _=>r j) i) l
noncomputable def Nh{α:Type}(l:List (Str×α))(x:Str):Nat->Bool:=S3 (λ_=>true) (λa _ r i=>U9 true (λj _=> Bool.not (decide (a.1=x))&&r j) i) l
abbrev afv{α:Type}(l:List (Str×α))(x:Str)(v:α)(i:Nat):Prop:=LI l x v i->LQ l i=some (x,v)
theorem Aa{a x:Str}{b:Bool}(h:(Bool.not (decide (a=x))&&b)=true):¬a=x/\b=true:=have h:=F8.mp h;#[of_decide_eq_false ((Y5 _).mp h.1),h.2]
theorem GZ{l:Loc}{x:Str}{v:LV}:∀{i},LQ l i=some (x,v)->Nh l x i=true->l.get x=some v:=by
 induction l with
 |nil=>exact λe _=>gc e
 |cons a l ih=>exact λ{i}=>U9 (motive:=λi=>LQ (a::l) i=some (x,v)->Nh (a::l) x i=true->Loc.get (a::l) x=some v) (λe _=>by rw[m9 e];exact if_pos rfl) (λj _ e b=>(if_neg (Aa b).1).trans (ih e (Aa b).2)) i
theorem DE{l:List (Str×AV)}{x:Str}{v:AV}:∀{i},LQ l i=some (x,v)->Nh l x i=true->fget l x=some v:=by
 induction l with
 |nil=>exact λe _=>gc e
 |cons a l ih=>exact λ{i}=>U9 (motive:=λi=>LQ (a::l) i=some (x,v)->Nh (a::l) x i=true->fget (a::l) x=some v) (λe _=>by rw[m9 e];exact if_pos rfl) (λj _ e b=>(if_neg (Aa b).1).trans (ih e (Aa b).2)) i
inductive Nm(C:Cx)(x:Str):AV->Prop
 |gl {v} (h:Gl C x v):Nm C x v
 |bi {i} (h:Gb C x (.builtin i)):Nm C x (.bi i)
 |ty {i} (h:Gb C x (.type i)):Nm C x (.ty i)
abbrev afw{α:Type}(l:List (Str×α))(x:Str)(v:α):Prop:=LG l x v->l.find? (λp=>p.1==x)=some (x,v)
noncomputable def Bj(x:Str):Bool:= Bool.not ((x==("__classdict__":Str)))&& Bool.not ((x==("__debug__":Str)))
theorem LR(h:Bj x=true):(x==("__classdict__":Str))=false:=by
 unfold Bj at h;rw[D0] at h;simpa using h.1
theorem uX(h:Bj x=true):(x==("__debug__":Str))=false:=by
 unfold Bj at h;rw[D0] at h;simpa using h.2
theorem Ev.l{C:Cx}{n:Nat}{F:Fm}{ρ:Loc}{H:AH}{x:Str}{pos:Pos}{v:AV}{Q:AV->AH->Prop}{i:Nat}(g:LQ ρ i=some (x,.val v))(h:Q v H)(hd:Cf (#[]:Array Nat).size (Bj x&&Nh ρ x i)=0):Ev C n F (.Name x pos) ρ H Q:=
 have hd:=F8.mp (jq hd)
 Ev.loc (GZ g hd.2) h (LR hd.1) (uX hd.1)
noncomputable def LF(o:Option LV):Bool:=Option.rec false (λv=>LV.rec false (λ_=>false) true v) o
theorem DF{o:Option LV}:LF o=true->o=some .glob:=
 Option.rec (motive:=λo=>LF o=true->o=some .glob) (λh=>absurd h q8) (λv=>LV.rec (motive:=λv=>LF (some v)=true->some v=some .glob) (λh=>absurd h q8) (λ_ h=>absurd h q8) (λ_=>rfl) v) o
theorem Ev.g{C:Cx}{n:Nat}{F:Fm}{ρ:Loc}{H:AH}{x:Str}{pos:Pos}{v:AV}{Q:AV->AH->Prop}(a:Nm C x v)(h:Q v H)(hd:Cf (#[]:Array Nat).size (Bj x&&LF (ρ.get x))=0):Ev C n F (.Name x pos) ρ H Q:=
 have hd:=F8.mp (jq hd)
 Nm.rec (motive:=λv _=>Q v H->Ev C n F (.Name x pos) ρ H Q) (λb h=>Ev.glob (DF hd.2) b h (uX hd.1)) (λb h=>Ev.gbi (DF hd.2) b h (uX hd.1)) (λb h=>Ev.gty (DF hd.2) b h (uX hd.1)) a h
noncomputable def isA(o:Option LV):Bool:=Option.rec false (λv=>LV.rec true (λ_=>true) false v) o
theorem Rx{o:Option LV}{P:Prop}:isA o=true->(∀u,o=some u->u.ok->P)->P:=
 Option.rec (motive:=λo=>isA o=true->(∀u,o=some u->u.ok->P)->P) (λh=>absurd h q8) (λv=>LV.rec (motive:=λv=>isA (some v)=true->(∀u,some v=some u->u.ok->P)->P) (λ_ k=>k _ rfl trivial) (λ_ _ k=>k _ rfl trivial) (λh=>absurd h q8) v) o
theorem Ex.afx {C:Cx} {n:Nat} {F:Fm} {ρ:Loc} {H:AH} {x:Str} {px pos:Pos} {value:Expr} {Q:Out->Loc->AH->Prop} (hx:Cf (#[]:Array Nat).size (isA (ρ.get x))=0) (hfn:F.fn=true)
 (h:Ev C n F value ρ H (KZ x ρ Q)) (hs:autoParam (swapsWith value (some (.Name x px)) pos.line F.env=pure false) A1):Ex C n F (.Assign [.Name x px] value pos) ρ H Q:=
 Rx (jq hx) λ_ e k=>Ex.qG e k hfn h hs
noncomputable def nbB(v:AV):Bool:=AV.casesOn v true (λ_=>true) (λ_=>true) (λ_=>true) (λ_=>true) (λ_=>true) (λ_=>true) (λ_=>false)
theorem Ry{v:AV}(h:nbB v=true)(i:String)(e:v=.bi i):False:=q8 ((congrArg nbB e).symm.trans h)
theorem atQ{C:Cx}(cc:CC C){H:AH}{x D dx:Addr}{fs:List (Str×AV)}{v:AV}{nm:Str}{i:Nat}{Q:AV->AH->Prop}(hx:H x=some (.inst D dx fs))(hf:LQ fs i=some (nm,v))(q:Q v H)(m:Cf (#[]:Array Nat).size (decide ((D,nm)∈Nf)&&(nbB v&&Nh fs nm i))=0):zG C nm Q (.ref x) H:=
 have m:=F8.mp (jq m);have k:=F8.mp m.2
 #[x,D,dx,fs,v,rfl,hx,DE hf k.2,(atK cc m.1).1,Ry k.1,q]
noncomputable def kpL:List Addr:=[124,131,139,146,153,160,167,224,231,252,257,264,278,327,367,374,379,393,400,407,414,421,428,440,447,461,468,473,494,501,508,522,536,543,550,557,581,588,595,600,605,619,624,631,652,659,666,673,680,687,695,702,709,717,724,731,738,745,760,768,775,782,789,796,803,808,815,820,827,834,841,848,853,860,865,870,877,884,889,234,431,511,567,634,748]
noncomputable def kpB(a:Addr):Bool:=kpL.contains a
theorem Rz(P:Params):(kpL.all λa=>keepIn (KK P) (.ref a))=true:=by kernel_rfl
theorem KpI(cc:CC C)(h:Cf (#[]:Array Nat).size (kpB a)=0):eS C (.ref a):=.k (by rw[cc.K];exact n9.mp (Rz _) a (by have h:=jq h;simpa [kpB] using h))
end
section
noncomputable def jI(x:Str)(p:Int)(dx:Addr):AO:=.inst 234 dx [("text",.str x),("at",.int p)]
variable{C:Cx}{n:Nat}{H:AH}{c dx:Addr}{x:Str}{p:Nat}{Q:AV->AH->Prop}
theorem rA(cc:CC C)(hc:H c=some (jI x p dx))(hx:x.length<=1000000)(h:Q (.bool (decide (x.length<=p))) H):aj C (n+1) (.ref 131) [.ref c] H Q:=
 mH cc λF hf hn hk=>by
  refine aG.cons ?_;lk;refine aj.yf (!AG hx) ?_;refine aB.IK ?_;refine(?_:Q (.bool _) _);simpa using h
theorem take_one(cc:CC C)(hc:H c=some (jI x p dx))(hx:x.length<=1000000)(hp:x.cps[p]? =some ch)(h:Q (.str #[(List.toArray [ch])]) (H.set c (jI x (p+1:Nat) dx))):aj C (n+2) (.ref 153) [.ref c] H Q:=
 qT cc λF hf hn hk=>by
  have hlt:p<x.length:=(Q9.mp hp).1;refine aG.cons ?_;lk;ktn_no "meth";refine rA cc hc hx ?_;rw[decide_eq_false (!o95 hlt)];ktn_no "no";refine aF.str (λZ Z=>rfl) (!bN) (c:=ch) (by simpa using hp) (!AG hx) ?_;lk;refine aB.bL ?_;lk;refine#[_,_,_,_,_,rfl,hc,`st,!b7 rfl,`fput,?_];lk;exact h
noncomputable def nY(x:Str)(p:Nat):Str:=match x.cps[p]? with
 |some c=>#[(List.toArray [c])]
 |b6=>bI ""
theorem wM(cc:CC C){d:Nat}(hc:H c=some (jI x p dx))(hx:x.length<=1000000)(h:Q (.str (nY x (p+d))) H)(F:Fm)(hf:F.fn=true):
 aG C n F (fB (mS 15 2)) [("self",.val (.ref c)),("ahead",.val (.int d)),("at",.undef),("len",.glob)] H λo Z H'=>Q (eL o) H':=by
 refine aG.cons ?_;lk;refine aB.bL ?_;lk;refine aj.yf (!AG hx) ?_;refine aB.ltI ?_;refine#[_,rfl,?_];unfold nY at h;cases e:x.cps[p+d]? with
 |none=>
  rw[e] at h;have:x.length<=p+d:=Array.getElem?_eq_none_iff.mp e;rw[decide_eq_false (!o97 this)];lk;exact h
 |some ch=>
  rw[e] at h;have:p+d<x.length:=(Q9.mp e).1;rw[decide_eq_true (!o98 this)];lk;refine aF.str (λZ Z=>rfl) (!o99) (c:=ch) `a (!AG hx) ?_;exact h
theorem RA(cc:CC C)(hc:H c=some (jI x p dx))(hx:x.length<=1000000)(h:Q (.str (nY x p)) H):aj C (n+1) (.ref 139) [.ref c] H Q:=
 nQ cc λF hf hn hk=>wM (d:=0) cc hc hx h F hf
theorem peek1(cc:CC C)(hc:H c=some (jI x p dx))(hx:x.length<=1000000)(h:Q (.str (nY x (p+1))) H):aj C (n+1) (.ref 139) [.ref c,.int 1] H Q:=
 nR cc λF hf hn hk=>wM (d:=1) cc hc hx h F hf
theorem tV(cc:CC C)(hc:H c=some (jI x p dx))(hx:x.length<=1000000)(hy:y.length<=1000000)(hp:p<=x.length)(h:Q (.bool (decide (mD x p (p+y.length)=y))) H):aj C (n+1) (.ref 146) [.ref c,.str y] H Q:=
 nT cc λF hf hn hk=>by
  refine aG.cons ?_;lk;refine aj.yf (!AG hy) ?_;refine aB.bL ?_;refine#[x,p,p+y.length,rfl,rfl,by congr 1,hp,!AG hx,?_];lk;refine aB.fJ ?_;exact h
theorem G_(cc:CC C)(hc:H c=some (jI x p dx))(hx:x.length<=1000000)(hy:y.length<=1000000)(hp:p<=x.length)(hn:mD x p (p+y.length)≠y)(h:Q (.bool false) H):aj C (n+2) (.ref 160) [.ref c,.str y] H Q:=
 jC cc λF hf hn hk=>by
  refine aG.cons ?_;lk;ktn_no "meth";lk;refine tV cc hc hx hy hp ?_;rw[decide_eq_false `a];ktn_no "yes";exact h
theorem DG(cc:CC C)(hc:H c=some (jI x p dx))(hx:x.length<=1000000)(hy:y.length<=1000000)(hp:p<=x.length)(hs:mD x p (p+y.length)=y)(h:Q (.bool true) (H.set c (jI x (p+y.length:Nat) dx))):aj C (n+2) (.ref 160) [.ref c,.str y] H Q:=
 jC cc λF hf hn hk=>by
  refine aG.cons ?_;lk;ktn_no "meth";lk;refine tV cc hc hx hy hp ?_;rw[decide_eq_true hs];ktn_no "no";refine aj.yf (!AG hy) ?_;refine aB.bL ?_;lk;refine#[_,_,_,_,_,rfl,hc,`st,!b7 rfl,`fput,?_];lk;exact h
end
section
theorem AH.set_same{H:AH}{a:Addr}{o:AO}(h:H a=some o):H.set a o=H:=by
 funext b
 by_cases e:b=a
 ·subst e;rw[AH.aq,h]
 ·exact if_neg `a
theorem AH.set_set{H:AH}{a:Addr}{o o':AO}:(H.set a o).set a o'=H.set a o':=by
 funext b
 by_cases e:b=a
 ·subst e;rw[AH.aq,AH.aq]
 ·rw[aA e,aA e,aA e]
theorem aB.in1(h:Q (.bool (decide (ch∈x.cps.toList))) H):aB C n (compareOp .In) (.str #[(List.toArray [ch])]) (.str x) H Q:=aB.inS (by rw[StrLaws.found_one];exact h)
theorem aB.RB(h:Q (.bool (Bool.not (decide (ch∈x.cps.toList)))) H):aB C n (compareOp .NotIn) (.str #[(List.toArray [ch])]) (.str x) H Q:=aB.aem (by rw[StrLaws.found_one];exact h)
variable{C:Cx}{n:Nat}{H:AH}{c dx:Addr}{x:Str}{p:Nat}{Q:AV->AH->Prop}
theorem sY (cc:CC C) {z:Str} {q:Nat} (hc:H c=some (jI x p dx)) (hx:x.length<=1000000) (hz:z.length<=1000000) (hpq:p<=q) (hq:q<=x.length) (hin:∀i,p<=i->i<q->∃ch,x.cps[i]? =some ch/\ch∈z.cps.toList) (hend:∀ch,x.cps[q]? =some ch->ch∉z.cps.toList)
 (h:Q (.str (mD x p q)) (H.set c (jI x q dx))):aj C (n+1) (.ref 167) [.ref c,.str z] H Q:=
 jD cc λF hf hn hk=>by
  refine aG.cons ?_;lk;refine Ex.nO (λm ρ' H'=>∃i:Nat,m+i=q/\p<=i/\ρ'=([("self",.val (.ref c)),("signs",.val (.str z)),("begun",.val (.int p)),("len",.glob)]:Loc)/\H'=H.set c (jI x i dx)) (q - p) #[p,!Va hpq,!NH,rfl,(AH.set_same hc).symm] ?_;rintro m ρ' H' ⟨i,hm,hpi,rfl,rfl⟩;have hc':(H.set c (jI x i dx)) c=some (jI x i dx):=AH.aq _ _ _;lk;refine aj.yf (!AG hx) ?_;refine aB.ltI ?_;refine#[_,rfl,?_];by_cases hi:i<q
  ·refine bz (hin i hpi hi) λch e1 e2=>?_;rw[decide_eq_true (!Vb hi hq)];lk;refine aF.str (λZ Z=>rfl) (!bN) (c:=ch) (by simpa using e1) (!AG hx) ?_;lk;refine aB.in1 ?_;refine#[_,rfl,?_];rw[decide_eq_true e2];lk;refine aB.bL ?_;lk;refine#[_,_,_,_,_,rfl,hc',`st,!b7 rfl,`fput,?_];lk;exact#[m - 1,!Vc hm hi,i+1,!Vd hm hi,!MO hpi,rfl,AH.set_set]
  ·have hiq:i=q:=by exact Ve hm hi
   subst hiq;by_cases hl:i<x.length
   ·have e1:x.cps[i]? =some x.cps[i]:=R4 hl;rw[decide_eq_true (!gI hl)];lk;refine aF.str (λZ Z=>rfl) (!bN) (c:=x.cps[i]) (by simpa using e1) (!AG hx) ?_;lk;refine aB.in1 ?_;refine#[_,rfl,?_];rw[decide_eq_false (hend _ e1)];lk;refine#[x,p,i,rfl,rfl,rfl,!Vf hpi hl,!AG hx,?_];exact h
   ·rw[decide_eq_false (!Vg hl)];lk;refine#[x,p,i,rfl,rfl,rfl,!Vh hpi hq,!AG hx,?_];exact h
end
section
theorem Bk(cc:CC C)(h:∀x dx,H x=b6->H dx=b6->x≠dx->∀F:Fm,F.fn=true->F.env.scope.names=p_ (mS 15 0)->F.env.scope.kind=.function->aG C n F (fB (mS 15 0)) [("self",.val (.ref x)),("text",.val v1),("at",.val (.int 0))] (H.set x (.inst 234 dx [])) λo Z H'=>eL o=.none/\Q (.ref x) H'):aj C (n+2) (.ref 234) [v1] H Q:=
 .iL (fY (yG cc).1 (yG cc).2.1 (yG cc).2.2 λx dx h1 h2 h3=>codeS_fn (vs:=[.ref x,v1]) (nP cc) λF f1 f2 f3=>(show dF _ _=_ by kernel_rfl)▸h x dx h1 h2 h3 F f1 f2 f3)
theorem Hf(cc:CC C)(h:∀x dx,H x=b6->H dx=b6->x≠dx->∀F:Fm,F.fn=true->F.env.scope.names=p_ (mS 29 0)->F.env.scope.kind=.function->aG C n F (fB (mS 29 0)) [("self",.val (.ref x))] (H.set x (.inst 431 dx [])) λo Z H'=>eL o=.none/\Q (.ref x) H'):aj C (n+2) (.ref 431) [] H Q:=
 .iL (fY (yI cc).1 (yI cc).2.1 (yI cc).2.2 λx dx h1 h2 h3=>codeS_fn (vs:=[.ref x]) (uP cc) λF f1 f2 f3=>(show dF _ _=_ by kernel_rfl)▸h x dx h1 h2 h3 F f1 f2 f3)
theorem sZ(cc:CC C)(h:∀x dx,H x=b6->H dx=b6->x≠dx->∀F:Fm,F.fn=true->F.env.scope.names=p_ (mS 32 0)->F.env.scope.kind=.function->aG C n F (fB (mS 32 0)) [("self",.val (.ref x)),("bases",.val v1),("table",.val v2),("check",.val v3),("owners",.val v4)] (H.set x (.inst 511 dx [])) λo Z H'=>eL o=.none/\Q (.ref x) H'):aj C (n+2) (.ref 511) [v1,v2,v3,v4] H Q:=
 .iL (fY (yJ cc).1 (yJ cc).2.1 (yJ cc).2.2 λx dx h1 h2 h3=>codeS_fn (vs:=[.ref x,v1,v2,v3,v4]) (lH cc) λF f1 f2 f3=>(show dF _ _=_ by kernel_rfl)▸h x dx h1 h2 h3 F f1 f2 f3)
theorem pP(cc:CC C)(h:∀x dx,H x=b6->H dx=b6->x≠dx->∀F:Fm,F.fn=true->F.env.scope.names=p_ (mS 34 0)->F.env.scope.kind=.function->aG C n F (fB (mS 34 0)) [("self",.val (.ref x)),("frame",.val v1),("defaults",.val v2),("actions",.val v3),("gotos",.val v4),("goto_defaults",.val v5),("goto_masks",.val v6),("names",.undef),("terminal_count",.undef),("lefts",.undef),("lengths",.undef),("befores",.undef),("Tables",.glob)] (H.set x (.inst 567 dx [])) λo Z H'=>eL o=.none/\Q (.ref x) H'):aj C (n+2) (.ref 567) [v1,v2,v3,v4,v5,v6] H Q:=
 .iL (fY (yH cc).1 (yH cc).2.1 (yH cc).2.2 λx dx h1 h2 h3=>codeS_fn (vs:=[.ref x,v1,v2,v3,v4,v5,v6]) (jE cc) λF f1 f2 f3=>(show dF _ _=_ by kernel_rfl)▸h x dx h1 h2 h3 F f1 f2 f3)
theorem s_(cc:CC C)(h:∀x dx,H x=b6->H dx=b6->x≠dx->∀F:Fm,F.fn=true->F.env.scope.names=p_ (mS 49 0)->F.env.scope.kind=.function->aG C n F (fB (mS 49 0)) [("self",.val (.ref x)),("head",.val v1)] (H.set x (.inst 634 dx [])) λo Z H'=>eL o=.none/\Q (.ref x) H'):aj C (n+2) (.ref 634) [v1] H Q:=
 .iL (fY (yK cc).1 (yK cc).2.1 (yK cc).2.2 λx dx h1 h2 h3=>codeS_fn (vs:=[.ref x,v1]) (lJ cc) λF f1 f2 f3=>(show dF _ _=_ by kernel_rfl)▸h x dx h1 h2 h3 F f1 f2 f3)
theorem tu(cc:CC C)(h:∀x dx,H x=b6->H dx=b6->x≠dx->∀F:Fm,F.fn=true->F.env.scope.names=p_ (mS 50 0)->F.env.scope.kind=.function->aG C n F (fB (mS 50 0)) [("self",.val (.ref x)),("text",.val v1),("Cursor",.glob)] (H.set x (.inst 748 dx [])) λo Z H'=>eL o=.none/\Q (.ref x) H'):aj C (n+2) (.ref 748) [v1] H Q:=
 .iL (fY (yL cc).1 (yL cc).2.1 (yL cc).2.2 λx dx h1 h2 h3=>codeS_fn (vs:=[.ref x,v1]) (lM cc) λF f1 f2 f3=>(show dF _ _=_ by kernel_rfl)▸h x dx h1 h2 h3 F f1 f2 f3)
end
section
open PySem.NumText
theorem fM{x y:Str}(h:x.cps.toList=y.cps.toList):x=y:=Str.ext' (Array.toList_inj.mp h)
noncomputable def num(i:Int):List Nat:=(bI (toString i)).cps.toList
theorem mV(m:Nat):num m=(Nat.toDigits 10 m).map Char.toNat:=KIN.signs_num m
theorem fj{m c:Nat}(h:c∈num m):48<=c/\c<=57:=by
 rw[mV] at h;refine bz (m5.mp h) λch hch e=>?_;have r:=digit_range (Nat.isDigit_of_mem_toDigits (!n8 _) (!r7 _) hch);rw[<-e];exact r
theorem uY(m:Nat):num m≠[]:=by
 rw[mV];simp
theorem iU{m:Nat}(h:m<10 ^ 10):(num m).length<=10:=by
 rw[mV,b9];exact digits10_le (!n8 _) h
theorem fW{m:Nat}(h:0<m):num (-(m:Int))=45::num m:=by
 unfold num;rw[toString_neg (n:=-(m:Int)) (!o89 h),show(0:Int) - -(m:Int)=m by exact o90];rw[signs_ofString,signs_ofString,String.toList_append,n6];rfl
theorem jJ{m k:Nat}(h:num m=num k):m=k:=by
 rw[mV,mV] at h;have:=congrArg digitsVal h
 rwa [KIN.val_back,KIN.val_back] at this
def Stop(r:List Nat):Prop:=∀ch,r.head? =some ch->¬(48<=ch/\ch<=57)
theorem Stop.cons(h:¬(48<=c/\c<=57)):Stop (c::r):=λch e=>by
 simp at e;subst e;exact h
noncomputable def pQ(c:Nat):List Nat:=if c=10 then[92,110] else if c=9 then[92,116] else if c=34\/c=92 then[92,c] else[c]
noncomputable def esc(l:List Nat):List Nat:=l.flatMap pQ
def Ab(c:Nat):Prop:=c=10\/(32<=c/\c<=126)
mutual
noncomputable def sh:AV->List Nat
 | .none=>[45]
 | .int i=>num i
 | .str x=>34::(esc x.cps.toList++[34])
 | .tup l=>40::(Bl l++[41])
 | .bool _=>[]
 | .ref _=>[]
 | .ty _=>[]
 | .bi _=>[]
noncomputable def Bl:List AV->List Nat
 |[]=>[]
 |v::r=>sh v++fq r
noncomputable def fq:List AV->List Nat
 |[]=>[]
 |v::r=>32::(sh v++fq r)
end
theorem RC{x:Str}:sh (.str x)=34::(esc x.cps.toList++[34]):=rfl
theorem LU{l:List AV}:sh (.tup l)=40::(Bl l++[41]):=rfl
theorem RD{i:Int}:sh (.int i)=num i:=rfl
theorem Ji{v:AV}{r:List AV}:Bl (v::r)=sh v++fq r:=rfl
theorem jg{v:AV}{r:List AV}:fq (v::r)=32::(sh v++fq r):=rfl
mutual
noncomputable def Pu:Nat->AV->Prop
 |_,.none=>True
 |_,.int i=>i.natAbs<10 ^ 10
 |_,.str x=>∀c∈x.cps.toList,Ab c
 |0,.tup _=>False
 |d+1,.tup l=>pR d l
 |_,.bool _=>False
 |_,.ref _=>False
 |_,.ty _=>False
 |_,.bi _=>False
noncomputable def pR:Nat->List AV->Prop
 |_,[]=>True
 |d,v::r=>Pu d v/\pR d r
end
def Rd(x:Str)(p:Nat)(r:List Nat):Prop:=x.cps.toList.drop p=r/\p<=x.length
theorem Rd.len(h:Rd x p r):x.length=p+r.length:=by
 refine xA h λh l=>?_;have:r.length=x.length - p:=by rw[<-h,U7];rfl
 exact o91 l this
theorem Rd.app{x:Str}{p:Nat}{a r:List Nat}(h:Rd x p (a++r)):Rd x (p+a.length) r/\mD x p (p+a.length)=#[a.toArray]:=by
 have l:=h.len;rw[lG] at l;refine#[#[?_,!o92 l],?_]
 ·rw[<-List.drop_drop,h.1,List.drop_left]
 ·unfold mD;rw[h.1,show p+a.length - p=a.length by exact o93,List.take_left]
theorem Rd.cons(h:Rd x p (c::r)):x.cps[p]? =some c/\Rd x (p+1) r:=by
 refine#[?_,(Rd.app (a:=[c]) h).1];have:=congrArg (·[0]?) h.1;simpa using this
theorem Rd.sign(h:Rd x p r)(k:Nat):nY x (p+k)=(match r[k]? with|some c=>#[(List.toArray [c])]|b6=>bI ""):=by
 unfold nY;have:x.cps[p+k]? =r[k]?:=by rw[<-h.1];simp
 rw[this]
 all_goals (exact rfl)
theorem Rd.no(h:Rd x p r)(hn:¬y.cps.toList<+:r):mD x p (p+y.length)≠y:=λe=>hn (by
 have:=congrArg (λz:Str=>z.cps.toList) e;simp only[mD] at this;rw[h.1,show p+y.length - p=y.length by exact o93] at this;rw[<-this];exact List.take_prefix _ _)
theorem Rd.at(h:Rd x p r)(k:Nat):x.cps[p+k]? =r[k]?:=by rw[<-h.1];simp
end
section
variable{C:Cx}{n:Nat}{H:AH}{c:Addr}{x:Str}{Q:AV->AH->Prop}
def Cu(H:AH)(c:Addr)(x:Str)(r:List Nat):Prop:=x.length<=1000000/\∃p dx,H c=some (jI x (p:Nat) dx)/\Rd x p r
theorem Cu.keep{H H':AH}{c:Addr}{x:Str}{r:List Nat}{S:List Addr}(h:Cu H c x r)(k:Kp S H H')(n:c∉S):Cu H' c x r:=by
 refine jr h λl p dx e q=>?_;exact#[l,p,dx,k.at e n,q]
theorem Cu.e(h:Cu H c x r):∃p dx,H c=some (jI x p dx):=#[_,_,h.2.choose_spec.choose_spec.1]
theorem nZ(cc:CC C){y:Str}{r:List Nat}(h:Cu H c x (y.cps.toList++r))(hy:y.length<=1000000)(hq:∀H',Cu H' c x r->Kp [c] H H'->Q (.bool true) H'):aj C (n+2) (.ref 160) [.ref c,.str y] H Q:=by
 refine jr h λhx p dx e q=>?_;refine xA q.app λq1 q2=>?_;exact DG cc e hx hy q.2 q2 (hq _ #[hx,_,dx,AH.aq _ _ _,q1] (Kp.mem (!.head _)))
theorem jK(cc:CC C){y:Str}{r:List Nat}(h:Cu H c x r)(hy:y.length<=1000000)(hn:¬y.cps.toList<+:r)(hq:Q (.bool false) H):aj C (n+2) (.ref 160) [.ref c,.str y] H Q:=by
 refine jr h λhx p dx e q=>?_;exact G_ cc e hx hy q.2 (q.no hn) hq
noncomputable def hdS:List Nat->Str
 |[]=>bI ""
 |ch::_=>#[(List.toArray [ch])]
theorem RE(cc:CC C)(h:Cu H c x r)(hq:Q (.str (hdS r)) H):aj C (n+1) (.ref 139) [.ref c] H Q:=by
 refine jr h λhx p dx e q=>?_;refine RA cc e hx ?_;have:=q.sign 0;rw[Nat.add_zero] at this;rw[this];cases r<;>exact hq
theorem uZ(cc:CC C)(h:Cu H c x (a::r))(hq:Q (.str #[(List.toArray [a])]) H):aj C (n+1) (.ref 139) [.ref c] H Q:=RE cc h hq
theorem rB(cc:CC C){a:Nat}{r:List Nat}(h:Cu H c x (a::r))(hq:Q (.str (hdS r)) H):aj C (n+1) (.ref 139) [.ref c,.int 1] H Q:=by
 refine jr h λhx p dx e q=>?_;refine peek1 cc e hx ?_;rw[q.sign 1];cases r<;>exact hq
theorem mW(cc:CC C){ch:Nat}{r:List Nat}(h:Cu H c x (ch::r))(hq:∀H',Cu H' c x r->Kp [c] H H'->Q (.str #[(List.toArray [ch])]) H'):aj C (n+2) (.ref 153) [.ref c] H Q:=by
 refine jr h λhx p dx e q=>?_;exact take_one cc e hx q.cons.1 (hq _ #[hx,_,dx,AH.aq _ _ _,q.cons.2] (Kp.mem (!.head _)))
theorem Jj(cc:CC C)(h:Cu H c x r)(hq:Q (.bool r.isEmpty) H):aj C (n+1) (.ref 131) [.ref c] H Q:=by
 refine jr h λhx p dx e q=>?_;refine rA cc e hx ?_;have:=q.len;cases r with
 |nil=>rw[decide_eq_true (by simp at this;exact JS this)];exact hq
 |cons a r=>rw[decide_eq_false (by simp at this;exact Vi this)];exact hq
theorem afz(cc:CC C)(h:Cu H c x (a++r))(hz:z.length<=1000000)(hin:∀ch∈a,ch∈z.cps.toList)(hend:∀ch,r.head? =some ch->ch∉z.cps.toList)(hq:∀H',Cu H' c x r->Kp [c] H H'->Q (.str #[a.toArray]) H'):aj C (n+1) (.ref 167) [.ref c,.str z] H Q:=by
 refine jr h λhx p dx e q=>?_;have l:=q.len;rw[lG] at l;refine sY cc (q:=p+a.length) e hx hz (!Vj) (!o92 l) (λi h1 h2=>?_) (λch e'=>?_) ?_
 ·have:=q.at (i - p);rw[show p+(i - p)=i by exact Vk h1,F0 (!NI h2 h1),b8 (!NI h2 h1)] at this;exact#[_,this,hin _ (m6 _)]
 ·refine hend ch ?_;rw[q.at,F9 (!NH)] at e';simpa [List.head?_eq_getElem?] using e'
 ·rw[q.app.2];exact hq _ #[hx,_,dx,AH.aq _ _ _,q.app.1] (Kp.mem (!.head _))
theorem iV(cc:CC C):zS C 22 (bKv [("n",214,10,215),("t",216,9,217),("r",218,13,219),("f",220,12,221),("v",222,11,223),("a",224,7,225),("b",226,8,227)]):=#[`d,λh X=>wB (m:=7) (by rw[cc.K];kernel_rfl) `d X]
theorem RG(cc:CC C)(h:Cu H c x (110::r))(hq:∀H',Cu H' c x r->Kp [c] H H'->Q (.str #[(List.toArray [10])]) H'):aj C (n+3) (.ref 224) [.ref c] H Q:=
 iw cc λF hf hn hk=>by
  have h':=h;refine jr h' λhx p dx e q=>?_;refine aG.cons ?_;lk;ktn_no "meth";refine uZ cc h ?_;lk;refine aB.fJ ?_;ktn_no "no";refine aB.inBase (iV cc) ?_;ktn_no "yes";ktn_no "meth";refine mW cc h λH' h1 k1=>?_;lk;refine aF.based (λZ Z=>rfl) (iV cc) (v:=.int 10) `k ?_;lk;refine aj.chr `e `e ?_;lk;exact hq _ h1 k1
theorem RH(cc:CC C)(ha:a=34\/a=92)(h:Cu H c x (a::r))(hq:∀H',Cu H' c x r->Kp [c] H H'->Q (.str #[(List.toArray [a])]) H'):aj C (n+3) (.ref 224) [.ref c] H Q:=
 iw cc λF hf hn hk=>by
  have h':=h;refine jr h' λhx p dx e q=>?_;refine aG.cons ?_;lk;ktn_no "meth";refine uZ cc h ?_;lk;refine aB.fJ ?_;rcases ha with rfl|rfl
  ·ktn_no "no";refine aB.inBase (iV cc) ?_;ktn_no "no";refine aB.in1 ?_;ktn_no "no";refine aB.fJ ?_;ktn_no "no";ktn_no "meth";exact mW cc h hq
  ·ktn_no "no";refine aB.inBase (iV cc) ?_;ktn_no "no";refine aB.in1 ?_;ktn_no "no";refine aB.fJ ?_;ktn_no "no";ktn_no "meth";exact mW cc h hq
end
section
variable{C:Cx}{n:Nat}{H:AH}{c:Addr}{x:Str}{Q:AV->AH->Prop}
theorem iC:aC ys++[AV.str y]=aC (ys++[y]):=by simp[aC]
theorem join_cons(s y:Str):∀l:List Str,(S5 s (y::l)).cps.toList=y.cps.toList++l.flatMap λz=>s.cps.toList++z.cps.toList
 |[]=>by unfold S5;rw[StrLaws.glued_eq_join];simp[Str.join]
 |z::l=>by
  have ih:=join_cons s z l;unfold S5 at ih⊢;rw[StrLaws.glued_eq_join] at ih⊢;show(y++s++Str.join s (z::l)).cps.toList=_;rw[K0,K0,K4,K4,ih];simp
theorem yM(l:List Nat):S5 "" (l.map λch=>(#[(List.toArray [ch])]:Str))=#[l.toArray]:=by
 refine fM ?_;have e0:("":Str).cps.toList=[]:=by decide+kernel
 cases l with
 |nil=>exact by assumption
 |cons a l=>
  rw[q7,join_cons];simp only[e0,List.nil_append];simp;induction l with
  |nil=>rfl
  |cons b l ih=>exact congrArg _ `a
theorem DH(l:List Nat):((l.map λch=>(#[(List.toArray [ch])]:Str)).map (·.length)).sum=l.length:=by
 induction l with
 |nil=>rfl
 |cons a l ih=>
  rw[q7,q7,O5,ih,x9];show 1+_=_;exact Vl
theorem Ac(l:List Nat):l.length<=(esc l).length:=by
 induction l with
 |nil=>exact r7 _
 |cons a l ih=>
  show l.length+1<=(pQ a++esc l).length;have:1<=(pQ a).length:=by
   unfold pQ;split
   ·exact n8 _
   ·split
    ·exact n8 _
    ·split<;>simp
  rw[lG];exact Vm this ih
theorem Cu.len(h:Cu H c x r):r.length<=1000000:=by
 refine jr h λl p dx e q=>?_;have:=q.len;exact Vo this l
inductive LW(c a:Addr)(x:Str)(l r:List Nat)(H0:AH):Nat->AH->Prop
 |mk (done todo:List Nat) (H:AH) (e:l=done++todo) (hcu:Cu H c x (esc todo++34::r)) (hkp:Kp [c] H0 H) (hl:H a=some (.list (aC (done.map λch=>#[(List.toArray [ch])])))):LW c a x l r H0 (todo.length+1) H
theorem LW.step{c a:Addr}{x:Str}{l r done ts:List Nat}{ch:Nat}{H0 H2:AH}(e:l=done++ch::ts)(h2:Cu H2 c x (esc ts++34::r))(k:Kp [c] H0 H2)(ha:H0 a=b6)(hca:c≠a):LW c a x l r H0 (ts.length+1) (H2.set a (.list (aC (done.map λch=>#[(List.toArray [ch])])++[AV.str #[(List.toArray [ch])]]))):=
 .mk (done++[ch]) ts _ (by rw[e,x8];rfl) (h2.keep (S:=[a]) (Kp.mem (.head _)) (ne1 hca)) (k.late (.inl ha)) (by rw[AH.aq,iC,n6];rfl)
theorem Hg(cc:CC C){l r:List Nat}(ho:∀ch∈l,Ab ch)(h:Cu H c x (esc l++34::r))(hq:∀H',Cu H' c x r->Kp [c] H H'->Q (.str #[l.toArray]) H'):aj C (n+4) (.ref 231) [.ref c,.str "\""] H Q:=
 nU cc λF hf hn hk=>by
  have hx:=h.1;have hlen:l.length<=1000000:=by
   have:=h.len;have:=Ac l;simp at*;exact acu this `a
  refine aG.cons ?_;lk;refine#[sz rfl,λa ha=>?_];lk;have hca:c≠a:=AH.aJ ha (h.2.choose_spec.choose_spec.1);have hac:a∉[c]:=by simp;exact q9 hca
  refine Ex.Dg hf ["sign"] `wk (LW c a x l r H) _ (.mk [] l _ rfl (h.keep (S:=[]) (Kp.new ha) (λm=>nomatch m)) (Kp.new ha) (AH.aq _ _ _)) λm H' y=>y.casesOn λdone todo H' e hcu hkp hl K kk=>?_;rw[e] at hlen ho hq;refine sH hcu.e λZ Z e1=>?_;have hsz:(aC (done.map λch=>(#[(List.toArray [ch])]:Str))).length<=1000000:=by simp[aC] at hlen⊢;exact Vp hlen
  lk;ktn_no "meth";refine Jj cc hcu ?_;rewrite [show(esc todo++34::r).isEmpty=false by cases h:esc todo<;>rfl];ktn_no "yes";ktn_no "meth";cases todo with
  |nil=>
   refine mW cc (ch:=34) (r:=r) hcu λH1 h1 k1=>?_;have hl1:H1 a=_:=k1.at hl hac;lk;refine aB.fJ ?_;ktn_no "yes";ktn_no "meth";lk;rw[v7] at hlen hq;refine aj.join hl1 (by rw[DH,show("":Str).length=0 by decide+kernel];exact Vq hlen) ?_;rw[yM];exact kk (hq _ h1 (hkp.trans k1))
  |cons ch todo=>
   have hoc:=ho ch (!u5 _ (.head _));by_cases h10:ch=10
   ·subst h10;refine mW cc (ch:=92) (r:=110::(esc todo++34::r)) hcu λH1 h1 k1=>?_;have hl1:H1 a=_:=k1.at hl hac;refine sH h1.e λZ Z e2=>?_;lk;refine aB.fJ ?_;ktn_no "no";refine aB.fJ ?_;ktn_no "yes";ktn_no "meth";refine RG cc h1 λH2 h2 k2=>?_;have hl2:H2 a=_:=k2.at hl1 hac;lk;refine aB.fJ ?_;ktn_no "no";ktn_no "meth";lk;refine aj.append hl2 hsz ?_;lk;exact kk #[_,J5 _,`k,LW.step e h2 (hkp.trans (k1.trans k2)) ha hca]
   ·by_cases Fj:ch=34\/ch=92
    ·have LX:pQ ch=[92,ch]:=by
      unfold pQ;rw[if_neg h10,if_neg (by rcases Fj with rfl|rfl<;>decide),if_pos Fj]
     refine mW cc (ch:=92) (r:=ch::(esc todo++34::r)) (by have:=hcu;simp only[esc,C3,LX] at this;exact this) λH1 h1 k1=>?_;have hl1:H1 a=_:=k1.at hl hac;refine sH h1.e λZ Z e2=>?_;lk;refine aB.fJ ?_;ktn_no "no";refine aB.fJ ?_;ktn_no "yes";ktn_no "meth";refine RH cc Fj h1 λH2 h2 k2=>?_;have hl2:H2 a=_:=k2.at hl1 hac;lk;refine aB.fJ ?_;rw[decide_eq_false (by rcases Fj with rfl|rfl<;>decide+kernel)];ktn_no "no";ktn_no "meth";lk;refine aj.append hl2 hsz ?_;lk;exact kk #[_,J5 _,`k,LW.step e h2 (hkp.trans (k1.trans k2)) ha hca]
    ·have LX:pQ ch=[ch]:=by
      unfold pQ;rw[if_neg h10,if_neg (PJ hoc),if_neg Fj]
     have n34:¬(#[(List.toArray [ch])]:Str)=bI "\"":=λe=>Fj (.inl (by rw[show bI "\""=#[(List.toArray [34])] by decide+kernel] at e;simpa using e));have n92:¬(#[(List.toArray [ch])]:Str)=bI "\\":=λe=>Fj (.inr (by rw[show bI "\\"=#[(List.toArray [92])] by decide+kernel] at e;simpa using e));refine mW cc (ch:=ch) (r:=(esc todo++34::r)) (by have:=hcu;simp only[esc,C3,LX] at this;exact this) λH1 h1 k1=>?_;have hl1:H1 a=_:=k1.at hl hac;lk;refine aB.fJ ?_;rw[decide_eq_false n34];ktn_no "no";refine aB.fJ ?_;rw[decide_eq_false n92];ktn_no "no";ktn_no "meth";lk;refine aj.append hl1 hsz ?_;lk;exact kk #[_,J5 _,`k,LW.step e h1 (hkp.trans k1) ha hca]
end
section
variable{C:Cx}{n:Nat}{H:AH}{r c:Addr}{x:Str}{k:Int}{Q:AV->AH->Prop}
structure RR(H:AH)(r c:Addr)(x:Str)(k:Int)(rest:List Nat):Prop where
 ne:c≠r
 rd:∃dr,H r=some (.inst 748 dr [("cursor",.ref c),("lines",.int k)])
 cu:Cu H c x rest
theorem RR.keep{H':AH}{rest:List Nat}{S:List Addr}(h:RR H r c x k rest)(q:Kp S H H')(n1:r∉S)(n2:c∉S):RR H' r c x k rest:=#[h.ne,h.rd.imp λdr e=>q.at e n1,h.cu.keep q n2]
theorem RR.turn(h:RR H r c x k rest)(q:Kp [c] H H')(h':Cu H' c x rest'):RR H' r c x k rest':=#[h.ne,h.rd.imp λdr e=>q.at e (by simp;exact q9 h.ne),h']
theorem Kp.rc(q:Kp [c] H H'):Kp [r,c] H H':=q.mono (!λ_ h=>.tail _ h)
theorem iW(cc:CC C){y:Str}{rest:List Nat}(h:RR H r c x k (y.cps.toList++rest))(hy:y.length<=1000000)(hq:∀H',RR H' r c x k rest->Kp [r,c] H H'->Q .none H'):aj C (n+3) (.ref 666) [.ref r,.str y] H Q:=
 lP cc λF hf hn hk=>by
  refine xE h.rd λdr e0=>?_;refine sH h.cu.e λZ Z e1=>?_;refine aG.cons ?_;lk;ktn_no "meth";lk;refine nZ cc h.cu hy λH1 h1 k1=>?_;ktn_no "no";exact hq _ (h.turn k1 h1) k1.rc
theorem jL(cc:CC C)(h:RR H r c x k (10::rest))(hq:∀H',RR H' r c x (k+1) rest->Kp [r,c] H H'->Q .none H'):aj C (n+4) (.ref 680) [.ref r] H Q:=
 iT cc λF hf hn hk=>by
  refine xE h.rd λdr e0=>?_;refine aG.cons ?_;lk;ktn_no "meth";lk;refine iW cc (y:=bI "\n") (rest:=rest) h `d λH1 h1 k1=>?_;refine xE h1.rd λFl e1=>?_;lk;refine aB.bL ?_;lk;refine#[_,_,_,_,_,rfl,e1,`st,!b7 rfl,`fput,?_];lk;exact hq _ #[h1.ne,#[Fl,AH.aq _ _ _],h1.cu.keep (S:=[r]) (Kp.mem (!.head _)) (by simp;exact h1.ne)] (k1.late (.inr (!.head _)))
theorem Hh(cc:CC C)(h:RR H r c x k (y.cps.toList++10::rest))(hy:y.length<=1000000)(hq:∀H',RR H' r c x (k+1) rest->Kp [r,c] H H'->Q .none H'):aj C (n+5) (.ref 673) [.ref r,.str y] H Q:=
 lQ cc λF hf hn hk=>by
  refine xE h.rd λdr e0=>?_;refine aG.cons ?_;lk;ktn_no "meth";lk;refine iW cc h hy λH1 h1 k1=>?_;refine xE h1.rd λFl e1=>?_;lk;ktn_no "meth";refine jL cc h1 λH2 h2 k2=>?_;lk;exact hq _ h2 (k1.trans k2)
theorem mX(cc:CC C){i:Int}{rest:List Nat}(hi:i.natAbs<10 ^ 10)(hs:Stop rest)(h:RR H r c x k (num i++rest))(hq:∀H',RR H' r c x k rest->Kp [r,c] H H'->Q (.int i) H'):aj C (n+3) (.ref 687) [.ref r] H Q:=
 kJ cc λF hf hn hk=>by
  refine xE h.rd λdr e0=>?_;refine sH h.cu.e λZ Z e1=>?_;have fig:("0123456789":Str).cps.toList=[48,49,50,51,52,53,54,55,56,57]:=by decide+kernel
  have fin:∀(m:Nat) (H1:AH) (Q:AV->AH->Prop),m<10 ^ 10->Cu H1 c x (num m++rest)->(∀H',Cu H' c x rest->Kp [c] H1 H'->Q (.str (bI (toString (m:Int)))) H')->aj C (n+2) (.ref 167) [.ref c,.str "0123456789"] H1 Q:=by
   intro m H1 Q hm h1 hq;refine afz cc h1 `d (λch hch=>?_) (λch hch hc=>?_) λH2 h2 k2=>?_
   ·have:=fj hch;rw[fig];simp;exact NJ this
   ·refine hs ch hch ?_;rw[fig] at hc;simp at hc;exact Vr hc
   ·have:(#[(num m).toArray]:Str)=bI (toString (m:Int)):=fM (!rfl);rw[this];exact hq _ h2 k2
  have RI:∀m:Nat,m<10 ^ 10->(bI (toString (m:Int))).length<=10:=λm hm=>iU hm;have wne:∀m:Nat,¬bI (toString (m:Int))=bI "":=λm e=>by
   have:=congrArg (λz:Str=>z.cps.toList) e;exact uY m (this.trans `d)
  refine aG.cons ?_;lk;ktn_no "meth";lk;by_cases h0:i<0
  ·obtain⟨m,rfl⟩:∃m:Nat,i=-(m:Int):=#[i.natAbs,!JT h0];rw[fW (!JU h0)] at h;refine nZ cc (y:=bI "-") (r:=num m++rest) h.cu `d λH1 h1 k1=>?_;ktn_no "yes";refine kY.fC ?_;have Ui:=h.turn k1 h1;refine xE Ui.rd λFl e1=>?_;refine sH h1.e λZ Z e2=>?_;lk;ktn_no "meth";lk;refine fin m H1 _ (!JV hi) h1 λH2 h2 k2=>?_;lk;refine aB.fJ ?_;rw[decide_eq_false (wne m)];ktn_no "no";have:=RI m (!JV hi);refine aj.yf (!NK this) ?_;lk;refine aB.uJ (!NL this) ?_;ktn_no "no";refine aj.QO (!bN) (acY hi) ?_;refine aB.Lj (IntMulOk.of_left `d) ?_;lk;rw[show(-1:Int)*(m:Int)=-(m:Int) by exact Vt];exact hq _ (Ui.turn k2 h2) (k1.trans k2).rc
  ·obtain⟨m,rfl⟩:∃m:Nat,i=(m:Int):=#[i.natAbs,!JW h0];refine jK cc (y:=bI "-") (r:=num m++rest) h.cu `d (λhp=>?_) ?_
   ·rw[show("-":Str).cps.toList=[45] by decide+kernel] at hp;refine xE hp λt ht=>?_;cases hm:num m with
    |nil=>exact uY m hm
    |cons a l=>
     rw[hm] at ht;have:=fj (m:=m) (c:=a) (by rw[hm];simp);simp at ht;exact acv ht.1 this.1
   ktn_no "no";ktn_no "meth";lk;refine fin m H _ (!JX hi) h.cu λH2 h2 k2=>?_;lk;refine aB.fJ ?_;rw[decide_eq_false (wne m)];ktn_no "no";have:=RI m (!JX hi);refine aj.yf (!NK this) ?_;lk;refine aB.uJ (!NL this) ?_;ktn_no "no";refine aj.QO (!bN) (acZ hi) ?_;refine aB.Lj (IntMulOk.of_left `d) ?_;lk;rw[show(1:Int)*(m:Int)=(m:Int) by exact Vu];exact hq _ (h.turn k2 h2) k2.rc
end
section
variable{C:Cx}{n:Nat}{H:AH}{r c:Addr}{x:Str}{k:Int}{Q:AV->AH->Prop}
theorem RJ:("0123456789":Str).cps.toList=[48,49,50,51,52,53,54,55,56,57]:=by decide+kernel
theorem yN{a b:Nat}{l:List Nat}{y:Str}(hy:y.cps.toList=[a])(h:b≠a):¬y.cps.toList<+:b::l:=by
 rw[hy];rintro⟨t,ht⟩;simp at ht;exact h ht.1.symm
theorem wN(i:Int):∃a t,num i=a::t/\(a=45\/(48<=a/\a<=57)):=by
 by_cases h0:i<0
 ·obtain⟨m,rfl⟩:∃m:Nat,i=-(m:Int):=#[i.natAbs,!JT h0];exact#[45,num m,fW (!JU h0),.inl rfl]
 ·obtain⟨m,rfl⟩:∃m:Nat,i=(m:Int):=#[i.natAbs,!JW h0];cases hm:num m with
  |nil=>exact absurd hm (uY m)
  |cons a t=>exact#[a,t,rfl,.inr (fj (m:=m) (by rw[hm];simp))]
theorem Hi(h:Pu d u):∃a t,sh u=a::t/\a≠41/\a≠32/\a≠10:=by
 cases u with
 |none=>exact#[45,[],!rfl,`e]
 |int i=>
  refine lC (wN i) λa t e q=>?_;exact#[a,t,`a,!Vv q]
 |str s=>exact#[34,_,!rfl,`e]
 |tup l=>exact#[40,_,!rfl,`e]
 |bool b=>exact h.elim
 |ref b=>exact h.elim
 |ty b=>exact h.elim
 |bi b=>exact h.elim
theorem rC(h:¬(48<=a/\a<=57)):Stop (fq l++a::rest):=by
 cases l with
 |nil=>exact Stop.cons h
 |cons v l=>exact Stop.cons `e
theorem n_ (cc:CC C) {D:Int} {d:Nat} {u:AV} {rest:List Nat} {F:Fm} (hf:F.fn=true) (hk:F.env.scope.kind=.function) (hu:Pu d u) (hs:Stop rest) (h:RR H r c x k (sh u++rest))
 (hb:∀l H Q,u=.tup l->RR H r c x k (Bl l++41::rest)->(∀H',RR H' r c x k rest->Kp [r,c] H H'->Q (.tup l) H')->aj C (n+4) (.ref 702) [.ref r,.int (D+1)] H Q)
 (hq:∀H',RR H' r c x k rest->Kp [r,c] H H'->Q u H'):
 aG C (n+4) F (fB (mS 50 6)) [("self",.val (.ref r)),("depth",.val (.int D)),("found",.undef),("FIGURES",.glob)] H λo Z H'=>Q (eL o) H':=by
 refine xE h.rd λdr e0=>?_;refine sH h.cu.e λZ Z e1=>?_;have Uj:("\"":Str).cps.toList=[34]:=by decide+kernel
 have q40:("(":Str).cps.toList=[40]:=by decide+kernel
 refine aG.cons ?_;lk;ktn_no "meth";lk;cases u with
 |str s=>
  rw[RC] at h;refine nZ cc (y:=bI "\"") (r:=esc s.cps.toList++34::rest) (by simpa [Uj] using h.cu) `d λH1 h1 k1=>?_;have g1:=h.turn k1 h1;refine xE g1.rd λFl e2=>?_;refine sH h1.e λZ Z e3=>?_;ktn_no "yes";ktn_no "meth";lk;refine Hg cc hu h1 λH2 h2 k2=>?_;lk;refine aB.Fi ?_;ktn_no "no";exact hq _ (g1.turn k2 h2) (k1.trans k2).rc
 |tup l=>
  rw[LU] at h;refine jK cc h.cu `d (yN Uj `e) ?_;ktn_no "no";ktn_no "meth";lk;refine nZ cc (y:=bI "(") (r:=Bl l++41::rest) (by simpa [q40] using h.cu) `d λH1 h1 k1=>?_;have g1:=h.turn k1 h1;refine xE g1.rd λFl e2=>?_;ktn_no "yes";ktn_no "meth";lk;refine aB.bL ?_;lk;exact hb l _ _ rfl g1 λH2 h2 k2=>hq _ h2 (k1.rc.trans k2)
 |none=>
  refine jK cc h.cu `d (yN Uj `e) ?_;ktn_no "no";ktn_no "meth";lk;refine jK cc h.cu `d (yN q40 `e) ?_;ktn_no "no";ktn_no "meth";refine uZ cc h.cu ?_;lk;refine aB.fJ ?_;ktn_no "yes";ktn_no "meth";lk;have fin:∀H':AH,Cu H' c x rest->Kp [c] H H'->Q .none H':=λH' h' k'=>hq _ (h.turn k' h') k'.rc;cases rest with
  |nil=>
   refine rB cc (r:=[]) h.cu ?_;lk;refine aB.fJ ?_;ktn_no "yes";ktn_no "meth";refine mW cc h.cu λH1 h1 k1=>?_;lk;exact fin _ h1 k1
  |cons a rest=>
   by_cases hd:(#[(List.toArray [a])]:Str)=bI ""
   ·exact absurd (show 1=("":Str).cps.size from congrArg (λz:Str=>z.cps.size) hd) `d
   ·refine rB cc (r:=a::rest) h.cu ?_;lk;refine aB.fJ ?_;rw[show(hdS (a::rest))=#[(List.toArray [a])] from rfl,decide_eq_false hd];ktn_no "no";ktn_no "meth";lk;refine rB cc (r:=a::rest) h.cu ?_;rw[show(hdS (a::rest))=#[(List.toArray [a])] from rfl];lk;refine aB.RB ?_;have hna:=hs a rfl;rw[decide_eq_false (by rw[RJ];simp;exact Vw hna)];ktn_no "yes";ktn_no "meth";refine mW cc h.cu λH1 h1 k1=>?_;lk;exact fin _ h1 k1
 |int i=>
  rw[RD] at h;have h':=h;refine lC (wN i) λa t e qa=>?_;rw[e] at h;refine jK cc h.cu `d (yN Uj (!Vx qa)) ?_;ktn_no "no";ktn_no "meth";lk;refine jK cc h.cu `d (yN q40 (!Vy qa)) ?_;ktn_no "no";ktn_no "meth";refine uZ cc h.cu ?_;lk;refine aB.fJ ?_;by_cases h0:i<0
  ·obtain⟨m,rfl⟩:∃m:Nat,i=-(m:Int):=#[i.natAbs,!JT h0];rw[fW (!JU h0)] at e;injection e with Qc e2'
   subst Qc;cases hm:num m with
   |nil=>exact absurd hm (uY m)
   |cons b t'=>
    have hbd:=fj (m:=m) (c:=b) (by rw[hm];simp);rw[<-e2',hm] at h;have hd:¬(#[(List.toArray [b])]:Str)=bI "":=λq=>absurd (show 1=("":Str).cps.size from congrArg (λz:Str=>z.cps.size) q) `d;ktn_no "yes";ktn_no "meth";lk;refine rB cc (r:=b::t'++rest) h.cu ?_;lk;refine aB.fJ ?_;rw[show(hdS (b::t'++rest))=#[(List.toArray [b])] from rfl,decide_eq_false hd];ktn_no "no";ktn_no "meth";lk;refine rB cc (r:=b::t'++rest) h.cu ?_;rw[show(hdS (b::t'++rest))=#[(List.toArray [b])] from rfl];lk;refine aB.RB ?_;rw[decide_eq_true (by rw[RJ];simp;exact NJ hbd)];ktn_no "no";ktn_no "meth";exact mX cc hu hs h' hq
  ·obtain⟨m,rfl⟩:∃m:Nat,i=(m:Int):=#[i.natAbs,!JW h0];have hbd:=fj (m:=m) (c:=a) (by rw[e];simp);have hd:¬(#[(List.toArray [a])]:Str)=bI "-":=λq=>by
    rw[show bI "-"=#[(List.toArray [45])] by decide+kernel] at q;simp at q;exact Vz hbd q
   rw[decide_eq_false hd];ktn_no "no";ktn_no "meth";exact mX cc hu hs h' hq
 |bool b=>exact hu.elim
 |ref b=>exact hu.elim
 |ty b=>exact hu.elim
 |bi b=>exact hu.elim
end
section
variable{C:Cx}{n:Nat}{H:AH}{r c:Addr}{x:Str}{k:Int}{Q:AV->AH->Prop}
theorem RR.nr(h:RR H r c x k rest)(ha:H a=some (.list vs)):a∉[r,c]:=by
 refine xE h.rd λdr e0=>?_;refine sH h.cu.e λZ Z e1=>?_;intro q;rcases l9.mp q with rfl|q
 ·exact aoN (E1 (G0 (ha)) e0) rfl
 ·rw[j0.mp q,e1] at ha;cases ha
theorem RR.nn(h:RR H r c x k rest)(ha:H a=b6):a∉[r,c]:=by
 refine xE h.rd λdr e0=>?_;refine sH h.cu.e λZ Z e1=>?_;intro q;rcases l9.mp q with rfl|q
 ·exact gc (E1 (G0 (ha)) e0)
 ·rw[j0.mp q,e1] at ha;cases ha
theorem RR.set{rest:List Nat}{a:Addr}{o:AO}(h:RR H r c x k rest)(n:a∉[r,c]):RR (H.set a o) r c x k rest:=h.keep (S:=[a]) (Kp.mem (!.head _)) (by rintro q;simp at q;exact n (by simp[q])) (by rintro q;simp at q;exact n (by simp[q]))
theorem Cu.short(h:Cu H c x rest):rest.length<=1000000:=h.len
theorem gP:∀l:List AV,l.length<=(fq l).length
 |[]=>r7 _
 |v::l=>by rw[jg];have:=gP l;simp;exact VA this
structure DI(C:Cx)(L:Nat)(D:Int)(d:Nat):Prop where
 go:∀{H:AH} {r c:Addr} {x:Str} {k:Int} {Q:AV->AH->Prop} {u:AV} {rest:List Nat},Pu d u->Stop rest->RR H r c x k (sh u++rest)->(∀H',RR H' r c x k rest->Kp [r,c] H H'->Q u H')->aj C L (.ref 695) [.ref r,.int D] H Q
theorem rD(cc:CC C){D:Int}{d:Nat}(hD:D<=2)(it:DI C (n+4) D d){l:List AV}{rest:List Nat}(hu:pR d l)(h:RR H r c x k (Bl l++41::rest))(hq:∀H',RR H' r c x k rest->Kp [r,c] H H'->Q (.tup l) H'):aj C (n+5) (.ref 702) [.ref r,.int D] H Q:=
 jm cc λF hf hn hk=>by
  refine xE h.rd λdr e0=>?_;refine sH h.cu.e λZ Z e1=>?_;have q41:(")":Str).cps.toList=[41]:=by decide+kernel
  refine aG.cons ?_;lk;refine aB.uJ (!VB hD) ?_;lk;refine#[sz rfl,λa ha=>?_];have hna:=h.nn ha;have h0:=h.set (o:=.list []) hna;refine xE h0.rd λdr0 e2=>?_;refine sH h0.cu.e λZ Z e3=>?_;lk;ktn_no "meth";lk;cases l with
  |nil=>
   refine nZ cc (y:=bI ")") (r:=rest) h0.cu `d λH1 h1 k1=>?_;ktn_no "yes";refine#[sz rfl,?_];exact hq _ (h0.turn k1 h1) ((Kp.new ha).trans k1.rc)
  |cons v l=>
   refine xA hu λhv hl=>?_;refine KQ (Hi hv) λb t eb q1 q2 q3=>?_;have hs0:=h0.cu.short;rw[Ji] at h h0 hs0;refine jK cc h0.cu `d (by rw[eb];exact yN q41 q1) ?_;ktn_no "no";ktn_no "meth";lk;ktn_no "meth";lk;refine it.go (rest:=fq l++41::rest) hv (rC `e) (by rw[<-x8];exact h0) λH1 h1 k1=>?_;have hl1:H1 a=_:=k1.at (AH.aq _ _ _) hna;lk;refine aj.append hl1 (!s8 _) ?_;have Ui:=h1.set (o:=.list ([]++[v])) hna;lk;refine Ex.nO (λm ρ' H'=>Gz λdone todo=>An7 (v::l=done++todo) (pR d todo) (m=todo.length) (ρ'=([("self",.val (.ref r)),("depth",.val (.int D)),("found",.val (.ref a)),("MOST_DEPTH",.glob),("tuple",.glob)]:Loc)) (RR H' r c x k (fq todo++41::rest)) (Kp [r,c] H H') (H' a=some (.list done))) l.length #[[v],l,rfl,hl,rfl,rfl,Ui,((Kp.new ha).trans k1).late (.inl ha),AH.aq _ _ _] ?_;rintro m ρ' H' ⟨done,todo,hdt,hpu,rfl,rfl,hr,hkp,hla⟩;have hdl:done.length<=1000000:=by
    have:=gP l;have:=congrArg List.length hdt;simp at this hs0;exact acw this hs0 `a
   refine xE hr.rd λUk e4=>?_;refine sH hr.cu.e λZ Z e5=>?_;lk;ktn_no "meth";lk;cases todo with
   |nil=>
    refine nZ cc (y:=bI ")") (r:=rest) hr.cu `d λH2 h2 k2=>?_;ktn_no "no";refine aj.tuple (vs:=done) (k2.rc.at hla hna) hdl ?_;rw[v7] at hdt;rw[hdt] at hq;exact hq _ (hr.turn k2 h2) (hkp.trans k2.rc)
   |cons w todo=>
    refine xA hpu λhw hpu=>?_;rw[jg] at hr;refine jK cc hr.cu `d (yN q41 `e) ?_;ktn_no "yes";ktn_no "meth";lk;refine iW cc (y:=bI " ") (rest:=(sh w++fq todo)++41::rest) hr `d λH2 h2 k2=>?_;have hl2:H2 a=_:=k2.at hla hna;refine xE h2.rd λdr4 e6=>?_;lk;ktn_no "meth";lk;ktn_no "meth";lk;refine it.go (rest:=fq todo++41::rest) hw (rC `e) (by rw[<-x8];exact h2) λH3 h3 k3=>?_;have hl3:H3 a=_:=k3.at hl2 hna;lk;refine aj.append hl3 hdl ?_;lk;exact#[todo.length,!r7 _,done++[w],todo,by rw[hdt];simp,hpu,rfl,rfl,h3.set hna,((hkp.trans k2).trans k3).late (.inl ha),AH.aq _ _ _]
theorem DJ(cc:CC C)(d:Nat):∀(D:Int) (n:Nat),D+d=2->DI C (n+(2*d+5)) D d:=by
 induction d with
 |zero=>
  intro D n hD;refine#[λ{H r c x k Q u rest} hu hs h hq=>?_];exact fE cc λF hf hn hk=>n_ cc hf hk hu hs h (λl H Q e=>by subst e;exact hu.elim) hq
 |succ d ih=>
  intro D n hD;refine#[λ{H r c x k Q u rest} hu hs h hq=>?_];exact(fE (n:=(n+2*d+2)+4) cc λF hf hn hk=>n_ cc hf hk hu hs h (λl H Q e h1 hq'=>by
   subst e;exact rD (n:=n+2*d+1) cc (D:=D+1) (d:=d) (!VC hD) (ih (D+1) n (!VD hD)) (hu) h1 hq') hq).le (!VE)
theorem RK(cc:CC C){u:AV}{rest:List Nat}(hu:Pu 2 u)(hs:Stop rest)(h:RR H r c x k (sh u++rest))(hq:∀H',RR H' r c x k rest->Kp [r,c] H H'->Q u H'):aj C (n+9) (.ref 695) [.ref r] H Q:=
 (jG (n:=(n+4)+4) cc λF hf hn hk=>n_ (D:=0) cc hf hk hu hs h (λl H Q e h1 hq'=>by
  subst e;exact rD (n:=n+3) cc (D:=0+1) (d:=1) `e (DJ cc 1 (0+1) n (!rfl)) (hu) h1 hq') hq)
noncomputable def bG(w:List Nat)(l:List AV):List Nat:=w++32::(num l.length++58::(fq l++[10]))
theorem rE(cc:CC C)(hw:w.length<=100)(hu:pR 2 l)(h:RR H r c x k (bG w.cps.toList l++rest))(hq:∀a H',H a=b6->H' a=some (.list l)->RR H' r c x (k+1) rest->Kp [r,c] H H'->Q (.ref a) H'):aj C (n+10) (.ref 709) [.ref r,.str w] H Q:=
 kK cc λF hf hn hk=>by
  have hs0:=h.cu.short;have vJ:l.length<=1000000:=by
   have:=gP l;unfold bG at hs0;simp at hs0;exact JY hs0 this
  refine xE h.rd λdr e0=>?_;refine aG.cons ?_;lk;ktn_no "meth";lk;refine aB.gX (VF hw `d) ?_;lk;refine iW cc (y:=w++bI " ") (rest:=num l.length++58::(fq l++10::rest)) (by
   unfold bG at h;rw[K0,K4,show(" ":Str).cps.toList=[32] by decide+kernel];simpa using h) (by rw[E0,show(" ":Str).length=1 by decide+kernel];exact VG hw) λH1 h1 k1=>?_
  refine xE h1.rd λFl e1=>?_;lk;ktn_no "meth";refine mX cc (i:=l.length) (!ac0 vJ) (Stop.cons `e) h1 λH2 h2 k2=>?_;refine xE h2.rd λdr2 e2=>?_;lk;ktn_no "meth";lk;refine iW cc (y:=bI ":") (rest:=fq l++10::rest) h2 `d λH3 h3 k3=>?_;lk;refine#[sz rfl,λa ha=>?_];have Ul:=(k1.trans k2).trans k3;have hna:a∉[r,c]:=h3.nn ha;have hfa:H a=b6:=by
   cases e:H a with
   |none=>rfl
   |some o=>have:=Ul a o hna e;rw[ha] at this;cases this
  lk;refine Ex.gY (aZ.range `get (aU cc) ?_ bu.name);lk;refine#[_,rfl,!qj,!Pw vJ,?_];refine#[λi ρ' H'=>Cc λu=>TU (LV.ok u) (ρ'=([("self",.val (.ref r)),("word",.val (.str w)),("many",.val (.int l.length)),("found",.val (.ref a)),("turn",u),("range",.glob)]:Loc)) (RR H' r c x k (fq (l.drop i)++10::rest)) (pR 2 (l.drop i)) (Kp [r,c] H H') (H' a=some (.list (l.take i))),#[.undef,trivial,rfl,h3.set hna,hu,Ul.late (.inl hfa),AH.aq _ _ _],λZ Z Z Z Z=>trivial,?_,?_]
  ·rintro i v ρ' H' hv ⟨u,RL,rfl,h4,tW,k4,Bm⟩;obtain⟨rfl,hi⟩:=bk hv;rw[j7] at hi;rw[Y0 hi] at h4 tW;refine xA tW λvK Bb=>?_;rw[jg] at h4;refine xE h4.rd λdr4 e4=>?_;refine b_.aT `get hf RL ?_;refine aG.cD `set ?_;lk;ktn_no "meth";lk;refine iW cc (y:=bI " ") (rest:=(sh l[i]++fq (l.drop (i+1)))++10::rest) h4 `d λH5 h5 k5=>?_;refine xE h5.rd λdr5 e5=>?_;have Um:=k5.at Bm hna;lk;ktn_no "meth";lk;ktn_no "meth";refine RK cc vK (rest:=fq (l.drop (i+1))++10::rest) (rC `e) (by rw[<-x8];exact h5) λH6 h6 k6=>?_;have hl6:=k6.at Um hna;lk;refine aj.append hl6 (by simp;exact VH vJ) ?_;lk;exact#[.val (.int i),c7,rfl,h6.set hna,Bb,((k4.trans k5).trans k6).late (.inl hfa),by rw[AH.aq,l7 hi]]
  ·rintro ρ' H' ⟨u,RL,rfl,h4,tW,k4,Bm⟩;rw[bx,j7] at h4 Bm;rw[List.drop_length] at h4;rw[z8] at Bm;refine xE h4.rd λdr4 e4=>?_;lk;ktn_no "meth";refine jL cc h4 λH5 h5 k5=>?_;lk;exact hq a _ hfa (k5.at Bm hna) h5 (k4.trans k5)
end
section
variable{C:Cx}{n:Nat}{H:AH}{r c:Addr}{x:Str}{k:Int}{Q:AV->AH->Prop}
noncomputable def oI:Option Int->AV
 |b6=>.none
 |some i=>.int i
theorem Ad(h:∀i∈ns,i.natAbs<10 ^ 10):pR d (ak ns):=by
 induction ns with
 |nil=>exact trivial
 |cons i ns ih=>exact#[!h i (!.head _),ih λj hj=>h j (!.tail _ `a)]
def Un(lo hi:Option Int)(i:Int):Prop:=(∀l,lo=some l->l<=i)/\(∀h,hi=some h->i<=h)
theorem iX (cc:CC C) {w:Str} {ns:List Int} {rest:List Nat} {lo hi many:Option Int} {F:Fm} (hf:F.fn=true) (hk:F.env.scope.kind=.function) (hw:w.length<=100) (hu:∀i∈ns,i.natAbs<10 ^ 10) (hb:∀i∈ns,Un lo hi i) (hm:∀m,many=some m->m=ns.length)
 (h:RR H r c x k (bG w.cps.toList (ak ns)++rest)) (hq:∀a H',H a=b6->H' a=some (.list (ak ns))->RR H' r c x (k+1) rest->Kp [r,c] H H'->Q (.ref a) H'):
 aG C (n+10) F (fB (mS 50 9)) [("self",.val (.ref r)),("word",.val (.str w)),("least",.val (oI lo)),("most",.val (oI hi)),("many",.val (oI many)),("found",.undef),("item",.undef),("is_out",.undef),("len",.glob),("isinstance",.glob),("int",.glob)] H λo Z H'=>Q (eL o) H':=by
 refine xE h.rd λdr e0=>?_;have vJ:(ak ns).length<=1000000:=by
  have hs0:=h.cu.short;have:=gP (ak ns);unfold bG at hs0;simp at hs0;exact JY hs0 this
 refine aG.cons ?_;ktn_no "ex";ktn_no "s";lk;ktn_no "meth";lk;refine rE cc hw (Ad hu) h λa H1 ha h1 g1 k1=>?_;refine aG.cD `set ?_;refine aG.cut (λρ' H'=>ρ'=([("self",.val (.ref r)),("word",.val (.str w)),("least",.val (oI lo)),("most",.val (oI hi)),("many",.val (oI many)),("found",.val (.ref a)),("item",.undef),("is_out",.undef),("len",.glob),("isinstance",.glob),("int",.glob)]:Loc)/\H'=H1) ?_ ?_
 ·lk;refine aB.Lm ?_;cases many with
  |none=>
   ktn_no "no";exact#[rfl,rfl,rfl]
  |some m=>
   ktn_no "yes";refine aj.bM h1 vJ ?_;lk;refine aB.iQ (by rw[hm m rfl];simp[ak]) ?_;ktn_no "no";exact#[rfl,rfl,rfl]
 ·rintro _ H1 ⟨rfl,rfl⟩;refine aG.cons ?_;refine Ex.gY (aZ.list ?_ bu.name);lk;refine#[a,_,rfl,h1,?_];refine#[λi ρ' H'=>Gz λu v=>C_ (LV.ok u) (LV.ok v) (H'=H1) (ρ'=([("self",.val (.ref r)),("word",.val (.str w)),("least",.val (oI lo)),("most",.val (oI hi)),("many",.val (oI many)),("found",.val (.ref a)),("item",u),("is_out",v),("len",.glob),("isinstance",.glob),("int",.glob)]:Loc)),#[.undef,.undef,c7,c7,rfl,rfl],?_,?_,?_]
  ·rintro _ _ _ _ ⟨_,_,_,_,rfl,_⟩;exact h1
  ·rintro i v ρ' H' hv ⟨u1,u2,hu1,Cd,rfl,rfl⟩;obtain⟨j,hj,rfl⟩:∃j∈ns,v=.int j:=by
    refine bz (m5.mp (j8 hv)) λj hj e=>?_;exact#[j,hj,e.symm]
   refine xA (hb j hj) λb1 b2=>?_;refine b_.aT `get hf hu1 ?_;refine aG.cD `set ?_;refine aG.cons ?_;refine Ex.qG `get `a `a ?_;refine Ev.known (.bool false) ?_ ?_
   ·lk;refine aj.Cb (by simp) (by simp) (!MV) (!.inl rfl) ?_;refine kY.ael ?_;refine#[_,rfl,?_];refine wL q8 ?_;lk;refine aB.Lm ?_;refine#[_,rfl,?_];cases lo with
    |none=>ktn_no "no";exact#[rfl,rfl]
    |some l=>
     ktn_no "yes";refine aB.ltI ?_;rw[decide_eq_false (by have:=b1 l rfl;exact JZ this)];exact#[rfl,rfl]
   ·lk;ktn_no "no";refine aB.Lm ?_;refine#[_,rfl,?_];cases hi with
    |none=>
     ktn_no "no";exact#[.val (.int j),.val (.bool false),c7,c7,rfl,rfl]
    |some l=>
     ktn_no "yes";refine aB.uJ (by have:=b2 l rfl;exact JZ this) ?_;ktn_no "no";exact#[.val (.int j),.val (.bool false),c7,c7,rfl,rfl]
  ·rintro ρ' H' ⟨u1,u2,hu1,Cd,rfl,rfl⟩;lk;exact hq a _ ha h1 g1 k1
end
section
variable{C:Cx}{n:Nat}{H:AH}{r c:Addr}{x:Str}{k:Int}{Q:AV->AH->Prop}
theorem rF (cc:CC C) (hw:w.length<=100) (hu:∀i∈ns,i.natAbs<10 ^ 10)
 (h:RR H r c x k (bG w.cps.toList (ak ns)++rest)) (hq:∀a H',H a=b6->H' a=some (.list (ak ns))->RR H' r c x (k+1) rest->Kp [r,c] H H'->Q (.ref a) H'):aj C (n+11) (.ref 717) [.ref r,.str w] H Q:=
 iy cc λF hf hn hk=>iX (lo:=b6) (hi:=b6) (many:=b6) cc hf hk hw hu (λZ Z=>#[(λZ e=>nomatch e),(λZ e=>nomatch e)]) (λZ e=>nomatch e) h hq
theorem rH (cc:CC C) {w:Str} {ns:List Int} {lo hi:Option Int} {v2 v3:AV} {rest:List Nat} (e2:v2=oI lo) (e3:v3=oI hi) (hw:w.length<=100) (hu:∀i∈ns,i.natAbs<10 ^ 10) (hb:∀i∈ns,Un lo hi i)
 (h:RR H r c x k (bG w.cps.toList (ak ns)++rest)) (hq:∀a H',H a=b6->H' a=some (.list (ak ns))->RR H' r c x (k+1) rest->Kp [r,c] H H'->Q (.ref a) H'):aj C (n+11) (.ref 717) [.ref r,.str w,v2,v3] H Q:=by
 subst e2 e3;exact iz cc λF hf hn hk=>iX (many:=b6) cc hf hk hw hu hb (λZ e=>nomatch e) h hq
theorem jM (cc:CC C) {w:Str} {ns:List Int} {lo hi many:Option Int} {v2 v3 v4:AV} {rest:List Nat} (e2:v2=oI lo) (e3:v3=oI hi) (e4:v4=oI many) (hw:w.length<=100) (hu:∀i∈ns,i.natAbs<10 ^ 10) (hb:∀i∈ns,Un lo hi i) (hm:∀m,many=some m->m=ns.length)
 (h:RR H r c x k (bG w.cps.toList (ak ns)++rest)) (hq:∀a H',H a=b6->H' a=some (.list (ak ns))->RR H' r c x (k+1) rest->Kp [r,c] H H'->Q (.ref a) H'):aj C (n+11) (.ref 717) [.ref r,.str w,v2,v3,v4] H Q:=by
 subst e2 e3 e4;exact iA cc λF hf hn hk=>iX cc hf hk hw hu hb hm h hq
theorem LY (cc:CC C) {w:Str} {i l m:Int} {rest:List Nat} (hw:w.length<=100) (hu:i.natAbs<10 ^ 10) (hl:l<=i) (hm:i<=m)
 (h:RR H r c x k (bG w.cps.toList [.int i]++rest)) (hq:∀H',RR H' r c x (k+1) rest->Kp [r,c] H H'->Q (.int i) H'):aj C (n+12) (.ref 724) [.ref r,.str w,.int l,.int m] H Q:=
 mR cc λF hf hn hk=>by
  refine xE h.rd λdr e0=>?_;refine aG.cons ?_;lk;ktn_no "meth";lk;refine jM (ns:=[i]) (lo:=some l) (hi:=some m) (many:=some 1) cc rfl rfl rfl hw (by simpa using hu) (λj hj=>?_) (λm e=>by cases e;rfl) h λa H1 ha h1 g1 k1=>?_
  ·simp at hj;subst hj;exact#[λZ e=>by cases e;exact hl,λZ e=>by cases e;exact hm]
  ·lk;refine aF.list (λZ Z=>rfl) h1 `e (v:=.int i) rfl (!n8 _) ?_;exact hq _ g1 k1
theorem Ae(h:∀y∈ys,∀ch∈y.cps.toList,Ab ch):pR d (aC ys):=by
 induction ys with
 |nil=>exact trivial
 |cons i ns ih=>exact#[!h i (!.head _),ih λj hj=>h j (!.tail _ `a)]
theorem jN(h:∀ch∈y.cps.toList,Ab ch):F5 y=true:=by
 unfold F5;rw[Array.all_eq_true'];intro ch hch;have:=h ch (by simpa using hch);rcases this with h|h<;>simp<;>omega
theorem iD:nK C H (aC ys) (ys.map M3):=by
 induction ys with
 |nil=>exact .nil
 |cons y ys ih=>exact .cons (.str y) ih
theorem jO{ys:List Str}(h:∀y∈ys,F5 y=true):r8 (ys.map M3)=true:=by
 induction ys with
 |nil=>rfl
 |cons y ys ih=>
  rw[q7,r8,C8,h y (!.head _),ih λj hj=>h j (!.tail _ `a)];rfl
theorem DL (cc:CC C) {w:Str} {ys:List Str} {rest:List Nat} (hw:w.length<=100) (hu:∀y∈ys,∀ch∈y.cps.toList,Ab ch) (hd:ys.Nodup)
 (h:RR H r c x k (bG w.cps.toList (aC ys)++rest)) (hq:∀a H',H a=b6->H' a=some (.list (aC ys))->RR H' r c x (k+1) rest->Kp [r,c] H H'->Q (.ref a) H'):aj C (n+11) (.ref 731) [.ref r,.str w] H Q:=
 kL cc λF hf hn hk=>by
  refine xE h.rd λdr e0=>?_;have vJ:(aC ys).length<=1000000:=by
   have hs0:=h.cu.short;have:=gP (aC ys);unfold bG at hs0;simp at hs0;exact JY hs0 this
  have hly:(aC ys).length=ys.length:=by simp[aC]
  refine aG.cons ?_;ktn_no "ex";ktn_no "s";lk;ktn_no "meth";lk;refine rE cc hw (Ae hu) h λa H1 ha h1 g1 k1=>?_;refine aG.cD `set ?_;refine aG.cons ?_;refine Ex.gY (aZ.range `get (aU cc) ?_ bu.name);lk;refine aj.bM h1 vJ ?_;refine#[_,rfl,!qj,!Pw vJ,?_];rw[hly,j7];refine#[λi ρ' H'=>Cc λu=>An3 (LV.ok u) (Kp [] H1 H') (ρ'=([("self",.val (.ref r)),("word",.val (.str w)),("found",.val (.ref a)),("at",u),("range",.glob),("len",.glob),("isinstance",.glob),("str",.glob)]:Loc)),#[.undef,trivial,Kp.refl,rfl],λZ Z Z Z Z=>trivial,?_,?_]
  ·rintro i v ρ' H' hv ⟨u,RL,k2,rfl⟩;obtain⟨rfl,hi⟩:=bk hv;have h2:=k2.aK h1;have hget:(aC ys)[((i:Nat):Int).toNat]? =some (.str ys[i]):=by
    rw[j7];simp[aC,b8 hi]
   refine b_.aT `get hf RL ?_;refine aG.cD `set ?_;lk;refine aF.list (λZ Z=>rfl) h2 (!bN) hget vJ ?_;lk;refine aj.Cb (by simp) (by simp) (!MU) (!.inr (.inl rfl)) ?_;ktn_no "no";refine aF.list (λZ Z=>rfl) h2 (!bN) hget vJ ?_;lk;refine#[a,_,i,rfl,rfl,h2,vJ,λb hb=>?_];have htk:(aC ys).take i=aC (ys.take i):=by simp[aC,Z6]
   refine aB.inL (.str _) (.list (AH.aq _ _ _) (htk▸iD)) (by rw[C8];exact jN (hu _ (m6 hi))) (jO λy hy=>jN (hu _ (List.mem_of_mem_take hy))) (!s8 _) ?_;refine#[_,rfl,?_];rw[show((ys.take i).map M3).any (λy=>I7 y (M3 ys[i]))=false from by
    rw[U3];intro y hy;obtain⟨z,hz,rfl⟩:=m5.mp hy;rw[I7];refine TM hz λj hj ej=>?_;rw[Z0] at ej;have hji:j<i:=by rw[F3] at hj;exact NG hj
    have:z≠ys[i]:=λe=>by
     have hp:=x7.mp hd j i (!VI hji hi) hi hji;exact hp (ej.trans e)
    simpa using this]
   ktn_no "no";exact#[.val (.int i),c7,k2.late (.inl (by
    cases q:H1 b with
    |none=>rfl
    |some o=>have:=k2.aK q;rw[hb] at this;cases this)),rfl]
  ·rintro ρ' H' ⟨u,RL,k2,rfl⟩;lk;exact hq a _ ha (k2.aK h1) (g1.keep k2 (!m8) (!m8)) (k1.trans k2.any)
theorem finish_ok(cc:CC C)(hk:0<=k/\k<=1000)(h:RR H r c x k (("end ":Str).cps.toList++(num (k+1)++[10])))(hq:∀H',RR H' r c x (k+1) []->Kp [r,c] H H'->Q .none H'):aj C (n+11) (.ref 738) [.ref r] H Q:=
 jH cc λF hf hn hk'=>by
  refine xE h.rd λdr e0=>?_;refine aG.cons ?_;lk;ktn_no "meth";lk;refine iW cc (rest:=num (k+1)++[10]) h `d λH1 h1 k1=>?_;refine xE h1.rd λFl e1=>?_;lk;ktn_no "meth";refine mX cc (!ac1 hk.1 hk.2) (Stop.cons `e) h1 λH2 h2 k2=>?_;refine xE h2.rd λdr2 e2=>?_;lk;refine aB.bL ?_;refine aB.pH ?_;ktn_no "no";ktn_no "meth";refine jL cc h2 λH3 h3 k3=>?_;refine xE h3.rd λUk e3=>?_;refine sH h3.cu.e λZ Z e4=>?_;lk;ktn_no "meth";refine Jj cc h3.cu ?_;ktn_no "no";exact hq _ h3 ((k1.trans k2).trans k3)
theorem u_(cc:CC C)(h:RR H r c x k rest)(hq:Q .none H):aj C (n+11) (.ref 745) [.ref r,.str x] H Q:=
 iB cc λF hf hn hk'=>by
  refine xE h.rd λdr e0=>?_;refine sH h.cu.e λZ Z e1=>?_;refine aG.cons ?_;lk;refine aB.ae6 rfl ?_;lk;exact hq
end
section
variable{C:Cx}{n:Nat}{H:AH}{Q:AV->AH->Prop}
theorem Hj(cc:CC C)(ho:Ab ch)(hq:Q (.str #[(pQ ch).toArray]) H):aj C (n+1) (.ref 252) [.str #[(List.toArray [ch])],.str "\""] H Q:=
 pK cc λF hf hn hk=>by
  have s1:bI "\n"=#[(List.toArray [10])]:=by decide+kernel
  have s2:bI "\t"=#[(List.toArray [9])]:=by decide+kernel
  have s3:bI "\""=#[(List.toArray [34])]:=by decide+kernel
  have s4:bI "\\"=#[(List.toArray [92])]:=by decide+kernel
  have s5:bI "\\n"=#[(List.toArray [92,110])]:=by decide+kernel
  refine aG.cons ?_;lk;refine aB.fJ ?_;refine#[_,rfl,?_];unfold pQ at hq;by_cases h10:ch=10
  ·subst h10;ktn_no "yes";exact hq
  ·rw[s1,decide_eq_false (by simpa using h10)];rw[if_neg h10] at hq;lk;refine aB.fJ ?_;have h9:ch≠9:=PJ ho;rw[s2,decide_eq_false (by simpa using h9)];rw[if_neg h9] at hq;ktn_no "no";refine aB.in1 ?_;refine#[_,rfl,?_];by_cases Fj:ch=34
   ·subst Fj;ktn_no "yes";refine aB.gX `d ?_;exact hq
   ·rw[decide_eq_false (!ne1 `a)];ktn_no "no";refine aB.fJ ?_;refine#[_,rfl,?_];by_cases h92:ch=92
    ·subst h92;ktn_no "yes";refine aB.gX `d ?_;exact hq
    ·rw[s4,decide_eq_false (by simpa using h92)];rw[if_neg (!VJ Fj h92)] at hq;lk;refine aj.ord ?_;lk;refine aB.GG (adS ho h10) ?_;lk;refine aB.uJ (adT ho) ?_;lk;exact hq
theorem Bo(f:Nat->List Nat)(l:List Nat):S5 "" (l.map λch=>(#[(f ch).toArray]:Str))=#[(l.flatMap f).toArray]:=by
 refine fM ?_;have e0:("":Str).cps.toList=[]:=by decide+kernel
 cases l with
 |nil=>exact by assumption
 |cons a l=>
  rw[q7,join_cons];simp only[e0,List.nil_append];simp;induction l with
  |nil=>rfl
  |cons b l ih=>exact congrArg _ `a
theorem DM(f:Nat->List Nat)(l:List Nat):((l.map λch=>(#[(f ch).toArray]:Str)).map (·.length)).sum=(l.flatMap f).length:=by
 induction l with
 |nil=>rfl
 |cons a l ih=>
  rw[q7,q7,O5,ih,C3,lG];simp[I2]
theorem yO(cc:CC C)(hx:(esc x.cps.toList).length<=100000)(ho:∀ch∈x.cps.toList,Ab ch)(hq:Q (.str #[(esc x.cps.toList).toArray]) H):aj C (n+2) (.ref 257) [.str x,.str "\""] H Q:=
 .forget <| yy cc λF hf hn hk=>by
  have hlen:=Ac x.cps.toList;refine aG.cons ?_;lk;ktn_no "meth";lk;refine Ev.bJ (λu=>[(".0",.undef),("sign",u),("escaped_sign",.glob),("end",.val (.str "\""))]) (aP.of hn rfl `d `d `k) `k (λZ Z=>`set) (λZ=>`get) (.inl `k) ?_;refine aZ.str ?_ bu.name;lk;refine#[x,rfl,?_,?_]
  ·rw[Array.all_eq_true'];intro ch hch;have:=ho ch (by simpa using hch);rcases this with h|h<;>simp<;>omega
  ·refine#[by simp[signs];simp at hlen;exact VK hlen hx,λk ys H'=>H'=H/\ys=aC ((x.cps.toList.take k).map λch=>#[(pQ ch).toArray]),#[rfl,rfl],λZ Z Z Z Z=>trivial,?_,?_]
   ·rintro F' cf k v ys H' hv ⟨rfl,rfl⟩;obtain⟨ch,hch,rfl⟩:∃ch,x.cps.toList[k]? =some ch/\v=.str ⟨(List.toArray [ch])⟩:=by
     simp only[signs,j9] at hv;cases e:x.cps.toList[k]? with
     |none=>rw[e] at hv;cases hv
     |some ch=>rw[e] at hv;cases hv;exact#[ch,rfl,rfl]
    refine kC.nil ?_;lk;refine Hj cc (ho ch (j8 hch)) ?_;refine#[rfl,?_];rw[iC];refine xE (c9.mp hch) λhk1 hk2=>?_;rw[l7 hk1,hk2];simp
   ·rintro a ys H' ⟨rfl,rfl⟩ ha;lk;refine aj.join (AH.aq _ _ _) ?_ ?_
    ·have e1:(signs x).length=x.cps.toList.length:=by simp[signs]
     rw[e1,z8,DM,show("":Str).length=0 by decide+kernel];show(esc x.cps.toList).length+_<=_;exact VL hx
    ·have e1:(signs x).length=x.cps.toList.length:=by simp[signs]
     rw[e1,z8,Bo];exact#[H',λb o e=>by rw[aA (AH.aJ ha e)];exact e,hq]
end
section
variable{C:Cx}{n:Nat}{H:AH}{Q:AV->AH->Prop}
theorem DN(f:AV->List Nat)(v:AV)(l:List AV):(S5 " " ((v::l).map λu=>(#[(f u).toArray]:Str))).cps.toList=f v++l.flatMap λu=>32::f u:=by
 rw[q7,join_cons];have e0:(" ":Str).cps.toList=[32]:=by decide+kernel
 rw[e0]
 congr 1
 induction l with
 |nil=>rfl
 |cons b l ih=>exact congrArg _ `a
theorem mY:∀l:List AV,fq l=l.flatMap λu=>32::sh u
 |[]=>by exact rfl
 |v::l=>by rw[jg,mY l];rfl
theorem wO(l:List AV):S5 " " (l.map λu=>(#[(sh u).toArray]:Str))=#[(Bl l).toArray]:=by
 refine fM ?_;cases l with
 |nil=>exact rfl
 |cons v l=>rw[DN,Ji,mY]
theorem yP(l:List AV):((l.map λu=>(#[(sh u).toArray]:Str)).map (·.length)).sum+l.length=(fq l).length:=by
 rw[mY];induction l with
 |nil=>rfl
 |cons a l ih=>
  rw[q7,q7,O5,C3,lG,<-ih];simp[I2];exact NO
theorem Af(l:List AV):(fq l).length<=(Bl l).length+1:=by
 cases l with
 |nil=>exact s8 _
 |cons v l=>exact r7 _
theorem Ag{l:List AV}{v:AV}(h:v∈l):(sh v).length<=(fq l).length:=by
 induction l with
 |nil=>cases h
 |cons u l ih=>
  rw[jg];rcases l9.mp h with rfl|h
  ·simp;exact VM
  ·have:=ih h;simp;exact VN this
theorem pR.mem{d:Nat}{l:List AV}{v:AV}(h:pR d l)(hv:v∈l):Pu d v:=by
 induction l with
 |nil=>cases hv
 |cons u l ih=>
  refine xA h λh1 h2=>?_;rcases l9.mp hv with rfl|hv
  ·exact h1
  ·exact ih h2 hv
structure yQ(C:Cx)(L:Nat)(d:Nat):Prop where
 go:∀{H:AH} {Q:AV->AH->Prop} {u:AV},Pu d u->(sh u).length<=50000->Q (.str #[(sh u).toArray]) H->aj C L (.ref 605) [u] H Q
noncomputable abbrev DO(gK:LV)(u:LV):Loc:=[(".0",.undef),("part",u),("show_item",.glob)]
theorem wQ(cc:CC C){d:Nat}{F:Fm}{l:List AV}(sa:yQ C n d)(hu:pR d l)(hs:(fq l).length<=50000){names:List (Str×NameKind)}{px p2 p3 p4:Pos}{r:LV->Loc}(hr:∀u,r u=DO u u):
 pZ C n F names (.Call (.Name "show_item" p2) [.Name "part" p3] [] p4) [] r l λk ys H'=>H'=H/\ys=aC ((l.take k).map λu=>#[(sh u).toArray]):=by
 rintro F' cf k v ys H' hv ⟨rfl,rfl⟩;refine kC.nil ?_;rw[hr];have hm:=j8 hv;lk;refine sa.go (hu.mem hm) (g9 (Ag hm) hs) ?_;refine#[rfl,?_];rw[iC];refine xE (c9.mp hv) λhk1 hk2=>?_;rw[l7 hk1,hk2];simp
theorem tX (cc:CC C) {d:Nat} {F:Fm} {u:AV} (hf:F.fn=true) (hk:F.env.scope.kind=.function) (hn:F.env.scope.names=p_ (tS 48))
 (hu:Pu d u) (hs:(sh u).length<=50000) (sa:∀l d',u=.tup l->d=d'+1->yQ C (n+2) d') (hq:Q (.str #[(sh u).toArray]) H):
 aG C (n+2) F (fB (tS 48)) [("value",.val u),("isinstance",.glob),("str",.glob),("escaped",.glob),("tuple",.glob),("list",.glob)] H λo Z H'=>∃H₂,(∀a o,H₂ a=some o->H' a=some o)/\Q (eL o) H₂:=by
 have s1:bI "-"=#[(List.toArray [45])]:=by decide+kernel
 have s2:bI "\""=#[(List.toArray [34])]:=by decide+kernel
 have s3:bI "("=#[(List.toArray [40])]:=by decide+kernel
 have s4:bI ")"=#[(List.toArray [41])]:=by decide+kernel
 refine aG.cons ?_;lk;refine aB.Fi ?_;cases u with
 |none=>
  ktn_no "yes";rw[s1];exact#[H,λZ Z e=>e,`a]
 |int i=>
  ktn_no "no";refine aj.Cb (by simp) (by simp) (!MV) (!.inr (.inl rfl)) ?_;ktn_no "no";refine#[sz rfl,?_];lk;refine aj.Gy (by simp) (by simp) (!MV) (!.inr (.inr (.inl rfl))) (!.inr (.inr (.inr rfl))) ?_;ktn_no "no";refine aj.fL (by
   exact I6 hu (u7 (show(10:Nat)^10<2^100 by exact b7 rfl) (R0 (!n8 _) (!b7 rfl)))) ?_
  have:(#[(num i).toArray]:Str)=bI (toString i):=fM (!rfl);exact#[H,λZ Z e=>e,`a]
 |str x=>
  rw[RC] at hs hq;simp at hs;ktn_no "no";refine aj.Cb (by simp) (by simp) (!MU) (!.inr (.inl rfl)) ?_;ktn_no "yes";refine yO cc (!VO hs) hu ?_;have l1:("\"":Str).length=1:=by decide+kernel
  refine aB.gX (by rw[l1];simp[I2];exact J_ hs) ?_;lk;refine aB.gX (by rw[E0,l1];simp[I2];exact Ka hs) ?_;have:bI "\""++(#[(esc x.cps.toList).toArray]:Str)++bI "\""=#[(34::(esc x.cps.toList++[34])).toArray]:=by
   refine fM ?_;rw[s2];simp[K0]
  rw[this];exact#[H,λZ Z e=>e,hq]
 |tup l=>
  obtain⟨d',rfl⟩:∃d',d=d'+1:=by
   cases d with
   |zero=>exact hu.elim
   |succ d=>exact#[d,rfl]
  rw[LU] at hs hq;simp at hs;have hlr:=Af l;have vJ:=gP l;have hsm:=yP l;ktn_no "no";refine aj.Cb (by simp) (by simp) (!TY) (!.inr (.inl rfl)) ?_;ktn_no "no";refine#[sz rfl,?_];lk;refine aj.Gy (by simp) (by simp) (!TY) (!.inr (.inr (.inl rfl))) (!.inr (.inr (.inr rfl))) ?_;ktn_no "yes";ktn_no "meth";lk;refine Ev.bJ (λu=>DO u u) (aP.of hn rfl `d `d `k) `k (λZ Z=>`set) (λZ=>`get) (.inl `k) ?_;refine aZ.tup ?_ bu.name;lk;refine#[l,rfl,!NP hsm hlr hs,_,?_,?_,wQ (H:=H) cc (sa l d' rfl rfl) hu (!NQ hlr hs) (px:=#[0,0,0,0]) (λZ=>rfl),?_]
  ·exact#[rfl,rfl]
  ·exact λZ Z Z Z Z=>trivial
  ·rintro a ys H' ⟨rfl,rfl⟩ ha;rw[z8];lk;refine aj.join (AH.aq _ _ _) (by
    rw[show(" ":Str).length=1 by decide+kernel,b9];exact NR hsm hlr hs) ?_
   rw[wO];have l1:("(":Str).length=1:=by decide+kernel
   have l2:(")":Str).length=1:=by decide+kernel
   refine aB.gX (by rw[l1];simp[I2];exact J_ hs) ?_;lk;refine aB.gX (by rw[E0,l1,l2];simp[I2];exact Ka hs) ?_;have:bI "("++(#[(Bl l).toArray]:Str)++bI ")"=#[(40::(Bl l++[41])).toArray]:=by
    refine fM ?_;rw[s3,s4];simp[K0]
   rw[this];exact#[H',λb o e=>by rw[aA (AH.aJ ha e)];exact e,hq]
 |bool b=>exact hu.elim
 |ref b=>exact hu.elim
 |ty b=>exact hu.elim
 |bi b=>exact hu.elim
theorem rI(cc:CC C):∀(d n:Nat),yQ C (n+d+3) d
 |0,n=>#[λhu hs hq=>.forget <| iS (n:=n+2) cc λF hf hn hk=>tX cc hf hk hn hu hs (λl d' e1 e2=>nomatch e2) hq]
 |d+1,n=>#[λhu hs hq=>.forget <| iS (n:=n+d+1+2) cc λF hf hn hk=>tX cc hf hk hn hu hs (λl d' e1 e2=>by
  cases e2;exact rI cc d n) hq]
end
section
variable{C:Cx}{n:Nat}{H:AH}{Q:AV->AH->Prop}
def Jk(H:AH)(v u:AV):Prop:=(v=u/\Pu 2 u)\/∃a vs,v=.ref a/\H a=some (.list vs)/\u=.tup vs/\pR 1 vs
noncomputable def fX(H:AH):List AV->List AV->Prop
 |[],[]=>True
 |v::vs,u::us=>Jk H v u/\fX H vs us
 |_,_=>False
theorem fX.ind{H:AH}{P:List AV->List AV->Prop}(z:P [] [])(s:∀{v u vs us},Jk H v u->fX H vs us->P vs us->P (v::vs) (u::us)){vs:List AV}:∀{us:List AV},fX H vs us->P vs us:=by
 induction vs with
 |nil=>exact λ{us}=>us.casesOn (λZ=>z) λZ Z h=>h.elim
 |cons v vs ih=>exact λ{us}=>us.casesOn (λh=>h.elim) λu us h=>s h.1 h.2 (ih h.2)
theorem fX.len{H:AH}{vs us:List AV}:fX H vs us->vs.length=us.length:=fX.ind (P:=λvs us=>vs.length=us.length) rfl λZ Z i=>congrArg (·+1) i
theorem fX.get{H:AH}{vs us:List AV}{k:Nat}{v:AV}(h:fX H vs us)(e:vs[k]? =some v):∃u,us[k]? =some u/\Jk H v u:=
 fX.ind (P:=λvs us=>∀k,vs[k]? =some v->∃u,us[k]? =some u/\Jk H v u) (λk e=>gc e) (λ{x u vs us} a Z i k=>k.casesOn (λe=>#[u,rfl,m9 e▸a]) λk e=>i k e) h k e
theorem fX.pure:pR 2 us->fX H us us:=by
 induction us with
 |nil=>exact λZ=>trivial
 |cons u us ih=>exact λh=>#[.inl #[rfl,h.1],ih h.2]
theorem Jk.sub(k:∀a vs,H a=some (.list vs)->H' a=some (.list vs))(h:Jk H v u):Jk H' v u:=by
 rcases h with h|⟨a,vs,e1,e2,e3⟩
 ·exact .inl h
 ·exact .inr #[a,vs,e1,k _ _ e2,e3]
theorem fX.sub{H H':AH}(k:∀a vs,H a=some (.list vs)->H' a=some (.list vs)){vs us:List AV}:fX H vs us->fX H' vs us:=fX.ind trivial λa Z i=>#[a.sub k,i]
theorem DP(cc:CC C)(h:Jk H v u)(hs:(sh u).length<=50000)(hq:Q (.str #[(sh u).toArray]) H):aj C (n+5) (.ref 605) [v] H Q:=by
 rcases h with⟨rfl,hu⟩|⟨a,l,rfl,ha,rfl,hu⟩
 ·exact(rI cc 2 n).go hu hs hq
 ·refine .forget <| iS (n:=n+4) cc λF hf hn hk=>?_
  have s3:bI "("=#[(List.toArray [40])]:=by decide+kernel
  have s4:bI ")"=#[(List.toArray [41])]:=by decide+kernel
  rw[LU] at hs hq;simp at hs;have hlr:=Af l;have vJ:=gP l;have hsm:=yP l;refine aG.cons ?_;lk;refine aB.Fi ?_;ktn_no "no";refine aj.aeU ha (!.inr (.inl rfl)) ?_;ktn_no "no";refine#[sz rfl,?_];lk;refine aj.QU ha (!.inr (.inr (.inl rfl))) (!.inr (.inr (.inr rfl))) ?_;ktn_no "yes";ktn_no "meth";lk;refine Ev.bJ (λu=>DO u u) (aP.of hn rfl `d `d `k) `k (λZ Z=>`set) (λZ=>`get) (.inl `k) ?_;refine aZ.list ?_ bu.name;lk;refine#[a,l,rfl,ha,!NP hsm hlr hs,_,?_,?_,wQ (H:=H) cc (rI cc 1 n) hu (!NQ hlr hs) (px:=#[0,0,0,0]) (λZ=>rfl),?_]
  ·exact#[rfl,rfl]
  ·rintro _ _ _ _ ⟨rfl,_⟩;exact ha
  ·rintro b ys H' ⟨rfl,rfl⟩ hb;rw[z8];lk;refine aj.join (AH.aq _ _ _) (by
    rw[show(" ":Str).length=1 by decide+kernel,b9];exact NR hsm hlr hs) ?_
   rw[wO];have l1:("(":Str).length=1:=by decide+kernel
   have l2:(")":Str).length=1:=by decide+kernel
   refine aB.gX (by rw[l1];simp[I2];exact J_ hs) ?_;lk;refine aB.gX (by rw[E0,l1,l2];simp[I2];exact Ka hs) ?_;have:bI "("++(#[(Bl l).toArray]:Str)++bI ")"=#[(40::(Bl l++[41])).toArray]:=by
    refine fM ?_;rw[s3,s4];simp[K0]
   rw[this];exact#[H',λb o e=>by rw[aA (AH.aJ hb e)];exact e,hq]
theorem strN{i:Int}(h:i.natAbs<=10 ^ 10)(hq:Q (.str (bI (toString i))) H):aj C n (.type "str") [.int i] H Q:=
 aj.fL (M1 h (u7 (show(10:Nat)^10<2^100 by exact b7 rfl) (R0 (!n8 _) (!b7 rfl)))) hq
def WR(H:AH)(w l:Addr)(ls:List Str):Prop:=(∃dw,H w=some (.inst 634 dw [("lines",.ref l)]))/\H l=some (.list (aC ls))
noncomputable def jP(w:List Nat)(l:List AV):List Nat:=w++32::(num l.length++58::fq l)
theorem DQ(w:List Nat)(l:List AV):bG w l=jP w l++[10]:=by simp[bG,jP]
theorem yR(w m:List Nat)(us:List AV):S5 " " ((#[w.toArray]:Str)::(#[m.toArray]:Str)::us.map λu=>(#[(sh u).toArray]:Str))=#[(w++32::(m++fq us)).toArray]:=by
 refine fM ?_;have e0:(" ":Str).cps.toList=[32]:=by decide+kernel
 rw[join_cons,e0,mY,C3];have:(us.map λu=>(#[(sh u).toArray]:Str)).flatMap (λz=>[32]++z.cps.toList)=us.flatMap λu=>32::sh u:=by
  induction us with
  |nil=>rfl
  |cons u us ih=>exact congrArg _ `a
 rw[this];simp
theorem LZ (cc:CC C) {w l a:Addr} {ls:List Str} {wd:Str} {vs us:List AV} (hw:WR H w l ls) (hl:ls.length<=1000) (hwd:wd.length<=100) (ha:H a=some (.list vs)) (hs:fX H vs us) (hz:(fq us).length<=50000)
 (hq:Q .none (H.set l (.list (aC (ls++[#[(jP wd.cps.toList us).toArray]]))))):aj C (n+6) (.ref 624) [.ref w,.str wd,.ref a] H Q:=
 .forget <| mQ cc λF hf hn hk=>by
  obtain⟨⟨dw,e0⟩,e1⟩:=hw;have vJ:=gP us;have hsm:=yP us;have hvl:=hs.len;refine aG.cons ?_;lk;ktn_no "meth";lk;ktn_no "meth";lk;refine aj.bM ha (!NS hsm hvl hz) ?_;lk;refine strN (!ac2 hsm hvl hz) ?_;have hnl:(bI (toString ((vs.length:Nat):Int))).length<=10:=iU (m:=vs.length) (!ac3 hsm hvl hz);have l1:(":":Str).length=1:=by decide+kernel
  have s1:bI ":"=#[(List.toArray [58])]:=by decide+kernel
  lk;refine aB.gX (by rw[l1];exact VP hnl) ?_;lk;refine#[sz rfl,λp hp=>?_];have hpl:l≠p:=AH.aJ hp e1;have hpa:a≠p:=AH.aJ hp ha;have hpw:w≠p:=AH.aJ hp e0;refine Ev.bJ (λu=>[(".0",.undef),("item",u),("show_item",.glob)]) (aP.of hn rfl `d `d `k) `k (λZ Z=>`set) (λZ=>`get) (.inl `k) ?_;refine aZ.list ?_ bu.name;lk;have hsub:∀a' vs',H a'=some (.list vs')->(H.set p (.list [.str wd,.str (bI (toString ((vs.length:Nat):Int))++bI ":")])) a'=some (.list vs'):=λa' vs' e=>by rw[aA (AH.aJ hp e)];exact e
  refine#[a,vs,rfl,hsub _ _ ha,!NS hsm hvl hz,λk ys H'=>H'=H.set p (.list [.str wd,.str (bI (toString ((vs.length:Nat):Int))++bI ":")])/\ys=aC ((us.take k).map λu=>#[(sh u).toArray]),#[rfl,rfl],?_,?_,?_]
  ·rintro _ _ _ _ ⟨rfl,_⟩;exact hsub _ _ ha
  ·rintro F' cf k v ys H' hv ⟨rfl,rfl⟩;refine bz (hs.get hv) λu hu hvu=>?_;have hm:=j8 hu;refine kC.nil ?_;lk;refine DP cc (hvu.sub hsub) (g9 (Ag hm) hz) ?_;refine#[rfl,?_];rw[iC];refine xE (c9.mp hu) λhk1 hk2=>?_;rw[l7 hk1,hk2];simp
  ·rintro b ys H' ⟨rfl,rfl⟩ hb;rw[show us.take vs.length=us from by rw[hvl,z8]];have hbp:p≠b:=AH.aJ hb (AH.aq _ _ _);refine aB.Ls (vs:=[.str wd,.str (bI (toString ((vs.length:Nat):Int))++bI ":")]) (by rw[aA hbp,AH.aq]) (AH.aq _ _ _) (by simp[aC];exact VQ hsm hz) λq hq'=>?_;have hqb:=AH.aJ hq' (AH.aq _ _ _);lk;have ewd:(#[(wd.cps.toList).toArray]:Str)=wd:=fM (by simp);have enm:(#[(num vs.length++[58]).toArray]:Str)=bI (toString ((vs.length:Nat):Int))++bI ":":=fM (by rw[K0,K4,s1];simp[num]);have eap:[AV.str wd,AV.str (bI (toString ((vs.length:Nat):Int))++bI ":")]++aC (us.map λu=>(#[(sh u).toArray]:Str))=aC ((#[(wd.cps.toList).toArray]:Str)::(#[(num vs.length++[58]).toArray]:Str)::us.map λu=>(#[(sh u).toArray]:Str)):=by
    rw[ewd,enm];simp[aC]
   rw[eap];refine aj.join (AH.aq _ _ _) (by
    rw[show(" ":Str).length=1 by decide+kernel];rw[q7,q7,O5,O5,x9,x9,b9,ewd,enm,E0,l1];exact VR hsm hwd hnl hz) ?_
   rw[yR];lk;have hl3:l≠q:=λe=>by
    have:(((H.set p (.list [.str wd,.str (bI (toString ((vs.length:Nat):Int))++bI ":")])).set b (.list (aC (us.map λu=>(#[(sh u).toArray]:Str))))) l)=some (.list (aC ls)):=by
     rw[aA (AH.aJ hb (hsub _ _ e1))];exact hsub _ _ e1
    rw[e,hq'] at this;cases this
   refine aj.append (vs:=aC ls) ((aA hl3).trans ((aA (AH.aJ hb (hsub _ _ e1))).trans (hsub _ _ e1))) (by simp[aC];exact pF hl) ?_;lk;have kk:=((Kp.new (S:=[]) (o:=.list [.str wd,.str (bI (toString ((vs.length:Nat):Int))++bI ":")]) hp).trans (Kp.new (o:=.list (aC (us.map λu=>(#[(sh u).toArray]:Str)))) hb)).trans (Kp.new (o:=.list (aC ((#[(wd.cps.toList).toArray]:Str)::(#[(num vs.length++[58]).toArray]:Str)::us.map λu=>(#[(sh u).toArray]:Str)))) hq');have ee:aC ls++[AV.str #[(wd.cps.toList++32::(num vs.length++[58]++fq us)).toArray]]=aC (ls++[#[(jP wd.cps.toList us).toArray]]):=by
    rw[iC];simp[jP,hvl]
   rw[ee];exact#[_,kk.both,hq]
end
section
variable{C:Cx}{n:Nat}{H:AH}{Q:AV->AH->Prop}
theorem WR.keep{H':AH}{w l:Addr}{ls:List Str}{S:List Addr}(h:WR H w l ls)(k:Kp S H H')(n1:w∉S)(n2:l∉S):WR H' w l ls:=#[h.1.imp λdw e=>k.at e n1,k.at h.2 n2]
theorem yS(cc:CC C)(hq:∀w l H',H w=b6->H l=b6->w≠l->WR H' w l [hd]->Kp [] H H'->Q (.ref w) H'):aj C (n+2) (.ref 634) [.str hd] H Q:=
 s_ cc λx dx hx hdx hne F hf hn hk=>by
  refine aG.cons ?_;lk;refine#[sz rfl,λl hl=>?_];have zW:x≠l:=AH.aJ hl (AH.aq _ _ _);have tY:H l=b6:=(aA zW.symm).symm.trans hl;lk;refine#[_,_,_,_,_,rfl,(aA zW).trans (AH.aq _ _ _),`st,!s8 _,`fput,?_];lk;exact#[rfl,hq x l _ hx tY zW #[#[dx,AH.aq _ _ _],(aA zW.symm).trans (AH.aq _ _ _)] ((((Kp.new hx).trans (Kp.new hl))).late (.inl hx))]
noncomputable def o_(ls:List Str):List Nat:=(ls.flatMap λy=>y.cps.toList++[10])++(("end ":Str).cps.toList++(num (ls.length+1:Nat)++[10]))
theorem Hl(y:Str)(ls:List Str)(z:Str):(S5 "\n" (y::ls++[z])).cps.toList=((y::ls).flatMap λy=>y.cps.toList++[10])++z.cps.toList:=by
 have e0:("\n":Str).cps.toList=[10]:=by decide+kernel
 rw[List.cons_append,join_cons,e0,C3];rw[x8,x8]
 congr 1
 induction ls with
 |nil=>exact v7 _
 |cons b l ih=>
  rw[List.cons_append,C3,C3,ih];simp
theorem Ho(ls:List Str):(ls.map (·.length)).sum+ls.length=(ls.flatMap λy=>y.cps.toList++[10]).length:=by
 induction ls with
 |nil=>rfl
 |cons a l ih=>
  rw[q7,O5,C3,lG,<-ih];simp[I2];exact NO
theorem Hp(cc:CC C){w l:Addr}{y:Str}{ls:List Str}(hw:WR H w l (y::ls))(hl:ls.length<=1000)(hz:(o_ (y::ls)).length<=1000000)(hq:Q (.str #[(o_ (y::ls)).toArray]) H):aj C (n+2) (.ref 631) [.ref w] H Q:=
 .forget <| lK cc λF hf hn hk=>by
  obtain⟨⟨dw,e0⟩,e1⟩:=hw;have vJ:(aC (y::ls)).length=ls.length+1:=by simp[aC]
  have l1:("end ":Str).length=4:=by decide+kernel
  have l2:("\n":Str).length=1:=by decide+kernel
  have hnl:(bI (toString ((((aC (y::ls)).length:Nat):Int)+1))).length<=10:=iU (m:=(aC (y::ls)).length+1) (!ac4 vJ hl);have hfl:=Ho (y::ls);have hz':=hz;unfold o_ at hz;rw[lG,<-hfl] at hz;refine aG.cons ?_;lk;ktn_no "meth";lk;refine aj.bM e1 (!VS vJ hl) ?_;lk;refine aB.bL ?_;lk;refine strN (!ac5 vJ hl) ?_;refine aB.gX (!VT l1 hnl) ?_;lk;refine#[sz rfl,λp hp=>?_];refine aB.Ls ((aA (AH.aJ hp e1)).trans e1) (AH.aq _ _ _) (by simp[aC];exact VU hl) λq hq'=>?_;lk;refine aj.join (ys:=y::ls++[bI "end "++bI (toString ((((aC (y::ls)).length:Nat):Int)+1))]) ((AH.aq _ _ _).trans (by simp[aC])) (by
   rw[l2,n6,List.sum_append,lG];simp only[q7,List.map_nil,O5,List.sum_nil,x9,N1,E0,l1] at hz⊢;exact VV hz hnl) ?_
  lk;have et:S5 "\n" (y::ls++[bI "end "++bI (toString ((((aC (y::ls)).length:Nat):Int)+1))])++bI "\n"=#[(o_ (y::ls)).toArray]:=by
   refine fM ?_;rw[K0,K4,Hl,K0,K4,show("\n":Str).cps.toList=[10] by decide+kernel];unfold o_;rw[show((y::ls).length+1:Nat)=(aC (y::ls)).length+1 by simp[aC]];simp[num]
  refine aB.gX (by
   have:=congrArg I2 et;rw[E0] at this;rw[this];simp[I2];exact AG hz') ?_
  rw[et];exact#[H,λb o e=>(((Kp.new hp).trans (Kp.new hq')).aK e),hq]
end
section
variable{C:Cx}{n:Nat}{H:AH}{Q:AV->AH->Prop}
structure Pk where
 bases:List Int
 table:List Int
 check:List Int
 owners:List Int
structure xK where
 names:List Str
 count:Int
 aN:List Int
 aI:List Int
 aQ:List Int
 defaults:List Int
 acts:Pk
 fF:List Int
 bH:List Int
 cg:Pk
structure pg(H:AH)(a b1 b2 b3 b4:Addr)(p:Pk):Prop where
 o:∃d,H a=some (.inst 511 d [("bases",.ref b1),("table",.ref b2),("check",.ref b3),("owners",.ref b4)])
 h1:H b1=some (.list (ak p.bases))
 h2:H b2=some (.list (ak p.table))
 h3:H b3=some (.list (ak p.check))
 h4:H b4=some (.list (ak p.owners))
theorem pg.keep(h:pg H a b1 b2 b3 b4 p)(k:Kp [] H H'):pg H' a b1 b2 b3 b4 p:=#[h.o.imp λZ e=>k.aK e,k.aK h.h1,k.aK h.h2,k.aK h.h3,k.aK h.h4]
structure Hq where
 (an al ae ab ad au aa a1 a2 a3 a4 ag g1 g2 g3 g4 gd gm:Addr)
noncomputable abbrev afH(q:Hq)(f:xK):List (Str×AV):=[("names",.ref q.an),("terminal_count",.int f.count),("lefts",.ref q.al),("lengths",.ref q.ae),("befores",.ref q.ab),("defaults",.ref q.ad),("numbers",.ref q.au),("actions",.ref q.aa),("bases",.ref q.a1),("table",.ref q.a2),("check",.ref q.a3),("owners",.ref q.a4),("gotos",.ref q.ag),("goto_bases",.ref q.g1),("goto_table",.ref q.g2),("goto_check",.ref q.g3),("goto_owners",.ref q.g4),("goto_defaults",.ref q.gd),("goto_masks",.ref q.gm)]
structure oh(H:AH)(a:Addr)(q:Hq)(f:xK):Prop where
 o:∃d,H a=some (.inst 567 d (afH q f))
 n:H q.an=some (.list (aC f.names))
 l:H q.al=some (.list (ak f.aN))
 e:H q.ae=some (.list (ak f.aI))
 b:H q.ab=some (.list (ak f.aQ))
 d:H q.ad=some (.list (ak f.defaults))
 acts:pg H q.aa q.a1 q.a2 q.a3 q.a4 f.acts
 cg:pg H q.ag q.g1 q.g2 q.g3 q.g4 f.cg
 gd:H q.gd=some (.list (ak f.fF))
 gm:H q.gm=some (.list (ak f.bH))
theorem oh.keep(h:oh H a q f)(k:Kp [] H H'):oh H' a q f:=#[h.o.imp λZ e=>k.aK e,k.aK h.n,k.aK h.l,k.aK h.e,k.aK h.b,k.aK h.d,h.acts.keep k,h.cg.keep k,k.aK h.gd,k.aK h.gm]
noncomputable def jo(w:String)(us:List AV):Str:=#[(jP (bI w).cps.toList us).toArray]
def pn(ns:List Int):Prop:=(∀i∈ns,i.natAbs<10 ^ 10)/\(fq (ak ns)).length<=50000
theorem eY (cc:CC C) {H0:AH} {w l a:Addr} {ls:List Str} {wd:Str} {ws:String} {vs us:List AV} (ew:wd=bI ws) (hwd:wd.length<=100) (hw:WR H w l ls) (hl:ls.length<=1000) (k0:Kp [] H0 H) (tY:H0 l=b6) (ha:H a=some (.list vs)) (hs:fX H vs us) (hz:(fq us).length<=50000)
 (hne:w≠l) (hq:∀H',WR H' w l (ls++[jo ws us])->Kp [] H0 H'->Q .none H'):aj C (n+6) (.ref 624) [.ref w,.str wd,.ref a] H Q:=by
 subst ew;exact LZ cc hw hl hwd ha hs hz (hq _ #[hw.1.imp λdw e=>(aA hne).trans e,AH.aq _ _ _] (k0.late (.inl tY)))
theorem fX.ints{ns:List Int}(h:∀i∈ns,i.natAbs<10 ^ 10):fX H (ak ns) (ak ns):=.pure (Ad h)
noncomputable def cL(pre:String)(p:Pk):List Str:=[jo (pre++"bases") (ak p.bases),jo (pre++"table") (ak p.table),jo (pre++"check") (ak p.check),jo (pre++"owners") (ak p.owners)]
def L_(p:Pk):Prop:=pn p.bases/\pn p.table/\pn p.check/\pn p.owners
theorem pq (cc:CC C) {H0:AH} {w l a b1 b2 b3 b4:Addr} {ls:List Str} {p:Pk} {ws:String} (hws:ws=""\/ws="goto_") (hw:WR H w l ls) (hl:ls.length<=900) (k0:Kp [] H0 H) (tY:H0 l=b6) (hne:w≠l) (hp:pg H0 a b1 b2 b3 b4 p) (ho:L_ p)
 (hq:∀H',WR H' w l (ls++cL ws p)->Kp [] H0 H'->Q .none H'):aj C (n+7) (.ref 760) [.ref w,.str (bI ws),.ref a] H Q:=
 wG cc λF hf hn hk=>by
  refine pG ho λo1 o2 o3 o4=>?_;have hpl:(bI ws).length<=5:=by rcases hws with rfl|rfl<;>decide+kernel
  have cat:∀x:String,x="bases"\/x="table"\/x="check"\/x="owners"->bI ws++bI x=bI (ws++x)/\(bI x).length<=6:=by
   rintro x (rfl|rfl|rfl|rfl)<;>rcases hws with rfl|rfl<;>decide+kernel
  refine xE hw.1 λdw e0=>?_;have p0:=hp.keep k0;refine xE p0.o λd f0=>?_;refine aG.cons ?_;lk;ktn_no "meth";lk;refine aB.gX (by have:=(cat "bases" (!.inl rfl)).2;exact FL hpl this) ?_;lk;refine eY cc (cat "bases" (!.inl rfl)).1 (by rw[E0];have:=(cat "bases" (!.inl rfl)).2;exact FN hpl this) hw (!VW hl) k0 tY p0.h1 (.ints o1.1) o1.2 hne λH1 w1 k1=>?_;refine xE w1.1 λdw1 e1=>?_;have p1:=hp.keep k1;refine xE p1.o λd1 f1=>?_;lk;ktn_no "meth";lk;refine aB.gX (by have:=(cat "table" (!.inr (.inl rfl))).2;exact FL hpl this) ?_;lk;refine eY cc (cat "table" (!.inr (.inl rfl))).1 (by rw[E0];have:=(cat "table" (!.inr (.inl rfl))).2;exact FN hpl this) w1 (by simp;exact VX hl) k1 tY p1.h2 (.ints o2.1) o2.2 hne λH2 w2 k2=>?_;refine xE w2.1 λdw2 e2=>?_;have p2:=hp.keep k2;refine xE p2.o λd2 f2=>?_;lk;ktn_no "meth";lk;refine aB.gX (by have:=(cat "check" (!.inr (.inr (.inl rfl)))).2;exact FL hpl this) ?_;lk;refine eY cc (cat "check" (!.inr (.inr (.inl rfl)))).1 (by rw[E0];have:=(cat "check" (!.inr (.inr (.inl rfl)))).2;exact FN hpl this) w2 (by simp;exact VY hl) k2 tY p2.h3 (.ints o3.1) o3.2 hne λH3 w3 k3=>?_;refine xE w3.1 λdw3 e3=>?_;have p3:=hp.keep k3;refine xE p3.o λd3 f3=>?_;lk;ktn_no "meth";lk;refine aB.gX (by have:=(cat "owners" (!.inr (.inr (.inr rfl)))).2;exact FL hpl this) ?_;lk;refine eY cc (cat "owners" (!.inr (.inr (.inr rfl)))).1 (by rw[E0];have:=(cat "owners" (!.inr (.inr (.inr rfl)))).2;exact FN hpl this) w3 (by simp;exact VZ hl) k3 tY p3.h4 (.ints o4.1) o4.2 hne λH4 w4 k4=>?_;lk;refine hq _ ?_ k4;simpa [cL] using w4
end
section
variable{C:Cx}{n:Nat}{H:AH}{Q:AV->AH->Prop}
noncomputable def ou(f:xK):List Str:=["grammarmill parser 1",jo "names" (aC f.names),jo "terminals" [.int f.count],jo "lefts" (ak f.aN),jo "lengths" (ak f.aI),jo "befores" (ak f.aQ),jo "defaults" (ak f.defaults)]
noncomputable def ia(f:xK)(tZ:List AV):List Str:=ou f++cL "" f.acts++[jo "goto_defaults" (ak f.fF),jo "goto_masks" (ak f.bH)]++cL "goto_" f.cg++[jo "codes" tZ]
noncomputable def jQ(f:xK)(tZ:List AV):List Nat:=o_ (ia f tZ)
structure OkF(f:xK)(tZ:List AV):Prop where
 n1:∀y∈f.names,∀ch∈y.cps.toList,Ab ch
 n2:(fq (aC f.names)).length<=50000
 c:pn [f.count]
 l:pn f.aN
 e:pn f.aI
 b:pn f.aQ
 d:pn f.defaults
 acts:L_ f.acts
 gd:pn f.fF
 gm:pn f.bH
 cg:L_ f.cg
 k1:pR 2 tZ
 k2:(fq tZ).length<=50000
 z:(jQ f tZ).length<=1000000
theorem jh(cc:CC C)(hp:oh H a q f)(hc:H cl=some (.list gK))(hs:fX H gK tZ)(ok:OkF f tZ)(hq:Q (.str #[(jQ f tZ).toArray]) H):aj C (n+8) (.ref 775) [.ref a,.ref cl] H Q:=
 .forget <| pN cc λF hf hn hk=>by
  refine aG.cons ?_;lk;refine yS cc λw l H1 hw0 tY hne w1 k1=>?_;refine xE w1.1 λdw1 e1=>?_;have p1:=hp.keep k1;refine xE p1.o λd1 f1=>?_;lk;ktn_no "meth";lk;refine eY cc (ws:="names") rfl `d w1 (!n8 _) k1 tY p1.n (.pure (Ae ok.n1)) ok.n2 hne λH2 w2 k2=>?_;refine xE w2.1 λdw2 e2=>?_;have p2:=hp.keep k2;refine xE p2.o λd2 f2=>?_;lk;ktn_no "meth";lk;refine#[sz rfl,λt ht=>?_];have k2':=k2.trans (Kp.new (o:=.list [.int f.count]) ht);have w2':=w2.keep (S:=[]) (Kp.new (o:=.list [.int f.count]) ht) (!m8) (!m8);lk;refine eY cc (ws:="terminals") (us:=[.int f.count]) rfl `d w2' (!b7 rfl) k2' tY (AH.aq _ _ _) (fX.ints (ns:=[f.count]) ok.c.1) ok.c.2 hne λH3 w3 k3=>?_;refine xE w3.1 λdw3 e3=>?_;have p3:=hp.keep k3;refine xE p3.o λd3 f3=>?_;lk;ktn_no "meth";lk;refine eY cc (ws:="lefts") rfl `d w3 (!b7 rfl) k3 tY p3.l (.ints ok.l.1) ok.l.2 hne λH4 w4 k4=>?_;refine xE w4.1 λdw4 e4=>?_;have p4:=hp.keep k4;refine xE p4.o λd4 f4=>?_;lk;ktn_no "meth";lk;refine eY cc (ws:="lengths") rfl `d w4 (!b7 rfl) k4 tY p4.e (.ints ok.e.1) ok.e.2 hne λH5 w5 k5=>?_;refine xE w5.1 λdw5 e5=>?_;have p5:=hp.keep k5;refine xE p5.o λd5 f5=>?_;lk;ktn_no "meth";lk;refine eY cc (ws:="befores") rfl `d w5 (!b7 rfl) k5 tY p5.b (.ints ok.b.1) ok.b.2 hne λH6 w6 k6=>?_;refine xE w6.1 λdw6 e6=>?_;have p6:=hp.keep k6;refine xE p6.o λd6 f6=>?_;lk;ktn_no "meth";lk;refine eY cc (ws:="defaults") rfl `d w6 (!b7 rfl) k6 tY p6.d (.ints ok.d.1) ok.d.2 hne λH7 w7 k7=>?_;refine xE w7.1 λdw7 e7=>?_;have p7:=hp.keep k7;refine xE p7.o λd7 f7=>?_;lk;refine pq cc (.inl rfl) w7 (!b7 rfl) k7 tY hne hp.acts ok.acts λH8 w8 k8=>?_;refine xE w8.1 λdw8 e8=>?_;have p8:=hp.keep k8;refine xE p8.o λd8 f8=>?_;lk;ktn_no "meth";lk;refine eY cc (ws:="goto_defaults") rfl `d w8 (!b7 rfl) k8 tY p8.gd (.ints ok.gd.1) ok.gd.2 hne λH9 w9 k9=>?_;refine xE w9.1 λdw9 e9=>?_;have p9:=hp.keep k9;refine xE p9.o λd9 f9=>?_;lk;ktn_no "meth";lk;refine eY cc (ws:="goto_masks") rfl `d w9 (!b7 rfl) k9 tY p9.gm (.ints ok.gm.1) ok.gm.2 hne λDR w10 oA=>?_;refine xE w10.1 λak_ e10=>?_;have p10:=hp.keep oA;refine xE p10.o λUo f10=>?_;lk;refine pq cc (.inr rfl) w10 (!b7 rfl) oA tY hne hp.cg ok.cg λvd w11 iK=>?_;refine xE w11.1 λalc e11=>?_;have p11:=hp.keep iK;refine xE p11.o λd11 f11=>?_;lk;ktn_no "meth";lk;refine eY cc (ws:="codes") rfl `d w11 (by simp[cL]) iK tY (iK.aK hc) (hs.sub λZ Z e=>iK.aK e) ok.k2 hne λRM w12 t_=>?_;refine xE w12.1 λale e12=>?_;lk;ktn_no "meth";refine Hp cc (y:=bI "grammarmill parser 1") (ls:=(ia f tZ).tail) (by simpa [ia,ou,cL] using w12) (by simp[ia,ou,cL]) ok.z ?_;exact#[H,t_.sub,hq]
end
section
variable{C:Cx}{n:Nat}{H:AH}{Q:AV->AH->Prop}
noncomputable def aD(ns:List Int)(k:Int):Int:=ns.getD k.toNat 0
theorem Ah{ns:List Int}{k:Int}(h0:0<=k)(h1:k<ns.length):ns[k.toNat]? =some (aD ns k):=by
 unfold aD;rw[c8,b8 (!Kc h0 h1)];rfl
theorem mZ{ns:List Int}{k:Nat}{i:Int}(h:ns[k]? =some i):(ak ns)[k]? =some (.int i):=by simp[ak,h]
theorem aF.aD{slice:Expr}{a:Addr}{ns:List Int}{k:Int}(hs:vY slice)(ha:H a=some (.list (ak ns)))(h0:0<=k)(h1:k<ns.length)(hl:ns.length<=100000)(h:Q (.int (aD ns k)) H):aF C n slice (.ref a) (.int k) H Q:=
 aF.list hs ha h0 (mZ (Ah h0 h1)) (by simp[ak];exact NT hl) h
noncomputable def wR(bases table check:List Int)(owner row col:Int):Option Int:=
 let cell:=aD bases row+col
 if cell<0\/check.length<=cell\/aD check cell≠owner+1 then b6 else some (aD table cell)
theorem yT (cc:CC C) {b1 b2 b3:Addr} {bs ts cs:List Int} {o row col:Int} (h1:H b1=some (.list (ak bs))) (h2:H b2=some (.list (ak ts))) (h3:H b3=some (.list (ak cs))) (hr:0<=row) (hr1:row<bs.length) (hl:ts.length=cs.length) (hz1:bs.length<=100000) (hz:cs.length<=100000)
 (hq:Q (oI (wR bs ts cs o row col)) H):aj C (n+1) (.ref 447) [.ref b1,.ref b2,.ref b3,.int o,.int row,.int col] H Q:=
 yC cc λF hf hn hk=>by
  unfold wR at hq;refine aG.cons ?_;lk;refine aF.aD (λZ Z=>rfl) h1 hr hr1 hz1 ?_;lk;refine aB.bL ?_;lk;refine aB.GH (λc1=>?_) λc1=>?_
  ·rw[if_pos (.inl c1)] at hq;lk;exact hq
  ·lk;refine aj.bM h3 (by simp[ak];exact NT hz) ?_;refine aB.IK ?_;refine#[_,rfl,?_];rw[show(ak cs).length=cs.length by exact b9 _];by_cases c2:(cs.length:Int)<=aD bs row+col
   ·rw[decide_eq_true c2];rw[if_pos (.inr (.inl c2))] at hq;lk;exact hq
   ·rw[decide_eq_false c2];lk;refine aF.aD (λZ Z=>rfl) h3 (!Kd c1) (!V_ c2) hz ?_;lk;refine aB.bL ?_;refine aB.wC (λc3=>?_) λc3=>?_
    ·rw[if_neg (by rintro(h|h|h);exact c1 h;exact c2 h;exact h c3)] at hq;ktn_no "no";refine aF.aD (λZ Z=>rfl) h2 (!Kd c1) (!Wa hl c2) (!Wb hl hz) ?_;exact hq
    ·rw[if_pos (.inr (.inr c3))] at hq;ktn_no "yes";exact hq
noncomputable def jR(p:Pk)(row col:Int):Option Int:=wR p.bases p.table p.check (aD p.owners row) row col
structure Ma(p:Pk):Prop where
 bo:p.bases.length=p.owners.length
 tc:p.table.length=p.check.length
 zb:p.bases.length<=1000
 zc:p.check.length<=60
theorem DS (cc:CC C) {a b1 b2 b3 b4:Addr} {p:Pk} {row col:Int} (hp:pg H a b1 b2 b3 b4 p) (sz:Ma p) (hr:0<=row) (hr1:row<p.bases.length)
 (hq:Q (oI (jR p row col)) H):aj C (n+2) (.ref 468) [.ref a,.int row,.int col] H Q:=
 mO cc λF hf hn hk=>by
  refine xE hp.o λd e0=>?_;obtain⟨s1,s2,s3,s4⟩:=sz;refine aG.cons ?_;lk;refine aF.aD (λZ Z=>rfl) hp.h4 hr (!FO hr1 s1) (!FP s1 s3) ?_;lk;exact yT cc hp.h1 hp.h2 hp.h3 hr hr1 s2 (!sM s3) (!FQ s4) hq
theorem wU (cc:CC C) {b1 b2 b3 b4:Addr} {p:Pk} (h1:H b1=some (.list (ak p.bases))) (h2:H b2=some (.list (ak p.table))) (h3:H b3=some (.list (ak p.check))) (h4:H b4=some (.list (ak p.owners)))
 (hq:∀a H',H a=b6->pg H' a b1 b2 b3 b4 p->Kp [] H H'->Q (.ref a) H'):aj C (n+2) (.ref 511) [.ref b1,.ref b2,.ref b3,.ref b4] H Q:=
 sZ cc λx dx hx hdx hne F hf hn hk=>by
  refine aG.cons ?_;lk;refine#[_,_,_,_,_,rfl,AH.aq _ _ _,`st,!s8 _,`fput,?_];lk;refine#[_,_,_,_,_,rfl,AH.aq _ _ _,`st,!n8 _,`fput,?_];lk;refine#[_,_,_,_,_,rfl,AH.aq _ _ _,`st,!b7 rfl,`fput,?_];lk;refine#[_,_,_,_,_,rfl,AH.aq _ _ _,`st,!b7 rfl,`fput,?_];lk;rw[AH.set_set,AH.set_set,AH.set_set,AH.set_set];refine#[rfl,hq x _ hx #[#[dx,AH.aq _ _ _],?_,?_,?_,?_] (Kp.new hx)]<;>rw[aA (AH.aJ hx `a)]<;>assumption
end
section
variable{C:Cx}{n:Nat}{H:AH}{Q:AV->AH->Prop}
structure Jl(p:Pk)(many:Nat):Prop where
 lb:p.bases.length=many
 lo:p.owners.length=many
 row:∀i:Int,0<=i->i<many->0<=aD p.owners i/\aD p.owners i<=i/\aD p.owners (aD p.owners i)=aD p.owners i/\aD p.bases i=aD p.bases (aD p.owners i)
theorem az(ns:List Int):(ak ns).length=ns.length:=by exact b9 _
theorem vf(cc:CC C)(hp:pg H a b1 b2 b3 b4 p)(sz:Ma p)(fr:Jl p many)(hq:Q (.str "") H):aj C (n+2) (.ref 494) [.ref a,.int many] H Q:=
 gu cc λF hf hn hk=>by
  refine xE hp.o λd e0=>?_;obtain⟨s1,s2,s3,s4⟩:=sz;have q1:=fr.lb;have q2:=fr.lo;refine aG.cons ?_;lk;refine aj.bM hp.h1 (by rw[az];exact pF s3) ?_;lk;refine aB.iQ (by rw[az];exact Ke q1) ?_;ktn_no "no";refine aj.bM hp.h4 (by rw[az];exact FT s1 s3) ?_;lk;refine aB.iQ (by rw[az];exact Wc s1 q1) ?_;ktn_no "no";refine Ex.gY (aZ.range `get (aU cc) ?_ bu.name);lk;refine#[_,rfl,!qj,!Px q1 s3,?_];rw[j7];refine#[λi ρ' H'=>Gz λu v=>C_ (LV.ok u) (LV.ok v) (H'=H) (ρ'=([("self",.val (.ref a)),("many",.val (.int many)),("row",u),("owner",v),("len",.glob),("range",.glob)]:Loc)),#[.undef,.undef,c7,c7,rfl,rfl],λZ Z Z Z Z=>trivial,?_,?_]
  ·rintro i v ρ' H' hv ⟨u1,u2,hu1,Cd,rfl,rfl⟩;obtain⟨rfl,hi⟩:=bk hv;refine pG (fr.row i (!bN) (!gI hi)) λr1 r2 r3 r4=>?_;refine b_.aT `get hf hu1 ?_;refine aG.cD `set ?_;lk;refine aF.aD (λZ Z=>rfl) hp.h4 (!bN) (!Wd hi s1 q1) (!FP s1 s3) ?_;lk;refine aB.GG (!We r1) ?_;lk;refine aB.uJ (!Wf r2) ?_;lk;refine aF.aD (λZ Z=>rfl) hp.h4 (!AI r1) (!Wg r2 hi s1 q1) (!FP s1 s3) ?_;lk;refine aB.iQ r3 ?_;ktn_no "no";refine aF.aD (λZ Z=>rfl) hp.h1 (!bN) (!cI hi q1) (!sM s3) ?_;lk;refine aF.aD (λZ Z=>rfl) hp.h1 (!AI r1) (!Wh r2 q1 hi) (!sM s3) ?_;lk;refine aB.iQ r4 ?_;ktn_no "no";exact#[.val (.int i),.val (.int (aD p.owners i)),c7,c7,rfl,rfl]
  ·rintro ρ' H' ⟨u1,u2,hu1,Cd,rfl,rfl⟩;lk;exact hq
structure Jm(p:Pk)(cols:Int):Prop where
 last:p.check=[]\/p.check.getLast?≠some 0
 cell:∀c:Int,0<=c->c<p.check.length->0<=aD p.check c/\aD p.check c<=p.owners.length/\(aD p.check c=0->aD p.table c=0)/\(aD p.check c≠0->aD p.owners (aD p.check c - 1)=aD p.check c - 1/\0<=c - aD p.bases (aD p.check c - 1)/\c - aD p.bases (aD p.check c - 1)<cols)
theorem dB:nK C H (ak ns) (ns.map J8):=by
 induction ns with
 |nil=>exact .nil
 |cons y ys ih=>exact .cons (.int y) ih
theorem lay_ints{ns:List Int}:r8 (ns.map J8)=true:=by
 induction ns with
 |nil=>rfl
 |cons y ys ih=>exact by assumption
theorem jS{ns:List Int}:C0 (ns.map J8)=0:=by
 induction ns with
 |nil=>rfl
 |cons y ys ih=>exact by assumption
theorem tw(cc:CC C){a b1 b2 b3 b4:Addr}{p:Pk}{cols:Int}(hp:pg H a b1 b2 b3 b4 p)(sz:Ma p)(fc:Jm p cols)(hq:Q (.str "") H):aj C (n+2) (.ref 501) [.ref a,.int cols] H Q:=
 .forget <| fU cc λF hf hn hk=>by
  refine xE hp.o λd e0=>?_;obtain⟨s1,s2,s3,s4⟩:=sz;refine aG.cut (λρ' H'=>ρ'=([("self",.val (.ref a)),("columns",.val (.int cols)),("cell",.undef),("owner",.undef),("len",.glob),("range",.glob)]:Loc)/\H'=H) ?_ ?_
  ·lk;refine aj.bM hp.h2 (by rw[az];exact Wi s2 s4) ?_;lk;refine aj.bM hp.h3 (by rw[az];exact Cn s4) ?_;lk;refine aB.iQ (by rw[az,az];exact Ke s2) ?_;ktn_no "no";exact#[rfl,rfl,rfl]
  rintro _ H ⟨rfl,rfl⟩;refine aG.cut (λρ' H'=>ρ'=([("self",.val (.ref a)),("columns",.val (.int cols)),("cell",.undef),("owner",.undef),("len",.glob),("range",.glob)]:Loc)/\Kp [] H H') ?_ ?_
  ·lk;refine#[sz rfl,λt ht=>?_];have kt:=Kp.new (S:=[]) (o:=.list []) ht;have vI:=hp.keep kt;refine xE vI.o λd' e0'=>?_;refine aB.CO (d:=.list (p.check.map J8)) (e:=.list []) (.list vI.h3 dB) (.list (AH.aq _ _ _) .nil) (by rw[C8];exact lay_ints) rfl (by rw[G4,jS];decide) ?_;refine#[_,rfl,?_];cases hc:p.check with
   |nil=>
    ktn_no "no";exact#[rfl,rfl,kt]
   |cons x xs=>
    ktn_no "yes";refine kY.fC ?_;have hne:=fc.last;rw[hc] at hne;have rJ:(x::xs).getLast? =some ((x::xs).getLast (!F4 _ _)):=E2 (!F4 _ _);have hv:(x::xs).getLast (!F4 _ _)≠0:=λe=>by
     rcases hne with h|h
     ·cases h
     ·rw[rJ,e] at h;exact h rfl
    have hge:(ak p.check)[(-1+((ak p.check).length:Int)).toNat]? =some (.int ((x::xs).getLast (!F4 _ _))):=by
     refine mZ ?_;rw[az,hc,show(-1+(((x::xs).length:Nat):Int)).toNat=(x::xs).length - 1 by simp;exact NU];rw[<-J2,rJ]
    lk;refine aF.fT (λZ Z=>rfl) vI.h3 `e (by rw[az,hc];simp;exact Wj) hge (by rw[az];exact Cn s4) ?_;lk;refine aB.Df hv ?_;lk;exact#[rfl,rfl,kt]
  rintro _ H1 ⟨rfl,k1⟩;have hp1:=hp.keep k1;refine xE hp1.o λd1 f1=>?_;refine aG.cons ?_;refine Ex.gY (aZ.range `get (aU cc) ?_ bu.name);lk;refine aj.bM hp1.h3 (by rw[az];exact Cn s4) ?_;refine#[_,rfl,by rw[az];exact qj,by rw[az];exact Py s4,?_];rw[j7,az];refine#[λi ρ' H'=>Gz λu v=>C_ (LV.ok u) (LV.ok v) (H'=H1) (ρ'=([("self",.val (.ref a)),("columns",.val (.int cols)),("cell",u),("owner",v),("len",.glob),("range",.glob)]:Loc)),#[.undef,.undef,c7,c7,rfl,rfl],λZ Z Z Z Z=>trivial,?_,?_]
  ·rintro i v ρ' H' hv ⟨u1,u2,hu1,Cd,rfl,rfl⟩;obtain⟨rfl,hi⟩:=bk hv;refine pG (fc.cell i (!bN) (!gI hi)) λr1 r2 r3 r4=>?_;refine b_.aT `get hf hu1 ?_;refine aG.cD `set ?_;lk;refine aF.aD (λZ Z=>rfl) hp1.h3 (!bN) (!gI hi) (!FQ s4) ?_;lk;refine aB.fK ?_;lk;refine kY.fC ?_;lk;refine aB.GG (!Wl r1) ?_;lk;refine aj.bM hp1.h4 (by rw[az];exact FT s1 s3) ?_;refine aB.LA (by rw[az];exact Wm r2) ?_;lk;refine kY.fC ?_;refine aB.Gv ?_;refine#[_,rfl,?_];by_cases hz:aD p.check i=0
   ·rw[decide_eq_true (!Wn hz)];lk;refine aF.aD (λZ Z=>rfl) hp1.h2 (!bN) (!cI hi s2) (!NV s2 s4) ?_;lk;refine aB.iQ (r3 hz) ?_;ktn_no "no";refine aB.LA (!Wo hz) ?_;lk;exact#[.val (.int i),.val (.int (aD p.check i - 1)),c7,c7,rfl,rfl]
   ·refine kh (r4 hz) λq1 q2 q3=>?_;rw[decide_eq_false (!Wq hz)];lk;refine aB.Ra (!Co r1 hz) ?_;lk;refine aF.aD (λZ Z=>rfl) hp1.h4 (!Co r1 hz) (!Wr r2) (!FP s1 s3) ?_;lk;refine aB.iQ q1 ?_;ktn_no "no";refine aF.aD (λZ Z=>rfl) hp1.h1 (!Co r1 hz) (!NW r2 s1) (!sM s3) ?_;lk;refine aB.fK ?_;refine aB.Q_ q2 ?_;lk;refine aB.ae3 q3 ?_;ktn_no "no";exact#[.val (.int i),.val (.int (aD p.check i - 1)),c7,c7,rfl,rfl]
  ·rintro ρ' H' ⟨u1,u2,hu1,Cd,rfl,rfl⟩;lk;exact#[H,k1.sub,hq]
end
section
variable{C:Cx}{n:Nat}{H:AH}{Q:AV->AH->Prop}
noncomputable def dP(p:Pk)(k:Nat)(o:Int):List (Int×Int):=((C4 k).filter λc=>decide (aD p.check (c:Nat)=o+1)).map λc=>(((c:Nat):Int) - aD p.bases o,aD p.table (c:Nat))
noncomputable def dG(l:List (Int×Int)):List (Int×AV):=l.map λx=>(x.1,.int x.2)
theorem wV{p:Pk}{k:Nat}{o:Int}(h:aD p.check k≠o+1):dP p (k+1) o=dP p k o:=by
 unfold dP;rw[K2,M4];simp[h]
theorem Bp{p:Pk}{k:Nat}{o:Int}(h:aD p.check k=o+1):dO (dG (dP p k o)) ((k:Int) - aD p.bases o) (.int (aD p.table k))=dG (dP p (k+1) o):=by
 have hno:(dG (dP p k o)).any (λq=>decide (q.1=(k:Int) - aD p.bases o))=false:=by
  rw[U3];intro q hq;unfold dG dP at hq;simp only[K8,m5,I0,List.mem_range] at hq;obtain⟨c,⟨hc,_⟩,rfl⟩:=hq;simp;exact Wt hc
 unfold dO;rw[if_neg (by rw[hno];simp)];unfold dG dP;rw[K2,M4];simp[h]
structure Up(p:Pk):Prop where
 sz:Ma p
 ck:∀c:Int,0<=c->c<p.check.length->0<=aD p.check c/\aD p.check c<=p.owners.length
 ow:∀i:Int,0<=i->i<p.owners.length->0<=aD p.owners i/\aD p.owners i<p.owners.length
noncomputable def gM(p:Pk)(o:Int):List (Int×Int):=dP p p.check.length o
theorem jT (cc:CC C) {a b1 b2 b3 b4:Addr} {p:Pk} (hp:pg H a b1 b2 b3 b4 p) (wf:Up p)
 (hq:∀(x:Addr) (H':AH) (ds:List Addr),H x=b6->H' x=some (.list (ds.map AV.ref))->ds.length=p.owners.length->(∀(i:Nat) d,ds[i]? =some d->H' d=some (.dI (dG (gM p (aD p.owners i)))))->Kp [] H H'->Q (.ref x) H'):aj C (n+2) (.ref 473) [.ref a] H Q:=
 iR cc λF hf hn hk=>by
  refine xE hp.o λd e0=>?_;obtain⟨s1,s2,s3,s4⟩:=wf.sz;have xM:(ak p.owners).length=p.owners.length:=az _;refine aG.cons ?_;refine Ex.qG (u:=.undef) `get c7 hf ?_ (cT hn hk false `k);refine Ev.bJ (λu=>[(".0",.undef),("owner",u)]) (aP.of hn rfl `d `d `k) `k (λZ Z=>`set) (λZ=>`get) (.inl `k) ?_;refine aZ.list ?_ bu.name;lk;refine#[b4,_,rfl,hp.h4,by rw[xM];exact FT s1 s3,λk ys H'=>∃hs:List Addr,ys=hs.map AV.ref/\hs.length=k/\hs.Nodup/\(∀x∈hs,H x=b6/\H' x=some (.dI []))/\Kp [] H H',#[[],rfl,rfl,J9,(λZ h=>nomatch h),Kp.refl],?_,?_,?_]
  ·rintro k ys H' _ ⟨_,_,_,_,_,k1⟩;exact k1.aK hp.h4
  ·rintro F' cf k v ys H' hv ⟨hs,rfl,rfl,hnd,hx,k1⟩;refine kC.nil ?_;ktn_no "if";refine Ev.zQ (oX C) λx RN=>?_;have hxn:x∉hs:=λhm=>by have:=(hx x hm).2;rw[RN] at this;cases this
   have RO:H x=b6:=by
    cases e:H x with
    |none=>rfl
    |some o=>have:=k1.aK e;rw[RN] at this;cases this
   refine#[hs++[x],by simp,!lG,?_,?_,k1.late (.inl RO)]
   ·rw[K1];exact#[hnd,!G5.mpr #[m8,J9],λa ha b hb=>by simp at hb;rintro rfl;exact hxn (hb▸ha)]
   ·intro y hy;rcases s6.mp hy with hy|hy
    ·exact#[(hx y hy).1,(AH.De hy hxn).trans (hx y hy).2]
    ·rw[j0.mp hy];exact#[RO,AH.aq _ _ _]
  rintro h ys H1 ⟨hs,rfl,hlen,hnd,hx,k1⟩ hh0;rw[xM] at hlen;have hhH:H h=b6:=by
   cases e:H h with
   |none=>rfl
   |some o=>have:=k1.aK e;rw[hh0] at this;cases this
  have hhn:h∉hs:=λhm=>by have:=(hx h hm).2;rw[hh0] at this;cases this
  refine aG.cD `set ?_;have Jo:=k1.late (o:=.list (hs.map AV.ref)) (.inl hhH);refine xE ((hp.keep Jo).o) λd1 f1=>?_;refine aG.cons ?_;refine Ex.gY (aZ.range `get (aU cc) ?_ bu.name);lk;refine aj.bM (Jo.aK hp.h3) (by rw[az];exact Cn s4) ?_;refine#[_,rfl,by rw[az];exact qj,by rw[az];exact Py s4,?_];rw[j7,az];refine#[λk ρ' H'=>Gz λu v=>TU (LV.ok u) (LV.ok v) (ρ'=([("self",.val (.ref a)),("owner",u),("held",.val (.ref h)),("cell",v),("range",.glob),("len",.glob)]:Loc)) (H' h=some (.list (hs.map AV.ref))) ((∀(i:Nat) x,hs[i]? =some x->H' x=some (.dI (dG (dP p k i))))) (Kp [] H H'),#[.undef,.undef,c7,c7,rfl,AH.aq _ _ _,?_,Jo],λZ Z Z Z Z=>trivial,?_,?_]
  ·intro i x e;have hm:=j8 e;rw[AH.De hm hhn];rw[(hx x hm).2];rfl
  ·rintro k v ρ' H' hv ⟨u1,u2,hu1,Cd,rfl,RP,hds,k2⟩;obtain⟨rfl,hi⟩:=bk hv;refine xA (wf.ck k (!bN) (!gI hi)) λr1 r2=>?_;have vI:=hp.keep k2;refine xE vI.o λd2 f2=>?_;refine b_.aT `get hf Cd ?_;refine aG.cD `set ?_;lk;refine aF.aD (λZ Z=>rfl) vI.h3 (!bN) (!gI hi) (!FQ s4) ?_;lk;refine aB.wC (λhz=>?_) λhz=>?_
   ·ktn_no "no";refine#[u1,.val (.int k),hu1,c7,rfl,RP,λi x e=>?_,k2];rw[wV (!Wu hz)];exact hds i x e
   ·ktn_no "yes";refine aF.aD (λZ Z=>rfl) vI.h3 (!bN) (!gI hi) (!FQ s4) ?_;lk;refine aB.fK ?_;lk;refine aF.aD (λZ Z=>rfl) vI.h2 (!bN) (!cI hi s2) (!NV s2 s4) ?_;lk;have hoi:(aD p.check k - 1).toNat<hs.length:=by exact Wv r1 r2 hlen hz
    have hge:hs[(aD p.check k - 1).toNat]? =some hs[(aD p.check k - 1).toNat]:=b8 hoi;generalize hs[(aD p.check k - 1).toNat]=x at hge;have hxd:=hds _ _ hge;refine aF.list (λZ Z=>rfl) RP (!Co r1 hz) (v:=.ref x) (by rw[j9,hge];rfl) (by simp;exact AJ hlen s1 s3) ?_;lk;refine aF.aD (λZ Z=>rfl) vI.h1 (!Co r1 hz) (!NW r2 s1) (!sM s3) ?_;lk;refine aB.fK ?_;have hxm:=j8 hge;have eo:(((aD p.check k - 1).toNat:Nat):Int)=aD p.check k - 1:=by exact Ww r1 hz
    refine cZ.dict (oX C) hxd (by
     rw[show(dG (dP p k ((aD p.check k - 1).toNat:Nat))).length=(dP p k ((aD p.check k - 1).toNat:Nat)).length by exact b9 _];unfold dP;rw[b9];refine g9 (J4 _ _) ?_;rw[I8];exact Wx hi s4) ?_
    lk;refine#[.val (.int (aD p.check k - 1)),.val (.int k),c7,c7,rfl,(AH.GD hxm hhn).trans RP,λi y e=>?_,k2.late (.inl (hx x hxm).1)];by_cases hio:i=(aD p.check k - 1).toNat
    ·subst hio;rw[hge] at e;cases e;rw[AH.aq,eo];exact congrArg (λz=>some (AO.dI z)) (Bp (!Wy))
    ·have hyx:y≠x:=λq=>by
      subst q;refine xE (c9.mp e) λq1 q2=>?_;refine xE (c9.mp hge) λq3 q4=>?_;have:=x7.mp hnd;rcases X6 hio with hlt|hlt
      ·exact this _ _ q1 q3 hlt (q2.trans q4.symm)
      ·exact this _ _ q3 q1 hlt (q4.trans q2.symm)
     rw[aA hyx,wV (!Wz hio)];exact hds i y e
  ·rintro ρ' H2 ⟨u1,u2,hu1,Cd,rfl,RP,hds,k2⟩;have vI:=hp.keep k2;refine xE vI.o λd2 f2=>?_;lk;refine Ev.bJ (λu=>[(".0",.undef),("owner",u),("dict",.glob),("held",.val (.ref h))]) (aP.of hn rfl `d `d `k) `k (λZ Z=>`set) (λZ=>`get) (.inl `k) ?_;refine aZ.list ?_ bu.name;lk;refine#[b4,_,rfl,vI.h4,by rw[xM];exact FT s1 s3,λk ys H'=>∃ds:List Addr,ys=ds.map AV.ref/\ds.length=k/\(∀(i:Nat) d,ds[i]? =some d->H' d=some (.dI (dG (gM p (aD p.owners i)))))/\Kp [] H2 H',#[[],rfl,rfl,(λZ Z h=>!if_pos `a),Kp.refl],?_,?_,?_]
   ·rintro k ys H' _ ⟨_,_,_,_,k3⟩;exact k3.aK vI.h4
   ·rintro F' cf k v ys H' hv ⟨ds,rfl,rfl,hd,k3⟩;have iY:ds.length<p.owners.length:=by rw[<-xM];exact(c9.mp hv).1
    refine xA (wf.ow ds.length (!bN) (!gI iY)) λw1 w2=>?_;obtain rfl:v=.int (aD p.owners ds.length):=by
     have:=mZ (Ah (ns:=p.owners) (k:=ds.length) (!bN) (!gI iY));rw[j7,hv] at this;exact m9 this
    refine kC.nil ?_;lk;have hoi:(aD p.owners ds.length).toNat<hs.length:=by exact WA w2 hlen iY
    have hge:hs[(aD p.owners ds.length).toNat]? =some hs[(aD p.owners ds.length).toNat]:=b8 hoi;generalize hs[(aD p.owners ds.length).toNat]=x at hge;refine aF.list (λZ Z=>rfl) (k3.aK RP) (!AI w1) (v:=.ref x) (by rw[j9,hge];rfl) (by simp;exact AJ hlen s1 s3) ?_;lk;have hxd:=k3.aK (hds _ _ hge);rw[bx] at hxd;refine aj.I_ (oX C) hxd (by
     rw[show(dG (dP p p.check.length ((aD p.owners ds.length).toNat:Nat))).length=(dP p p.check.length ((aD p.owners ds.length).toNat:Nat)).length by exact b9 _];unfold dP;rw[b9];refine g9 (J4 _ _) ?_;rw[I8];exact Cn s4) λD hD=>?_
    refine#[ds++[D],by simp,!lG,λi d e=>?_,k3.trans (Kp.new hD)];by_cases hil:i<ds.length
    ·rw[F0 hil] at e;have:=hd i d e;rw[aA (AH.aJ hD this)];exact this
    ·rw[F9 (!AK hil)] at e;have:i - ds.length=0:=by
      cases q:i - ds.length with
      |zero=>rfl
      |succ m=>rw[q] at e;simp at e
     rw[this] at e;simp at e;subst e;rw[AH.aq,show i=ds.length by exact WB this hil];show some (AO.dI _)=_;rw[show(((aD p.owners ds.length).toNat:Nat):Int)=aD p.owners ds.length by exact NX w1];rfl
   ·rintro x ys H3 ⟨ds,rfl,hdl,hd,k3⟩ RN;rw[xM] at hdl;have RO:H x=b6:=by
     cases e:H x with
     |none=>rfl
     |some o=>have:=k3.aK (k2.aK e);rw[RN] at this;cases this
    refine hq x _ ds RO (AH.aq _ _ _) hdl (λi d e=>?_) ((k2.trans k3).late (.inl RO));have:=hd i d e;rw[aA (AH.aJ RN this)];exact this
end
section
variable{C:Cx}{n:Nat}{H:AH}{Q:AV->AH->Prop}
structure iZ(p:Pk)(many:Nat)(cols:Int):Prop where
 sz:Ma p
 fr:Jl p many
 fc:Jm p cols
 em:∀i:Int,0<=i->i<many->gM p (aD p.owners i)=[]->aD p.bases i=0
theorem iZ.wf(g:iZ p many cols):Up p where
 sz:=g.sz
 ck:=λc h0 h1=>#[(g.fc.cell c h0 h1).1,(g.fc.cell c h0 h1).2.1]
 ow:=λi h0 h1=>by
  have:=g.fr.lo;refine kh (g.fr.row i h0 (!FO h1 this)) λr1 r2 Z=>?_;exact acy r1 r2 h1
theorem Hr(cc:CC C)(hp:pg H a b1 b2 b3 b4 p)(g:iZ p many cols)(hq:Q (.str "") H):aj C (n+3) (.ref 508) [.ref a,.int many,.int cols] H Q:=
 .forget <| lI cc λF hf hn hk=>by
  refine xE hp.o λd e0=>?_;obtain⟨s1,s2,s3,s4⟩:=g.sz;have q1:=g.fr.lb;have q2:=g.fr.lo;refine aG.cons ?_;lk;ktn_no "meth";lk;refine vf cc hp g.sz g.fr ?_;lk;refine aB.fJ ?_;ktn_no "yes";ktn_no "meth";lk;refine tw cc hp g.sz g.fc ?_;lk;refine aB.MQ ?_;ktn_no "no";ktn_no "meth";refine jT cc hp g.wf λx H1 ds hx hl hdl hd k1=>?_;have hp1:=hp.keep k1;refine xE hp1.o λd1 f1=>?_;refine aG.cD `set ?_;refine aG.cons ?_;refine Ex.gY (aZ.range `get (aU cc) ?_ bu.name);lk;refine#[_,rfl,!qj,!Px q1 s3,?_];rw[j7];refine#[λi ρ' H'=>Cc λu=>An3 (LV.ok u) (Kp [] H1 H') (ρ'=([("self",.val (.ref a)),("many",.val (.int many)),("columns",.val (.int cols)),("found",.val (.str "")),("rows",.val (.ref x)),("row",u),("range",.glob)]:Loc)),#[.undef,c7,Kp.refl,rfl],λZ Z Z Z Z=>trivial,?_,?_]
  ·rintro i v ρ' H' hv ⟨u,hu,k2,rfl⟩;obtain⟨rfl,hi⟩:=bk hv;have hp2:=hp1.keep k2;refine xE hp2.o λd2 f2=>?_;refine b_.aT `get hf hu ?_;refine aG.cD `set ?_;lk;have hge:ds[i]? =some _:=b8 (!NY hi hdl q1 s1);generalize ds[i]'(!NY hi hdl q1 s1)=y at hge;refine aF.list (λZ Z=>rfl) (k2.aK hl) (!bN) (v:=.ref y) (by rw[j7,j9,hge];rfl) (by simp;exact AJ hdl s1 s3) ?_;lk;refine Ev.zQ (oX C) λt ht=>?_;have hy:=k2.aK (hd _ _ hge);refine aB.Ly ((aA (AH.aJ ht hy)).trans hy) (AH.aq _ _ _) ?_;refine#[_,rfl,?_];have k3:=k2.trans (Kp.new (o:=(oX C).ao []) ht);cases he:gM p (aD p.owners i) with
   |nil=>
    have hb:=g.em i (!bN) (!gI hi) he;refine Bh (show(dG []).isEmpty=true from rfl) ?_;have hp3:=hp1.keep k3;refine xE hp3.o λd3 f3=>?_;lk;refine aF.aD (λZ Z=>rfl) hp3.h1 (!bN) (!cI hi q1) (!sM s3) ?_;lk;refine aB.iQ hb ?_;ktn_no "no";exact#[.val (.int i),c7,k3,rfl]
   |cons z zs=>
    refine wL (!q8) ?_;lk;exact#[.val (.int i),c7,k3,rfl]
  ·rintro ρ' H' ⟨u,hu,k2,rfl⟩;lk;exact#[H,(k1.trans k2).sub,hq]
noncomputable def nl(y:Str):List Nat:=y.cps.toList++[10]
theorem DT(w:String)(us:List AV):nl (jo w us)=bG (bI w).cps.toList us:=by
 rw[DQ];simp[nl,jo]
theorem pg.keepR(h:pg H a b1 b2 b3 b4 p)(hr:RR H r c x k rest)(q:Kp [r,c] H H'):pg H' a b1 b2 b3 b4 p:=by
 refine xE h.o λd e=>?_;refine#[#[d,q.at e ?_],q.at h.h1 (hr.nr h.h1),q.at h.h2 (hr.nr h.h2),q.at h.h3 (hr.nr h.h3),q.at h.h4 (hr.nr h.h4)];refine xE hr.rd λdr e0=>?_;refine sH hr.cu.e λZ Z e1=>?_;intro z;rcases l9.mp z with rfl|z
 ·exact aoC (E1 (G0 (e)) e0) rfl
 ·rw[j0.mp z,e1] at e;cases e
noncomputable def gQ(pre:String)(p:Pk):List Nat:=(cL pre p).flatMap nl
structure RQ(p:Pk)(lo hi:Option Int):Prop where
 b:∀i∈p.bases,i.natAbs<10 ^ 10
 t:∀i∈p.table,i.natAbs<10 ^ 10
 c:∀i∈p.check,i.natAbs<10 ^ 10
 o:∀i∈p.owners,i.natAbs<10 ^ 10
 h:∀i∈p.table,Un lo hi i
theorem jU (cc:CC C) {r c:Addr} {x:Str} {k:Int} {rest:List Nat} {p:Pk} {ws:String} {lo hi:Option Int} {many:Nat} {cols:Int} {F:Fm} (hf:F.fn=true) (hk:F.env.scope.kind=.function) (hws:ws=""\/ws="goto_") (g:iZ p many cols) (ok:RQ p lo hi) (h:RR H r c x k (gQ ws p++rest))
 (hq:∀a b1 b2 b3 b4 H',pg H' a b1 b2 b3 b4 p->RR H' r c x (k+1+1+1+1) rest->Kp [r,c] H H'->Q (.ref a) H'):
 aG C (n+11) F (fB (tS 55)) [("reader",.val (.ref r)),("prefix",.val (.str (bI ws))),("many",.val (.int many)),("columns",.val (.int cols)),("least",.val (oI lo)),("most",.val (oI hi)),("bases",.undef),("table",.undef),("check",.undef),("found",.undef),("flaw",.undef),("PackedRows",.glob)] H λo Z H'=>Q (eL o) H':=by
 have hpl:(bI ws).length<=5:=by rcases hws with rfl|rfl<;>decide+kernel
 have cat:∀x:String,x="bases"\/x="table"\/x="check"\/x="owners"->bI ws++bI x=bI (ws++x)/\(bI x).length<=6/\(bI (ws++x)).length<=100:=by
  rintro x (rfl|rfl|rfl|rfl)<;>rcases hws with rfl|rfl<;>decide+kernel
 have ht:gQ ws p++rest=bG (bI (ws++"bases")).cps.toList (ak p.bases)++(bG (bI (ws++"table")).cps.toList (ak p.table)++(bG (bI (ws++"check")).cps.toList (ak p.check)++(bG (bI (ws++"owners")).cps.toList (ak p.owners)++rest))):=by
  simp[gQ,cL,DT,x8]
 rw[ht] at h;refine xE h.rd λdr e0=>?_;refine aG.cons ?_;lk;ktn_no "meth";lk;refine aB.gX (by have:=(cat "bases" (!.inl rfl)).2;exact FU this hpl) ?_;rw[(cat "bases" (!.inl rfl)).1];lk;refine rF cc (cat "bases" (!.inl rfl)).2.2 ok.b h λb1 H1 hb1 Mb h1 k1=>?_;refine xE h1.rd λFl e1=>?_;lk;ktn_no "meth";lk;refine aB.gX (by have:=(cat "table" (!.inr (.inl rfl))).2;exact FU this hpl) ?_;rw[(cat "table" (!.inr (.inl rfl))).1];lk;refine rH cc rfl rfl (cat "table" (!.inr (.inl rfl))).2.2 ok.t ok.h h1 λb2 H2 hb2 Ni h2 k2=>?_;refine xE h2.rd λdr2 e2=>?_;have RS:=k2.at Mb (h1.nr Mb);lk;ktn_no "meth";lk;refine aB.gX (by have:=(cat "check" (!.inr (.inr (.inl rfl)))).2;exact FU this hpl) ?_;rw[(cat "check" (!.inr (.inr (.inl rfl)))).1];lk;refine rF cc (cat "check" (!.inr (.inr (.inl rfl)))).2.2 ok.c h2 λb3 H3 hb3 Nj h3 k3=>?_;refine xE h3.rd λUk e3=>?_;have RT:=k3.at RS (h2.nr RS);have RU:=k3.at Ni (h2.nr Ni);lk;ktn_no "meth";lk;refine aB.gX (by have:=(cat "owners" (!.inr (.inr (.inr rfl)))).2;exact FU this hpl) ?_;rw[(cat "owners" (!.inr (.inr (.inr rfl)))).1];lk;refine rF cc (cat "owners" (!.inr (.inr (.inr rfl)))).2.2 ok.o h3 λb4 H4 hb4 Uq h4 k4=>?_;have afK:=k4.at RT (h3.nr RT);have afL:=k4.at RU (h3.nr RU);have afM:=k4.at Nj (h3.nr Nj);lk;refine wU cc afK afL afM Uq λa H5 ha p5 k5=>?_;refine xE p5.o λd5 e5=>?_;lk;ktn_no "meth";lk;refine Hr cc p5 g ?_;lk;refine aB.MQ ?_;ktn_no "no";exact hq a b1 b2 b3 b4 _ p5 (h4.keep k5 (!m8) (!m8)) ((((k1.trans k2).trans k3).trans k4).trans k5.any)
theorem yU (cc:CC C) {r c:Addr} {x:Str} {k:Int} {rest:List Nat} {p:Pk} {ws:String} {many:Nat} {cols:Int} (hws:ws=""\/ws="goto_") (g:iZ p many cols) (ok:RQ p b6 b6) (h:RR H r c x k (gQ ws p++rest))
 (hq:∀a b1 b2 b3 b4 H',pg H' a b1 b2 b3 b4 p->RR H' r c x (k+1+1+1+1) rest->Kp [r,c] H H'->Q (.ref a) H'):aj C (n+12) (.ref 768) [.ref r,.str (bI ws),.int many,.int cols] H Q:=
 q_ cc λF hf hn hk=>jU cc hf hk hws g ok h hq
theorem yV (cc:CC C) {r c:Addr} {x:Str} {k:Int} {rest:List Nat} {p:Pk} {ws:String} {lo hi:Option Int} {v4 v5:AV} {many:Nat} {cols:Int} (e4:v4=oI lo) (e5:v5=oI hi) (hws:ws=""\/ws="goto_") (g:iZ p many cols) (ok:RQ p lo hi) (h:RR H r c x k (gQ ws p++rest))
 (hq:∀a b1 b2 b3 b4 H',pg H' a b1 b2 b3 b4 p->RR H' r c x (k+1+1+1+1) rest->Kp [r,c] H H'->Q (.ref a) H'):aj C (n+12) (.ref 768) [.ref r,.str (bI ws),.int many,.int cols,v4,v5] H Q:=by
 subst e4 e5;exact rm cc λF hf hn hk=>jU cc hf hk hws g ok h hq
end
section
variable{C:Cx}{n:Nat}{H:AH}{Q:AV->AH->Prop}
theorem m_(p:Pk)(o:Int):((gM p o).map (·.1)).Pairwise (·<·):=by
 unfold gM dP;rw[K8];have:((C4 p.check.length).filter λc=>decide (aD p.check (c:Nat)=o+1)).Pairwise (·<·):=List.Pairwise.filter _ List.pairwise_lt_range;refine List.Pairwise.map _ ?_ this;intro a b hab;show(a:Int) - _<(b:Int) - _;exact WC hab
theorem DU(p:Pk)(o:Int):(gM p o).length<=p.check.length:=by
 unfold gM dP;rw[b9];exact g9 (J4 _ _) (by rw[I8];exact r7 _)
theorem yW(hn:(l.map (·.1)).Pairwise (·<·))(h:(c,v)∈l):dX (dG l) c=some (.int v):=by
 induction l with
 |nil=>exact if_pos `a
 |cons x l ih=>
  unfold dX dG;rw[q7,S6];rw[q7,List.pairwise_cons] at hn;rcases l9.mp h with rfl|h
  ·simp
  ·have hlt:=hn.1 c (m5.mpr #[_,h,rfl]);rw[show(decide ((x.1,AV.int x.2).1=c))=false by simp;exact WD hlt];exact ih hn.2 h
theorem rK(l:List (Int×Int)):(dG l).map (·.1)=l.map (·.1):=by simp[dG]
theorem Ai(p:Pk)(o:Int)(hz:p.check.length<=60)(hd:H d=some (.dI (dG (gM p o))))(h:∀D,H D=b6->Q (.ref D) (H.set D (.list (ak ((gM p o).map (·.1)))))):aj C n (.builtin "sorted") [.ref d] H Q:=
 aj.uI hd (by have:=DU p o;simp[dG];exact WE this hz) (by rw[rK]) ((m_ p o).imp Int.le_of_lt) h
def jV(states rules v:Int):Prop:=(0<v/\v<states)\/(-rules<v/\v<0)\/v=1048576\/v=-1048576
theorem pS(cc:CC C)(hp:pg H a b1 b2 b3 b4 p)(wf:Up p)(ok:∀i:Nat,i<p.owners.length->∀q∈gM p (aD p.owners i),jV states rules q.2)(hq:Q .none H):aj C (n+3) (.ref 789) [.ref r,.ref a,.int states,.int rules] H Q:=
 .forget <| pO cc λF hf hn hk=>by
  refine xE hp.o λd e0=>?_;obtain⟨s1,s2,s3,s4⟩:=wf.sz;refine aG.cons ?_;refine Ex.forR hf ["row","column","number","is_shift","is_rule"] `wk (aZ.list ?_ bu.name);lk;ktn_no "meth";refine jT cc hp wf λx H1 ds hx hl hdl hd k1=>?_;refine#[x,_,rfl,hl,?_];refine#[λZ=>Kp [] H1,.refl,λZ Z Z k=>k.aK hl,λi v H' hv k2 K kk=>?_,λH' k2=>?_]
  ·obtain⟨y,hy,rfl⟩:∃y,ds[i]? =some y/\v=.ref y:=by
    rw[j9] at hv;cases e:ds[i]? with
    |none=>rw[e] at hv;cases hv
    |some y=>rw[e] at hv;cases hv;exact#[y,rfl,rfl]
   have hi:i<p.owners.length:=by have:=(c9.mp hy).1;exact WG this hdl
   have hyd:=k2.aK (hd _ _ hy);refine b_.aT (u:=.undef) `get hf c7 ?_;refine aG.cD `set ?_;refine aG.cons ?_;refine Ex.forR hf ["column","number","is_shift","is_rule"] `wk (aZ.list ?_ bu.name);lk;refine Ai p _ s4 hyd λD hD=>newL hD λH2 k3 e2=>?_;have k3:=k2.trans k3;refine#[D,_,rfl,e2,λZ=>Kp [] H2,.refl,λZ Z Z k=>k.aK e2,λj v H3 hv k4 K jj=>?_,λH3 k4=>?_]
   ·obtain⟨q,Nk,rfl⟩:∃q∈gM p (aD p.owners i),v=.int q.1:=by
     have:=j8 hv;simp only[ak,K8,m5,Function.comp_apply] at this;refine bz this λq h1 h2=>?_;exact#[q,h1,h2.symm]
    have hact:=ok i hi q Nk;refine b_.aT (u:=.undef) `get hf c7 ?_;refine aG.cD `set ?_;lk;refine aF.dict (oX C) (λZ Z=>rfl) ((k3.trans k4).aK (hd _ _ hy)) (yW (m_ p _) Nk) ?_;refine aG.cD `set ?_;refine aG.cons ?_;refine Ex.qG (u:=.undef) `get c7 hf ?_;refine Ev.known (.bool (decide (0<q.2/\q.2<states))) ?_ ?_
    ·lk;refine aB.GH (λc=>?_) λc=>?_
     ·lk;refine aB.ltI ?_;exact#[by simp[c],rfl]
     ·lk;exact#[by simp[c],rfl]
    refine aG.cD `set ?_;refine aG.cons ?_;refine Ex.qG (u:=.undef) `get c7 hf ?_;refine Ev.known (.bool (decide (-rules<q.2/\q.2<0))) ?_ ?_
    ·lk;refine kY.fC ?_;lk;refine aB.GH (λc=>?_) λc=>?_
     ·lk;refine aB.ltI ?_;exact#[by simp[c],rfl]
     ·lk;exact#[by simp[c],rfl]
    refine aG.cD `set ?_;refine aG.cons ?_;refine Ex.ite ?_;refine Tr.known false ?_ ?_
    ·lk;by_cases c1:0<q.2/\q.2<states
     ·rw[decide_eq_true c1];ktn_no "no";exact#[rfl,rfl]
     rw[decide_eq_false c1];ktn_no "yes";by_cases c2:-rules<q.2/\q.2<0
     ·rw[decide_eq_true c2];ktn_no "no";exact#[rfl,rfl]
     rw[decide_eq_false c2];ktn_no "yes";refine aB.wC (λc3=>?_) λc3=>?_
     ·ktn_no "no";exact#[rfl,rfl]
     ktn_no "yes";refine aB.pH ?_;refine#[_,rfl,?_];have c4:q.2=-1048576:=by
      rcases hact with h|h|h|h
      ·exact absurd h c1
      ·exact absurd h c2
      ·exact absurd h c3
      ·exact h
     rw[decide_eq_true c4];ktn_no "no";exact#[rfl,rfl]
    ·lk;exact jj #[`k,k4]
   ·lk;exact kk #[`k,k3.trans k4]
  ·lk;exact#[H,(k1.trans k2).sub,hq]
end
section
variable{C:Cx}{n:Nat}{H:AH}{Q:AV->AH->Prop}
noncomputable def iE(m s:Int):Int:=Q8 (m.fdiv (2 ^ s.toNat)) 1
inductive DV(p:Pk)(gd gm:List Int)(states:Int):Prop
 |mk (ll:gd.length=gm.length) (lo:p.owners.length=gm.length) (it:∀i:Nat,i<gm.length->(aD gm i=0↔aD gd i=-1)/\(aD gm i).fdiv (2 ^ states.toNat)=0/\aD gd i≠0/\∀q∈gM p (aD p.owners i),0<=q.1/\iE (aD gm i) q.1≠0/\q.2≠aD gd i/\1<=q.2):DV p gd gm states
theorem tB(cc:CC C)(hst:0<=states)(hp:pg H a b1 b2 b3 b4 p)(hgd:H gda=some (.list (ak gd)))(Ur:H gma=some (.list (ak gm)))(wf:Up p)(ok:DV p gd gm states)(hq:Q .none H):aj C (n+3) (.ref 796) [.ref r,.ref a,.ref gda,.ref gma,.int states] H Q:=
 .forget <| sU cc λF hf hn hk=>by
  refine xE hp.o λd e0=>?_;obtain⟨s1,s2,s3,s4⟩:=wf.sz;obtain⟨o1,o2,o3⟩:=ok;refine aG.cons ?_;lk;ktn_no "meth";refine jT cc hp wf λx H1 ds hx hl hdl hd k1=>?_;refine aG.cD `set ?_;have RV:=k1.aK hgd;have Mc:=k1.aK Ur;refine aG.cons ?_;refine Ex.gY (aZ.range `get (aU cc) ?_ bu.name);lk;refine aj.bM Mc (by rw[az];exact WH o2 s1 s3) ?_;refine#[_,rfl,by rw[az];exact qj,by rw[az];exact ac6 o2 s1 s3,?_];rw[j7,az];refine#[λi ρ' H'=>Gz λu1 u2=>C_ (LV.ok u1) (LV.ok u2) (Kp [] H1 H') (ρ'=([("reader",.val (.ref r)),("gotos",.val (.ref a)),("defaults",.val (.ref gda)),("masks",.val (.ref gma)),("states",.val (.int states)),("rows",.val (.ref x)),("number",u1),("state",u2),("range",.glob),("len",.glob),("sorted",.glob)]:Loc)),#[.undef,.undef,c7,c7,Kp.refl,rfl],λZ Z Z Z Z=>trivial,?_,?_]
  ·rintro i v ρ' H' hv ⟨u1,u2,hu1,Cd,k2,rfl⟩;obtain⟨rfl,hi⟩:=bk hv;refine pG (o3 i hi) λt1 t2 t3 t4=>?_;have RW:=k2.aK RV;have RX:=k2.aK Mc;have hge:ds[i]? =some _:=b8 (!NZ hi hdl o2);generalize ds[i]'(!NZ hi hdl o2)=y at hge;have hyd:=k2.aK (hd _ _ hge);refine b_.aT `get hf hu1 ?_;refine aG.cD `set ?_;refine aG.cons ?_;refine Ex.ite ?_;refine Tr.known false ?_ ?_
   ·lk;refine aF.aD (λZ Z=>rfl) RX (!bN) (!gI hi) (!Kf o2 s1 s3) ?_;lk;refine aB.Gv ?_;lk;refine aF.aD (λZ Z=>rfl) RW (!bN) (!cI hi o1) (!Kg o1 o2 s1 s3) ?_;lk;refine kY.fC ?_;refine aB.Gv ?_;refine aB.neB ?_;refine#[_,rfl,?_,rfl];by_cases c:aD gm i=0
    ·rw[decide_eq_true c,decide_eq_true (t1.mp c)];rfl
    ·rw[decide_eq_false c,decide_eq_false (λe=>c (t1.mpr e))];rfl
   lk;refine aF.aD (λZ Z=>rfl) RX (!bN) (!gI hi) (!Kf o2 s1 s3) ?_;lk;refine aB.CN hst ?_;lk;refine aB.iQ t2 ?_;ktn_no "no";refine aF.aD (λZ Z=>rfl) RW (!bN) (!cI hi o1) (!Kg o1 o2 s1 s3) ?_;lk;refine aB.Df t3 ?_;lk;refine Ex.gY (aZ.list ?_ bu.name);lk;refine aF.list (λZ Z=>rfl) (k2.aK hl) (!bN) (v:=.ref y) (by rw[j7,j9,hge];rfl) (by simp;exact AJ hdl s1 s3) ?_;lk;refine Ai p _ s4 hyd λD hD=>?_;have k3:=k2.trans (Kp.new (o:=.list (ak ((gM p (aD p.owners i)).map (·.1)))) hD);refine#[D,_,rfl,AH.aq _ _ _,?_];refine#[λj ρ' qF=>∃u2,LV.ok u2/\qF=H'.set D (.list (ak ((gM p (aD p.owners i)).map (·.1))))/\ρ'=([("reader",.val (.ref r)),("gotos",.val (.ref a)),("defaults",.val (.ref gda)),("masks",.val (.ref gma)),("states",.val (.int states)),("rows",.val (.ref x)),("number",.val (.int i)),("state",u2),("range",.glob),("len",.glob),("sorted",.glob)]:Loc),#[u2,Cd,rfl,rfl],?_,?_,?_]
   ·rintro _ _ _ _ ⟨_,_,rfl,_⟩;exact AH.aq _ _ _
   ·rintro j v ρ' qF hv ⟨w2,hw2,rfl,rfl⟩;obtain⟨q,Nk,rfl⟩:∃q∈gM p (aD p.owners i),v=.int q.1:=by
     have:=j8 hv;simp only[ak,K8,m5,Function.comp_apply] at this;refine bz this λq h1 h2=>?_;exact#[q,h1,h2.symm]
    refine pG (t4 q Nk) λg1 g2 g3 g4=>?_;unfold iE at g2;have RY:=k3.aK (hd _ _ hge);have hl3:=k3.aK hl;have afR:=k3.aK RV;have afS:=k3.aK Mc;refine b_.aT `get hf hw2 ?_;refine aG.cD `set ?_;lk;refine aF.aD (λZ Z=>rfl) afS (!bN) (!gI hi) (!Kf o2 s1 s3) ?_;lk;refine aB.CN g1 ?_;lk;refine aB.Ll ?_;lk;refine aB.Df g2 ?_;lk;refine aF.list (λZ Z=>rfl) hl3 (!bN) (v:=.ref y) (by rw[j7,j9,hge];rfl) (by simp;exact AJ hdl s1 s3) ?_;lk;refine aF.dict (oX C) (λZ Z=>rfl) RY (yW (m_ p _) Nk) ?_;lk;refine aF.aD (λZ Z=>rfl) afR (!bN) (!cI hi o1) (!Kg o1 o2 s1 s3) ?_;lk;refine aB.Df g3 ?_;lk;refine aF.list (λZ Z=>rfl) hl3 (!bN) (v:=.ref y) (by rw[j7,j9,hge];rfl) (by simp;exact AJ hdl s1 s3) ?_;lk;refine aF.dict (oX C) (λZ Z=>rfl) RY (yW (m_ p _) Nk) ?_;lk;refine aB.GG (!WJ g4) ?_;lk;exact#[.val (.int q.1),c7,rfl,rfl]
   ·rintro ρ' qF ⟨w2,hw2,rfl,rfl⟩;lk;exact#[.val (.int i),w2,c7,hw2,k3,rfl]
  ·rintro ρ' H' ⟨u1,u2,hu1,Cd,k2,rfl⟩;lk;exact#[H,(k1.trans k2).sub,hq]
end
section
variable{C:Cx}{n:Nat}{H:AH}{Q:AV->AH->Prop}
noncomputable def gv(op:Str)(l:List String):Bool:=(l.map λs=>M3 (bI s)).any λy=>I7 y (.str op)
inductive vM(len:Int):Str->AV->Prop
 |arg (i:Int):1<=i->vM len "arg" (.int i)
 |set:vM len "set" .none
 |DW (i:Int):vM len "push" (.int i)
 |pushS (x:Str):vM len "push" (.str x)
 |get (x:Str):x≠bI ""->F5 x=true->vM len "get" (.str x)
 |put (x:Str):x≠bI ""->F5 x=true->vM len "put" (.str x)
 |unl (i:Int):0<=i->i<=len->vM len "unless" (.int i)
 |two:vM len "two" (.str "+")
 |one:vM len "one" (.str "-")
 |word:vM len "word" (.str "yyerrok")
noncomputable def rL(op:Str):Int×Int:=if gv op ["push","arg","own","get"] then(0,1) else if gv op ["set","put","drop","unless","when"] then(1,0) else if op=bI "two" then(2,1) else if gv op ["one","truth"] then(1,1) else(0,0)
noncomputable def dK(op:Str)(w:AV)(i:Int):List AV:=if gv op ["jump","unless","when"] then[.int (i+1),w] else[.int (i+1)]
theorem vM.facts(h:vM len op w):op≠bI "jump"/\op≠bI "list"/\op≠bI "apply"/\(op=bI "word"->w=.str "yyerrok"):=by
 cases h<;>refine#[`d,`d,`d,λe=>?_]<;>first|rfl|exact absurd e `d
theorem aB.gv(l:List String)(hv:vs=l.map λs=>AV.str (bI s))(ho:F5 op=true)(hl:(l.all λs=>F5 (bI s))=true)(h:Q (.bool (gv op l)) H):aB C n (compareOp .In) (.str op) (.tup vs) H Q:=by
 subst hv;refine aB.inT (.str op) (es:=l.map λs=>M3 (bI s)) (.tup ?_) `a ?_ (!s8 _) h
 ·clear h hl;induction l with
  |nil=>exact .nil
  |cons s l ih=>exact .cons (.str _) ih
 ·clear h;induction l with
  |nil=>rfl
  |cons s l ih=>
   rw[List.all_cons,D0] at hl;rw[q7,r8,C8,hl.1,ih hl.2];rfl
theorem RZ(cc:CC C)(h1:op≠bI "list")(h2:op≠bI "apply")(ho:F5 op=true)(hq:Q (.tup [.int (rL op).1,.int (rL op).2]) H):aj C (n+1) (.ref 588) [.str op,w] H Q:=
 nX cc λF hf hn hk=>by
  unfold rL at hq;refine aG.cons ?_;lk;refine#[sz rfl,?_];lk;refine aB.gv ["push","arg","own","get"] rfl ho `d ?_;refine#[_,rfl,?_];cases c1:gv op ["push","arg","own","get"] with
  |true=>
   rw[c1] at hq;ktn_no "yes";exact#[!b7 rfl,hq]
  |false=>
  rw[c1] at hq;ktn_no "no";refine#[sz rfl,?_];lk;refine aB.gv ["set","put","drop","unless","when"] rfl ho `d ?_;refine#[_,rfl,?_];cases c2:gv op ["set","put","drop","unless","when"] with
  |true=>
   rw[c2] at hq;ktn_no "yes";exact#[!b7 rfl,hq]
  |false=>
  rw[c2] at hq;ktn_no "no";refine aB.fJ ?_;refine#[_,rfl,?_];by_cases c3:op=bI "two"
  ·rw[if_neg (!q8),if_neg (!q8),if_pos c3] at hq;rw[decide_eq_true c3];ktn_no "yes";exact#[!b7 rfl,hq]
  rw[if_neg (!q8),if_neg (!q8),if_neg c3] at hq;rw[decide_eq_false c3];ktn_no "no";refine#[sz rfl,?_];lk;refine aB.gv ["one","truth"] rfl ho `d ?_;refine#[_,rfl,?_];cases c4:gv op ["one","truth"] with
  |true=>
   rw[c4] at hq;ktn_no "yes";exact#[!b7 rfl,hq]
  |false=>
  rw[c4] at hq;ktn_no "no";refine aB.fJ ?_;rw[decide_eq_false h1];ktn_no "no";refine aB.fJ ?_;rw[decide_eq_false h2];ktn_no "no";exact#[!b7 rfl,hq]
theorem DX(cc:CC C){ca:Addr}{gK:List AV}{at_:Nat}{op:Str}{w:AV}(hc:H ca=some (.list gK))(hl:gK.length<=1000)(hat:gK[at_]? =some (.tup [.str op,w]))(h1:op≠bI "jump")(h2:op=bI "word"->w=.str "yyerrok")(ho:F5 op=true)(hq:∀D,H D=b6->Q (.ref D) (H.set D (.list (dK op w at_)))):aj C (n+1) (.ref 581) [.ref ca,.int at_] H Q:=
 pM cc λF hf hn hk=>by
  unfold dK at hq;refine aG.cons ?_;refine Ex.qw ?_;lk;refine aF.list (λZ Z=>rfl) hc (!bN) (by rw[j7];exact hat) (!pF hl) ?_;refine b_.two (u:=.undef) (w:=.undef) hf `get c7 `set `get c7 `set ?_;refine aG.cons ?_;refine Ex.ite ?_;refine Tr.known false ?_ ?_
  ·lk;refine aB.fJ ?_;exact#[_,rfl,decide_eq_false h1,rfl]
  ktn_no "if";refine aG.nil ?_;refine aG.cons ?_;refine Ex.ite ?_;refine Tr.known false ?_ ?_
  ·lk;refine aB.fJ ?_;refine#[_,rfl,?_];by_cases c:op=bI "word"
   ·rw[decide_eq_true c,h2 c];ktn_no "yes";refine aB.gv ["YYERROR","YYABORT","YYACCEPT"] rfl `d `d ?_;ktn_no "no";exact#[rfl,rfl]
   ·rw[decide_eq_false c];ktn_no "no";exact#[rfl,rfl]
  lk;refine aB.gv ["jump","unless","when"] rfl ho `d ?_;refine#[_,rfl,?_];cases c4:gv op ["jump","unless","when"] with
  |true=>
   rw[c4] at hq;ktn_no "yes";refine aB.bL ?_;lk;exact#[!b7 rfl,hq]
  |false=>
   rw[c4] at hq;ktn_no "no";refine aB.bL ?_;lk;exact#[!n8 _,hq]
theorem pA(cc:CC C):zS C 571 (bKv [("||",1009,1,1010),("&&",1011,2,1012),("==",1013,3,1014),("!=",1015,3,1016),("<",1017,3,1018),("<=",1019,3,1020),(">",1021,3,1022),(">=",1023,3,1024),("+",1025,4,1026),("-",1027,4,1028),("*",1029,5,1030),("/",1031,5,1032),("%",1033,5,1034)]):=#[`d,λh X=>wB (m:=13) (by rw[cc.K];kernel_rfl) `d X]
theorem Hs(cc:CC C)(i:Int)(hi:1<=i)(hq:Q (.bool true) H):aj C (n+1) (.ref 595) [.str "arg",.int i,.int len] H Q:=
 cA cc λF hf hn hk=>by
  refine aG.cons ?_;lk;refine aB.gv ["jump","unless","when"] rfl `d `d ?_;ktn_no "no";refine#[sz rfl,?_];lk;refine aB.gv ["arg","list"] rfl `d `d ?_;ktn_no "yes";refine aj.Cb (by simp) (by simp) (!MV) (!.inl rfl) ?_;refine#[_,rfl,?_];rw[show Ca (.int i) "int"=true from rfl];lk;refine aB.fJ ?_;lk;refine aj.QN ?_;refine aB.IK ?_;rw[decide_eq_true `a];exact hq
theorem yX(cc:CC C)(i:Int)(h0:0<=i)(h1:i<=len)(hq:Q (.bool true) H):aj C (n+1) (.ref 595) [.str "unless",.int i,.int len] H Q:=
 cA cc λF hf hn hk=>by
  refine aG.cons ?_;lk;refine aB.gv ["jump","unless","when"] rfl `d `d ?_;ktn_no "yes";refine aj.Cb (by simp) (by simp) (!MV) (!.inl rfl) ?_;refine#[_,rfl,?_];rw[show Ca (.int i) "int"=true from rfl];lk;refine aB.Q_ h0 ?_;lk;refine aB.leI ?_;rw[decide_eq_true h1];exact hq
theorem Bq(cc:CC C)(i:Int)(hq:Q (.bool true) H):aj C (n+1) (.ref 595) [.str "push",.int i,.int len] H Q:=
 cA cc λF hf hn hk=>by
  refine aG.cons ?_;lk;refine aB.gv ["jump","unless","when"] rfl `d `d ?_;ktn_no "no";refine#[sz rfl,?_];lk;refine aB.gv ["arg","list"] rfl `d `d ?_;ktn_no "no";refine aB.fJ ?_;ktn_no "yes";refine#[sz rfl,?_];lk;refine aj.Gy (by simp) (by simp) (!MV) (!.inl rfl) (!.inr (.inl rfl)) ?_;exact hq
theorem Br(cc:CC C)(x:Str)(hq:Q (.bool true) H):aj C (n+1) (.ref 595) [.str "push",.str x,.int len] H Q:=
 cA cc λF hf hn hk=>by
  refine aG.cons ?_;lk;refine aB.gv ["jump","unless","when"] rfl `d `d ?_;ktn_no "no";refine#[sz rfl,?_];lk;refine aB.gv ["arg","list"] rfl `d `d ?_;ktn_no "no";refine aB.fJ ?_;ktn_no "yes";refine#[sz rfl,?_];lk;refine aj.Gy (by simp) (by simp) (!MU) (!.inl rfl) (!.inr (.inl rfl)) ?_;exact hq
theorem Ht(cc:CC C)(x:Str)(hx:x≠bI "")(hq:Q (.bool true) H):aj C (n+1) (.ref 595) [.str "get",.str x,.int len] H Q:=
 cA cc λF hf hn hk=>by
  refine aG.cons ?_;lk;refine aB.gv ["jump","unless","when"] rfl `d `d ?_;ktn_no "no";refine#[sz rfl,?_];lk;refine aB.gv ["arg","list"] rfl `d `d ?_;ktn_no "no";refine aB.fJ ?_;ktn_no "no";refine#[sz rfl,?_];lk;refine aB.gv ["get","put"] rfl `d `d ?_;ktn_no "yes";refine aj.Cb (by simp) (by simp) (!MU) (!.inr (.inl rfl)) ?_;refine#[_,rfl,?_];rw[show Ca (.str x) "str"=true from rfl];lk;refine aB.MQ ?_;rw[decide_eq_false hx];exact hq
theorem Hu(cc:CC C)(x:Str)(hx:x≠bI "")(hq:Q (.bool true) H):aj C (n+1) (.ref 595) [.str "put",.str x,.int len] H Q:=
 cA cc λF hf hn hk=>by
  refine aG.cons ?_;lk;refine aB.gv ["jump","unless","when"] rfl `d `d ?_;ktn_no "no";refine#[sz rfl,?_];lk;refine aB.gv ["arg","list"] rfl `d `d ?_;ktn_no "no";refine aB.fJ ?_;ktn_no "no";refine#[sz rfl,?_];lk;refine aB.gv ["get","put"] rfl `d `d ?_;ktn_no "yes";refine aj.Cb (by simp) (by simp) (!MU) (!.inr (.inl rfl)) ?_;refine#[_,rfl,?_];rw[show Ca (.str x) "str"=true from rfl];lk;refine aB.MQ ?_;rw[decide_eq_false hx];exact hq
theorem Hv(cc:CC C)(hq:Q (.bool true) H):aj C (n+1) (.ref 595) [.str "two",.str "+",.int len] H Q:=
 cA cc λF hf hn hk=>by
  refine aG.cons ?_;lk;refine aB.gv ["jump","unless","when"] rfl `d `d ?_;ktn_no "no";refine#[sz rfl,?_];lk;refine aB.gv ["arg","list"] rfl `d `d ?_;ktn_no "no";refine aB.fJ ?_;ktn_no "no";refine#[sz rfl,?_];lk;refine aB.gv ["get","put"] rfl `d `d ?_;ktn_no "no";refine aB.fJ ?_;ktn_no "yes";refine aB.inBase (pA cc) ?_;refine#[_,rfl,?_];refine Bh `k ?_;lk;refine aF.based (λZ Z=>rfl) (pA cc) (v:=.int 4) `k ?_;lk;refine aB.Qf ?_;exact hq
theorem Hw(cc:CC C)(hq:Q (.bool true) H):aj C (n+1) (.ref 595) [.str "one",.str "-",.int len] H Q:=
 cA cc λF hf hn hk=>by
  refine aG.cons ?_;lk;refine aB.gv ["jump","unless","when"] rfl `d `d ?_;ktn_no "no";refine#[sz rfl,?_];lk;refine aB.gv ["arg","list"] rfl `d `d ?_;ktn_no "no";refine aB.fJ ?_;ktn_no "no";refine#[sz rfl,?_];lk;refine aB.gv ["get","put"] rfl `d `d ?_;ktn_no "no";refine aB.fJ ?_;ktn_no "no";refine aB.fJ ?_;ktn_no "yes";refine#[sz rfl,?_];lk;refine aB.gv ["-","!"] rfl `d `d ?_;exact hq
theorem DY(cc:CC C)(hq:Q (.bool true) H):aj C (n+1) (.ref 595) [.str "word",.str "yyerrok",.int len] H Q:=
 cA cc λF hf hn hk=>by
  refine aG.cons ?_;lk;refine aB.gv ["jump","unless","when"] rfl `d `d ?_;ktn_no "no";refine#[sz rfl,?_];lk;refine aB.gv ["arg","list"] rfl `d `d ?_;ktn_no "no";refine aB.fJ ?_;ktn_no "no";refine#[sz rfl,?_];lk;refine aB.gv ["get","put"] rfl `d `d ?_;ktn_no "no";refine aB.fJ ?_;ktn_no "no";refine aB.fJ ?_;ktn_no "no";refine aB.fJ ?_;ktn_no "no";refine aB.fJ ?_;ktn_no "yes";refine aB.gv ["yyerrok","yyclearin","YYERROR","YYABORT","YYACCEPT"] rfl `d `d ?_;exact hq
theorem Hx(cc:CC C)(hq:Q (.bool true) H):aj C (n+1) (.ref 595) [.str "set",.none,.int len] H Q:=
 cA cc λF hf hn hk=>by
  refine aG.cons ?_;lk;refine aB.gv ["jump","unless","when"] rfl `d `d ?_;ktn_no "no";refine#[sz rfl,?_];lk;refine aB.gv ["arg","list"] rfl `d `d ?_;ktn_no "no";refine aB.fJ ?_;ktn_no "no";refine#[sz rfl,?_];lk;refine aB.gv ["get","put"] rfl `d `d ?_;ktn_no "no";refine aB.fJ ?_;ktn_no "no";refine aB.fJ ?_;ktn_no "no";refine aB.fJ ?_;ktn_no "no";refine aB.fJ ?_;ktn_no "no";refine#[sz rfl,?_];lk;refine aB.gv ["own","set","drop","truth","fresh"] rfl `d `d ?_;refine#[_,rfl,?_];refine Bh `d ?_;lk;refine aB.Fi ?_;exact hq
theorem Me(cc:CC C)(h:vM len op w)(hq:Q (.bool true) H):aj C (n+1) (.ref 595) [.str op,w,.int len] H Q:=by
 cases h with
 |arg i h=>exact Hs cc i h hq
 |set=>exact Hx cc hq
 |DW i=>exact Bq cc i hq
 |pushS x=>exact Br cc x hq
 |get x h _=>exact Ht cc x h hq
 |put x h _=>exact Hu cc x h hq
 |unl i h0 h1=>exact yX cc i h0 h1 hq
 |two=>exact Hv cc hq
 |one=>exact Hw cc hq
 |word=>exact DY cc hq
theorem vM.ok(h:vM len op w):F5 op=true:=by cases h<;>decide+kernel
end
section
variable{C:Cx}{n:Nat}{H:AH}{Q:AV->AH->Prop}
noncomputable def cS(code:List (Str×AV)):List AV:=code.map λp=>AV.tup [.str p.1,p.2]
structure oB(code:List (Str×AV))(D:List Int):Prop where
 dl:D.length=code.length+1
 sm:code.length<=8
 d0:aD D 0=0
 dn:aD D code.length=0
 ge:∀i:Int,0<=i->i<=code.length->0<=aD D i
 it:∀(i:Nat) op w,code[i]? =some (op,w)->vM code.length op w/\(rL op).1<=aD D i/\∀g∈dK op w i,∃j:Int,g=.int j/\i<j/\j<=code.length/\aD D j=aD D i - (rL op).1+(rL op).2
theorem ng{code:List (Str×AV)}{i:Nat}{op:Str}{w:AV}(h:code[i]? =some (op,w)):(cS code)[i]? =some (.tup [.str op,w]):=by simp[cS,h]
noncomputable def wW(D:List Int)(g:Int):AV:=.tup [.int g,.int (aD D g)]
theorem Bt(ws:List Int):nK C H (ws.map (wW D)) (ws.map λg=>P6 [.int g,.int (aD D g)]):=by
 induction ws with
 |nil=>exact .nil
 |cons g ws ih=>exact .cons (.tup (.cons (.int _) (.cons (.int _) .nil))) ih
theorem uc{D:List Int}(ws:List Int):r8 (ws.map λg=>P6 [.int g,.int (aD D g)])=true/\C0 (ws.map λg=>P6 [.int g,.int (aD D g)])<=10:=by
 induction ws with
 |nil=>exact#[rfl,s8 _]
 |cons g ws ih=>
  rw[q7,r8,ih.1,C0];refine#[rfl,?_];have:(P6 [.int g,.int (aD D g)]).depth<=10:=by simp[G4,C0]
  exact ac7 this ih.2
theorem nj{ds:List Int}{k i v:Int}(h0:0<=k)(h1:k<ds.length)(hi:0<=i):aD (ds.set k.toNat v) i=if i=k then v else aD ds i:=by
 unfold aD;rw[c8,c8,Z1];by_cases e:i=k
 ·subst e;rw[if_pos rfl,if_pos rfl,if_pos (!Kc hi h1)];rfl
 ·rw[if_neg (!WK h0 hi e),if_neg e]
theorem yY(h:∀g∈dK op w i,∃j:Int,g=.int j/\i<j/\j<=len/\aD D j=t - u+(rL op).2):∃js:List Int,dK op w i=js.map AV.int/\js.length<=2/\∀j∈js,i<j/\j<=len/\aD D j=t - u+(rL op).2:=by
 have hl:(dK op w i).length<=2:=by unfold dK;split<;>simp
 generalize dK op w i=gs at h hl;clear w;induction gs with
 |nil=>exact#[[],rfl,`a,λZ h=>nomatch h]
 |cons g gs ih=>
  refine f_ (ih (λx hx=>h x (!.tail _ `a)) (by simp at hl⊢;exact WL hl)) λjs e Z hj=>?_;obtain⟨j,rfl,q⟩:=h g (!.head _);refine#[j::js,!congrArg _ `a,?_,?_]
  ·have:=congrArg List.length e;simp at this hl⊢;exact acz this hl
  ·exact I3.mpr #[`a,`a]
theorem Bu{js:List Int}{g:Int}{len:Nat}(hl:js.length<=2)(g0:0<=g)(g1:g<=len)(hne:g≠len)(h:∀j∈js,g<j/\j<=len):(js.map λg:Int=>3 ^ (len+1 - g.toNat)).sum<3 ^ (len+1 - g.toNat):=by
 obtain⟨m,hm⟩:∃m,len+1 - g.toNat=m+1:=#[len - g.toNat,!WM g1];rw[hm,Nat.pow_succ];have hp:0<3 ^ m:=Nat.pow_pos (!n8 _);have hb:∀j∈js,3 ^ (len+1 - j.toNat)<=3 ^ m:=λj hj=>R0 (!n8 _) (by have:=h j hj;exact WN hm g0 this)
 match js,hl,hb with
 |[],_,_=>simp<;>exact WO hp
 |[a],_,hb=>have:=hb a (!.head _);simp<;>exact WQ hp this
 |[a,b],_,hb=>have:=hb a (!.head _);have:=hb b (!.tail _ (.head _));simp<;>exact acA hp `a this
 |_::_::_::_,hl,_=>simp at hl
theorem Hy(len:Nat)(ws:List Int):ws.length<=(ws.map λg:Int=>3 ^ (len+1 - g.toNat)).sum:=by
 induction ws with
 |nil=>exact s8 _
 |cons g ws ih=>
  rw[q7,O5,x9];have:0<3 ^ (len+1 - g.toNat):=Nat.pow_pos (!n8 _);exact WS this ih
noncomputable def wsum(len:Nat)(ws:List Int):Nat:=(ws.map λg:Int=>3 ^ (len+1 - g.toNat)).sum
theorem wX:wsum len (a++b)=wsum len a+wsum len b:=by unfold wsum;rw[n6,List.sum_append]
theorem Aj{len:Nat}{a b c:List Int}(h:wsum len b<wsum len c):wsum len (a++b)<wsum len (a++c):=by rw[wX,wX];exact Nat.add_lt_add_left h _
theorem DZ{len:Nat}{g:Int}:wsum len []<wsum len [g]:=by show 0<3 ^ _+0;exact Nat.pow_pos (!n8 _)
theorem R_(h:len<=8):wsum len [0]<=20000:=by
 show 3 ^ (len+1)+0<=20000;exact g9 (R0 (!n8 _) (M0 h)) (!b7 rfl)
theorem Bv(h:i.toNat<n):aD (M5 n (-1)) i=-1:=by
 unfold aD;rw[c8,O9,if_pos h];rfl
theorem Hz{code:List (Str×AV)}{i:Nat}{v:AV}(hv:(I1 (λ(i:Nat) v=>AV.tup [.int i,v]) (C4 (cS code).length) (cS code))[i]? =some v):∃op w,code[i]? =some (op,w)/\v=.tup [.int i,.tup [.str op,w]]:=by
 rw[Q0] at hv;cases e:code[i]? with
 |none=>
  rw[show(cS code)[i]? =b6 by rw[cS,j9,e];rfl] at hv;cases hr:(C4 (cS code).length)[i]?<;>rw[hr] at hv<;>cases hv
 |some p=>
  have hi:=(c9.mp e).1;rw[ng (op:=p.1) (w:=p.2) e,List.getElem?_range (by rw[cS,b9];exact hi)] at hv;exact#[p.1,p.2,rfl,(m9 hv).symm]
inductive CkI(len:Nat)(D:List Int)(da wa:Addr)(H0:AH):Nat->AH->Prop
 |mk (ws ds:List Int) (H:AH) (hws:∀g∈ws,(0:Int)<=g/\g<=len) (Sa:wsum len ws<=20000) (hdl:ds.length=len+1) (hds:∀i:Int,0<=i->i<=len->aD ds i=-1\/aD ds i=aD D i) (hdd:H da=some (.list (ak ds))) (Ak:H wa=some (.list (ws.map (wW D)))) (kp:Kp [] H0 H):CkI len D da wa H0 (wsum len ws) H
theorem Bw(cc:CC C)(g0:0<=g)(hc:H ca=some (.list gK))(hl:gK.length<=1000)(hat:gK[g.toNat]? =some (.tup [.str op,w]))(h1:op≠bI "jump")(h2:op=bI "word"->w=.str "yyerrok")(ho:F5 op=true)(hq:∀D,H D=b6->Q (.ref D) (H.set D (.list (dK op w g)))):aj C (n+1) (.ref 581) [.ref ca,.int g] H Q:=by
 obtain⟨k,rfl⟩:=Int.eq_ofNat_of_zero_le g0;exact DX cc hc hl hat h1 h2 ho hq
theorem D_(cc:CC C){ca:Addr}{code:List (Str×AV)}{D:List Int}(hc:H ca=some (.list (cS code)))(ok:oB code D)(hq:Q .none H):aj C (n+2) (.ref 600) [.ref ca] H Q:=
 .forget <| sR cc λF hf hn hk=>by
  obtain⟨k1,k2,k3,k4,k5,k6⟩:=ok;have hcl:(cS code).length=code.length:=b9 ..;have l6:(cS code).length<=1000000:=by exact Kh hcl k2
  refine aG.cons ?_;refine Ex.forR hf ["at","pair"] `wk (aZ.enum `get (uW cc) ?_);lk;refine#[ca,_,rfl,hc,jl.pure hc (λi v hv K kk=>?_) ?_]
  ·obtain⟨op,w,hco,rfl⟩:=Hz hv;refine b_.two (u:=.undef) (w:=.undef) hf `get c7 `set `get c7 `set ?_;lk;refine aF.tup (λZ Z=>rfl) `e (v:=.str op) rfl (sz rfl) ?_;lk;refine aF.tup (λZ Z=>rfl) `e (v:=w) rfl (sz rfl) ?_;lk;refine aj.bM hc l6 ?_;lk;rw[hcl];refine Me cc (k6 i op w hco).1 ?_;ktn_no "no";exact kk #[`k]
  refine aG.cons ?_;refine Ex.dH (λu=>[(".0",.undef),("at",u)]) (aP.of hn rfl `d `d `k) (w:=.undef) `get c7 hf `k (λZ Z=>`set) (λZ=>`get) (.inl `k) ?_ (cT hn hk true `k);refine aZ.range `get (aU cc) ?_ bu.name;lk;refine aj.bM hc l6 ?_;lk;refine aB.bL ?_;rw[hcl];refine#[_,rfl,!ac8,!ac9 k2,gZ.map (us:=ak (M5 (code.length+1) (-1))) (by rw[bx,az,Q3];exact N_.symm) (by rw[az,Q3];exact g9 (M0 k2) (!b7 rfl)) trivial (λF' cf k v hv=>?_) λda hda=>newL hda λH1 kd hdd=>?_]
  ·lk;refine kY.fC ?_;have:=(c9.mp hv).1;rw[bx,N_] at this;exact#[by rw[ak,j9,O9,if_pos this];rfl]
  refine aG.cD `set ?_;lk;refine#[sz rfl,?_];lk;refine#[sz rfl,λwa kQ=>newL kQ λH2 kw Ak=>?_];refine aG.cD `set ?_;have hdw:da≠wa:=AH.aJ kQ hdd;have hwH:H wa=b6:=kd.nn kQ;refine aG.cons ?_;refine Ex.Dg hf ["at","pair","depth","taken","put"] `wk (CkI code.length D da wa H) _ (.mk [0] _ _ (λg hg=>by rw[j0.mp hg];exact#[R1 _,F7 _]) (R_ k2) Q3 (λi Z h1=>.inl (Bv (!WT h1))) (kw.aK hdd) (Ak.trans (by rw[q7,wW,k3];rfl)) (kd.trans kw)) λm H3 x=>x.casesOn λws ds H3 hws Sa hdl hds hdd Ak k7 K kk=>?_;have hc7:=k7.aK hc;have hwl:ws.length<=20000:=g9 (Hy code.length ws) Sa;refine Tr.known' (decide (ws≠[])) ?_ ?_
  ·lk;refine#[sz rfl,λt ht=>newL ht λH4 kt et=>?_];refine aB.CO (d:=.list (ws.map λg=>P6 [.int g,.int (aD D g)])) (e:=.list []) (.list (kt.aK Ak) (Bt ws)) (.list et .nil) (by rw[C8];exact(uc ws).1) rfl (by rw[G4];have:=(uc (D:=D) ws).2;exact Oa this) ?_;refine#[_,rfl,?_,kt];cases ws<;>rfl
  rcases List.eq_nil_or_concat ws with rfl|⟨ws,g,rfl⟩
  ·refine wL (!q8) ?_;lk;refine aj.bM hc7 l6 ?_;rw[hcl];refine aF.aD (λZ Z=>rfl) hdd (!bN) (!Xb hdl) (!Kl hdl k2) ?_;lk;refine aB.uJ (by rcases hds code.length (!bN) (!Xc) with h|h<;>omega) ?_;lk;exact#[H,k7.sub,hq]
  rw[List.concat_eq_append] at*;refine Bh (by simp) ?_;refine xA (hws g (u5 _ (.head _))) λg0 g1=>?_;have hws:=λx (hx:x∈ws)=>hws x (B0 _ hx);rw[n6,q7,List.map_nil] at Ak;have hwl:ws.length+1<=20000:=by rw[lG] at hwl;exact hwl
  have Ut:wsum code.length ws<wsum code.length (ws++[g]):=by have:=Aj (a:=ws) (DZ (len:=code.length) (g:=g));rwa [v7] at this
  refine aG.cons ?_;refine Ex.qw ?_;lk;ktn_no "meth";refine aj.pop Ak (by rw[b9];exact WU (Nat.le_of_succ_le_succ hwl)) (g_ λH4 k8 Ak=>?_);have hdd:=k8.at hdd (ne1 hdw);have k8:=k7.trans' k8 hwH;refine b_.two (u:=.undef) (w:=.undef) hf `get c7 `set `get c7 `set ?_;lk;refine aF.aD (λZ Z=>rfl) hdd g0 (!FW g1 hdl) (!Kl hdl k2) ?_;lk;rcases hds g g0 g1 with hgd|hgd
  ·refine aB.LA (!WV hgd) ?_;lk;refine cZ.list hdd g0 (by rw[az];exact FW g1 hdl) (by rw[az];exact WW hdl k2) ?_;rw[ints_set];refine g_ λH5 k9 hdd=>?_;have Ak:=k9.at Ak (ne1 hdw.symm);have k9:=k8.trans' k9 hda;have hdl:(ds.set g.toNat (aD D g)).length=code.length+1:=by rw[x6];exact hdl
   have hds:∀i:Int,0<=i->i<=code.length->aD (ds.set g.toNat (aD D g)) i=-1\/aD (ds.set g.toNat (aD D g)) i=aD D i:=λi h0 h1=>by
    rw[nj g0 (by rw[x6] at hdl;exact FW g1 hdl) h0];by_cases e:i=g
    ·rw[if_pos e,e];exact .inr rfl
    ·rw[if_neg e];exact hds i h0 h1
   have Uu:=k9.aK hc;lk;refine aj.bM Uu l6 ?_;rw[hcl];refine aB.kI (λhge=>?_) λhge=>?_
   ·lk;exact kk #[_,Ut,`k,.mk ws _ _ hws (!Km Ut Sa) hdl hds hdd Ak k9]
   lk;obtain⟨op,w,hco⟩:∃op w,code[g.toNat]? =some (op,w):=#[_,_,b8 (!WX g0 g1 hge)];have eg:((g.toNat:Nat):Int)=g:=by exact NX g0
   refine kh (k6 g.toNat op w hco) λt1 t2 t3=>?_;rw[eg] at t2 t3;refine pG t1.facts λf1 f2 f3 f4=>?_;refine Ex.qw ?_;lk;refine aF.list (λZ Z=>rfl) Uu g0 (ng hco) l6 ?_;lk;refine aF.tup (λZ Z=>rfl) `e (v:=.str op) rfl (sz rfl) ?_;lk;refine aF.list (λZ Z=>rfl) Uu g0 (ng hco) l6 ?_;lk;refine aF.tup (λZ Z=>rfl) `e (v:=w) rfl (sz rfl) ?_;lk;refine RZ cc f2 f3 t1.ok ?_;refine b_.two (u:=.undef) (w:=.undef) hf `get c7 `set `get c7 `set ?_;lk;refine aB.uJ (!JZ t2) ?_;lk;ktn_no "meth";refine f_ (yY (op:=op) (w:=w) (i:=g) t3) λjs ejs hjl Uv=>?_;refine uC.cons ?_;refine Ev.bJ (λu=>[(".0",.undef),("goal",u),("depth",.val (.int (aD D g))),("put",.val (.int (rL op).2)),("taken",.val (.int (rL op).1))]) (aP.of hn rfl `d `d `k) `k (λZ Z=>`set) (λZ=>`get) (.inl `k) ?_;refine aZ.list ?_ bu.name;lk;refine Bw cc g0 Uu (!WY hcl k2) (ng hco) f1 f4 t1.ok λX hX=>newL hX λH6 oA eX=>?_;rw[ejs] at eX;refine#[X,_,rfl,eX,gZ.map (us:=js.map (wW D)) (by rw[b9,b9]) (by rw[b9];exact g9 hjl (!b7 rfl)) eX (λF' cf k v hv=>?_) λb hb=>newL hb λH7 iK eb=>?_]
   ·rw[j9] at hv;obtain⟨j,hj,rfl⟩:=l8.mp hv;refine kh (Uv j (j8 hj)) λZ Z j3=>?_;lk;refine aB.fK ?_;lk;refine aB.bL ?_;lk;exact#[sz rfl,#[by rw[j9,hj,<-j3];rfl]]
   lk;have iK:=oA.trans iK;refine aj.extend (vs:=ws.map (wW D)) (iK.aK Ak) eb (by rw[b9,b9];exact WZ hwl hjl) (g_ λH8 t_ Ak=>?_);have hdd:=t_.at (iK.aK hdd) (ne1 hdw);lk;have hsm:wsum code.length (ws++js)<wsum code.length (ws++[g]):=Aj (by
    have:=Bu (len:=code.length) hjl g0 g1 hge (λj hj=>#[(Uv j hj).1,(Uv j hj).2.1]);exact this)
   refine kk #[_,hsm,`k,.mk (ws++js) _ _ (λy hy=>?_) (!Km hsm Sa) hdl hds hdd (Ak.trans (by rw[n6])) ((k9.trans iK).trans' t_ hwH)];rcases s6.mp hy with hy|hy
   ·exact hws y hy
   ·have:=Uv y hy;exact W_ g0 this
  ·have:=k5 g g0 g1;refine aB.Ra (!Xa this hgd) ?_;lk;refine aF.aD (λZ Z=>rfl) hdd g0 (!FW g1 hdl) (!Kl hdl k2) ?_;lk;refine aB.iQ hgd ?_;ktn_no "no";exact kk #[_,Ut,`k,.mk ws _ _ hws (!Km Ut Sa) hdl hds hdd Ak k8]
end
section
variable{C:Cx}{n:Nat}{H:AH}{Q:AV->AH->Prop}
theorem rM(cc:CC C)(hq:Q .none H):aj C (n+1) (.ref 803) [.ref r,.none] H Q:=
 mU cc λF hf hn hk=>by
  refine aG.cons ?_;lk;refine aB.Fi ?_;ktn_no "yes";exact hq
theorem vg(cc:CC C){r:Addr}{code:List (Str×AV)}{D:List Int}(ok:oB code D)(hq:∀X,H X=b6->Q (.ref X) (H.set X (.list (cS code)))):aj C (n+3) (.ref 803) [.ref r,.tup (cS code)] H Q:=
 .forget <| mU cc λF hf hn hk=>by
  have hcl:(cS code).length=code.length:=by simp[cS]
  have hsm:=ok.sm;refine aG.cons ?_;lk;refine aB.Fi ?_;ktn_no "no";refine aj.Cb (by simp) (by simp) (!TY) (!.inr (.inr (.inl rfl))) ?_;ktn_no "no";refine Ex.gY (aZ.tup ?_ bu.name);lk;refine#[_,rfl,?_];refine#[λi ρ' H'=>H'=H/\∃u,LV.ok u/\ρ'=([("reader",.val (.ref r)),("code",.val (.tup (cS code))),("pair",u),("error",.undef),("isinstance",.glob),("tuple",.glob),("len",.glob),("str",.glob),("check_code",.glob),("list",.glob),("ActionError",.glob)]:Loc),#[rfl,.undef,c7,rfl],λZ Z Z Z Z=>trivial,?_,?_]
  ·rintro i v ρ' H' hv ⟨rfl,u,hu,rfl⟩;obtain⟨p,hp,rfl⟩:∃p:Str×AV,p∈code/\v=.tup [.str p.1,p.2]:=by
    have:=j8 hv;unfold cS at this;refine bz (m5.mp this) λp h1 h2=>?_;exact#[p,h1,h2.symm]
   refine b_.aT `get hf hu ?_;refine aG.cD `set ?_;lk;refine aj.Cb (by simp) (by simp) (!TY) (!.inr (.inr (.inl rfl))) ?_;ktn_no "no";refine aj.aeE (!b7 rfl) ?_;lk;refine aB.pH ?_;ktn_no "no";refine aF.tup (λZ Z=>rfl) `e (v:=.str p.1) rfl (!b7 rfl) ?_;lk;refine aj.Cb (by simp) (by simp) (!MU) (!.inr (.inl rfl)) ?_;ktn_no "no";exact#[rfl,.val _,c7,rfl]
  ·rintro ρ' H' ⟨rfl,u,hu,rfl⟩;lk;refine Ex.aeW ?_;lk;refine aj.IY (!Kh hcl hsm) λX hX=>?_;lk;refine D_ cc (AH.aq _ _ _) ok ?_;lk;refine aj.IY (!Kh hcl hsm) λY hY=>?_;refine#[_,?_,hq Y ?_]
   ·exact(Kp.new hX).both
   ·by_cases e:Y=X
    ·subst e;rw[AH.aq] at hY;cases hY
    ·rw[aA e] at hY;exact hY
theorem yZ(cc:CC C)(hx:x.length<=1000000)(hq:∀r c H',H r=b6->H c=b6->RR H' r c x 0 x.cps.toList->Kp [] H H'->Q (.ref r) H'):aj C (n+4) (.ref 748) [.str x] H Q:=
 tu cc λr dr h1 h2 h3 F hf hn hk=>by
  refine aG.cons ?_;lk;refine Bk cc λc dc h4 h5 h6 F hf hn hk=>?_;have Mf:r≠c:=AH.aJ h4 (AH.aq _ _ _);have Nl:H c=b6:=(aA Mf.symm).symm.trans h4;refine aG.cons ?_;lk;refine#[_,_,_,_,_,rfl,AH.aq _ _ _,`st,!s8 _,`fput,?_];lk;refine#[_,_,_,_,_,rfl,AH.aq _ _ _,`st,!n8 _,`fput,?_];lk;refine#[rfl,?_];rw[AH.set_set,AH.set_set];lk;refine#[_,_,_,_,_,rfl,(aA Mf).trans (AH.aq _ _ _),`st,!s8 _,`fput,?_];lk;refine#[_,_,_,_,_,rfl,AH.aq _ _ _,`st,!n8 _,`fput,?_];lk;rw[AH.set_set];refine#[rfl,hq r c _ h1 Nl #[Mf.symm,#[dr,AH.aq _ _ _],hx,0,dc,?_,?_] ?_]
  ·rw[aA Mf.symm];exact AH.aq _ _ _
  ·exact#[rfl,s8 _]
  ·exact((Kp.new h1).trans (Kp.new h4)).late (.inl h1)
end
section
variable{C:Cx}{n:Nat}{H:AH}{Q:AV->AH->Prop}
noncomputable def firsts:List Str:=["$end","error","$undefined"]
theorem Bx(cc:CC C):Den C H (.ref 753) (.list (firsts.map M3)):=
 .base (reads_list_at (C.KR _ #[.type "list",b6,.seq [.str "$end" 1335,.str "error" 1336,.str "$undefined" 1337].toArray 0,#[]] (by rw[cc.K];kernel_rfl)) rfl rfl (.cons (.str _ _) (.cons (.str _ _) (.cons (.str _ _) .nil))))
structure Ea(f:xK):Prop where
 n1:∀y∈f.names,∀ch∈y.cps.toList,Ab ch
 nd:f.names.Nodup
 t3:f.names.take 3=firsts
 c3:3<=f.count
 cl:f.count<=(f.names.length:Int) - 1
 nz:f.names.length<=1000
 acc:f.names[f.count.toNat]? =some "$accept"
 lne:f.aN≠[]
 lz:f.aN.length<=1000
 l0:aD f.aN 0=f.count
 lr:∀i∈f.aN,f.count<=i/\i<=(f.names.length:Int) - 1
 ld:f.count∉f.aN.drop 1
 e1:f.aI.length=f.aN.length
 b1:f.aQ.length=f.aN.length
 e0:∀i∈f.aI,0<=i/\i.natAbs<10 ^ 10
 b0:∀i∈f.aQ,0<=i/\i.natAbs<10 ^ 10
 e2:aD f.aI 0=2
 be:∀i:Nat,i<f.aN.length->aD f.aQ i≠0->aD f.aI i=0
noncomputable def y_(f:xK)(rest:List Nat):List Nat:=bG ("names":Str).cps.toList (aC f.names)++(bG ("terminals":Str).cps.toList [.int f.count]++(bG ("lefts":Str).cps.toList (ak f.aN)++(bG ("lengths":Str).cps.toList (ak f.aI)++(bG ("befores":Str).cps.toList (ak f.aQ)++rest))))
theorem tC (cc:CC C) (g:Ea f) (h:RR H r c x k (y_ f rest))
 (hq:∀an al ae ab H',H' an=some (.list (aC f.names))->H' al=some (.list (ak f.aN))->H' ae=some (.list (ak f.aI))->H' ab=some (.list (ak f.aQ))->RR H' r c x (k+1+1+1+1+1) rest->Kp [r,c] H H'->Q (.tup [.ref an,.int f.count,.ref al,.ref ae,.ref ab]) H'):aj C (n+13) (.ref 782) [.ref r] H Q:=
 sS cc λF hf hn hk=>by
  obtain⟨n1,nd,t3,c3,cl,nz,acc,lne,lz,l0,lr,ld,e1,b1,e0,b0,e2,be⟩:=g;have hnl:(aC f.names).length=f.names.length:=by simp[aC]
  refine xE h.rd λdr e0'=>?_;refine aG.cons ?_;lk;ktn_no "meth";lk;refine DL cc `d n1 nd h λan H1 ha Mb h1 k1=>?_;refine aG.cD `set ?_;refine aG.cons ?_;refine Ex.ite ?_;refine Tr.known' false ?_ ?_
  ·lk;refine#[an,_,3,rfl,rfl,Mb,!vQ hnl nz,λt ht=>?_];lk;have htk:(aC f.names).take 3=aC firsts:=by rw[<-t3];simp[aC,Z6]
   refine aB.CO (.list ((AH.aq _ _ _).trans (by rw[htk])) iD) (Bx cc) (by rw[C8];exact jO `d) `d `d ?_;exact#[_,rfl,`d,Kp.new ht]
  refine xE h1.rd λFl f1=>?_;lk;ktn_no "meth";lk;refine aj.bM Mb (!vQ hnl nz) ?_;lk;refine aB.fK ?_;lk;rw[hnl];refine LY cc `d (!ac_ c3 cl nz) c3 (!Xd cl) h1 λH2 h2 k2=>?_;have Ni:=k2.at Mb (h1.nr Mb);refine xE h2.rd λdr2 f2=>?_;lk;ktn_no "meth";lk;refine aj.bM Ni (!vQ hnl nz) ?_;lk;refine aB.fK ?_;lk;rw[hnl];refine rH (lo:=some f.count) (hi:=some ((f.names.length:Int) - 1)) cc rfl rfl `d (λi hi=>by have:=lr i hi;exact ada c3 this.2 this.1 nz) (λi hi=>#[(λl e=>by cases e;exact(lr i hi).1),(λl e=>by cases e;exact(lr i hi).2)]) h2 λal H3 hal hl3 h3 k3=>?_;have Nj:=k3.at Ni (h2.nr Ni);refine aG.cD `set ?_;refine aG.cons ?_;refine Ex.ite ?_;refine Tr.known' false ?_ ?_
  ·lk;refine aF.list (λZ Z=>rfl) Nj (!Kn c3) (v:=.str "$accept") (by simp[aC,acc]) (!vQ hnl nz) ?_;lk;refine aB.MQ ?_;ktn_no "no";refine#[sz rfl,λt ht=>?_];have HC:=(aA (o:=.list []) (AH.aJ ht hl3)).trans hl3;refine aB.eqD (.list HC dB) (.list (AH.aq _ _ _) .nil) (by rw[C8];exact lay_ints) rfl (by rw[G4,jS];decide) ?_;refine#[_,rfl,?_];cases hlf:f.aN with
   |nil=>exact absurd hlf lne
   |cons y ys=>
   rw[hlf] at HC ld l0 lz;rw[show(PyData.list (List.map J8 (y::ys))).eqv (PyData.list [])=false from rfl];lk;refine aF.aD (λZ Z=>rfl) HC `e (by simp<;>omega) (!sM lz) ?_;lk;refine aB.iQ l0 ?_;ktn_no "no";refine#[al,_,1,rfl,rfl,HC,by simp[ak] at lz⊢;exact Ob lz,λu hu=>?_];refine aB.inL (.int f.count) (es:=((y::ys).drop 1).map J8) (.list (AH.aq _ _ _) (by rw[show(ak (y::ys)).drop 1=ak ((y::ys).drop 1) by exact rfl];exact dB)) rfl lay_ints (!s8 _) ?_;refine#[_,rfl,?_];rw[show(((y::ys).drop 1).map J8).any (λz=>I7 z (J8 f.count))=false from by
    rw[U3];intro z hz;obtain⟨w,hw,rfl⟩:=m5.mp hz;rw[I7];intro e;have:w=f.count:=by simpa using e
    exact ld (this▸hw)]
   lk;exact#[rfl,(Kp.new ht).trans (Kp.new hu)]
  refine xE h3.rd λUk f3=>?_;lk;ktn_no "meth";lk;refine aj.bM hl3 (by rw[az];exact pF lz) ?_;rw[az];lk;refine jM (lo:=some 0) (hi:=b6) (many:=some (f.aN.length:Int)) cc rfl rfl rfl `d (λi hi=>(e0 i hi).2) (λi hi=>#[(λl e=>by cases e;exact(e0 i hi).1),(λl e=>nomatch e)]) (λm e=>by cases e;rw[e1]) h3 λae H4 hae he4 h4 k4=>?_;have Uq:=k4.at Nj (h3.nr Nj);have Bm:=k4.at hl3 (h3.nr hl3);refine xE h4.rd λdr4 f4=>?_;lk;ktn_no "meth";lk;refine aj.bM Bm (by rw[az];exact pF lz) ?_;rw[az];lk;refine jM (lo:=some 0) (hi:=b6) (many:=some (f.aN.length:Int)) cc rfl rfl rfl `d (λi hi=>(b0 i hi).2) (λi hi=>#[(λl e=>by cases e;exact(b0 i hi).1),(λl e=>nomatch e)]) (λm e=>by cases e;rw[b1]) h4 λab H5 hab Mg h5 k5=>?_;have hh5:=k5.at Uq (h4.nr Uq);have Um:=k5.at Bm (h4.nr Bm);have he5:=k5.at he4 (h4.nr he4);have hlp:0<f.aN.length:=K5.mpr lne;lk;refine aF.aD (λZ Z=>rfl) he5 `e (!Xe hlp e1) (!FY e1 lz) ?_;lk;refine aB.iQ e2 ?_;ktn_no "no";refine Ex.gY (aZ.range `get (aU cc) ?_ bu.name);lk;refine aj.bM Um (by rw[az];exact pF lz) ?_;refine#[_,rfl,by rw[az];exact qj,by rw[az];exact adb lz,?_];rw[j7,az];refine#[λi ρ' H'=>H'=H5/\∃u,LV.ok u/\ρ'=([("reader",.val (.ref r)),("names",.val (.ref an)),("count",.val (.int f.count)),("lefts",.val (.ref al)),("lengths",.val (.ref ae)),("befores",.val (.ref ab)),("rule",u),("FIRST_NAMES",.glob),("len",.glob),("range",.glob)]:Loc),#[rfl,.undef,c7,rfl],λZ Z Z Z Z=>trivial,?_,?_]
  ·rintro i v ρ' H' hv ⟨rfl,u,hu,rfl⟩;obtain⟨rfl,hi⟩:=bk hv;refine b_.aT `get hf hu ?_;refine aG.cD `set ?_;lk;refine aF.aD (λZ Z=>rfl) Mg (!bN) (!cI hi b1) (!FY b1 lz) ?_;lk;refine aB.wC (λc=>?_) λc=>?_
   ·ktn_no "no";exact#[rfl,.val (.int i),c7,rfl]
   ·ktn_no "yes";refine aF.aD (λZ Z=>rfl) he5 (!bN) (!cI hi e1) (!FY e1 lz) ?_;lk;refine aB.iQ (be i hi c) ?_;ktn_no "no";exact#[rfl,.val (.int i),c7,rfl]
  ·rintro ρ' H' ⟨rfl,u,hu,rfl⟩;lk;exact#[!b7 rfl,hq _ _ _ _ _ hh5 Um he5 Mg h5 ((((k1.trans k2).trans k3).trans k4).trans k5)]
end
section
variable{C:Cx}{n:Nat}{H:AH}{Q:AV->AH->Prop}
theorem wY (cc:CC C) {x dx an al ae ab:Addr} {count:Int} {ys:List Str} (hx:H x=some (.inst 567 dx [])) (hn:H an=some (.list (aC ys))) (hc:0<=count) (hc1:count<=ys.length) (hz:ys.length<=1000)
 (hq:∀d0 nu H',H' x=some (.inst 567 dx [("names",.ref an),("terminal_count",.int count),("lefts",.ref al),("lengths",.ref ae),("befores",.ref ab),("defaults",.ref d0),("numbers",.ref nu)])->Kp [x] H H'->Q .none H'):aj C (n+1) (.ref 278) [.ref x,.ref an,.int count,.ref al,.ref ae,.ref ab] H Q:=
 qU cc λF hf hnn hk=>by
  have hnl:(aC ys).length=ys.length:=by simp[aC]
  have aln:an≠x:=λe=>by rw[e,hx] at hn;cases hn
  refine aG.cons ?_;lk;refine#[_,_,_,_,_,rfl,hx,`st,!s8 _,`fput,?_];lk;refine#[_,_,_,_,_,rfl,AH.aq _ _ _,`st,!n8 _,`fput,?_];lk;refine#[_,_,_,_,_,rfl,AH.aq _ _ _,`st,!b7 rfl,`fput,?_];lk;refine#[_,_,_,_,_,rfl,AH.aq _ _ _,`st,!b7 rfl,`fput,?_];lk;refine#[_,_,_,_,_,rfl,AH.aq _ _ _,`st,!b7 rfl,`fput,?_];rw[AH.set_set,AH.set_set,AH.set_set,AH.set_set];lk;refine#[sz rfl,λd0 hd0=>?_];have Sd:x≠d0:=AH.aJ hd0 (AH.aq _ _ _);have Se:H d0=b6:=(aA Sd.symm).symm.trans hd0;lk;refine#[_,_,_,_,_,rfl,(aA Sd).trans (AH.aq _ _ _),`st,!b7 rfl,`fput,?_];lk;refine Ev.zQ (IW C) λnu Uw=>?_;have HE:x≠nu:=AH.aJ Uw (AH.aq _ _ _);have Sf:H nu=b6:=by
   rw[aA HE.symm] at Uw;by_cases e:nu=d0
   ·rw[e];exact Se
   ·rw[aA e,aA HE.symm] at Uw;exact Uw
  lk;refine#[_,_,_,_,_,rfl,(aA HE).trans (AH.aq _ _ _),`st,!b7 rfl,`fput,?_];have kk:Kp [x] H ((((((H.set x (.inst 567 dx [("names",.ref an),("terminal_count",.int count),("lefts",.ref al),("lengths",.ref ae),("befores",.ref ab)])).set d0 (.list [])).set x (.inst 567 dx [("names",.ref an),("terminal_count",.int count),("lefts",.ref al),("lengths",.ref ae),("befores",.ref ab),("defaults",.ref d0)])).set nu ((IW C).ao [])).set x (.inst 567 dx [("names",.ref an),("terminal_count",.int count),("lefts",.ref al),("lengths",.ref ae),("befores",.ref ab),("defaults",.ref d0),("numbers",.ref nu)]))):=by
   refine Kp.late (Kp.late (Kp.late (Kp.late (Kp.mem (!.head _)) (.inl Se)) (.inr (!.head _))) (.inl Sf)) (.inr (!.head _))
  refine aG.cons ?_;refine Ex.gY (aZ.range `get (aU cc) ?_ bu.name);lk;refine#[_,rfl,!ade hc,!adf hc1 hz,?_];refine#[λi ρ' H'=>Gz λu kvs=>TU (LV.ok u) (kvs.length<=i) (Kp [x] H H') (H' nu=some ((IW C).ao kvs)) (H' x=some (.inst 567 dx [("names",.ref an),("terminal_count",.int count),("lefts",.ref al),("lengths",.ref ae),("befores",.ref ab),("defaults",.ref d0),("numbers",.ref nu)])) (ρ'=([("self",.val (.ref x)),("names",.val (.ref an)),("terminal_count",.val (.int count)),("lefts",.val (.ref al)),("lengths",.val (.ref ae)),("befores",.val (.ref ab)),("number",u),("range",.glob)]:Loc)),#[.undef,[],c7,r7 _,kk,(aA HE.symm).trans (AH.aq _ _ _),AH.aq _ _ _,rfl],λZ Z Z Z Z=>trivial,?_,?_]
  ·rintro i v ρ' H' hv ⟨u,kvs,hu,iY,k2,Sh,hx',rfl⟩;obtain⟨rfl,hi⟩:=bk hv;have hn':=k2.at hn (!ne1 `a);refine b_.aT `get hf hu ?_;refine aG.cD `set ?_;lk;refine aF.list (λZ Z=>rfl) hn' (!bN) (v:=.str (ys[i]'(!Ko hi hc1))) (by rw[j7];simp[aC,b8 (show i<ys.length by exact Ko hi hc1)]) (!vQ hnl hz) ?_;refine cZ.dict (IW C) Sh (!Xf hc1 iY hz hi) ?_;lk;have hxn:x≠nu:=λe=>by exact absurd `a `a
   refine#[.val (.int i),dO kvs (ys[i]'(!Ko hi hc1)) (.int i),c7,?_,k2.late (.inl Sf),AH.aq _ _ _,(aA hxn).trans hx',rfl];unfold dO;split
   ·rw[b9];exact MO iY
   ·rw[lG];simp;exact Oc iY
  ·rintro ρ' H' ⟨u,kvs,hu,iY,k2,Sh,hx',rfl⟩;lk;exact hq d0 nu H' hx' k2
end
section
variable{C:Cx}{n:Nat}{H:AH}{Q:AV->AH->Prop}
theorem lR (cc:CC C) {an al ae ab ad aa a1 a2 a3 a4 ag g1 g2 g3 g4 gd gm:Addr} {f:xK} (hn:H an=some (.list (aC f.names))) (hl:H al=some (.list (ak f.aN))) (he:H ae=some (.list (ak f.aI))) (hb:H ab=some (.list (ak f.aQ))) (hd:H ad=some (.list (ak f.defaults)))
 (ha:pg H aa a1 a2 a3 a4 f.acts) (hg:pg H ag g1 g2 g3 g4 f.cg) (hgd:H gd=some (.list (ak f.fF))) (Ur:H gm=some (.list (ak f.bH))) (hc:0<=f.count) (hc1:f.count<=f.names.length) (hz:f.names.length<=1000)
 (hq:∀x nu H',oh H' x #[an,al,ae,ab,ad,nu,aa,a1,a2,a3,a4,ag,g1,g2,g3,g4,gd,gm] f->Kp [] H H'->Q (.ref x) H'):aj C (n+3) (.ref 567) [.tup [.ref an,.int f.count,.ref al,.ref ae,.ref ab],.ref ad,.ref aa,.ref ag,.ref gd,.ref gm] H Q:=
 pP cc λx dx hx hdx hne F hf hnn hk=>by
  have out:∀{a:Addr} {o:AO},H a=some o->a∉[x]:=λh=>by simp;exact AH.aJ hx h
  refine xE ha.o λda fa=>?_;refine xE hg.o λdg fg=>?_;have hax:aa≠x:=AH.aJ hx fa;have hgx:ag≠x:=AH.aJ hx fg;refine aG.cons ?_;refine Ex.qw ?_;lk;refine b_.tup rfl rfl ?_;refine e_.cons (b_.aT (u:=.undef) `get hf c7 ?_);refine e_.cD `set ?_;refine e_.cons (b_.aT (u:=.undef) `get hf c7 ?_);refine e_.cD `set ?_;refine e_.cons (b_.aT (u:=.undef) `get hf c7 ?_);refine e_.cD `set ?_;refine e_.cons (b_.aT (u:=.undef) `get hf c7 ?_);refine e_.cD `set ?_;refine e_.cons (b_.aT (u:=.undef) `get hf c7 ?_);refine e_.cD `set ?_;refine e_.nil ?_;lk;refine#[_,_,rz cc,`keep,?_];lk;refine wY cc (AH.aq _ _ _) ((aA (AH.aJ hx hn)).trans hn) hc hc1 hz λd0 nu H1 h1 k1=>?_;have Jo:Kp [] H H1:=((Kp.new hx).trans' k1 hx);have fa1:=Jo.aK fa;have fg1:=Jo.aK fg;lk;refine#[_,_,_,_,_,rfl,h1,`st,!b7 rfl,`fput,?_];lk;refine#[_,_,_,_,_,rfl,AH.aq _ _ _,`st,!b7 rfl,`fput,?_];rw[AH.set_set];lk;refine#[_,_,_,_,_,rfl,AH.aq _ _ _,`st,!b7 rfl,`fput,?_];rw[AH.set_set];lk;refine#[_,_,_,_,_,rfl,AH.aq _ _ _,`st,!b7 rfl,`fput,?_];rw[AH.set_set];lk;refine#[_,_,_,_,_,rfl,AH.aq _ _ _,`st,!b7 rfl,`fput,?_];rw[AH.set_set];lk;refine#[_,_,_,_,_,rfl,AH.aq _ _ _,`st,!b7 rfl,`fput,?_];rw[AH.set_set];lk;refine#[_,_,_,_,_,rfl,AH.aq _ _ _,`st,!b7 rfl,`fput,?_];rw[AH.set_set];lk;refine#[_,_,_,_,_,rfl,AH.aq _ _ _,`st,!b7 rfl,`fput,?_];rw[AH.set_set];lk;refine#[_,_,_,_,_,rfl,AH.aq _ _ _,`st,!b7 rfl,`fput,?_];rw[AH.set_set];lk;refine#[_,_,_,_,_,rfl,AH.aq _ _ _,`st,!b7 rfl,`fput,?_];rw[AH.set_set];lk;refine#[_,_,_,_,_,rfl,AH.aq _ _ _,`st,!b7 rfl,`fput,?_];rw[AH.set_set];lk;refine#[_,_,_,_,_,rfl,AH.aq _ _ _,`st,!b7 rfl,`fput,?_];rw[AH.set_set];lk;refine#[_,_,_,_,_,rfl,AH.aq _ _ _,`st,!b7 rfl,`fput,?_];rw[AH.set_set];lk;refine#[rfl,hq x nu _ ?_ (Jo.late (.inl hx))];have ot:∀{a:Addr} {o o':AO},H a=some o->(H1.set x o') a=some o:=λh=>(aA (AH.aJ hx h)).trans (Jo.aK h);exact#[#[dx,AH.aq _ _ _],ot hn,ot hl,ot he,ot hb,ot hd,#[#[da,ot fa],ot ha.h1,ot ha.h2,ot ha.h3,ot ha.h4],#[#[dg,ot fg],ot hg.h1,ot hg.h2,ot hg.h3,ot hg.h4],ot hgd,ot Ur]
end
section
variable{C:Cx}{n:Nat}{H:AH}{Q:AV->AH->Prop}
noncomputable abbrev Code:=Option (List (Str×AV))
noncomputable def kT:Code->AV
 |b6=>.none
 |some code=>.tup (cS code)
def By(H:AH)(v:AV)(c:Code):Prop:=(v=.none/\c=b6)\/∃a code,v=.ref a/\c=some code/\H a=some (.list (cS code))
noncomputable def cY(H:AH):List AV->List Code->Prop
 |[],[]=>True
 |v::vs,u::us=>By H v u/\cY H vs us
 |_,_=>False
theorem By.keep(h:By H v c)(k:Kp [] H H'):By H' v c:=by
 rcases h with h|⟨a,code,e1,e2,e3⟩
 ·exact .inl h
 ·exact .inr #[a,code,e1,e2,k.aK e3]
theorem cY.ind{H:AH}{P:List AV->List Code->Prop}(z:P [] [])(s:∀{v u vs us},By H v u->cY H vs us->P vs us->P (v::vs) (u::us)){vs:List AV}:∀{us:List Code},cY H vs us->P vs us:=by
 induction vs with
 |nil=>exact λ{us}=>us.casesOn (λZ=>z) λZ Z h=>h.elim
 |cons v vs ih=>exact λ{us}=>us.casesOn (λh=>h.elim) λu us h=>s h.1 h.2 (ih h.2)
theorem cY.keep{H H':AH}(k:Kp [] H H'){vs:List AV}{us:List Code}:cY H vs us->cY H' vs us:=cY.ind trivial λa Z i=>#[a.keep k,i]
theorem cY.keepR{H H':AH}{r c:Addr}{x:Str}{k:Int}{rest:List Nat}(hr:RR H r c x k rest)(q:Kp [r,c] H H'){vs:List AV}{us:List Code}:cY H vs us->cY H' vs us:=cY.ind trivial λh Z i=>#[by
 rcases h with h|⟨a,code,e1,e2,e3⟩
 ·exact .inl h
 ·exact .inr #[a,code,e1,e2,q.at e3 (hr.nr e3)],i]
theorem cY.push{H:AH}{v:AV}{c:Code}(hv:By H v c){vs:List AV}{us:List Code}:cY H vs us->cY H (vs++[v]) (us++[c]):=cY.ind (P:=λvs us=>cY H (vs++[v]) (us++[c])) #[hv,trivial] λa Z i=>#[a,i]
theorem cY.shw{H:AH}{vs:List AV}{us:List Code}(hp:∀code,some code∈us->pR 1 (cS code))(h:cY H vs us):fX H vs (us.map kT):=cY.ind (P:=λvs us=>(∀code,some code∈us->pR 1 (cS code))->fX H vs (us.map kT)) (λZ=>trivial) (λa Z i hp=>#[by
 rcases a with⟨e1,e2⟩|⟨a,code,e1,e2,e3⟩
 ·rw[e1,e2];exact .inl #[rfl,trivial]
 ·rw[e1,e2];exact .inr #[a,_,rfl,e3,rfl,hp code (by rw[e2];exact .head _)],i λc m=>hp c (.tail _ m)]) h hp
theorem cY.len{H:AH}{vs:List AV}{us:List Code}:cY H vs us->vs.length=us.length:=cY.ind (P:=λvs us=>vs.length=us.length) rfl λZ Z i=>congrArg (·+1) i
structure Jp(f:xK)(codes:List Code):Prop where
 fr:Ea f
 ok:OkF f (codes.map kT)
 d0:∀i∈f.defaults,0<=i/\i<=(f.aN.length:Int) - 1
 ds:0<f.defaults.length/\f.defaults.length<=1000
 acts:iZ f.acts f.defaults.length f.count
 Si:RQ f.acts b6 b6
 Sj:∀i:Nat,i<f.acts.owners.length->∀q∈gM f.acts (aD f.acts.owners i),jV f.defaults.length f.aN.length q.2
 gl:(f.fF.length:Int)=f.names.length - f.count
 ml:(f.bH.length:Int)=f.names.length - f.count
 gb:∀i∈f.fF,-1<=i/\i<=(f.defaults.length:Int) - 1
 cg:iZ f.cg f.bH.length f.defaults.length
 Sk:RQ f.cg (some 0) (some ((f.defaults.length:Int) - 1))
 need:DV f.cg f.fF f.bH f.defaults.length
 cl:codes.length=f.aN.length
 cd:∀code,some code∈codes->(∃D,oB code D)/\pR 1 (cS code)
theorem Eb(f:xK)(tZ:List AV):jQ f tZ=("grammarmill parser 1":Str).cps.toList++(10::y_ f (bG ("defaults":Str).cps.toList (ak f.defaults)++(gQ "" f.acts++(bG ("goto_defaults":Str).cps.toList (ak f.fF)++(bG ("goto_masks":Str).cps.toList (ak f.bH)++(gQ "goto_" f.cg++(bG ("codes":Str).cps.toList tZ++(("end ":Str).cps.toList++(num 19++[10]))))))))):=by
 have e:∀ls:List Str,(ls.flatMap λy=>y.cps.toList++[10])=ls.flatMap nl:=λZ=>rfl;unfold jQ o_ y_ gQ ia ou;rw[e];simp only[S2,C3,List.flatMap_nil,DT,x8,v7];simp[nl,cL]
theorem rN(cc:CC C)(g:Jp f codes)(hq:∀p q hl hvs H',oh H' p q f->H' hl=some (.list hvs)->cY H' hvs codes->Kp [] H H'->Q (.tup [.ref p,.ref hl]) H'):aj C (n+14) (.ref 808) [.str #[(jQ f (codes.map kT)).toArray]] H Q:=
 rq cc λF hf hn hk=>by
  obtain⟨fr,ok,d0,ds,acts,Si,Sj,gl,ml,gb,cg,Sk,need,cl,cd⟩:=g;have hnl:(aC f.names).length=f.names.length:=by simp[aC]
  have hnz:=fr.nz;have Ux:=fr.lz;have hc3:=fr.c3;have hcl:=fr.cl;have LO:((f.bH.length:Nat):Int)=f.names.length - f.count:=ml;generalize hx:(#[(jQ f (codes.map kT)).toArray]:Str)=x;have zW:x.cps.toList=jQ f (codes.map kT):=by rw[<-hx]
  have hxz:x.length<=1000000:=by
   have:=ok.z;rw[<-zW] at this;exact this
  refine aG.cons ?_;lk;refine yZ cc hxz λr c H1 hrH Nl h1 k1=>?_;rw[zW,Eb] at h1;refine xE h1.rd λFl e1=>?_;lk;ktn_no "meth";lk;refine Hh cc h1 `d λH2 h2 k2=>?_;lk;refine tC cc fr h2 λan al ae ab H3 N3 L3 E3 B3 h3 k3=>?_;lk;refine aF.tup (λZ Z=>rfl) `e (v:=.int f.count) rfl (!b7 rfl) ?_;lk;refine aF.tup (λZ Z=>rfl) `e (v:=.ref al) rfl (!b7 rfl) ?_;lk;refine aj.bM L3 (by rw[az];exact pF Ux) ?_;rw[az];lk;refine aF.tup (λZ Z=>rfl) `e (v:=.ref an) rfl (!b7 rfl) ?_;lk;refine aj.bM N3 (!vQ hnl hnz) ?_;rw[hnl];lk;refine aB.fK ?_;refine xE h3.rd λUk e3=>?_;lk;ktn_no "meth";lk;refine aB.fK ?_;lk;refine rH (lo:=some 0) (hi:=some ((f.aN.length:Int) - 1)) cc rfl rfl `d (λi hi=>by have:=d0 i hi;exact adg this.1 this.2 Ux) (λi hi=>#[(λl e=>by cases e;exact(d0 i hi).1),(λl e=>by cases e;exact(d0 i hi).2)]) h3 λad H4 had D4 h4 k4=>?_;lk;refine aj.bM D4 (by rw[az];exact Xg ds) ?_;rw[az];lk;refine aB.Df (!Xh ds) ?_;lk;refine yU cc (.inl rfl) acts Si h4 λaa a1 a2 a3 a4 H5 A5 h5 k5=>?_;have N4:=(k4).at N3 ((h3).nr N3);have L4:=(k4).at L3 ((h3).nr L3);have E4:=(k4).at E3 ((h3).nr E3);have B4:=(k4).at B3 ((h3).nr B3);have N5:=(k5).at N4 ((h4).nr N4);have L5:=(k5).at L4 ((h4).nr L4);have E5:=(k5).at E4 ((h4).nr E4);have B5:=(k5).at B4 ((h4).nr B4);have D5:=(k5).at D4 ((h4).nr D4);lk;refine pS cc A5 acts.wf Sj ?_;refine xE h5.rd λdr5 e5=>?_;lk;ktn_no "meth";lk;refine kY.fC ?_;lk;refine aB.fK ?_;lk;refine jM (lo:=some (-1)) (hi:=some ((f.defaults.length:Int) - 1)) (many:=some ((f.names.length:Int) - f.count)) cc rfl rfl rfl `d (λi hi=>by have:=gb i hi;exact adh this.1 this.2 ds.2) (λi hi=>#[(λl e=>by cases e;exact(gb i hi).1),(λl e=>by cases e;exact(gb i hi).2)]) (λm e=>by cases e;exact Od gl) h5 λgd H6 hgd G6 h6 k6=>?_;have N6:=(k6).at N5 ((h5).nr N5);have L6:=(k6).at L5 ((h5).nr L5);have E6:=(k6).at E5 ((h5).nr E5);have B6:=(k6).at B5 ((h5).nr B5);have D6:=(k6).at D5 ((h5).nr D5);have A6:=A5.keepR h5 (k6);refine xE h6.rd λdr6 e6=>?_;lk;ktn_no "meth";lk;refine jM (lo:=b6) (hi:=b6) (many:=some ((f.names.length:Int) - f.count)) cc rfl rfl rfl `d ok.gm.1 (λi hi=>#[(λl e=>nomatch e),(λl e=>nomatch e)]) (λm e=>by cases e;exact Od ml) h6 λgm H7 Ur M7 h7 k7=>?_;have N7:=(k7).at N6 ((h6).nr N6);have L7:=(k7).at L6 ((h6).nr L6);have E7:=(k7).at E6 ((h6).nr E6);have B7:=(k7).at B6 ((h6).nr B6);have D7:=(k7).at D6 ((h6).nr D6);have G7:=(k7).at G6 ((h6).nr G6);have A7:=A6.keepR h6 (k7);lk;refine aB.fK ?_;lk;rw[<-LO];refine yV (lo:=some 0) (hi:=some ((f.defaults.length:Int) - 1)) cc rfl rfl (.inr rfl) cg Sk h7 λag g1 g2 g3 g4 H8 T8 h8 k8=>?_;have N8:=(k8).at N7 ((h7).nr N7);have L8:=(k8).at L7 ((h7).nr L7);have E8:=(k8).at E7 ((h7).nr E7);have B8:=(k8).at B7 ((h7).nr B7);have D8:=(k8).at D7 ((h7).nr D7);have G8:=(k8).at G7 ((h7).nr G7);have M8:=(k8).at M7 ((h7).nr M7);have A8:=A7.keepR h7 (k8);lk;refine tB cc (!bN) T8 G8 M8 cg.wf need ?_;refine xE h8.rd λdr8 e8=>?_;lk;ktn_no "meth";lk;refine rE cc `d ok.k1 h8 λca H9 hca C9 h9 k9=>?_;have N9:=(k9).at N8 ((h8).nr N8);have L9:=(k9).at L8 ((h8).nr L8);have E9:=(k9).at E8 ((h8).nr E8);have B9:=(k9).at B8 ((h8).nr B8);have D9:=(k9).at D8 ((h8).nr D8);have G9:=(k9).at G8 ((h8).nr G8);have M9:=(k9).at M8 ((h8).nr M8);have A9:=A8.keepR h8 (k9);have T9:=T8.keepR h8 (k9);refine aG.cD `set ?_;lk;refine aj.bM C9 (by simp;exact vQ cl Ux) ?_;lk;refine aB.iQ (by simp;exact Ke cl) ?_;refine wL (!q8) ?_;refine aG.nil ?_;refine aG.cons ?_;refine Ex.dH (λu=>[(".0",.undef),("code",u),("need_code",.glob),("reader",.val (.ref r))]) (aP.of hn rfl `d `d `k) (w:=.undef) `get c7 hf `k (λZ Z=>`set) (λZ=>`get) (.inl `k) ?_ (cT hn hk true `k);refine aZ.list ?_ bu.name;lk;refine#[ca,_,rfl,C9,by simp;exact vQ cl Ux,λk ys H'=>cY H' ys (codes.take k)/\Kp [] H9 H',#[trivial,Kp.refl],?_,?_,?_]
  ·rintro _ _ _ _ ⟨_,kk⟩;exact kk.aK C9
  ·rintro F' cf k v ys H' hv ⟨hcd,kk⟩;rw[j9] at hv;obtain⟨HF,hco,rfl⟩:∃HF,codes[k]? =some HF/\v=kT HF:=by
    cases e:codes[k]? with
    |none=>rw[e] at hv;cases hv
    |some j=>rw[e] at hv;cases hv;exact#[j,rfl,rfl]
   refine xE (c9.mp hco) λhk1 hk2=>?_;have etk:codes.take (k+1)=codes.take k++[HF]:=by rw[l7 hk1,hk2]
   refine kC.nil ?_;lk;cases HF with
   |none=>
    refine rM cc ?_;exact#[by rw[etk];exact hcd.push (.inl #[rfl,rfl]),kk]
   |some code=>
    obtain⟨⟨D,hD⟩,_⟩:=cd code (j8 hco);refine vg cc hD λX hX=>?_;exact#[by rw[etk];exact(hcd.keep (Kp.new hX)).push (.inr #[X,code,rfl,rfl,AH.aq _ _ _]),kk.trans (Kp.new hX)]
  rintro hl hvs DR ⟨hcd,kk⟩ Sl;rw[b9,z8] at hcd;have oA:=kk.trans (Kp.new (o:=.list hvs) Sl);have Z10:(DR.set hl (.list hvs)) hl=some (.list hvs):=AH.aq _ _ _;have Jq:=hcd.keep (Kp.new (o:=.list hvs) Sl);have h10:=h9.keep oA (!m8) (!m8);generalize DR.set hl (.list hvs)=DR at oA Z10 Jq h10;refine aG.cD `set ?_;refine xE h10.rd λalp e10=>?_;have N10:=(oA).aK N9;have L10:=(oA).aK L9;have E10:=(oA).aK E9;have B10:=(oA).aK B9;have D10:=(oA).aK D9;have G10:=(oA).aK G9;have M10:=(oA).aK M9;have A10:=A9.keep (oA);have T10:=T9.keep (oA);lk;ktn_no "meth";refine finish_ok (k:=18) cc `e (by simpa using h10) λvd h11 iK=>?_;have N11:=(iK).at N10 ((h10).nr N10);have L11:=(iK).at L10 ((h10).nr L10);have E11:=(iK).at E10 ((h10).nr E10);have B11:=(iK).at B10 ((h10).nr B10);have D11:=(iK).at D10 ((h10).nr D10);have G11:=(iK).at G10 ((h10).nr G10);have M11:=(iK).at M10 ((h10).nr M10);have Z11:=(iK).at Z10 ((h10).nr Z10);have A11:=A10.keepR h10 (iK);have T11:=T10.keepR h10 (iK);have Sm:=cY.keepR h10 iK Jq;lk;refine lR cc N11 L11 E11 B11 D11 A11 T11 G11 M11 (!Kn hc3) (!Oe hcl) hnz λp nu RM P12 t_=>?_;have Z12:=t_.aK Z11;have Jr:=Sm.keep t_;have h12:=h11.keep t_ (!m8) (!m8);refine xE h12.rd λalB e12=>?_;lk;ktn_no "meth";lk;refine jh cc P12 Z12 (Jr.shw λcode hc=>(cd code hc).2) ok ?_;rw[hx];lk;refine u_ cc h12 ?_;lk;refine#[!b7 rfl,hq p _ hl hvs _ P12 Z12 Jr ?_];have kR:=(((((((k2.trans k3).trans k4).trans k5).trans k6).trans k7).trans k8).trans k9);have afZ:=((kR.trans oA.any).trans iK).trans t_.any;intro b o _ e;exact afZ b o (by
   intro z;rcases l9.mp z with rfl|z
   ·exact gc (E1 (G0 (hrH)) e)
   ·rw[j0.mp z,Nl] at e;cases e) (k1.aK e)
end
section
noncomputable abbrev Row:=List (Int×Int)
noncomputable def pT(r:Row)(c:Int):Int:=((r.find? λp=>p.1=c).map (·.2)).getD 0
noncomputable def bg(r:Row):List Int:=(r.map (·.1)).mergeSort λa b=>decide (a<=b)
noncomputable def eE(r:Row):Row:=(bg r).map λc=>(c,pT r c)
structure gw(r:Row):Prop where
 nd:(r.map (·.1)).Nodup
 ln:r.length<=10
 ps:∀c∈r.map (·.1),0<=c/\c<10
theorem i_(r:Row):(bg r).Perm (r.map (·.1)):=List.mergeSort_perm _ _
theorem jc(r:Row):(bg r).Pairwise (·<=·):=by
 have:=List.pairwise_mergeSort (le:=λa b:Int=>decide (a<=b)) (λa b c h1 h2=>by simp at*;exact Of h1 h2) (λa b=>by simp;exact Xi) (r.map (·.1));exact this.imp λh=>by simpa using h
theorem cX:c∈bg r↔c∈r.map (·.1):=(i_ r).mem_iff
theorem kE(r:Row):(bg r).length=r.length:=by rw[(i_ r).length_eq,b9]
theorem vh:∀{c:Int},c∈r.map (·.1)->dX (dG r) c=some (.int (pT r c)):=by
 induction r with
 |nil=>
  intro _ h;exact if_pos `a
 |cons p0 r ih=>
  obtain⟨k,v⟩:=p0;intro c h;unfold dX dG pT;by_cases e:k=c
  ·simp[e]
  ·have:=ih (c:=c) (by simpa [q9 e] using h);unfold dX dG pT at this;simpa [e] using this
variable{C:Cx}{n:Nat}{H:AH}{Q:AV->AH->Prop}
theorem za(cc:CC C)(ha:H a=some (.dI (dG r)))(ok:gw r)(hq:Q (qH (eE r)) H):aj C (n+1) (.ref 367) [.ref a] H Q:=
 .forget <| yz cc λF hf hn hk=>by
  have kl:=kE r;have l1:=ok.ln;refine aG.cons ?_;lk;refine Ev.bJ (λu=>[(".0",.undef),("column",u),("row",.val (.ref a))]) (aP.of hn rfl `d `d `k) `k (λZ Z=>`set) (λZ=>`get) (.inl `k) ?_;refine aZ.list ?_ bu.name;lk;refine aj.uI ha (by simp[dG];exact Og l1) (ks:=bg r) ((i_ r).trans (by rw[rK])) (jc r) λD hD=>?_;refine#[D,_,rfl,AH.aq _ _ _,by simp[ak];exact Oh kl l1,λk ys H'=>ys=((eE r).take k).map (λp=>.tup [.int p.1,.int p.2])/\H'=H.set D (.list (ak (bg r))),#[rfl,rfl],?_,?_,?_]
  ·rintro k ys H' _ ⟨_,rfl⟩;exact AH.aq _ _ _
  ·rintro F' cf k v ys H' hv ⟨rfl,rfl⟩;have hv':(bg r)[k]?.map AV.int=some v:=by simpa [ak] using hv
   obtain⟨c,hc,rfl⟩:=l8.mp hv';refine xE (c9.mp hc) λhk1 hk2=>?_;have hm:c∈r.map (·.1):=cX.mp (j8 hc);refine kC.nil ?_;lk;refine aF.dict (oX C) (λZ Z=>rfl) ((aA (AH.aJ hD ha)).trans ha) (vh hm) ?_;lk;refine#[!b7 rfl,?_,rfl];rw[l7 (by simp[eE];exact xO hk1),n6];simp[eE,hk2]
  rintro b ys H' ⟨rfl,rfl⟩ hb;lk;refine aj.tuple (AH.aq _ _ _) (by simp[eE];exact Xj kl l1) ?_;have e:(eE r).take (ak (bg r)).length=eE r:=by rw[z9 (by simp[eE,ak])]
  rw[e];exact#[H,((Kp.new hD).trans (Kp.new hb)).sub,hq]
end
section
theorem rO{K:Type}[DecidableEq K](k:K)(v:AV)(k':K):∀kvs:List (K×AV),dX (dO kvs k v) k'=if k'=k then some v else dX kvs k':=by
 intro kvs;unfold dO;split
 ·rename_i h;induction kvs with
  |nil=>simp at h
  |cons p l ih=>
   obtain⟨a,b⟩:=p;simp only[Z3,Bool.or_eq_true,decide_eq_true_eq] at h;by_cases e:a=k'
   ·subst e;by_cases e2:a=k
    ·simp[dX,e2]
    ·simp[dX,e2]
   ·by_cases e2:a=k
    ·subst e2;rw[if_neg (λz=>e z.symm)];have:dX (List.map (λp=>if p.1=a then(p.1,v) else p) l) k'=dX l k':=by
      clear ih h;induction l with
      |nil=>rfl
      |cons q l ih2=>
       obtain⟨c,d⟩:=q;unfold dX at ih2⊢;by_cases hc:c=k'
       ·subst hc;simp[q9 e]
       ·by_cases hc2:c=a
        ·subst hc2;simpa [hc] using ih2
        ·simpa [hc,hc2] using ih2
     unfold dX at this⊢;simpa [e] using this
    ·have:=ih (by simpa [e2] using h);unfold dX at this⊢;simpa [e,e2] using this
 ·rename_i h;have h':∀p∈kvs,p.1≠k:=λp hp e=>h (R3.mpr #[p,hp,!decide_eq_true `a]);unfold dX;rw[List.find?_append];by_cases e:k'=k
  ·subst e;rw[if_pos rfl,P8.mpr (by intro p hp;simpa using h' p hp)];simp
  ·rw[if_neg e];cases kvs.find? (λp=>p.1=k') with
   |some p=>rfl
   |none=>simp[q9 e]
theorem BA{K:Type}[DecidableEq K](kvs:List (K×AV))(k:K)(v:AV):(dO kvs k v).length<=kvs.length+1:=by
 unfold dO;split<;>simp
theorem HG{α:Type}[BEq α][LawfulBEq α]{ks:List α}:∀{i:Nat} {k:α},ks[i]? =some k->k∉ks.take i->ks.idxOf k=i:=by
 induction ks with
 |nil=>exact λ{i k} h=>gc h
 |cons x ks ih=>
  refine λ{i k}=>i.casesOn (λh Z=>?_) λi h hn=>?_
  ·rw[m9 h];exact List.idxOf_cons_self
  ·have hb:(x==k)=false:=beq_eq_false_iff_ne.mpr λe=>hn (e▸.head _);rw[List.idxOf_cons,hb,ih (i:=i) h λm=>hn (.tail _ m)];rfl
def bw(H:AH)(vs:List AV)(rs:List Row):Prop:=vs.length=rs.length/\∀(i:Nat) r,rs[i]? =some r->∃a,vs[i]? =some (.ref a)/\H a=some (.dI (dG r))
theorem bw.keep(h:bw H vs rs)(k:Kp [] H H'):bw H' vs rs:=#[h.1,λi r e=>by refine bz (h.2 i r e) λa h1 h2=>?_;exact#[a,h1,k.aK h2]]
structure c_(rs:List Row):Prop where
 ln:rs.length<=3
 ok:∀r∈rs,gw r
noncomputable def oE(rs:List Row):List Row:=rs.map eE
noncomputable def bT(rs:List Row):List Int:=(oE rs).map λk=>((oE rs).idxOf k:Int)
theorem dD(rs:List Row):(bT rs).length=rs.length:=by exact(b9 _).trans (b9 _)
theorem Am{rs:List Row}{i:Nat}{r:Row}(h:rs[i]? =some r):aD (bT rs) i=((oE rs).idxOf (eE r):Int):=by
 unfold aD bT;rw[j7,c8,j9,oE,j9,h];rfl
theorem nM.op(Inv:Nat->Loc->AH->Prop)(h:∀I:Nat->Loc->AH->Prop,(∀{k ρ H},Inv k ρ H->I k ρ H)->(∀{k ρ H},I k ρ H->Inv k ρ H)->nM C n F target body ρ Q vs Ok H₁):nM C n F target body ρ Q vs Ok H₁:=h Inv id id
variable{C:Cx}{n:Nat}{H:AH}{Q:AV->AH->Prop}
theorem ud(cc:CC C){ra:Addr}{vs:List AV}{rs:List Row}(ha:H ra=some (.list vs))(hr:bw H vs rs)(ok:c_ rs)(hq:∀D H',H D=b6->H' D=some (.list (ak (bT rs)))->Kp [] H H'->Q (.ref D) H'):aj C (n+2) (.ref 374) [.ref ra] H Q:=
 uO cc λF hf hn hk=>by
  have hl:=hr.1;have ln:=ok.ln;refine aG.cons ?_;lk;refine Ev.LH λf hf0=>?_;have kf:Kp [] H (H.set f (.dN [])):=Kp.new hf0;have ff:(H.set f (.dN [])) f=some (.dN []):=AH.aq _ _ _;generalize H.set f (.dN [])=H1 at kf ff;lk;refine#[sz rfl,λo ho0=>?_];have hfo:f≠o:=AH.aJ ho0 ff;have ko:Kp [] H (H1.set o (.list [])):=kf.trans (Kp.new ho0);have hoH:H o=b6:=kf.nn ho0;lk;refine Ex.gY (aZ.range `get (aU cc) ?_ bu.name);lk;refine aj.bM (ko.aK ha) (!gW hl ln) ?_;refine#[_,rfl,!qj,!Pz hl ln,?_];rw[j7,hl];refine nM.op (λi ρ' H'=>Ex3 λu w kvs=>An8 (LV.ok u) (LV.ok w) (ρ'=([("rows",.val (.ref ra)),("firsts",.val (.ref f)),("owners",.val (.ref o)),("number",u),("key",w),("range",.glob),("len",.glob),("row_key",.glob)]:Loc)) (H' f=some (.dN kvs)) (kvs.length<=i) ((∀k,dX kvs k=if k∈(oE rs).take i then some (.int ((oE rs).idxOf k:Nat)) else b6)) (H' o=some (.list (ak ((bT rs).take i)))) (Kp [] H H')) λI mk un=>?_;refine#[I,mk #[.undef,.undef,[],c7,c7,rfl,(aA hfo).trans ff,r7 _,λk=>!rfl,AH.aq _ _ _,ko],λZ Z Z Z Z=>trivial,?_,?_]
  ·intro i v ρ' H' hv hi;obtain⟨u,w,kvs,hu,hw,rfl,BB,hlen,hkv,Js,hkp⟩:=un hi;obtain⟨rfl,hin⟩:=bk hv;obtain⟨r,zX⟩:∃r,rs[i]? =some r:=#[_,b8 (!xO hin)];refine bz (hr.2 i r zX) λa hva Mh=>?_;have rQ:=ok.ok r (j8 zX);have hki:(oE rs)[i]? =some (eE r):=by simp[oE,zX]
   have hil:i<(oE rs).length:=by simp[oE];exact xO hin
   have tk:(oE rs).take (i+1)=(oE rs).take i++[eE r]:=by
    rw[l7 hil];simp[b8 hil] at hki;rw[hki]
   have to:ak ((bT rs).take (i+1))=ak ((bT rs).take i)++[.int ((oE rs).idxOf (eE r):Nat)]:=by
    rw[l7 (by rw[dD];exact xO hin)];simp[b8 hil] at hki;simp[ak,bT,hki]
   refine b_.aT `get hf hu ?_;refine aG.cD `set ?_;lk;refine aF.list (λZ Z=>rfl) (hkp.aK ha) (!bN) (v:=.ref a) `a (!gW hl ln) ?_;lk;refine za cc (hkp.aK Mh) rQ ?_;lk;refine aB.afb BB ?_;refine#[_,rfl,?_];rw[hkv];by_cases hm:eE r∈(oE rs).take i
   ·rw[if_pos hm];ktn_no "no";ktn_no "meth";lk;refine aF.zV (λZ Z=>rfl) BB ((hkv _).trans (if_pos hm)) ?_;lk;refine aj.append Js (by simp[ak];exact Oi hin ln) ?_;lk;refine mk #[.val (.int i),.val (qH (eE r)),kvs,c7,c7,rfl,(aA hfo).trans BB,!MO hlen,λk=>?_,?_,hkp.late (.inl hoH)]
    ·rw[hkv,tk];by_cases hk2:k=eE r
     ·subst hk2;simp[hm]
     ·simp[hk2]
    ·rw[AH.aq,to]
   ·rw[if_neg hm];ktn_no "yes";have hfH:H f=b6\/f∈([]:List Addr):=.inl hf0;have ei:=HG hki hm;refine cZ.zV BB (!Oj hlen hin ln) ?_;lk;ktn_no "meth";lk;refine aF.zV (λZ Z=>rfl) (AH.aq _ _ _) ((rO _ _ _ _).trans (if_pos rfl)) ?_;lk;refine aj.append ((aA (q9 hfo)).trans Js) (by simp[ak];exact Oi hin ln) ?_;lk;refine mk #[.val (.int i),.val (qH (eE r)),_,c7,c7,rfl,(aA hfo).trans (AH.aq _ _ _),g9 (BA _ _ _) (!Xk hlen),λk=>?_,?_,(hkp.late hfH).late (.inl hoH)]
    ·rw[rO,hkv,tk];by_cases hk2:k=eE r
     ·rw[if_pos hk2,if_pos (by simp[hk2]),hk2,ei]
     ·simp[hk2]
    ·rw[AH.aq,to,ei]
  ·intro ρ' H' hi;obtain⟨u,w,kvs,hu,hw,rfl,BB,hlen,hkv,Js,hkp⟩:=un hi;lk;refine hq o H' hoH ?_ hkp;rw[Js,bx,z9 (by rw[dD];exact r7 _)]
end
section
noncomputable def fO(rs:List Row)(own:List Int)(k:Nat):List (Int×Int):=(C4 k).filterMap λi:Nat=>if aD own i=i/\0<(rs.getD i []).length then some (-((rs.getD i []).length:Int),(i:Int)) else b6
noncomputable def cU(rs:List Row)(own:List Int):List (Int×Int):=fO rs own rs.length
noncomputable def bC(rs:List Row):List Int:=(iu (cU rs (bT rs))).map (·.2)
theorem eZ(rs:List Row)(own:List Int)(k:Nat):(fO rs own k).length<=k:=by
 unfold fO;exact g9 (List.length_filterMap_le _ _) (by simp)
theorem gS(rs:List Row)(own:List Int)(k:Nat):fO rs own (k+1)=fO rs own k++(if aD own k=k/\0<(rs.getD k []).length then[(-((rs.getD k []).length:Int),(k:Int))] else[]):=by
 unfold fO;rw[K2,List.filterMap_append]
 congr 1
 by_cases h:aD own k=k/\0<(rs.getD k []).length
 ·rw[if_pos h,List.filterMap_cons,if_pos h];rfl
 ·rw[if_neg h,List.filterMap_cons,if_neg h];rfl
variable{C:Cx}{n:Nat}{H:AH}{Q:AV->AH->Prop}
theorem Ec(cc:CC C)(ha:H ra=some (.list vs))(hr:bw H vs rs)(ok:c_ rs)(ho:H oa=some (.list (ak (bT rs))))(hq:∀D H',H D=b6->H' D=some (.list (ak (bC rs)))->Kp [] H H'->Q (.ref D) H'):aj C (n+1) (.ref 379) [.ref ra,.ref oa] H Q:=
 nW cc λF hf hn hk=>by
  have hl:=hr.1;have ln:=ok.ln;have ol:=dD rs;refine aG.cons ?_;lk;refine#[sz rfl,λkd hk0=>?_];have kk:Kp [] H (H.set kd (.list [])):=Kp.new hk0;lk;refine Ex.gY (aZ.range `get (aU cc) ?_ bu.name);lk;refine aj.bM (kk.aK ha) (!gW hl ln) ?_;refine#[_,rfl,!qj,!Pz hl ln,?_];rw[j7,hl];refine nM.op (λi ρ' H'=>Cc λu=>C_ (LV.ok u) (ρ'=([("rows",.val (.ref ra)),("owners",.val (.ref oa)),("keyed",.val (.ref kd)),("number",u),("range",.glob),("len",.glob),("sorted",.glob)]:Loc)) (H' kd=some (.list ((fO rs (bT rs) i).map bS))) (Kp [] H H')) λI mk un=>?_;refine#[I,mk #[.undef,c7,rfl,AH.aq _ _ _,kk],λZ Z Z Z Z=>trivial,?_,?_]
  ·intro i v ρ' H' hv hi;obtain⟨u,hu,rfl,hkd,hkp⟩:=un hi;obtain⟨rfl,hin⟩:=bk hv;obtain⟨r,zX⟩:∃r,rs[i]? =some r:=#[_,b8 (!xO hin)];refine bz (hr.2 i r zX) λa hva Mh=>?_;have rQ:=ok.ok r (j8 zX);have lr:=rQ.ln;have er:rs.getD i []=r:=by simp[zX]
   have kz:=eZ rs (bT rs) i;refine b_.aT `get hf hu ?_;refine aG.cD `set ?_;lk;refine aF.aD (λZ Z=>rfl) (hkp.aK ho) (!bN) (!cI hin ol) (!qh ol ln) ?_;lk;refine aB.kI (λh1=>?_) λh1=>?_
   ·lk;refine aF.list (λZ Z=>rfl) (hkp.aK ha) (!bN) (v:=.ref a) `a (!gW hl ln) ?_;lk;refine aj.QH (oX C) (hkp.aK Mh) (by simp[dG];exact AL lr) ?_;rw[show(dG r).length=r.length by exact b9 _];lk;refine aB.Qf ?_;refine#[_,rfl,?_];by_cases h2:0<r.length
    ·rw[decide_eq_true (!Xl h2)];lk;ktn_no "meth";lk;refine aF.list (λZ Z=>rfl) (hkp.aK ha) (!bN) (v:=.ref a) `a (!gW hl ln) ?_;lk;refine aj.QH (oX C) (hkp.aK Mh) (by simp[dG];exact AL lr) ?_;rw[show(dG r).length=r.length by exact b9 _];lk;refine kY.fC ?_;lk;refine#[sz rfl,?_];lk;refine aj.append hkd (by simp;exact Oj kz hin ln) ?_;lk;refine mk #[.val (.int i),c7,rfl,?_,hkp.late (.inl hk0)];rw[AH.aq,gS,if_pos (by rw[er];exact#[h1,h2]),er];simp[bS]
    ·rw[decide_eq_false (!Xm h2)];lk;refine mk #[.val (.int i),c7,rfl,?_,hkp];rw[hkd,gS,if_neg (by rw[er];exact λh=>h2 h.2),v7]
   ·lk;refine mk #[.val (.int i),c7,rfl,?_,hkp];rw[hkd,gS,if_neg (λh=>h1 h.1),v7]
  ·intro ρ' H' hi;obtain⟨u,hu,rfl,hkd,hkp⟩:=un hi;rw[bx] at hkd;have kz:=eZ rs (bT rs) rs.length;have sl:=(gq (ps:=cU rs (bT rs)) (!g9 `a `a)).length_eq;have sz:(iu (cU rs (bT rs))).length<=3:=by rw[sl];unfold cU;exact Ol kz ln
   lk;refine Ev.bJ (λu=>[(".0",.undef),("pair",u)]) (aP.of hn rfl `d `d `k) `k (λZ Z=>`set) (λZ=>`get) (.inl `k) ?_;refine aZ.list ?_ bu.name;lk;refine aj.GI hkd (by unfold cU at*;exact Xn sl sz) λD hD=>?_;have kD:=hkp.trans (Kp.new (o:=.list ((iu (cU rs (bT rs))).map bS)) hD);refine#[D,_,rfl,AH.aq _ _ _,by simp;unfold cU at sz;exact qi sz,λk ys H'=>ys=ak ((bC rs).take k)/\H'=H'.set D (.list ((iu (cU rs (bT rs))).map bS))/\Kp [] H H',#[rfl,(AH.set_set).symm,kD],?_,?_,?_]
   ·rintro k ys H' _ ⟨_,e,_⟩;rw[e];exact AH.aq _ _ _
   ·rintro F' cf k v ys H2 hv ⟨rfl,e,k2⟩;have hv':(iu (cU rs (bT rs)))[k]?.map bS=some v:=by rw[<-j9];exact hv
    obtain⟨p,hp,rfl⟩:=l8.mp hv';refine xE (c9.mp hp) λhk1 hk2=>?_;refine kC.nil ?_;lk;refine aF.tup (λZ Z=>rfl) `e (v:=.int p.2) rfl (!b7 rfl) ?_;refine#[?_,e,k2];rw[l7 (by simp[bC];exact xO hk1)];simp[ak,bC,hk2]
   ·rintro b ys H2 ⟨rfl,e,k2⟩ hb;refine hq b _ (k2.nn hb) ?_ (k2.trans (Kp.new hb));rw[AH.aq,z9 (by simp[bC,cU])]
end
section
structure An(H:AH)(x t c:Addr)(T K:List Int):Prop where
 o:∃d,H x=some (.inst 431 d [("table",.ref t),("check",.ref c)])
 h1:H t=some (.list (ak T))
 h2:H c=some (.list (ak K))
theorem An.keep{H H':AH}{x t c:Addr}{T K:List Int}(h:An H x t c T K)(k:Kp [] H H'):An H' x t c T K:=#[h.o.imp λZ e=>k.aK e,k.aK h.h1,k.aK h.h2]
noncomputable def ue(K:List Int)(b:Int):Bool:=decide ((K.length:Int)<=b)||decide (aD K b=0)
noncomputable def ji(K cols:List Int)(b:Int):Bool:=cols.all λc=>ue K (b+c)
noncomputable def pU(K cols:List Int):Nat->Int->Int
 |0,b=>b
 |m+1,b=>if ji K cols b then b else pU K cols m (b+1)
theorem Ed{K cols:List Int}{m:Nat}{b:Int}:pU K cols (m+1) b=if ji K cols b then b else pU K cols m (b+1):=rfl
noncomputable def oF(K cols:List Int):Int:=pU K cols K.length (-cols.headD 0)
noncomputable def cV(l:List Int)(many:Int):List Int:=l++M5 (many.toNat - l.length) 0
noncomputable def gA(b:Int)(f:Int->Int)(l cols:List Int):List Int:=cols.foldl (λl c=>l.set (b+c).toNat (f c)) l
variable{C:Cx}{n:Nat}{H:AH}{Q:AV->AH->Prop}{x t c:Addr}{T K:List Int}
theorem zd(cc:CC C)(h:An H x t c T K)(h0:0<=b)(hz:K.length<=1000)(hq:Q (.bool (ue K b)) H):aj C (n+1) (.ref 400) [.ref x,.int b] H Q:=
 pL cc λF hf hn hk=>by
  refine xE h.o λd e=>?_;unfold ue at hq;refine aG.cons ?_;lk;refine aj.bM h.h2 (by rw[az];exact pF hz) ?_;rw[az];refine aB.IK ?_;refine#[_,rfl,?_];by_cases h1:(K.length:Int)<=b
  ·rw[decide_eq_true h1] at hq⊢;lk;exact hq
  ·rw[decide_eq_false h1] at hq⊢;lk;refine aF.aD (λZ Z=>rfl) h.h2 h0 (!Xo h1) (!sM hz) ?_;lk;refine aB.Gv ?_;exact hq
theorem HH(cc:CC C)(h:An H x t c T K)(hz:K.length<=1000)(hc:H ca=some (.list (ak cols)))(h0:∀k∈cols,0<=b+k)(hl:cols.length<=1000)(hq:Q (.bool (ji K cols b)) H):aj C (n+2) (.ref 407) [.ref x,.int b,.ref ca] H Q:=
 uQ cc λF hf hn hk=>by
  refine xE h.o λd e=>?_;refine aG.cons ?_;refine Ex.gY (aZ.list ?_ bu.name);lk;refine#[ca,_,rfl,hc,?_];refine nM.op (λi ρ' H'=>Cc λu=>C_ (LV.ok u) (ρ'=([("self",.val (.ref x)),("base",.val (.int b)),("columns",.val (.ref ca)),("column",u)]:Loc)) (ji K (cols.take i) b=true) (H'=H)) λI mk un=>?_;refine#[I,mk #[.undef,c7,rfl,rfl,rfl],?_,?_,?_]
  ·intro k ρ' H' _ hi;obtain⟨_,_,_,_,rfl⟩:=un hi;exact hc
  ·intro i v ρ' H' hv hi;obtain⟨u,hu,rfl,hfit,rfl⟩:=un hi;have hv':cols[i]?.map AV.int=some v:=by simpa [ak] using hv
   obtain⟨k,hki,rfl⟩:=l8.mp hv';refine xE (c9.mp hki) λq1 q2=>?_;have hmem:=j8 hki;refine b_.aT `get hf hu ?_;refine aG.cD `set ?_;lk;ktn_no "meth";lk;refine aB.bL ?_;lk;refine zd cc h (h0 k hmem) hz ?_;refine KW.bool ?_;cases hfr:ue K (b+k) with
   |true=>
    ktn_no "no";refine mk #[.val (.int k),c7,rfl,?_,rfl];unfold ji at hfit⊢;rw[l7 q1,List.all_append,hfit,q2];simp[hfr]
   |false=>
    ktn_no "yes";have:ji K cols b=false:=by
     unfold ji;rw[<-Bool.not_eq_true,n9];intro hall;rw[hall k hmem] at hfr;cases hfr
    rw[this] at hq;exact hq
  ·intro ρ' H' hi;obtain⟨u,hu,rfl,hfit,rfl⟩:=un hi;rw[az,z8] at hfit;rw[hfit] at hq;lk;exact hq
theorem wZ{K cols:List Int}{b:Int}(h:∀c∈cols,(K.length:Int)<=b+c):ji K cols b=true:=
 n9.mpr λc hc=>by unfold ue;rw[decide_eq_true (h c hc)];rfl
theorem vj(cc:CC C)(h:An H x t c T K)(hz:K.length<=1000)(hc:H ca=some (.list (ak (c0::cols))))(h0:∀k∈cols,c0<=k)(hl:cols.length<=999)(hq:Q (.int (oF K (c0::cols))) H):aj C (n+3) (.ref 414) [.ref x,.ref ca] H Q:=
 mK cc λF hf hn hk=>by
  refine xE h.o λd e=>?_;refine aG.cons ?_;lk;refine aF.list (λZ Z=>rfl) hc `e (v:=.int c0) rfl (by simp[ak];exact Ob hl) ?_;lk;refine kY.fC ?_;lk;refine Ex.nO (λm ρ' H'=>∃b:Int,ρ'=([("self",.val (.ref x)),("columns",.val (.ref ca)),("base",.val (.int b))]:Loc)/\H'=H/\b=-c0+K.length - m/\-c0<=b/\pU K (c0::cols) m b=oF K (c0::cols)) K.length #[-c0,rfl,rfl,!Xp,!Xq,rfl] ?_;rintro m ρ' H' ⟨b,rfl,rfl,hb,hb0,BB⟩;lk;ktn_no "meth";lk;refine HH cc h hz hc (λk hk'=>?_) (by simp;exact Xr hl) ?_
  ·rcases l9.mp hk' with rfl|hk'
   ·exact Xs hb0
   ·have:=h0 k hk';exact Xu hb0 this
  ·refine KW.bool ?_;cases hfit:ji K (c0::cols) b with
   |true=>
    have:b=oF K (c0::cols):=by
     rw[<-BB];cases m with
     |zero=>rfl
     |succ m=>rw[Ed,if_pos hfit]
    ktn_no "no";rw[this];exact hq
   |false=>
    cases m with
    |zero=>
     have:=wZ (K:=K) (cols:=c0::cols) (b:=b) (λk hk'=>by
      rcases l9.mp hk' with rfl|hk'
      ·exact Xv hb
      ·have:=h0 k hk';exact Xw hb this)
     rw[this] at hfit;cases hfit
    |succ m=>
     ktn_no "yes";refine aB.bL ?_;lk;refine#[m,!Xx,b+1,rfl,rfl,!Xy hb,!Xz hb0,?_];rw[<-BB]
     conv=>rhs;rw[Ed]
     rw[if_neg (by rw[hfit];exact q8)]
theorem w_(l:List Int)(h:(l.length:Int)<many):cV (l++[0]) many=cV l many:=by
 unfold cV;obtain⟨m,hm⟩:∃m,many.toNat - l.length=m+1:=#[many.toNat - l.length - 1,!XA h];rw[hm,List.replicate_succ,lG,x8]
 congr 2
 simp;exact XC hm
theorem uf(l:List Int){many:Int}(h:many<=l.length):cV l many=l:=by
 unfold cV;rw[show many.toNat - l.length=0 by exact XD h];simp
theorem bO(l:List Int)(i:Int):ak l++[.int i]=ak (l++[i]):=by simp[ak]
theorem HJ(cc:CC C){many:Int}(h:An H x t c T K)(hl:T.length=K.length)(hm:many<=2000)(hz:K.length<=2000)(htc:t≠c)(Ce:x≠t)(hxc:x≠c)(hq:∀H',An H' x t c (cV T many) (cV K many)->Kp [t,c] H H'->Q .none H'):aj C (n+1) (.ref 421) [.ref x,.int many] H Q:=
 uR cc λF hf hn hk=>by
  refine aG.cons ?_;refine Ex.nO (λm ρ' H'=>Gz λT' K'=>An8 (ρ'=([("self",.val (.ref x)),("many",.val (.int many)),("len",.glob)]:Loc)) (An H' x t c T' K') (Kp [t,c] H H') (T'.length=K'.length) (K'.length<=2000) (cV T' many=cV T many) (cV K' many=cV K many) (m=(many - K'.length).toNat)) (many - K.length).toNat #[T,K,rfl,h,Kp.refl,hl,hz,rfl,rfl,rfl] ?_;rintro m ρ' H' ⟨T',K',rfl,co,kp,hl',hz',hgt,jx,hm'⟩;refine xE co.o λd e=>?_;lk;refine aj.bM co.h2 (by rw[az];exact Om hz') ?_;rw[az];lk;refine aB.GH (λhlt=>?_) λhlt=>?_
  ·have ct:=co.h1;lk;ktn_no "meth";lk;refine aj.append co.h1 (by rw[az];exact XE hl' hz') ?_;have e2:=(aA (o:=.list (ak T'++[.int 0])) Ce).trans e;have e3:=(aA (o:=.list (ak T'++[.int 0])) (q9 htc)).trans co.h2;have e4:(H'.set t (.list (ak T'++[.int 0]))) t=_:=AH.aq _ _ _;have k4:=kp.trans (Kp.mem (S:=[t,c]) (H:=H') (a:=t) (o:=.list (ak T'++[.int 0])) (!.head _));generalize H'.set t (.list (ak T'++[.int 0]))=H2 at e2 e3 e4 k4⊢;lk;ktn_no "meth";lk;refine aj.append e3 (by rw[az];exact Om hz') ?_;lk;refine#[(many - (K'++[0]).length).toNat,by simp;exact XF hlt hm',T'++[0],K'++[0],rfl,#[#[d,(aA hxc).trans e2],?_,?_],k4.trans (Kp.mem (!.tail _ (.head _))),by simp[hl'],by simp;exact XG hlt hm,by rw[w_ _ (!XH hlt hl'),hgt],by rw[w_ _ hlt,jx],rfl]
   ·rw[aA htc,e4,bO]
   ·rw[AH.aq,bO]
  ·lk;refine hq H' ?_ kp;rw[<-hgt,<-jx,uf _ (!XI hl' hlt),uf _ (!XJ hlt)];exact co
end
section
theorem cM(b:Int)(f:Int->Int):∀(cols l:List Int),(gA b f l cols).length=l.length
 |[],l=>rfl
 |c::cols,l=>by
  show(gA b f (l.set (b+c).toNat (f c)) cols).length=_;rw[cM];simp
theorem rR(b:Int)(f:Int->Int)(l cols:List Int)(c:Int):gA b f l (cols++[c])=(gA b f l cols).set (b+c).toNat (f c):=by
 unfold gA;rw[List.foldl_append];rfl
theorem cG(l:List Int)(many:Int):(cV l many).length=max l.length many.toNat:=by unfold cV;simp;exact adi
theorem HK{K cols:List Int}(m:Nat):∀(b:Int),b<=pU K cols m b/\pU K cols m b<=b+m:=by
 induction m with
 |zero=>
  intro b;unfold pU;exact XK
 |succ m ih=>
  intro b;unfold pU;split
  ·exact XM
  ·have:=ih (b+1);exact XN this
theorem ze{K:List Int}{c0:Int}{cols:List Int}:-c0<=oF K (c0::cols)/\oF K (c0::cols)<=-c0+K.length:=HK _ _
noncomputable def iF(b:Int)(cols:List Int):Int:=b+cols.getLastD 0+1
noncomputable def zf(T K:List Int)(r:Row):List Int:=let b:=oF K (bg r);gA b (pT r) (cV T (iF b (bg r))) (bg r)
noncomputable def putK(K:List Int)(o:Int)(r:Row):List Int:=let b:=oF K (bg r);gA b (λZ=>o+1) (cV K (iF b (bg r))) (bg r)
variable{C:Cx}{n:Nat}{H:AH}{Q:AV->AH->Prop}{x t c:Addr}{T K:List Int}
theorem Mi (cc:CC C) {o:Int} {ra:Addr} {r:Row} (h:An H x t c T K) (hl:T.length=K.length) (hz:K.length<=100) (htc:t≠c) (Ce:x≠t) (hxc:x≠c) (hrt:ra≠t) (Mf:ra≠c) (ha:H ra=some (.dI (dG r))) (ok:gw r) (hne:r≠[])
 (hq:∀H',An H' x t c (zf T K r) (putK K o r)->Kp [t,c] H H'->Q (.int (oF K (bg r))) H'):aj C (n+4) (.ref 428) [.ref x,.int o,.ref ra] H Q:=
 wF cc λF hf hn hk=>by
  refine xE h.o λd e=>?_;have kl:=kE r;have l1:=ok.ln;have Jt:=jc r;have mem:∀c∈bg r,0<=c/\c<10:=λc hc=>ok.ps c (cX.mp hc);have hpos:0<r.length:=K5.mpr hne;unfold zf putK at hq;dsimp only at hq;have So:∀c∈bg r,dX (dG r) c=some (.int (pT r c)):=λc hc=>vh (cX.mp hc);have Ju:(bg r).Perm ((dG r).map (·.1)):=(i_ r).trans (by rw[rK]);obtain⟨c0,cols,ec⟩:∃c0 cols,bg r=c0::cols:=by
   cases h:bg r with
   |nil=>rw[h] at kl;simp at kl;omega
   |cons a l=>exact#[a,l,rfl]
  rw[ec] at hq kl Jt mem So Ju;generalize hcs:c0::cols=cs at*;have hmin:∀k∈cs,c0<=k:=by subst hcs;intro k hk';rcases l9.mp hk' with rfl|hk';exact R1 _;exact Y4 Jt hk'
  have hc0:=mem c0 (by rw[<-hcs];simp);have BB:-c0<=oF K cs/\oF K cs<=-c0+K.length:=by rw[<-hcs];exact ze
  have rJ:∃z,cs.getLast? =some z/\cs.getLastD 0=z/\z∈cs:=by
   subst hcs;exact#[(c0::cols).getLast (!F4 _ _),E2 _,!rfl,List.getLast_mem _]
  refine f_ rJ λz hz1 hz2 hz3=>?_;have hzm:=mem z hz3;refine aG.cons ?_;lk;refine aj.uI ha (by simp[dG];exact Og l1) Ju Jt λD hD=>?_;have kD:=Kp.new (S:=[]) (o:=.list (ak cs)) hD;have co:=h.keep kD;have Uy:(H.set D (.list (ak cs))) D=some (.list (ak cs)):=AH.aq _ _ _;have ha1:=kD.aK ha;have hDt:D≠t:=q9 (AH.aJ hD h.h1);have hDc:D≠c:=q9 (AH.aJ hD h.h2);generalize H.set D (.list (ak cs))=H1 at kD co Uy ha1;refine xE co.o λd e=>?_;lk;ktn_no "meth";lk;subst hcs;refine vj cc co (!Kq hz) Uy (λk hk'=>hmin k (!.tail _ `a)) (by simp at kl;exact XO kl l1) ?_;generalize hb:oF K (c0::cols)=b at hq BB;generalize hcs:c0::cols=cs at*;lk;ktn_no "meth";lk;refine kY.fC ?_;refine aF.fT (k:=-1) (λZ Z=>rfl) Uy `e (by rw[az];exact XQ hpos kl) (v:=.int z) (by
   rw[az,J2] at*;exact mZ (by rw[show((-1:Int)+(cs.length:Nat)).toNat=cs.length - 1 by exact FZ];exact hz1)) (by rw[az];exact Oh kl l1) ?_
  refine aB.bL ?_;lk;refine aB.bL ?_;lk;refine HJ cc co hl (!XR BB hzm hc0 hz) (!XS hz) htc Ce hxc λH2 co2 k2=>?_;have he:b+z+1=iF b cs:=by unfold iF;rw[hz2]
  rw[he] at co2;have hem:(iF b cs).toNat<=120/\∀k∈cs,k<=z:=#[by rw[<-he];exact XT BB hzm hc0 hz,λk hk'=>by
   have:=x7.mp Jt;obtain⟨i,hi,rfl⟩:=O6 hk';rw[J2] at hz1;refine xE (c9.mp hz1) λq1 q2=>?_;rcases Nat.lt_or_ge i (cs.length - 1) with hlt|hge
   ·exact q2▸this i (cs.length - 1) hi q1 hlt
   ·have:i=cs.length - 1:=by exact Oo hge hi
    subst this;exact XU q2]
  have Sq:=k2.at Uy (by simp;exact#[hDt,hDc]);have ha2:=k2.at ha1 (by simp;exact#[hrt,Mf]);have kp2:Kp [t,c] H H2:=(kD.any).trans k2;lk;refine Ex.gY (aZ.list ?_ bu.name);lk;refine#[D,_,rfl,Sq,?_];refine nM.op (λi ρ' H'=>Cc λu=>C_ (LV.ok u) (ρ'=([("self",.val (.ref x)),("owner",.val (.int o)),("row",.val (.ref ra)),("columns",.val (.ref D)),("base",.val (.int b)),("column",u),("sorted",.glob)]:Loc)) (An H' x t c (gA b (pT r) (cV T (iF b cs)) (cs.take i)) (gA b (λZ=>o+1) (cV K (iF b cs)) (cs.take i))) (Kp [t,c] H2 H')) λI mk un=>?_;refine#[I,mk #[.undef,c7,rfl,co2,Kp.refl],?_,?_,?_]
  ·intro k ρ' H' _ hi;obtain⟨_,_,_,_,k3⟩:=un hi;exact k3.at Sq (by simp;exact#[hDt,hDc])
  ·intro i v ρ' H' hv hi;obtain⟨u,hu,rfl,Fo,k3⟩:=un hi;have hv':cs[i]?.map AV.int=some v:=by simpa [ak] using hv
   obtain⟨k,hki,rfl⟩:=l8.mp hv';refine xE (c9.mp hki) λq1 q2=>?_;have hmem:=j8 hki;have hkb:0<=b+k/\b+k<(iF b cs):=#[by have:=hmin k hmem;exact Oq BB this,by have:=hem.2 k hmem;exact XW he this];refine xE Fo.o λd3 e3=>?_;have tk:cs.take (i+1)=cs.take i++[k]:=by rw[l7 q1,q2]
   refine b_.aT `get hf hu ?_;refine aG.cD `set ?_;lk;refine aF.dict (oX C) (λZ Z=>rfl) (k3.at ha2 (by simp;exact#[hrt,Mf])) (So k hmem) ?_;lk;refine aB.bL ?_;refine cZ.list Fo.h1 (!Ot hkb) (by rw[az,cM,cG];exact PB hz2 hb he q1 hkb.1 hkb.2) (by rw[az,cM,cG];exact adk hem.1 hl hz) ?_;rw[ints_set];have e4:=(aA (o:=.list (ak ((gA b (pT r) (cV T (iF b cs)) (cs.take i)).set (b+k).toNat (pT r k)))) Ce).trans e3;have c4:=(aA (o:=.list (ak ((gA b (pT r) (cV T (iF b cs)) (cs.take i)).set (b+k).toNat (pT r k)))) (q9 htc)).trans Fo.h2;lk;refine aB.bL ?_;lk;refine aB.bL ?_;refine cZ.list c4 (!Ot hkb) (by rw[az,cM,cG];exact PB hz2 hb he q1 hkb.1 hkb.2) (by rw[az,cM,cG];exact adl hem.1 hz) ?_;rw[ints_set];lk;refine mk #[.val (.int k),c7,rfl,#[#[d3,(aA hxc).trans e4],?_,?_],(k3.trans (Kp.mem (!.head _))).trans (Kp.mem (!.tail _ (.head _)))]
   ·rw[aA htc,AH.aq,tk,rR]
   ·rw[AH.aq,tk,rR]
  ·intro ρ' H' hi;obtain⟨u,hu,rfl,Fo,k3⟩:=un hi;rw[az,z8] at Fo;lk;exact hq H' Fo (kp2.trans k3)
end
section
theorem Ef{T K:List Int}{o:Int}{r:Row}(hl:T.length=K.length)(ok:gw r)(hne:r≠[]):(zf T K r).length=(putK K o r).length/\(putK K o r).length<=K.length+10:=by
 unfold zf putK;dsimp only;rw[cM,cM,cG,cG,hl];refine#[rfl,?_];have mem:∀c∈bg r,0<=c/\c<10:=λc hc=>ok.ps c (cX.mp hc);have kl:=kE r;have hpos:0<r.length:=K5.mpr hne;obtain⟨c0,cols,ec⟩:∃c0 cols,bg r=c0::cols:=by
  cases h:bg r with
  |nil=>rw[h] at kl;simp at kl;omega
  |cons a l=>exact#[a,l,rfl]
 rw[ec] at mem⊢;have h1:=ze (K:=K) (c0:=c0) (cols:=cols);have h2:=mem c0 (!.head _);have h3:0<=(c0::cols).getLastD 0/\(c0::cols).getLastD 0<10:=by
  rw[R7,E2 (!F4 _ _)];exact mem _ (List.getLast_mem _)
 unfold iF;exact adm h2.1 h1.2 h3.2
noncomputable def Ao(rs:List Row)(st:List Int×List Int×List Int)(k:Int):List Int×List Int×List Int:=
 (st.1.set k.toNat (oF st.2.2 (bg (rs.getD k.toNat []))),zf st.2.1 st.2.2 (rs.getD k.toNat []),putK st.2.2 k (rs.getD k.toNat []))
noncomputable def cj(rs:List Row)(m:Nat):List Int×List Int×List Int:=((bC rs).take m).foldl (Ao rs) (M5 rs.length 0,[],[])
noncomputable def cK(rs:List Row):Pk:=
 #[(bT rs).map (aD (cj rs (bC rs).length).1),(cj rs (bC rs).length).2.1,(cj rs (bC rs).length).2.2,bT rs]
theorem dQ(hl:rs.length<=3)(h:k∈bC rs):∃i:Nat,k=i/\i<rs.length/\rs.getD i []≠[]/\aD (bT rs) i=i:=by
 unfold bC at h;obtain⟨p,hp,rfl⟩:=m5.mp h;have kz:=eZ rs (bT rs) rs.length;have hp:=(gq (ps:=cU rs (bT rs)) (!g9 `a `a)).mem_iff.mp hp;unfold cU fO at hp;refine bz (S9.mp hp) λi hi e=>?_;split at e
 ·rename_i hc;cases e;exact#[i,rfl,by simpa using hi,λz=>by rw[z] at hc;simp at hc,hc.1]
 ·exact gc e
theorem oG(hl:rs.length<=3):(bC rs).length<=3:=by
 have kz:=eZ rs (bT rs) rs.length;unfold bC;rw[b9,(gq (ps:=cU rs (bT rs)) (!g9 `a `a)).length_eq];unfold cU;exact Ol kz hl
theorem jW(h:(bC rs)[m]? =some k):cj rs (m+1)=Ao rs (cj rs m) k:=by
 refine xE (c9.mp h) λh1 h2=>?_;unfold cj;rw[l7 h1,List.foldl_append,h2];rfl
theorem gT{rs:List Row}(ok:c_ rs)(m:Nat):m<=(bC rs).length->(cj rs m).1.length=rs.length/\(cj rs m).2.1.length=(cj rs m).2.2.length/\(cj rs m).2.2.length<=10*m:=by
 induction m with
 |zero=>exact λZ=>#[Q3,rfl,r7 _]
 |succ m ih=>
  refine λh=>kh (ih (!Kr h)) λi1 i2 i3=>?_;have hk:(bC rs)[m]? =some (bC rs)[m]:=b8 (!F_ h);refine oO (dQ ok.ln (j8 hk)) λi e hi hne Z=>?_;rw[jW hk];unfold Ao;dsimp only;rw[e,j7];have rQ:gw (rs.getD i []):=ok.ok _ (by rw[c8,b8 hi];exact m6 _);refine xA (Ef (o:=i) i2 rQ hne) λj1 j2=>?_;exact#[!x6.trans `a,j1,!XX j2 i3]
variable{C:Cx}{n:Nat}{H:AH}{Q:AV->AH->Prop}
theorem Eg(cc:CC C)(hq:∀x t c H',H x=b6->H t=b6->H c=b6->An H' x t c [] []->t≠c->x≠t->x≠c->Kp [] H H'->Q (.ref x) H'):aj C (n+2) (.ref 431) [] H Q:=
 Hf cc λx dx hx hdx hne F hf hn hk=>by
  refine aG.cons ?_;lk;refine#[sz rfl,λt ht=>?_];have Ce:x≠t:=AH.aJ ht (AH.aq _ _ _);have htH:H t=b6:=(aA (q9 Ce)).symm.trans ht;lk;refine#[_,_,_,_,_,rfl,(aA Ce).trans (AH.aq _ _ _),`st,!s8 _,`fput,?_];have k1:Kp [] H ((((H.set x (.inst 431 dx [])).set t (.list [])).set x (.inst 431 dx [("table",.ref t)]))):=((Kp.new hx).late (.inl htH)).late (.inl hx);have e1:((((H.set x (.inst 431 dx [])).set t (.list [])).set x (.inst 431 dx [("table",.ref t)]))) x=_:=AH.aq _ _ _;have e2:((((H.set x (.inst 431 dx [])).set t (.list [])).set x (.inst 431 dx [("table",.ref t)]))) t=some (.list []):=(aA (q9 Ce)).trans (AH.aq _ _ _);generalize((((H.set x (.inst 431 dx [])).set t (.list [])).set x (.inst 431 dx [("table",.ref t)])))=H1 at k1 e1 e2⊢;lk;refine#[sz rfl,λc hc=>?_];have hxc:x≠c:=AH.aJ hc e1;have htc:t≠c:=AH.aJ hc e2;have Nl:=k1.nn hc;lk;refine#[_,_,_,_,_,rfl,(aA hxc).trans e1,`st,!n8 _,`fput,?_];lk;refine#[rfl,hq x t c _ hx htH Nl #[#[dx,AH.aq _ _ _],?_,?_] htc Ce hxc ((k1.late (.inl Nl)).late (.inl hx))]
  ·rw[aA (q9 Ce),aA htc,e2];rfl
  ·rw[aA (q9 hxc),AH.aq];rfl
theorem vm (cc:CC C) (ha:H ra=some (.list vs)) (hr:bw H vs rs) (ok:c_ rs)
 (hq:∀b1 b2 b3 H',H' b1=some (.list (ak (cK rs).bases))->H' b2=some (.list (ak (cK rs).table))->H' b3=some (.list (ak (cK rs).check))->Kp [] H H'->Q (.tup [.ref b1,.ref b2,.ref b3]) H'):aj C (n+5) (.ref 440) [.ref ra] H Q:=
 uS cc λF hf hn hk=>by
  have hl:=hr.1;have ln:=ok.ln;have ol:=dD rs;have oz:=oG ln;refine aG.cons ?_;lk;refine ud cc ha hr ok λoa H1 Z ho k1=>?_;lk;refine Eg cc λx t c H2 hx1 ht1 hc1 co htc Ce hxc k2=>?_;have ht0:=k1.nn ht1;have hc0:=k1.nn hc1;have t_:=k1.trans k2;have ho2:=k2.aK ho;refine aG.cD `set ?_;refine aG.cons ?_;refine Ex.qG (u:=.undef) `get c7 hf ?_ (cT hn hk false `k);refine Ev.bJ (λu=>[(".0",.undef),("row",u)]) (aP.of hn rfl `d `d `k) `k (λZ Z=>`set) (λZ=>`get) (.inl `k) ?_;refine aZ.list ?_ bu.name;lk;refine#[ra,_,rfl,t_.aK ha,!gW hl ln,λk ys H'=>ys=ak (M5 k 0)/\H'=H2,#[rfl,rfl],?_,?_,?_]
  ·rintro k ys H' _ ⟨_,rfl⟩;exact t_.aK ha
  ·rintro F' cf k v ys H' hv ⟨rfl,rfl⟩;refine kC.nil ?_;lk;exact#[by rw[bO,<-List.replicate_succ'],rfl]
  rintro ba ys H' ⟨rfl,rfl⟩ hb0;rw[hl];have k3:Kp [] H' (H'.set ba (.list (ak (M5 rs.length 0)))):=Kp.new hb0;have hb:(H'.set ba (.list (ak (M5 rs.length 0)))) ba=_:=AH.aq _ _ _;have hbH:=t_.nn hb0;generalize H'.set ba (.list (ak (M5 rs.length 0)))=H3 at k3 hb⊢;have Fo:=co.keep k3;have oH:=t_.trans k3;refine aG.cD `set ?_;refine aG.cons ?_;refine Ex.gY (aZ.list ?_ bu.name);lk;refine Ec cc (oH.aK ha) (hr.keep oH) ok (k3.aK ho2) λod H4 Mj hod k4=>?_;have Mk:∀{a:Addr} {o:AO},H a=some o->a≠ba/\a≠t/\a≠c:=λe=>#[AH.aJ hbH e,AH.aJ ht0 e,AH.aJ hc0 e];have af2:od≠ba/\od≠t/\od≠c:=#[q9 (AH.aJ Mj hb),q9 (AH.aJ Mj Fo.h1),q9 (AH.aJ Mj Fo.h2)];have af3:oa≠ba/\oa≠t/\oa≠c:=#[AH.aJ hb0 ho2,AH.aJ ht1 ho,AH.aJ hc1 ho];have Ss:ba≠t/\ba≠c/\x≠ba:=#[q9 (AH.aJ hb0 co.h1),q9 (AH.aJ hb0 co.h2),by refine xE co.o λd e=>?_;exact AH.aJ hb0 e];have co4:=Fo.keep k4;have hb4:=k4.aK hb;have Aq:=oH.trans k4;have ho4:=k4.aK (k3.aK ho2);refine#[od,_,rfl,hod,?_];refine nM.op (λi ρ' H'=>Cc λu=>TS (LV.ok u) (ρ'=([("rows",.val (.ref ra)),("owners",.val (.ref oa)),("comb",.val (.ref x)),("bases",.val (.ref ba)),("number",u),("owners_of",.glob),("Comb",.glob),("packing_order",.glob)]:Loc)) (An H' x t c (cj rs i).2.1 (cj rs i).2.2) (H' ba=some (.list (ak (cj rs i).1))) (Kp [ba,t,c] H4 H')) λI mk un=>?_;refine#[I,mk #[.undef,c7,rfl,co4,hb4,Kp.refl],?_,?_,?_]
  ·intro k ρ' H' _ hi;obtain⟨_,_,_,_,_,k5⟩:=un hi;exact k5.at hod (by simp;exact af2)
  ·intro i v ρ' H' hv hi;obtain⟨u,hu,rfl,Su,Mg,k5⟩:=un hi;have hv':(bC rs)[i]?.map AV.int=some v:=by simpa [ak] using hv
   obtain⟨k,hki,rfl⟩:=l8.mp hv';refine xE (c9.mp hki) λq1 q2=>?_;obtain⟨j,rfl,hj,hne,_⟩:=dQ ln (j8 hki);refine kh (gT ok i (!XY q1)) λl1 l2 l3=>?_;refine bz (hr.2 j (rs.getD j []) (by rw[c8,b8 hj];rfl)) λa hva Mh=>?_;have rQ:gw (rs.getD j []):=ok.ok _ (by rw[c8,b8 hj];exact m6 _);have out:=Mk Mh;have Jv:∀{a:Addr} {o:AO},H a=some o->H' a=some o:=λe=>k5.at (Aq.aK e) (by simp;exact Mk e);refine xE Su.o λd5 e5=>?_;refine b_.aT `get hf hu ?_;refine aG.cD `set ?_;lk;ktn_no "meth";lk;refine aF.list (λZ Z=>rfl) (Jv ha) (!bN) (v:=.ref a) `a (!gW hl ln) ?_;lk;refine Mi cc Su l2 (!XZ l3 q1 oz) htc Ce hxc out.2.1 out.2.2 (Jv Mh) rQ hne λH6 Jw k6=>?_;have hb6:=k6.at Mg (by simp;exact#[Ss.1,Ss.2.1]);lk;refine cZ.list hb6 (!bN) (by rw[az];exact cI hj l1) (by rw[az];exact gW l1 ln) ?_;rw[ints_set];refine xE Jw.o λd6 e6=>?_;lk;have hs:=jW hki;unfold Ao at hs;rw[j7] at hs;refine mk #[.val (.int j),c7,rfl,?_,?_,(k5.trans (k6.mono (!λ_ h=>.tail _ h))).trans (Kp.mem (!.head _))]
   ·rw[hs];exact#[#[d6,(aA Ss.2.2).trans e6],(aA (q9 Ss.1)).trans Jw.h1,(aA (q9 Ss.2.1)).trans Jw.h2]
   ·rw[hs,AH.aq];rfl
  ·intro ρ' H5 hi;obtain⟨u,hu,rfl,Su,Mg,k5⟩:=un hi;rw[az] at Su Mg;refine kh (gT ok _ (r7 _)) λl1 l2 l3=>?_;have ho5:=k5.at ho4 (by simp;exact af3);have Sv:Kp [] H H5:=λb o Z e=>k5.at (Aq.aK e) (by simp;exact Mk e);lk;refine Ev.bJ (λu=>[(".0",.undef),("owner",u),("bases",.val (.ref ba))]) (aP.of hn rfl `d `d `k) `k (λZ Z=>`set) (λZ=>`get) (.inl `k) ?_;refine aZ.list ?_ bu.name;lk;refine#[oa,_,rfl,ho5,by rw[az];exact gW ol ln,λk ys H'=>ys=ak ((cK rs).bases.take k)/\H'=H5,#[rfl,rfl],?_,?_,?_]
   ·rintro k ys H' _ ⟨_,rfl⟩;exact ho5
   ·rintro F' cf k v ys H' hv ⟨rfl,rfl⟩;have hv':(bT rs)[k]?.map AV.int=some v:=by simpa [ak] using hv
    obtain⟨o,hko,rfl⟩:=l8.mp hv';refine xE (c9.mp hko) λq1 q2=>?_;have hor:0<=o/\o<rs.length:=by
     subst q2;simp only[bT,List.getElem_map];refine#[!bN,?_];have:(oE rs).idxOf ((oE rs)[k]'(by simpa [bT] using q1))<(oE rs).length:=W5 (m6 _);simp[oE] at this⊢;exact xO this
    refine kC.nil ?_;lk;refine aF.aD (λZ Z=>rfl) Mg hor.1 (!Ks hor l1) (!qh l1 ln) ?_;refine#[?_,rfl];rw[bO,l7 (by simp[cK];exact q1)];simp[cK,q2]
   ·rintro bb ys H' ⟨rfl,rfl⟩ Sw;have kb:=Kp.new (S:=[]) (o:=.list (ak ((cK rs).bases.take (ak (bT rs)).length))) Sw;have Jw:=Su.keep kb;have Sx:(H'.set bb (.list (ak ((cK rs).bases.take (ak (bT rs)).length)))) bb=_:=AH.aq _ _ _;generalize H'.set bb (.list (ak ((cK rs).bases.take (ak (bT rs)).length)))=H6 at kb Jw Sx⊢;refine xE Jw.o λd6 e6=>?_;lk;refine#[sz rfl,?_];refine hq bb t c H6 ?_ Jw.h1 Jw.h2 (Sv.trans kb);rw[Sx,z9 (by simp[cK,ak])]
theorem eu (cc:CC C) (ha:H ra=some (.list vs)) (hr:bw H vs rs) (ok:c_ rs)
 (hq:∀a b1 b2 b3 b4 H',pg H' a b1 b2 b3 b4 (cK rs)->Kp [] H H'->Q (.ref a) H'):aj C (n+6) (.ref 522) [.ref ra] H Q:=
 qX cc λF hf hn hk=>by
  refine aG.cons ?_;refine Ex.qw ?_;lk;refine vm cc ha hr ok λb1 b2 b3 H1 h1 h2 h3 k1=>?_;refine b_.tup rfl rfl ?_;refine e_.cons (b_.aT (u:=.undef) `get hf c7 ?_);refine e_.cD `set ?_;refine e_.cons (b_.aT (u:=.undef) `get hf c7 ?_);refine e_.cD `set ?_;refine e_.cons (b_.aT (u:=.undef) `get hf c7 ?_);refine e_.cD `set ?_;refine e_.nil ?_;lk;refine ud cc (k1.aK ha) (hr.keep k1) ok λb4 H2 Z h4 k2=>?_;lk;refine wU cc (p:=cK rs) (k2.aK h1) (k2.aK h2) (k2.aK h3) h4 λa H3 Z hp k3=>?_;exact hq a b1 b2 b3 b4 H3 hp ((k1.trans k2).trans k3)
end
section
noncomputable def rw(rs:List Row)(o:Int):Row:=rs.getD o.toNat []
theorem jX{l:List Int}{c:Int}(h0:0<=c)(h:aD l c≠0):c<l.length:=by
 refine Int.not_le.mp λz=>h ?_;unfold aD;rw[c8,Q2 (!X_ z)];rfl
theorem xd(l:List Int)(m c:Int):aD (cV l m) c=aD l c:=by
 unfold aD cV;rw[c8,c8,List.getElem?_append];split
 ·rfl
 ·rename_i h;rw[O9,Q2 (l:=l) (!Yc h)];split<;>rfl
theorem xg{b:Int}{f:Int->Int}{cols:List Int}:∀{l:List Int} {c:Int},0<=c->(∀k∈cols,0<=b+k/\b+k<l.length)->aD (gA b f l cols) c=if c - b∈cols then f (c - b) else aD l c:=by
 induction cols with
 |nil=>
  intro l c _ _;exact rfl
 |cons k cols ih=>
  intro l c h0 hr;have hk:=hr k (!.head _);show aD (gA b f (l.set (b+k).toNat (f k)) cols) c=_;rw[ih h0 (λj hj=>by rw[x6];exact hr j (!.tail _ `a)),nj hk.1 hk.2 h0];by_cases h1:c - b∈cols
  ·rw[if_pos h1,if_pos (!.tail _ `a)]
  ·rw[if_neg h1];by_cases h2:c=b+k
   ·have e:c - b=k:=by exact Yd h2
    rw[if_pos h2,if_pos (by rw[e];simp),e]
   ·rw[if_neg h2,if_neg (by
     intro hm;rcases l9.mp hm with hm|hm
     ·exact Ye hm h2
     ·exact h1 hm)]
theorem BC{K cols:List Int}(m:Nat):∀(b:Int),ji K cols (b+m)=true->ji K cols (pU K cols m b)=true:=by
 induction m with
 |zero=>
  intro b h;unfold pU;simpa using h
 |succ m ih=>
  intro b h;unfold pU;split
  ·assumption
  ·exact ih (b+1) (by rw[show b+1+(m:Int)=b+((m+1:Nat):Int) by exact Yg];exact h)
structure Eh(rs:List Row)(dn B T K:List Int):Prop where
 tk:T.length=K.length
 z:∀c:Int,0<=c->aD K c=0->aD T c=0
 nz:∀c:Int,0<=c->aD K c≠0->(aD K c - 1)∈dn/\(c - aD B (aD K c - 1))∈(rw rs (aD K c - 1)).map (·.1)/\aD T c=pT (rw rs (aD K c - 1)) (c - aD B (aD K c - 1))
 on:∀o∈dn,∀c∈(rw rs o).map (·.1),0<=aD B o+c/\aD K (aD B o+c)=o+1
 last:K≠[]->aD K ((K.length:Int) - 1)≠0
 b0:∀o:Int,0<=o->o∉dn->aD B o=0
 bb:∀o:Int,0<=o->(aD B o).natAbs<=100
theorem BD{K:List Int}{r:Row}(ok:gw r)(hne:r≠[]):(∀c∈bg r,0<=oF K (bg r)+c/\oF K (bg r)+c<iF (oF K (bg r)) (bg r))/\ji K (bg r) (oF K (bg r))=true/\-10<oF K (bg r)/\oF K (bg r)<=K.length/\∃z∈bg r,iF (oF K (bg r)) (bg r)=oF K (bg r)+z+1:=by
 have mem:∀c∈bg r,0<=c/\c<10:=λc hc=>ok.ps c (cX.mp hc);have kl:=kE r;have Jt:=jc r;have hpos:0<r.length:=K5.mpr hne;obtain⟨c0,cols,ec⟩:∃c0 cols,bg r=c0::cols:=by
  cases h:bg r with
  |nil=>rw[h] at kl;simp at kl;omega
  |cons a l=>exact#[a,l,rfl]
 rw[ec] at mem Jt⊢;have h1:=ze (K:=K) (c0:=c0) (cols:=cols);have h2:=mem c0 (!.head _);have hmin:∀k∈c0::cols,c0<=k:=λk hk=>by
  rcases l9.mp hk with rfl|hk
  ·exact R1 _
  ·exact Y4 Jt hk
 have el:iF (oF K (c0::cols)) (c0::cols)=oF K (c0::cols)+(c0::cols).getLast (!F4 _ _)+1:=by
  unfold iF;rw[R7,E2 (!F4 _ _)];rfl
 have af4:∀k∈c0::cols,k<=(c0::cols).getLast (!F4 _ _):=λk hk=>by
  obtain⟨i,hi,rfl⟩:=O6 hk;rw[List.getLast_eq_getElem];rcases Nat.lt_or_ge i ((c0::cols).length - 1) with hlt|hge
  ·exact x7.mp Jt i _ hi (!r7 _) hlt
  ·have:i=(c0::cols).length - 1:=by exact Oo hge hi
   subst this;exact R1 _
 refine#[λc hc=>#[by have:=hmin c hc;exact Oq h1 this,by have:=af4 c hc;exact Yh this el],?_,!Yi h1 h2,!Yj h1 h2,_,List.getLast_mem _,el];unfold oF;refine BC _ _ (wZ λc hc=>?_);have:=hmin c hc;simp only[List.headD_cons];exact Yk this
theorem Eh.step{rs:List Row}{dn B T K:List Int}(I:Eh rs dn B T K){k:Int}(hk0:0<=k)(hkB:k<B.length)(hkn:k∉dn)(ok:gw (rw rs k))(hne:rw rs k≠[])(hd:∀o∈dn,0<=o)(hKz:K.length<=60):
 Eh rs (dn++[k]) (B.set k.toNat (oF K (bg (rw rs k)))) (zf T K (rw rs k)) (putK K k (rw rs k)):=by
 refine Gn (BD (K:=K) ok hne) λp1 p2 p3 p4 z hz p5=>?_;have fr:∀c∈bg (rw rs k),aD K (oF K (bg (rw rs k))+c)=0:=λc hc=>by
  have:=n9.mp p2 c hc;unfold ue at this;simp only[Bool.or_eq_true,decide_eq_true_eq] at this;rcases this with h|h
  ·by_cases h0:aD K (oF K (bg (rw rs k))+c)=0
   ·exact h0
   ·have:=jX (p1 c hc).1 h0;exact Yl this h
  ·exact h
 unfold zf putK;dsimp only;generalize hb:oF K (bg (rw rs k))=b at*;generalize hcs:bg (rw rs k)=cs at*;have mcs:∀c,c∈cs↔c∈(rw rs k).map (·.1):=λc=>by rw[<-hcs];exact cX
 have eK:∀c,0<=c->aD (gA b (λZ=>k+1) (cV K (iF b cs)) cs) c=if c - b∈cs then k+1 else aD K c:=λc h0=>by
  rw[xg h0 λj hj=>#[(p1 j hj).1,by have:=(p1 j hj).2;rw[cG];exact PC this],xd]
 have eT:∀c,0<=c->aD (gA b (pT (rw rs k)) (cV T (iF b cs)) cs) c=if c - b∈cs then pT (rw rs k) (c - b) else aD T c:=λc h0=>by
  rw[xg h0 λj hj=>#[(p1 j hj).1,by have:=(p1 j hj).2;rw[cG];exact PC this],xd]
 have eB:∀o,0<=o->aD (B.set k.toNat b) o=if o=k then b else aD B o:=λo h0=>nj hk0 hkB h0
 refine{tk:=?_,z:=λc h0 hc=>?_,nz:=λc h0 hc=>?_,on:=λo ho c hc=>?_,last:=λZ=>?_,b0:=λo h0 ho=>?_,bb:=λo h0=>?_}
 ·rw[cM,cM,cG,cG,I.tk]
 ·rw[eK c h0] at hc;rw[eT c h0];split at hc
  ·exact Ym hk0 hc
  ·rename_i h;rw[if_neg h];exact I.z c h0 hc
 ·rw[eK c h0] at hc⊢;rw[eT c h0];by_cases hm:c - b∈cs
  ·rw[if_pos hm,if_pos hm,show k+1 - 1=k by exact Yn,eB k hk0,if_pos rfl];exact#[!u5 _ (.head _),(mcs _).mp hm,rfl]
  ·rw[if_neg hm] at hc⊢;rw[if_neg hm];refine kh (I.nz c h0 hc) λi1 i2 i3=>?_;rw[eB _ (hd _ i1),if_neg (λe=>hkn (by rw[<-e];exact i1))];exact#[!B0 _ `a,i2,i3]
 ·rcases s6.mp ho with ho|ho
  ·refine xA (I.on o ho c hc) λi1 i2=>?_;rw[eB o (hd o ho),if_neg (λe=>hkn (by rw[<-e];exact ho))];refine#[i1,?_];rw[eK _ i1,if_neg,i2];intro hm;have:=fr _ hm;rw[show b+(aD B o+c - b)=aD B o+c by exact Yo,i2] at this;have:=hd o ho;exact adU `a this
  ·rw[j0.mp ho] at hc⊢;rw[eB k hk0,if_pos rfl];have hm:=(mcs c).mpr hc;refine#[(p1 c hm).1,?_];rw[eK _ (p1 c hm).1,if_pos (by rw[show b+c - b=c by exact Cq];exact hm)]
 ·rw[cM,cG];have hzc:=p1 z hz;rcases Int.lt_or_le K.length (iF b cs) with hlt|hge
  ·rw[show((max K.length (iF b cs).toNat:Nat):Int) - 1=b+z by exact adn hlt p5,eK _ hzc.1,if_pos (by rw[show b+z - b=z by exact Cq];exact hz)];exact Ou hk0
  ·have Sy:K≠[]:=by rintro rfl;simp at hge;exact Yp hzc hge
   have:=I.last Sy;have hKl:=K5.mpr Sy;rw[show((max K.length (iF b cs).toNat:Nat):Int) - 1=(K.length:Int) - 1 by exact ado hge,eK _ (!Yq hKl)];split
   ·exact Ou hk0
   ·exact this
 ·rw[eB o h0];have h1:o∉dn/\o≠k:=by simpa using ho
  rw[if_neg h1.2];exact I.b0 o h0 h1.1
 ·rw[eB o h0];split
  ·exact Yr p3 p4 hKz
  ·exact I.bb o h0
theorem vp{rs:List Row}(hl:rs.length<=3):(bC rs).Nodup:=by
 have kz:=eZ rs (bT rs) rs.length;have hp:=(gq (ps:=cU rs (bT rs)) (!g9 `a `a)).map (·.2);unfold bC;refine hp.nodup_iff.mpr ?_
 have:∀k:Nat,((fO rs (bT rs) k).map (·.2)).Nodup/\∀x:Int,x∈(fO rs (bT rs) k).map (·.2)->x<(k:Int):=by
  intro k;induction k with
  |zero=>simp[fO]
  |succ k ih=>
   rw[gS,n6];split
   ·refine#[K1.mpr #[ih.1,!G5.mpr #[m8,J9],λa ha b hb=>?_],λx hx=>?_]
    ·simp at hb;subst hb;have:=ih.2 a ha;exact Ys this
    ·rcases s6.mp hx with hx|hx
     ·have:=ih.2 x hx;exact Ga this
     ·simp at hx;exact Yt hx
   ·rw[List.map_nil,v7];exact#[ih.1,λx hx=>by have:=ih.2 x hx;exact Ga this]
 exact(this _).1
theorem zg{rs:List Row}(ok:c_ rs)(m:Nat):m<=(bC rs).length->Eh rs ((bC rs).take m) (cj rs m).1 (cj rs m).2.1 (cj rs m).2.2:=by
 induction m with
 |zero=>
  intro _;have hz:∀c,aD (cj rs 0).1 c=0:=λc=>by
   unfold cj aD;simp only[List.take_zero,List.foldl_nil];rw[c8,O9];split<;>rfl
  exact#[rfl,λZ Z Z=>rfl,λc Z h=>absurd rfl h,λo h=>by simp at h,λh=>absurd rfl h,λo Z Z=>hz o,λo Z=>by rw[hz];decide]
 |succ m ih=>
  intro h;have I:=ih (!Kr h);refine kh (gT ok m (!Kr h)) λl1 l2 l3=>?_;have oz:=oG ok.ln;have hk:(bC rs)[m]? =some (bC rs)[m]:=b8 (!F_ h);refine oO (dQ ok.ln (j8 hk)) λi e hi hne Z=>?_;have rQ:gw (rs.getD i []):=ok.ok _ (by rw[c8,b8 hi];exact m6 _);rw[jW hk,l7 (!F_ h)];have hnd:=vp (rs:=rs) ok.ln;refine I.step (!acB e) (!acC e l1 hi) (λhm=>?_) (by unfold rw;rw[e];simpa using rQ) (by unfold rw;rw[e];simpa using hne) (λo ho=>?_) (!Yu h l3 oz)
  ·refine TM hm λj hj ej=>?_;rw[Z0] at ej;rw[F3] at hj;exact x7.mp hnd j m (!TL hj) (!F_ h) (!NG hj) ej
  ·obtain⟨j,rfl,_⟩:=dQ ok.ln (List.mem_of_mem_take ho);omega
end
section
noncomputable def pB(r:Row)(c:Int):Option Int:=(r.find? λp=>p.1=c).map (·.2)
theorem rS(r:Row)(c:Int):pB r c=if c∈r.map (·.1) then some (pT r c) else b6:=by
 unfold pB pT;by_cases h:c∈r.map (·.1)
 ·rw[if_pos h];refine bz (m5.mp h) λp hp e=>?_;cases q:r.find? (λp=>p.1=c) with
  |none=>have:=P8.mp q p hp;simp[e] at this
  |some x=>rfl
 ·rw[if_neg h];rw[P8.mpr]
  ·rfl
  ·intro p hp;simp;intro e;exact h (m5.mpr #[p,hp,e])
theorem ug(r:Row):(eE r).map (·.1)=bg r:=by simp[eE,Q5]
theorem HL(h:eE r=eE r')(c:Int):pB r c=pB r' c:=by
 have hk:bg r=bg r':=by rw[<-ug,<-ug,h]
 rw[rS,rS];have hm:c∈r.map (·.1)↔c∈r'.map (·.1):=by rw[<-cX,<-cX,hk]
 by_cases h1:c∈r.map (·.1)
 ·rw[if_pos h1,if_pos (hm.mp h1)];have h2:=cX.mpr h1;have:(c,pT r c)∈eE r:=m5.mpr #[c,h2,rfl];rw[h] at this;refine bz (m5.mp this) λd Z e=>?_;simp only[Prod.mk.injEq] at e;obtain⟨rfl,e⟩:=e;rw[e]
 ·rw[if_neg h1,if_neg λz=>h1 (hm.mpr z)]
theorem HO(h:(oE rs)[o]? =some κ):eE (rs.getD o [])=κ/\o<rs.length/\rs[o]? =some (rs.getD o []):=by
 unfold oE at h;rw[j9] at h;obtain⟨r,hr,rfl⟩:=l8.mp h;refine xE (c9.mp hr) λh1 h2=>?_;rw[c8,hr];exact#[rfl,h1,rfl]
theorem iG{rs:List Row}{i:Nat}(hi:i<rs.length):∃o:Nat,aD (bT rs) i=o/\o<=i/\eE (rs.getD o [])=eE (rs.getD i [])/\aD (bT rs) o=o:=by
 have e:rs[i]? =some (rs.getD i []):=by rw[c8,b8 hi];rfl
 have h1:=Am e;have hk:(oE rs)[i]? =some (eE (rs.getD i [])):=by unfold oE;rw[j9,e];rfl
 generalize eE (rs.getD i [])=κ at h1 hk⊢;have hmem:κ∈oE rs:=j8 hk;have hlt:=W5 hmem;have hget:(oE rs)[(oE rs).idxOf κ]? =some κ:=by rw[b8 hlt,List.getElem_idxOf hlt]
 refine kh (HO hget) λg1 g2 g3=>?_;refine#[(oE rs).idxOf κ,h1,?_,g1,?_]
 ·refine Nat.le_of_not_lt λhgt=>?_;refine xE (c9.mp hk) λq1 q2=>?_;have:=List.not_of_lt_findIdx (p:=(·==κ)) (xs:=oE rs) (i:=i) (by unfold List.idxOf at hgt;exact hgt);rw[q2] at this;simp at this
 ·rw[Am g3,g1]
theorem uh{rs:List Row}(hl:rs.length<=3){i:Nat}(hi:i<rs.length)(ho:aD (bT rs) i=i)(hne:rs.getD i []≠[]):(i:Int)∈bC rs:=by
 have kz:=eZ rs (bT rs) rs.length;unfold bC;refine m5.mpr #[(-((rs.getD i []).length:Int),(i:Int)),(gq (ps:=cU rs (bT rs)) (!g9 `a `a)).mem_iff.mpr ?_,rfl];unfold cU fO;refine S9.mpr #[i,by simpa using hi,?_];rw[if_pos #[ho,K5.mpr hne]]
structure BE(rs:List Row)(p:Pk)(B:List Int):Prop where
 own:p.owners=bT rs
 Jx:∀i:Nat,i<rs.length->aD p.bases i=aD B (aD (bT rs) i)
 bl:p.bases.length=rs.length
 kl:p.check.length<=30
 inv:Eh rs (bC rs) B p.table p.check
theorem kF(ok:c_ rs):BE rs (cK rs) (cj rs (bC rs).length).1:=by
 refine kh (gT ok _ (r7 _)) λl1 l2 l3=>?_;have oz:=oG ok.ln;have I:=zg ok _ (r7 _);rw[z8] at I;have ol:=dD rs;refine#[rfl,λi hi=>?_,!(b9 _).trans `a,by show(cj rs _).2.2.length<=30;exact Yv l3 oz,I];show aD ((bT rs).map (aD (cj rs (bC rs).length).1)) i=_;unfold aD;rw[j7,c8,j9,b8 (!Cp hi ol),I9,Option.getD_some,c8 (l:=bT rs),b8 (l:=bT rs) (!Cp hi ol)];rfl
section
variable{rs:List Row}{p:Pk}{B:List Int}
theorem rT(ok:c_ rs)(E:BE rs p B){i:Nat}(hi:i<rs.length)(c:Int):jR p i c=pB (rs.getD i []) c:=by
 refine oO (iG hi) λo h1 h2 h3 h4=>?_;have I:=E.inv;have eb:=E.Jx i hi;rw[h1] at eb;rw[<-HL h3];unfold jR wR;rw[E.own,h1,eb,rS];dsimp only;have ho:o<rs.length:=by exact Ov h2 hi
 by_cases hm:c∈(rs.getD o []).map (·.1)
 ·rw[if_pos hm];have hne:rs.getD o []≠[]:=by intro z;rw[z] at hm;simp at hm
  have hin:=uh ok.ln ho h4 hne;refine xA (I.on o hin c `a) λq1 q2=>?_;have hnz:aD p.check (aD B o+c)≠0:=by rw[q2];exact Ku
  have hlt:=jX q1 hnz;refine kh (I.nz _ q1 hnz) λZ Z q3=>?_;rw[q2] at q3;unfold rw at q3;rw[show((o:Int)+1 - 1)=o by exact Ow,j7,show aD B o+c - aD B o=c by exact Cq] at q3;rw[if_neg (by rintro(z|z|z)<;>first|omega|exact z q2),q3]
 ·rw[if_neg hm,if_pos];by_cases h0:aD B o+c<0
  ·exact .inl h0
  ·right;by_cases hl:(p.check.length:Int)<=aD B o+c
   ·exact .inl hl
   ·right;intro hk;refine kh (I.nz (aD B o+c) (!Kd h0) (by rw[hk];exact Ku)) λZ q2 Z=>?_;rw[hk] at q2;unfold rw at q2;rw[show((o:Int)+1 - 1)=o by exact Ow,j7,show aD B o+c - aD B o=c by exact Cq] at q2;exact hm q2
theorem Ei(h:q∈gM p o):∃c:Nat,c<p.check.length/\aD p.check c=o+1/\q=((c:Int) - aD p.bases o,aD p.table c):=by
 unfold gM dP at h;obtain⟨c,hc,rfl⟩:=m5.mp h;refine xA (I0.mp hc) λh1 h2=>?_;exact#[c,by simpa using h1,by simpa using h2,rfl]
theorem Ar(ok:c_ rs)(E:BE rs p B){i:Nat}(hi:i<rs.length){q:Int×Int}(h:q∈gM p (aD p.owners i)):pB (rs.getD i []) q.1=some q.2:=by
 refine oO (iG hi) λo h1 h2 h3 h4=>?_;rw[E.own,h1] at h;obtain⟨c,hc,hk,rfl⟩:=Ei h;rw[<-rT ok E hi];have eo:=E.Jx o (!Ov h2 hi);have ei:=E.Jx i hi;rw[h4] at eo;rw[h1] at ei;unfold jR wR;rw[E.own,h1,ei,eo];dsimp only;rw[show aD B o+((c:Int) - aD B o)=c by exact Yw,if_neg];rintro(z|z|z)
 ·exact Yx z
 ·exact Yy z hc
 ·exact z hk
theorem rW(ok:c_ rs)(E:BE rs p B){cols:Int}(hc:∀r∈rs,∀c∈r.map (·.1),c<cols):iZ p rs.length cols:=by
 have I:=E.inv;have ol:=dD rs;have ow:∀i:Int,0<=i->i<rs.length->∃(j o:Nat),i=j/\aD (bT rs) i=o/\o<=j/\aD (bT rs) o=o/\o<rs.length:=λi h0 h1=>by
  obtain⟨j,rfl⟩:∃j:Nat,i=j:=#[i.toNat,!lX h0];refine oO (iG (rs:=rs) (i:=j) (!Kv h1)) λo a b Z d=>?_;exact#[j,o,rfl,a,b,d,!Yz h1 b]
 have hl3:=ok.ln;have iY:=E.kl;refine#[#[by rw[E.bl,E.own,ol],I.tk,by rw[E.bl];exact Cr hl3,!YA iY],#[E.bl,by rw[E.own,ol],λi h0 h1=>?_],#[?_,λc h0 h1=>?_],λi h0 h1 hr=>?_]
 ·obtain⟨j,o,rfl,a,b,d,ho⟩:=ow i h0 h1;have e1:=E.Jx j (!Kv h1);have e2:=E.Jx o ho;rw[E.own,a,d];refine#[!bN,!Ox b,rfl,?_];rw[e1,e2,a,d]
 ·cases hK:p.check with
  |nil=>exact .inl rfl
  |cons x xs=>
   right;have:=I.last (by rw[hK];simp);rw[hK] at this;intro rJ;apply this;unfold aD;rw[J2] at rJ;rw[c8,show(((x::xs).length:Int) - 1).toNat=(x::xs).length - 1 by simp,rJ];rfl
 ·by_cases hz:aD p.check c=0
  ·rw[hz];exact#[R1 _,!bN,λZ=>I.z c h0 hz,λz=>absurd rfl z]
  ·refine kh (I.nz c h0 hz) λq1 q2 Z=>?_;refine oO (dQ hl3 q1) λo e ho hne Js=>?_;rw[e] at q2;unfold rw at q2;rw[j7] at q2;have rQ:gw (rs.getD o []):=ok.ok _ (by rw[c8,b8 ho];exact m6 _);have h5:=rQ.ps _ q2;have h6:=hc (rs.getD o []) (by rw[c8,b8 ho];exact m6 _) _ q2;have eb:=E.Jx o ho;rw[Js] at eb;rw[E.own,e,Js,eb];exact#[!YB e,by rw[ol];exact YC e ho,λz=>absurd z hz,λZ=>#[rfl,h5.1,h6]]
 ·obtain⟨j,o,rfl,a,b,d,ho⟩:=ow i h0 h1;rw[E.own,a] at hr;rw[E.Jx j (!Kv h1),a];by_cases hne:rs.getD o []=[]
  ·refine I.b0 o (!bN) λhin=>?_;refine oO (dQ hl3 hin) λo' e Z hne' Z=>?_;have:o=o':=by exact YD e
   subst this;exact hne' hne
  ·exfalso;have hin:=uh hl3 ho d hne;obtain⟨⟨k,v⟩,hq⟩:=List.exists_mem_of_ne_nil _ hne;refine xA (I.on o hin k (by unfold rw;rw[j7];exact m5.mpr #[_,hq,rfl])) λq1 q2=>?_;have hlt:=jX (l:=p.check) q1 (by rw[q2];exact Ku);have:((aD B o+k).toNat:Int)=aD B o+k:=by exact YE q1
   have hm:((((aD B o+k).toNat:Nat):Int) - aD p.bases o,aD p.table ((aD B o+k).toNat:Nat))∈gM p o:=by
    unfold gM dP;refine m5.mpr #[(aD B o+k).toNat,I0.mpr #[by rw[List.mem_range];exact YF this hlt,?_],rfl];rw[this,q2];simp
   rw[hr] at hm;simp at hm
theorem nq(h:v∈l):∃c:Int,0<=c/\c<l.length/\aD l c=v:=by
 obtain⟨i,hi,rfl⟩:=O6 h;refine#[i,!bN,!gI hi,?_];unfold aD;rw[j7,c8,b8 hi];rfl
theorem xh(ok:c_ rs)(E:BE rs p B):(∀v∈p.table,v=0\/∃r∈rs,∃c∈r.map (·.1),v=pT r c)/\(∀v∈p.check,0<=v/\v<=3)/\(∀v∈p.bases,v.natAbs<=100)/\∀v∈p.owners,0<=v/\v<=3:=by
 have I:=E.inv;have ol:=dD rs;have hl3:=ok.ln;refine#[λv hv=>?_,λv hv=>?_,λv hv=>?_,λv hv=>?_]
 ·obtain⟨c,h0,h1,rfl⟩:=nq hv;by_cases hz:aD p.check c=0
  ·exact .inl (I.z c h0 hz)
  ·right;refine kh (I.nz c h0 hz) λq1 q2 q3=>?_;refine oO (dQ hl3 q1) λo e ho hne Js=>?_;rw[e] at q2 q3;unfold rw at q2 q3;rw[j7] at q2 q3;exact#[_,by rw[c8,b8 ho];exact m6 _,_,q2,q3]
 ·obtain⟨c,h0,h1,rfl⟩:=nq hv;by_cases hz:aD p.check c=0
  ·exact YG hz
  ·refine xA (I.nz c h0 hz) λq1 Z=>?_;refine f_ (dQ hl3 q1) λo e ho Z=>?_;exact acD e ho hl3
 ·obtain⟨c,h0,h1,rfl⟩:=nq hv;have hb:=E.bl;obtain⟨j,rfl⟩:∃j:Nat,c=j:=#[c.toNat,!lX h0];refine bz (iG (rs:=rs) (i:=j) (!Kw h1 hb)) λo a Z=>?_;rw[E.Jx j (!Kw h1 hb),a];exact I.bb o (!bN)
 ·rw[E.own] at hv;obtain⟨c,h0,h1,rfl⟩:=nq hv;obtain⟨j,rfl⟩:∃j:Nat,c=j:=#[c.toNat,!lX h0];refine f_ (iG (rs:=rs) (i:=j) (!Kw h1 ol)) λo a b Z=>?_;exact acE h1 a ol b hl3
end
end
section
theorem Ej(h:i.natAbs<2 ^ 64):R8 i<=64:=by
 unfold R8;split
 ·exact s8 _
 ·rename_i h0;have:i.natAbs≠0:=by simpa using h0
  have:=(Nat.log2_lt this).mpr h;exact YH this
theorem aB.mulL(hi:i.natAbs<2 ^ 64)(h:Q (.int (i*j)) H):aB C n (binaryOp .Mult) (.int i) (.int j) H Q:=.Lj (.of_left (Ej hi)) h
theorem aB.BF(h0:0<=j)(hj:j<=100)(hi:i.natAbs<2 ^ 64)(h:Q (.int (i ^ j.toNat)) H):aB C n (binaryOp .Pow) (.int i) (.int j) H Q:=by
 refine .aek h0 ?_ h;have:=Ej hi;have h1:(R8 i:Int)*j<=64*100:=Int.mul_le_mul (!YI this) hj h0 `e;have:(64*100:Int)<=2 ^ 27:=by decide
 exact adp h1
theorem gB{i j:Int}(h:0<j):0<=i.fmod j/\i.fmod j<j:=#[Int.fmod_nonneg_of_pos _ h,Int.fmod_lt_of_pos _ h]
theorem Au{i j:Int}(h:0<=i)(hj:0<j):0<=i.fdiv j:=Int.fdiv_nonneg h (!YJ hj)
structure eF(H:AH)(p c:Addr)(b:Int):Prop where
 e:∃(ns:List Int) (s r:Int),H p=some (.list [.ref c,.int s,.int r])/\H c=some (.list (ak ns))/\ns.length<=40/\p≠c/\0<=s/\s<=b/\0<=r
theorem eF.mono(h:eF H p c b)(l:b<=b'):eF H p c b':=by
 refine ql h.e λns s r h1 h2 h3 h4 h5 h6 h7=>?_;exact#[ns,s,r,h1,h2,h3,h4,h5,!Of h6 l,h7]
theorem eF.keep{H H':AH}{S:List Addr}{p c:Addr}{b:Int}(h:eF H p c b)(k:Kp S H H')(n1:p∉S)(n2:c∉S):eF H' p c b:=by
 refine qk h.e λns s r h1 h2 h3=>?_;exact#[ns,s,r,k.at h1 n1,k.at h2 n2,h3]
theorem eF.cQ(h:eF H p c b)(k:Kp [] H H'):eF H' p c b:=h.keep k (!m8) (!m8)
theorem eF.put{H:AH}{p c a:Addr}{b:Int}{o:AO}(h:eF H p c b)(n1:a≠p)(n2:a≠c):eF (H.set a o) p c b:=by
 refine qk h.e λns s r h1 h2 h3=>?_;exact#[ns,s,r,(aA (q9 n1)).trans h1,(aA (q9 n2)).trans h2,h3]
theorem eF.ap(h:eF H p c b)(ha:H a=b6):a≠p/\a≠c:=by
 refine qk h.e λns s r h1 h2 Z=>?_;exact#[q9 (AH.aJ ha h1),q9 (AH.aJ ha h2)]
variable{C:Cx}{n:Nat}{H:AH}{Q:AV->AH->Prop}
def Ek(C:Cx)(a:Addr)(vs:List AV):Prop:=∃Vs:List Value,C.hb.get? a=some {cls:=.type "list",data:=.seq Vs.toArray}/\aM C.hb Vs vs
inductive SlB(C:Cx)(Q:AV->AH->Prop)(v jv:AV)(H₂:AH):Prop
 |mk (ad:Addr) (vs:List AV) (j:Nat) (e1:v=.ref ad) (e2:jv=.int j) (b:Ek C ad vs) (l:vs.length<=1000000) (q:∀c,H₂ c=b6->Q (.ref c) (H₂.set c (.list (vs.take j))))
theorem Ev.El
 (h:Ev C n F value ρ H λv H₁=>Ev C n F hi ρ H₁ (SlB C Q v)):Ev C n F (.Subscript value (.Slice b6 (some hi) b6 p) pos) ρ H Q:=λA g s a G=>by
 refine Subscript_ (fH (h A g s a G) λV s₁ v H₁ q r₁ G₁=>wpAny_Slice ?_);rw[evalPart_none,evalPart_some];refine wpAny_pure (fH (q A g s₁ a G₁) λJ s₂ jv H₂ x r₂ aR=>wpAny_pure (x.casesOn λad vs j e1 e2 b hl qq=>?_));rw[e1] at r₁;rw[e2] at r₂;refine r₁.bR ?_;refine r₂.bB λtj=>b.elim λxs b=>?_;have up:∀b o,C.hb.get? b=some o->s₂.heap.get? b=some o:=λb o e=>aR.keep _ _ (aR.base _ _ e);have rr:=b.2.up up;have o:=up _ _ b.1;refine tail_any ((aH o).push _).typeIs list_getitem_lookup (wpAny_getItem_list_slice ((aH o).push _) (X4 ..) .none (.int (j:Int) tj) .none (by simp) ?_ (!rr.size hl)) fh;rw[wu];have:=(aR.push {cls:=.type "slice",data:=.fields (List.toArray [.none,.int (j:Int) tj,.none])}).newList ((rr.take j).up λb ob e=>j6 _ e);exact#[_,_,qq _ this.2,.ref _,this.1]
theorem Ml(cc:CC C)(ha:Ek C a (ak ns))(hl:ns.length<=1000)(hq:∀p c H',H p=b6->H c=b6->eF H' p c 0->Kp [] H H'->Q (.ref p) H'):aj C (n+1) (.ref 820) [.ref a] H Q:=
 yD cc λF hf hn hk=>by
  refine aG.cons ?_;lk;refine Ev.bJ (λu=>[(".0",.undef),("cell",u),("int",.glob)]) (aP.of hn rfl `d `d `k) `k (λZ Z=>`set) (λZ=>`get) (.inl `k) ?_;refine aZ.list ?_ bu.name;refine Ev.El ?_;lk;refine#[a,_,40,rfl,rfl,ha,by rw[az];exact pF hl,λc hc=>?_];have et:(ak ns).take 40=ak (ns.take 40):=by simp[ak,Z6]
  rw[et];have kc:Kp [] H (H.set c (.list (ak (ns.take 40)))):=Kp.new hc;have hcc:(H.set c (.list (ak (ns.take 40)))) c=_:=AH.aq _ _ _;generalize H.set c (.list (ak (ns.take 40)))=H1 at kc hcc⊢;have Bm:(ns.take 40).length<=40:=by rw[F3];exact YK
  generalize ns.take 40=ms at hcc Bm⊢;refine#[c,_,rfl,hcc,by rw[az];exact Ge Bm,λk ys H'=>ys=ak (ms.take k)/\H'=H1,#[rfl,rfl],?_,?_,?_]
  ·rintro k ys H' _ ⟨_,rfl⟩;exact hcc
  ·rintro F' cf k v ys H' hv ⟨rfl,rfl⟩;have hv':ms[k]?.map AV.int=some v:=by simpa [ak] using hv
   obtain⟨i,hi,rfl⟩:=l8.mp hv';refine xE (c9.mp hi) λq1 q2=>?_;refine kC.nil ?_;lk;refine aj.bB ?_;refine#[?_,rfl];rw[bO,l7 q1,q2]
  rintro d ys H' ⟨rfl,rfl⟩ hd;rw[az,z8];have kd:Kp [] H' (H'.set d (.list (ak ms))):=Kp.new hd;have hdd:(H'.set d (.list (ak ms))) d=_:=AH.aq _ _ _;generalize H'.set d (.list (ak ms))=H2 at kd hdd⊢;lk;refine#[sz rfl,λp hp=>?_];have kp:Kp [] H2 (H2.set p (.list [.ref d,.int 0,.int 0])):=Kp.new hp;lk;exact hq p d _ ((kc.trans kd).nn hp) (kc.nn hd) #[ms,0,0,AH.aq _ _ _,kp.aK hdd,Bm,q9 (AH.aJ hp hdd),`e,`e,`e] ((kc.trans kd).trans kp)
theorem bU(cc:CC C){p c:Addr}{b m:Int}(hp:eF H p c b)(hb:b<=100000)(hm:1<=m)(hm2:m<1000)(hq:∀d H',0<=d->d<m->eF H' p c (b+1)->Kp [p] H H'->Q (.int d) H'):aj C (n+1) (.ref 827) [.ref p,.int m] H Q:=
 .forget <| wH cc λF hf hn hk=>by
  refine ql hp.e λns s r h1 h2 h3 h4 h5 h6 h7=>?_;have fin:∀(i s' r':Int) (H':AH),0<=s'->s'<=b+1->0<=r'->Kp [p] H H'->H' p=some (.list [.ref c,.int s',.int r'])->∃H₂,(∀a o,H₂ a=some o->H' a=some o)/\Q (.int (i.fmod m)) H₂:=λi s' r' H' g1 g2 g3 k e=>
   #[H',λZ Z e=>e,hq _ H' (gB (!Gf hm)).1 (gB (!Gf hm)).2 #[ns,s',r',e,k.at h2 (!ne1 (q9 `a)),h3,h4,g1,g2,g3] k]
  have a0:([AV.ref c,.int s,.int r])[(0:Int).toNat]? =some (.ref c):=rfl;refine aG.cons ?_;lk;refine aF.list (λZ Z=>rfl) h1 `e (v:=.int r) rfl (!b7 rfl) ?_;lk;refine aB.yp (λhr=>?_) λhr=>?_
  ·lk;refine aF.list (λZ Z=>rfl) h1 `e (v:=.int r) rfl (!b7 rfl) ?_;lk;refine aj.bB ?_;lk;refine aB.uG (!Cs hm) ?_;lk;refine aF.list (λZ Z=>rfl) h1 `e (v:=.int r) rfl (!b7 rfl) ?_;lk;refine aj.bB ?_;lk;refine aB.Lk (!Cs hm) (!Oz hm hm2) ?_;lk;refine cZ.list h1 `e (by simp) (!b7 rfl) ?_;lk;exact fin r s (r.fdiv m) _ h5 (!YL h6) (Au h7 (!Gf hm)) (Kp.mem (!.head _)) (AH.aq _ _ _)
  ·obtain rfl:r=0:=by exact OA h7 hr
   lk;refine aF.list (λZ Z=>rfl) h1 `e (v:=.int s) rfl (!b7 rfl) ?_;lk;refine aB.bL ?_;lk;refine cZ.list h1 `e (by simp) (!b7 rfl) ?_;rw[show([AV.ref c,AV.int s,AV.int 0].set (l5 1) (AV.int (s+1)))=[.ref c,.int (s+1),.int 0] from rfl];have kp:Kp [p] H (H.set p (.list [.ref c,.int (s+1),.int 0])):=Kp.mem (!.head _);have hpp:(H.set p (.list [.ref c,.int (s+1),.int 0])) p=_:=AH.aq _ _ _;have hcc:(H.set p (.list [.ref c,.int (s+1),.int 0])) c=_:=(aA (q9 h4)).trans h2;generalize H.set p (.list [.ref c,.int (s+1),.int 0])=H1 at kp hpp hcc⊢;lk;refine aB.mulL (!b7 rfl) ?_;lk;refine aB.bL ?_;lk;refine aF.list (λZ Z=>rfl) hpp `a (v:=.ref c) rfl (!b7 rfl) ?_;lk;refine#[c,_,1,rfl,rfl,hcc,by rw[az];exact Ge h3,λe he=>?_];rw[show(ak ns).take 1=ak (ns.take 1) by simp[ak,Z6]];have k2:Kp [] H1 (H1.set e (.list (ak (ns.take 1)))):=Kp.new he;have hee:(H1.set e (.list (ak (ns.take 1)))) e=_:=AH.aq _ _ _;generalize H1.set e (.list (ak (ns.take 1)))=H2 at k2 hee⊢;have hp2:=k2.aK hpp;have hc2:=k2.aK hcc;lk;refine aj.sum hee ?_;lk;refine aj.bB ?_;lk;refine aB.uG `e ?_;refine aB.bL ?_;refine aG.cD `set ?_;refine aG.cut (λρ' H'=>∃i:Int,ρ'=([("pen",.val (.ref p)),("many",.val (.int m)),("digit",.undef),("spot",.val (.int s)),("cell",.val (.int i)),("great",.undef),("mixed",.undef),("int",.glob),("sum",.glob),("len",.glob),("abs",.glob)]:Loc)/\Kp [] H2 H') ?_ ?_
   ·lk;refine aF.list (λZ Z=>rfl) hp2 `a (v:=.ref c) rfl (!b7 rfl) ?_;lk;refine#[sz rfl,λt ht=>?_];have kt:=Kp.new (S:=[]) (o:=.list []) ht;lk;refine aB.CO (d:=.list (ns.map J8)) (e:=.list []) (.list (kt.aK hc2) dB) (.list (AH.aq _ _ _) .nil) (by rw[C8];exact lay_ints) rfl (by rw[G4,jS];decide) ?_;refine#[_,rfl,?_];cases hns:ns with
    |nil=>
     ktn_no "no";exact#[rfl,_,rfl,kt]
    |cons x xs=>
     ktn_no "yes";have hln:0<(ns.length:Int):=by rw[hns];simp
     refine aF.list (λZ Z=>rfl) (kt.aK hp2) `a (v:=.ref c) rfl (!b7 rfl) ?_;lk;refine aj.bB ?_;lk;refine aF.list (λZ Z=>rfl) (kt.aK hp2) `a (v:=.ref c) rfl (!b7 rfl) ?_;lk;refine aj.bM (kt.aK hc2) (by rw[az];exact Ge h3) ?_;rw[az];refine aB.uG (!YM hln) ?_;refine aF.aD (λZ Z=>rfl) (kt.aK hc2) (gB hln).1 (gB hln).2 (!YN h3) ?_;lk;exact#[rfl,_,rfl,kt]
   ·rintro _ H3 ⟨i,rfl,k3⟩;have hp3:=k3.aK hp2;have hc3:=k3.aK hc2;have oH:Kp [p] H H3:=(kp.trans k2.any).trans k3.any;lk;refine aF.list (λZ Z=>rfl) hp3 `a (v:=.ref c) rfl (!b7 rfl) ?_;lk;refine aj.bM hc3 (by rw[az];exact Ge h3) ?_;rw[az];refine aB.ltI ?_;have rest:aG C n F (((fB (tS 65)).drop 6)) [("pen",.val (.ref p)),("many",.val (.int m)),("digit",.undef),("spot",.val (.int s)),("cell",.val (.int i)),("great",.undef),("mixed",.undef),("int",.glob),("sum",.glob),("len",.glob),("abs",.glob)] H3 λo Z H'=>∃H₂,(∀a o,H₂ a=some o->H' a=some o)/\Q (eL o) H₂:=by
     refine aG.cons ?_;lk;refine aj.bB ?_;lk;refine aB.uG `e ?_;lk;refine aB.mulL (!b7 rfl) ?_;refine aB.bL ?_;lk;refine aB.bL ?_;have r1:=gB (i:=i) (j:=2147483587) `e;generalize i.fmod 2147483587=i1 at r1;have b1:(i1+20947*s+3571).natAbs<2 ^ 64:=by exact adq r1.1 h5 r1.2 h6 hb
     lk;refine aB.BF `e `e b1 ?_;lk;refine aj.bB ?_;lk;refine aB.uG `e ?_;have r2:=gB (i:=(i1+20947*s+3571) ^ (5:Int).toNat) (j:=2147483629) `e;generalize((i1+20947*s+3571) ^ (5:Int).toNat).fmod 2147483629=i2 at r2;lk;refine aB.mulL (!b7 rfl) ?_;lk;refine aB.bL ?_;refine aB.mulL (ads r2.1 r2.2) ?_;lk;refine aB.mulL (!b7 rfl) ?_;lk;refine aB.mulL (adt h5 h6 hb) ?_;refine aB.bL ?_;lk;refine aB.bL ?_;have b2:(i2*(2*s+7207)+20947*s*s+31).natAbs<2 ^ 64:=by
      have p1:0<=i2*(2*s+7207):=W6 r2.1 (!OB h5);have p2:i2*(2*s+7207)<=2147483629*207207:=Int.mul_le_mul (!YO r2) (!YQ h6 hb) (!OB h5) `e;have p3:0<=20947*s*s:=W6 (!YR h5) h5;have p4:20947*s*s<=2094700000*100000:=Int.mul_le_mul (!YS h6 hb) (!YT h6 hb) h5 `e;generalize i2*(2*s+7207)=x1 at*;generalize 20947*s*s=x2 at*;exact adu p1 p3 p2 p4
     lk;refine aB.BF `e `e b2 ?_;lk;refine aj.bB ?_;lk;refine aB.uG `e ?_;lk;refine aB.Lk `e (!b7 rfl) ?_;lk;refine aj.bB ?_;lk;refine aB.uG (!Cs hm) ?_;exact fin _ (s+1) 0 H3 (!OC h5) (!OD h6) `a oH hp3
    refine#[_,rfl,?_];by_cases g1:s<ns.length
    ·rw[decide_eq_true g1];lk;refine aj.abs ?_;lk;refine aB.BF `e `e (!b7 rfl) ?_;refine aB.ae5 (λg2=>?_) λg2=>?_
     ·lk;refine aj.abs ?_;lk;refine aB.BF `e `e (!b7 rfl) ?_;refine aB.fK ?_;refine aB.mulL (!b7 rfl) ?_;lk;refine aB.ltI ?_;lk;refine aj.QN ?_;refine aB.bL ?_;have hgr:0<=2*((if i<0 then -i else i) - 10 ^ (18:Int).toNat)+(if decide (i<0)=true then 1 else 0):=by
       have hz:=Int.sub_nonneg.mpr g2;generalize(if i<0 then -i else i) - 10 ^ (18:Int).toNat=z at hz⊢;split<;>omega
      generalize 2*((if i<0 then -i else i) - 10 ^ (18:Int).toNat)+(if decide (i<0)=true then 1 else 0)=gr at hgr;lk;refine aj.bB ?_;lk;refine aB.Lk (!Cs hm) (!Oz hm hm2) ?_;lk;refine cZ.list hp3 `e `a (!b7 rfl) ?_;lk;refine aj.bB ?_;lk;refine aB.uG (!Cs hm) ?_;exact fin gr (s+1) (gr.fdiv m) _ (!OC h5) (!OD h6) (Au hgr (!Gf hm)) (oH.trans (Kp.mem (!.head _))) (AH.aq _ _ _)
     ·ktn_no "if";refine wL q8 ?_;refine aG.nil ?_;exact rest
    ·rw[decide_eq_false g1];ktn_no "if";refine wL q8 ?_;refine aG.nil ?_;exact rest
theorem qc(cc:CC C)(hp:eF H p c b)(hb:b<=100000)(ha:H a=some (.list vs))(hpa:a≠p)(hl:0<vs.length)(hl2:vs.length<1000)(hq:∀(k:Nat) v H',vs[k]? =some v->eF H' p c (b+1)->Kp [p] H H'->Q v H'):aj C (n+2) (.ref 834) [.ref p,.ref a] H Q:=
 wI cc λF hf hn hk=>by
  refine aG.cons ?_;lk;refine aj.bM ha (!OE hl2) ?_;lk;refine bU cc hp hb (!YU hl) (!YV hl2) λd H1 d0 d1 hp1 k1=>?_;have hd:vs[d.toNat]? =some _:=b8 (!YW hl d1);refine aF.list (λZ Z=>rfl) (k1.at ha (!ne1 `a)) d0 hd (!OE hl2) ?_;exact hq _ _ H1 hd hp1 k1
end
section
structure jd(count others:Int)(L E A:List Int):Prop where
 n2:L.length<=4
 e1:E.length=L.length
 a1:A.length=L.length
 l0:aD L 0=count
 e0:aD E 0=2
 n1:1<=L.length
 l:∀i:Int,1<=i->i<L.length->count+1<=aD L i/\aD L i<=count+others - 1
 e:∀i:Int,0<=i->i<L.length->0<=aD E i/\aD E i<=12
 a:∀i:Int,0<=i->i<L.length->0<=aD A i/\aD A i<=2/\(aD A i≠0->aD E i=0)
theorem iH{l:List Int}{v i:Int}(h0:0<=i)(h1:i<l.length+1):aD (l++[v]) i=if i=l.length then v else aD l i:=by
 unfold aD;rw[c8,c8,List.getElem?_append];by_cases h:i=l.length
 ·subst h;simp
 ·rw[if_neg h,if_pos (!YX h0 h1 h)]
theorem jd.snoc{count others:Int}{L E A:List Int}(h:jd count others L E A)(hl:L.length<=3){x y z:Int}(hx:count+1<=x/\x<=count+others - 1)(hy:0<=y/\y<=12)(hz:0<=z/\z<=2/\(z≠0->y=0)):jd count others (L++[x]) (E++[y]) (A++[z]):=by
 have h1:=h.n1;have h2:=h.e1;have h3:=h.a1;refine#[by simp;exact YY hl,by simp;exact Ky h2,by simp;exact Ky h3,?_,?_,by simp,λi i0 i1=>?_,λi i0 i1=>?_,λi i0 i1=>?_]
 ·rw[iH `e (!OF),if_neg (!Kz h1)];exact h.l0
 ·rw[iH `e (!OF),if_neg (!YZ h1 h2)];exact h.e0
 ·simp at i1;rw[iH (!OG i0) (!Y_ i1)];split
  ·exact hx
  ·exact h.l i i0 (!Pp i1 `a)
 ·simp at i1;rw[iH (!AI i0) (!KC i1 h2)];split
  ·exact hy
  ·exact h.e i i0 (!acF i1 h2 `a)
 ·simp at i1;rw[iH (!AI i0) (!KC i1 h3),iH (!AI i0) (!KC i1 h2),h2,h3];split
  ·exact hz
  ·exact h.a i i0 (!Pp i1 `a)
theorem tH.uo{C:Cx}{F:Fm}{ρ ρ':Loc}{H:AH}{x:Str}{xs:List Str}{v:AV}{vs:List AV}{u:LV}{Q:Loc->Prop}(hx:ρ.get x=some u)(hu:LV.ok u)(hfn:F.fn=true)(e:ρ.set x (.val v)=ρ')(h:tH C F xs vs ρ' H Q):tH C F (x::xs) (v::vs) ρ H Q:=tH.cons hx (by cases u<;>exact hu) hfn (e▸h)
variable{C:Cx}{n:Nat}{H:AH}{Q:AV->AH->Prop}
theorem Em (cc:CC C) (hp:eF H p c b) (hb:b<=90000) (ho:2<=others) (ho2:others<=3)
 (hq:∀(L E A:List Int) sa ea aa H',H' sa=some (.list (ak L))->H' ea=some (.list (ak E))->H' aa=some (.list (ak A))->jd count others L E A->2<=L.length->eF H' p c (b+10)->Kp [p] H H'->Q (.tup [.ref sa,.ref ea,.ref aa]) H'):aj C (n+3) (.ref 841) [.ref p,.int count,.int others] H Q:=
 uT cc λF hf hn hk=>by
  refine aG.cons ?_;refine Ex.Qm (names:=["sides","sizes","aheads"]) ?_ (by unfold swappedStores Z4 W9;rw[hk,hn];kernel_rfl);lk;refine#[sz rfl,λsa hs0=>?_];have k1:Kp [] H (H.set sa (.list [.int count])):=Kp.new hs0;have e1:(H.set sa (.list [.int count])) sa=some (.list (ak [count])):=AH.aq _ _ _;generalize H.set sa (.list [.int count])=H1 at k1 e1⊢;lk;refine#[sz rfl,λea he0=>?_];have k2:Kp [] H1 (H1.set ea (.list [.int 2])):=Kp.new he0;have e2:(H1.set ea (.list [.int 2])) ea=some (.list (ak [2])):=AH.aq _ _ _;have n1:sa≠ea:=AH.aJ he0 e1;have e1:=k2.aK e1;generalize H1.set ea (.list [.int 2])=H2 at k2 e2 e1⊢;lk;refine#[sz rfl,λaa ha0=>?_];have k3:Kp [] H2 (H2.set aa (.list [.int 0])):=Kp.new ha0;have e3:(H2.set aa (.list [.int 0])) aa=some (.list (ak [0])):=AH.aq _ _ _;have n2:sa≠aa:=AH.aJ ha0 e1;have n3:ea≠aa:=AH.aJ ha0 e2;have e1:=k3.aK e1;have e2:=k3.aK e2;have oH:=(k1.trans k2).trans k3;have hsH:=hs0;have heH:=k1.nn he0;have haH:=(k1.trans k2).nn ha0;generalize H2.set aa (.list [.int 0])=H3 at k3 e3 e2 e1 oH⊢;lk;refine#[!b7 rfl,[.ref sa,.ref ea,.ref aa],rfl,rfl,?_];show tH C F ["aheads","sizes","sides"] [.ref aa,.ref ea,.ref sa] _ _ _;refine tH.uo (u:=.undef) `get c7 hf `set ?_;refine tH.uo (u:=.undef) `get c7 hf `set ?_;refine tH.uo (u:=.undef) `get c7 hf `set ?_;refine tH.nil ?_;have hp3:=hp.cQ oH;have ps:=hp.ap hsH;have pe:=hp.ap heH;have pa:=hp.ap haH;refine aG.cons ?_;refine Ex.gY (aZ.range `get (aU cc) ?_ bu.name);lk;refine bU cc hp3 (!OH hb) `e `e λd H4 d0 d1 tW k4=>?_;refine aB.bL ?_;refine#[_,rfl,!adv d0,!adw d1,?_];have out:∀{a:Addr} {o:AO},a≠p->H3 a=some o->H4 a=some o:=λhne e=>k4.at e (!ne1 `a);refine nM.op (λi ρ' H'=>Ex4 λu L E A=>An9 (LV.ok u) (ρ'=([("pen",.val (.ref p)),("count",.val (.int count)),("others",.val (.int others)),("sides",.val (.ref sa)),("sizes",.val (.ref ea)),("aheads",.val (.ref aa)),("turn",u),("range",.glob),("_law_draw",.glob),("_law_pick",.glob)]:Loc)) (L.length=i+1) (jd count others L E A) (H' sa=some (.list (ak L))) (H' ea=some (.list (ak E))) (H' aa=some (.list (ak A))) (eF H' p c (b+1+3*i)) (Kp [p] H H')) λI mk un=>?_;refine#[I,mk #[.undef,[count],[2],[0],c7,rfl,rfl,?_,out ps.1 e1,out pe.1 e2,out pa.1 e3,tW.mono (!Za),oH.any.trans k4],λZ Z Z Z Z=>trivial,?_,?_]
  ·refine#[!n8 _,rfl,rfl,rfl,rfl,!r7 _,λi h1 h2=>?_,λi h1 h2=>?_,λi h1 h2=>?_]
   ·simp at h2;exact Zb h1 h2
   ·simp at h2;obtain rfl:i=0:=by exact OI h1 h2
    exact#[`e,`e]
   ·simp at h2;obtain rfl:i=0:=by exact OI h1 h2
    exact#[`a,`e,λh=>absurd rfl h]
  ·intro i v ρ' H' hv hi;obtain⟨u,L,E,A,hu,rfl,hL,ok,q1,q2,q3,vK,k5⟩:=un hi;obtain⟨rfl,hin⟩:=bk hv;have hi2:i<3:=by exact Zc hin d1
   have l1:=ok.e1;have l2:=ok.a1;refine b_.aT `get hf hu ?_;refine aG.cD `set ?_;lk;ktn_no "meth";lk;refine aB.bL ?_;lk;refine aB.fK ?_;lk;refine bU cc vK (!Zd hb hi2) (!Ze ho) (!Zf ho2) λd2 H6 Sz Uz Bb k6=>?_;have Mm:∀{a:Addr} {o:AO},a≠p->H' a=some o->H6 a=some o:=λhne e=>k6.at e (!ne1 `a);refine aB.bL ?_;lk;refine aj.append (Mm ps.1 q1) (by rw[az];exact Zg hL hi2) ?_;rw[bO];have s1:(H6.set sa (.list (ak (L++[count+1+d2])))) sa=_:=AH.aq _ _ _;have s2:(H6.set sa (.list (ak (L++[count+1+d2])))) ea=_:=(aA (q9 n1)).trans (Mm pe.1 q2);have s3:(H6.set sa (.list (ak (L++[count+1+d2])))) aa=_:=(aA (q9 n2)).trans (Mm pa.1 q3);have k7:Kp [p] H (H6.set sa (.list (ak (L++[count+1+d2])))):=(k5.trans k6).late (.inl hsH);have HQ:=Bb.put (o:=.list (ak (L++[count+1+d2]))) ps.1 ps.2;generalize H6.set sa (.list (ak (L++[count+1+d2])))=H7 at s1 s2 s3 k7 HQ⊢;lk;ktn_no "meth";lk;refine#[sz rfl,λt ht=>?_];have kt:Kp [] H7 (H7.set t (.list [.int 0,.int 1,.int 3,.int 12])):=Kp.new ht;have Mn:(H7.set t (.list [.int 0,.int 1,.int 3,.int 12])) t=_:=AH.aq _ _ _;have tp:=HQ.ap ht;have s1:=kt.aK s1;have s2:=kt.aK s2;have s3:=kt.aK s3;have k8:=k7.trans kt.any;have Jy:=HQ.cQ kt;generalize H7.set t (.list [.int 0,.int 1,.int 3,.int 12])=H8 at Mn s1 s2 s3 k8 Jy⊢;lk;refine qc cc Jy (!Zh hb hi2) Mn tp.1 (!n8 _) (!b7 rfl) λk v H9 hkv Fp k9=>?_;obtain⟨y,rfl,hy⟩:∃y:Int,v=.int y/\0<=y/\y<=12:=by
    match k,hkv with
    |0,e=>cases e;exact#[0,rfl,`e]
    |1,e=>cases e;exact#[1,rfl,`e]
    |2,e=>cases e;exact#[3,rfl,`e]
    |3,e=>cases e;exact#[12,rfl,`e]
    |k+4,e=>simp at e
   have Mp:∀{a:Addr} {o:AO},a≠p->H8 a=some o->H9 a=some o:=λhne e=>k9.at e (!ne1 `a);lk;refine aj.append (Mp pe.1 s2) (by rw[az];exact KD l1 hL hi2) ?_;rw[bO];have t2:(H9.set ea (.list (ak (E++[y])))) ea=_:=AH.aq _ _ _;have t1:(H9.set ea (.list (ak (E++[y])))) sa=_:=(aA n1).trans (Mp ps.1 s1);have t3:(H9.set ea (.list (ak (E++[y])))) aa=_:=(aA (q9 n3)).trans (Mp pa.1 s3);have oA:Kp [p] H (H9.set ea (.list (ak (E++[y])))):=(k8.trans k9).late (.inl heH);have vq:=Fp.put (o:=.list (ak (E++[y]))) pe.1 pe.2;generalize H9.set ea (.list (ak (E++[y])))=DR at t1 t2 t3 oA vq⊢;have fin:∀(z:Int) vd,0<=z/\z<=2/\(z≠0->y=0)->vd sa=some (.list (ak (L++[count+1+d2])))->vd ea=some (.list (ak (E++[y])))->vd aa=some (.list (ak A))->Kp [p] H vd->eF vd p c (b+1+3*(i+1:Nat))->I (i+1) [("pen",.val (.ref p)),("count",.val (.int count)),("others",.val (.int others)),("sides",.val (.ref sa)),("sizes",.val (.ref ea)),("aheads",.val (.ref aa)),("turn",.val (.int i)),("range",.glob),("_law_draw",.glob),("_law_pick",.glob)] (vd.set aa (.list (ak (A++[z])))):=λz vd hz f1 f2 f3 f4 f5=>
    mk #[.val (.int i),L++[count+1+d2],E++[y],A++[z],c7,rfl,by simp[hL],ok.snoc (!Zi hL hi2) #[!Zj Sz,!Zk Uz] hy hz,(aA n2).trans f1,(aA n3).trans f2,AH.aq _ _ _,f5.put pa.1 pa.2,f4.late (.inl haH)]
   lk;ktn_no "meth";lk;refine kY.fC ?_;refine aF.fT (k:=-1) (λZ Z=>rfl) t2 `e (by rw[az,lG,U6];exact Zl) (v:=.int y) (by rw[az];exact mZ (by simp[show(-1+((E.length:Int)+1)).toNat=E.length by exact NU])) (by rw[az];simp;exact Zm l1 hL hi2) ?_;lk;refine aB.kI (λhy0=>?_) λhy0=>?_
   ·lk;refine bU cc vq (!Zn hb hi2) `e `e λz vd z0 z1 xj iK=>?_;have Av:∀{a:Addr} {o:AO},a≠p->DR a=some o->vd a=some o:=λhne e=>iK.at e (!ne1 `a);lk;refine aj.append (Av pa.1 t3) (by rw[az];exact KD l2 hL hi2) ?_;rw[bO];lk;exact fin z vd #[z0,!Zo z1,λZ=>hy0] (Av ps.1 t1) (Av pe.1 t2) (Av pa.1 t3) (oA.trans iK) (xj.mono (!Zp))
   ·lk;refine aj.append t3 (by rw[az];exact KD l2 hL hi2) ?_;rw[bO];lk;exact fin 0 DR #[`e,`e,λh=>absurd rfl h] t1 t2 t3 oA (vq.mono (!Zq))
  ·intro ρ' H' hi;obtain⟨u,L,E,A,hu,rfl,hL,ok,q1,q2,q3,vK,k5⟩:=un hi;rw[bx] at hL vK;lk;refine#[sz rfl,?_];exact hq L E A sa ea aa H' q1 q2 q3 ok (!Zr d0 hL) (vK.mono (!Zs d1)) k5
end
section
noncomputable def rX:List Str:=["","ab","a\"b","\\","\n","- 1:"]
inductive DC:Code->Prop
 |none:DC b6
 |nil:DC (some [])
 |arg (i:Int) (h:1<=i/\i<=3):DC (some [("arg",.int i),("set",.none)])
 |push (w:Str) (h:w∈rX):DC (some [("push",.str w),("set",.none)])
 |get (i:Int) (h:-1<=i/\i<=1):DC (some [("get",.str "n"),("unless",.int 4),("push",.int i),("put",.str "n")])
 |two:DC (some [("arg",.int 1),("arg",.int 3),("two",.str "+"),("one",.str "-"),("set",.none),("word",.str "yyerrok")])
theorem Kp.SA(k:Kp S H H')(e:H' x=b6):H x=b6\/x∈S:=by
 cases q:H x with
 |none=>exact .inl rfl
 |some o=>
  by_cases z:x∈S
  ·exact .inr z
  ·have:=k x o z q;rw[e] at this;cases this
theorem Kp.lu(k:Kp S H H')(k':Kp [a] H' qF)(h:H a=b6\/a∈S):Kp S H qF:=λb o n e=>k'.at (k b o n e) (by
 simp only[j0];rintro rfl;rcases h with h|h
 ·exact gc (E1 (G0 (h)) e)
 ·exact n h)
variable{C:Cx}{n:Nat}{H:AH}{Q:AV->AH->Prop}
theorem HS(cc:CC C)(hp:eF H p c b)(hb:b<=90000)(hq:∀v cd H',By H' v cd->DC cd->eF H' p c (b+4)->Kp [p] H H'->Q v H'):aj C (n+3) (.ref 848) [.ref p] H Q:=
 wJ cc λF hf hn hk=>by
  refine aG.cons ?_;lk;refine#[sz rfl,λt ht=>newL ht λH1 kt Mn=>?_];have Mn:H1 t=some (.list (aC rX)):=Mn;have tp:=hp.ap ht;have hp1:=hp.cQ kt;lk;refine qc cc hp1 (!OH hb) Mn tp.1 (!b7 rfl) (!b7 rfl) λk v H2 hkv hp2 k2=>?_;obtain⟨w,hw,rfl⟩:∃w,w∈rX/\v=.str w:=by
   have:=j8 hkv;refine bz (m5.mp this) λw h1 h2=>?_;exact#[w,h1,h2.symm]
  have kk:Kp [p] H H2:=kt.any.trans k2;clear Mn tp hp1 k2 hkv kt;lk;refine#[sz rfl,λa1 ha1=>newL ha1 λH3 j1 e1=>?_];have e1:H3 a1=some (.list (cS [])):=e1;have n1:=hp2.ap ha1;have hp3:=hp2.cQ j1;have kk:=kk.trans j1.any;lk;refine bU cc hp3 (!Zt hb) `e `e λd H4 d0 d1 tW k4=>?_;have e1:=k4.at e1 (by simp;exact n1.1);have kk:=kk.trans k4;refine aB.bL ?_;lk;refine#[sz rfl,?_];lk;refine#[sz rfl,?_];lk;refine#[sz rfl,λa2 ha2=>newL ha2 λH5 j2 e2=>?_];have e2:H5 a2=some (.list (cS [("arg",.int (1+d)),("set",.none)])):=e2;have n2:=tW.ap ha2;have vK:=tW.cQ j2;have kk:=kk.trans j2.any;have e1:=j2.aK e1;have c2:=DC.arg (1+d) #[!Zu d0,!Zv d1];lk;refine#[sz rfl,?_];lk;refine#[sz rfl,?_];lk;refine#[sz rfl,λa3 ha3=>newL ha3 λH6 j3 e3=>?_];have e3:H6 a3=some (.list (cS [("push",.str w),("set",.none)])):=e3;have n3:=vK.ap ha3;have Bb:=vK.cQ j3;have kk:=kk.trans j3.any;have e1:=j3.aK e1;have e2:=j3.aK e2;lk;refine#[sz rfl,λs hs=>newL hs λH7 js es=>?_];have ns:=Bb.ap hs;have HQ:=Bb.cQ js;have s1:=AH.aJ hs e1;have s2:=AH.aJ hs e2;have s3:=AH.aJ hs e3;have hsS:=kk.SA hs;have e1:=js.aK e1;have e2:=js.aK e2;have e3:=js.aK e3;have kk:=kk.trans js.any;lk;ktn_no "meth";lk;refine#[sz rfl,?_];lk;refine#[sz rfl,?_];lk;refine bU cc HQ (!Zw hb) `e `e λf H8 f0 f1 Jy k8=>?_;have e1:=k8.at e1 (by simp;exact n1.1);have e2:=k8.at e2 (by simp;exact n2.1);have e3:=k8.at e3 (by simp;exact n3.1);have es:=k8.at es (by simp;exact ns.1);have kk:=kk.trans k8;lk;refine aB.fK ?_;lk;refine#[sz rfl,?_];lk;refine#[sz rfl,?_];lk;refine#[sz rfl,λa4 ha4=>newL ha4 λH9 j4 e4=>?_];have e4:H9 a4=some (.list (cS [("get",.str "n"),("unless",.int 4),("push",.int (f - 1)),("put",.str "n")])):=e4;have n4:=Jy.ap ha4;have Fp:=Jy.cQ j4;have kk:=kk.trans j4.any;have e1:=j4.aK e1;have e2:=j4.aK e2;have e3:=j4.aK e3;have s4:s≠a4:=AH.aJ ha4 es;have es:=j4.aK es;lk;refine aj.append es (!b7 rfl) ?_;refine g_ λDR js es=>?_;have es:DR s=some (.list [.none,.ref a1,.ref a2,.ref a3,.ref a4]):=es;have vq:=Fp.keep js (by simp;exact q9 ns.1) (by simp;exact q9 ns.2);have kk:=kk.lu js hsS;have e1:=js.at e1 (!ne1 `a);have e2:=js.at e2 (!ne1 `a);have e3:=js.at e3 (!ne1 `a);have e4:=js.at e4 (!ne1 (q9 `a));lk;ktn_no "meth";lk;refine#[sz rfl,?_];lk;refine#[sz rfl,?_];lk;refine#[sz rfl,?_];lk;refine#[sz rfl,?_];lk;refine#[sz rfl,?_];lk;refine#[sz rfl,?_];lk;refine#[sz rfl,λa5 ha5=>newL ha5 λvd j5 e5=>?_];have e5:vd a5=some (.list (cS [("arg",.int 1),("arg",.int 3),("two",.str "+"),("one",.str "-"),("set",.none),("word",.str "yyerrok")])):=e5;have n5:=vq.ap ha5;have xj:=vq.cQ j5;have kk:=kk.trans j5.any;have e1:=j5.aK e1;have e2:=j5.aK e2;have e3:=j5.aK e3;have e4:=j5.aK e4;have s5:s≠a5:=AH.aJ ha5 es;have es:=j5.aK es;lk;refine aj.append es (!b7 rfl) ?_;refine g_ λRM js es=>?_;have es:RM s=some (.list [.none,.ref a1,.ref a2,.ref a3,.ref a4,.ref a5]):=es;have HT:=xj.keep js (by simp;exact q9 ns.1) (by simp;exact q9 ns.2);have kk:=kk.lu js hsS;have e1:=js.at e1 (!ne1 `a);have e2:=js.at e2 (!ne1 `a);have e3:=js.at e3 (!ne1 `a);have e4:=js.at e4 (!ne1 (q9 `a));have e5:=js.at e5 (!ne1 (q9 `a));lk;refine qc cc HT (!Zx hb) es ns.1 (!n8 _) (!b7 rfl) λk v Fq hkv HU oH=>?_;have out:∀{a:Addr} {o:AO},a≠p->RM a=some o->Fq a=some o:=λhne e=>oH.at e (!ne1 `a);have BG:eF Fq p c (b+4):=HU.mono (!Zy);have Aq:=kk.trans oH
  match k,hkv with
  |0,e=>cases e;exact hq _ _ Fq (.inl #[rfl,rfl]) .none BG Aq
  |1,e=>cases e;exact hq _ _ Fq (.inr #[a1,_,rfl,rfl,out n1.1 e1]) .nil BG Aq
  |2,e=>cases e;exact hq _ _ Fq (.inr #[a2,_,rfl,rfl,out n2.1 e2]) c2 BG Aq
  |3,e=>cases e;exact hq _ _ Fq (.inr #[a3,_,rfl,rfl,out n3.1 e3]) (.push w hw) BG Aq
  |4,e=>cases e;exact hq _ _ Fq (.inr #[a4,_,rfl,rfl,out n4.1 e4]) (.get (f - 1) #[!Zz f0,!ZA f1]) BG Aq
  |5,e=>cases e;exact hq _ _ Fq (.inr #[a5,_,rfl,rfl,out n5.1 e5]) .two BG Aq
  |k+6,e=>simp at e
end
section
noncomputable def cH(l:List Int):Int:=l.tail.foldl max (l.headD 0)
theorem foldl_max(l:List Int):∀a:Int,(l.foldl max a=a\/l.foldl max a∈l)/\a<=l.foldl max a/\∀x∈l,x<=l.foldl max a:=by
 induction l with
 |nil=>intro a;exact#[.inl rfl,R1 _,λZ h=>nomatch h]
 |cons b l ih=>
  intro a;refine kh (ih (max a b)) λh1 h2 h3=>?_;simp only[List.foldl_cons];refine#[?_,!adx h2,λx hx=>?_]
  ·rcases h1 with h1|h1
   ·rcases K6 a b with q|q
    ·right;rw[h1,Int.max_eq_right q];simp
    ·left;rw[h1,Int.max_eq_left q]
   ·right;simp[h1]
  ·rcases l9.mp hx with rfl|hx
   ·exact ady h2
   ·exact h3 x hx
theorem Aw(h:0<l.length):cH l∈l/\∀x∈l,x<=cH l:=by
 cases l with
 |nil=>simp at h
 |cons a l=>
  refine kh (foldl_max l a) λh1 h2 h3=>?_;unfold cH;simp only[List.tail_cons,List.headD_cons];refine#[?_,λx hx=>?_]
  ·rcases h1 with h1|h1
   ·rw[h1];simp
   ·exact .tail _ `a
  ·rcases l9.mp hx with rfl|hx
   ·exact h2
   ·exact h3 x hx
theorem uq(h:0<l.length)(hm:m∈l)(hx:∀x∈l,x<=m):m=cH l:=by
 refine xA (Aw h) λh1 h2=>?_;have:=h2 m hm;have:=hx _ h1;exact o51 `a this
noncomputable def eO(one:List Int)(k:Nat):List Nat:=(C4 k).filter λi:Nat=>decide (aD one i≠-1)
noncomputable def cy(one:List Int):Int:=((eO one one.length).map λi:Nat=>(2:Int) ^ i).sum
noncomputable def jk(one:List Int)(u:Int)(k:Nat):Row:=((C4 k).filter λi:Nat=>decide (aD one i≠-1/\aD one i≠u)).map λi:Nat=>((i:Int),aD one i)
noncomputable def bW(one:List Int):Row:=jk one (cH one) one.length
structure Dr where
 count:Int
 names:List Str
 aN:List Int
 aI:List Int
 aQ:List Int
 rules:List Int
 lines:List Row
 goals:List (List Int)
 codes:List Code
noncomputable def Dr.fld(d:Dr):xK:=#[d.names,d.count,d.aN,d.aI,d.aQ,d.rules,cK d.lines,d.goals.map cH,d.goals.map cy,cK (d.goals.map bW)]
noncomputable def Ft:List Str:=["$end","error","$undefined","a","'+'"]
noncomputable def Fv:List Str:=["$accept","s","t u"]
structure cP(size count rules:Int)(r:Row):Prop where
 ok:gw r
 lt:∀c∈r.map (·.1),c<count
 act:∀c∈r.map (·.1),jV size rules (pT r c)
structure fQ(size:Nat)(one:List Int):Prop where
 ln:one.length=size
 v:∀x∈one,x=-1\/(1<=x/\x<=(size:Int) - 1)
structure BH(d:Dr):Prop where
 s:1<=d.lines.length/\d.lines.length<=3
 c:d.count=4\/d.count=5
 o:d.goals.length=2\/d.goals.length=3
 nm:d.names=Ft.take d.count.toNat++Fv.take d.goals.length
 ru:jd d.count d.goals.length d.aN d.aI d.aQ
 r2:2<=d.aN.length
 df:d.rules.length=d.lines.length/\∀i∈d.rules,0<=i/\i<d.aN.length
 li:∀r∈d.lines,cP d.lines.length d.count d.aN.length r
 go:∀one∈d.goals,fQ d.lines.length one
 cd:d.codes.length=d.aN.length/\∀c∈d.codes,DC c
def bE(H:AH)(vs:List AV)(rs:List (List Int)):Prop:=vs.length=rs.length/\∀(i:Nat) r,rs[i]? =some r->∃a,vs[i]? =some (.ref a)/\H a=some (.list (ak r))
theorem bE.keep(h:bE H vs rs)(k:Kp [] H H'):bE H' vs rs:=#[h.1,λi r e=>by refine bz (h.2 i r e) λa h1 h2=>?_;exact#[a,h1,k.aK h2]]
theorem bw.snoc(h:bw H vs rs)(ha:H a=some (.dI (dG r))):bw H (vs++[.ref a]) (rs++[r]):=by
 refine#[by simp[h.1],λi r' e=>?_];by_cases hi:i<rs.length
 ·rw[F0 hi] at e;refine bz (h.2 i r' e) λb h1 h2=>?_;exact#[b,by rw[F0 (by rw[h.1];exact hi)];exact h1,h2]
 ·rw[F9 (!AK hi)] at e;have:i - rs.length=0:=by
   cases q:i - rs.length with
   |zero=>rfl
   |succ m=>rw[q] at e;simp at e
  rw[this] at e;simp at e;subst e;exact#[a,by rw[F9 (by rw[h.1];exact AK hi),h.1,this];rfl,ha]
theorem bE.snoc(h:bE H vs rs)(ha:H a=some (.list (ak r))):bE H (vs++[.ref a]) (rs++[r]):=by
 refine#[by simp[h.1],λi r' e=>?_];by_cases hi:i<rs.length
 ·rw[F0 hi] at e;refine bz (h.2 i r' e) λb h1 h2=>?_;exact#[b,by rw[F0 (by rw[h.1];exact hi)];exact h1,h2]
 ·rw[F9 (!AK hi)] at e;have:i - rs.length=0:=by
   cases q:i - rs.length with
   |zero=>rfl
   |succ m=>rw[q] at e;simp at e
  rw[this] at e;simp at e;subst e;exact#[a,by rw[F9 (by rw[h.1];exact AK hi),h.1,this];rfl,ha]
theorem bw.rY(h:bw H vs rs)(k:Kp S H H')(n:∀a kvs,H a=some (.dI kvs)->a∉S):bw H' vs rs:=#[h.1,λi r e=>by refine bz (h.2 i r e) λa h1 h2=>?_;exact#[a,h1,k.at h2 (n _ _ h2)]]
theorem gw.put{r:Row}(h:gw r){k v:Int}(hk:k∉r.map (·.1))(h0:0<=k/\k<10)(hl:r.length<10):gw (r++[(k,v)]):=by
 refine#[?_,by simp;exact ZC hl,λc hc=>?_]
 ·rw[n6,K1];exact#[h.nd,!G5.mpr #[m8,J9],λa ha b hb=>by simp at hb;subst hb;rintro rfl;exact hk ha]
 ·rw[n6] at hc;rcases s6.mp hc with hc|hc
  ·exact h.ps c hc
  ·simp at hc;exact ZD h0 hc
theorem Eo(hk:k∉r.map (·.1)):pT (r++[(k,v)]) c=if c=k then v else pT r c:=by
 unfold pT;rw[List.find?_append];by_cases e:c=k
 ·rw[if_pos e,P8.mpr (by intro p hp;simp;intro q;exact hk (m5.mpr #[p,hp,!.trans `a `a]))];simp[e]
 ·rw[if_neg e];cases q:r.find? (λp=>p.1=c) with
  |some p=>rfl
  |none=>simp[q9 e]
theorem cP.nil:cP size count rules []:=#[#[!J9,!s8 _,λc h=>by simp at h],λc h=>by simp at h,λc h=>by simp at h]
theorem cP.put{size count rules:Int}{r:Row}(h:cP size count rules r){k v:Int}(hk:∀c∈r.map (·.1),c<k)(h0:0<=k/\k<count)(hc:count<=5)(hl:(r.length:Int)<=k)(hv:jV size rules v):cP size count rules (r++[(k,v)]):=by
 have hkn:k∉r.map (·.1):=λm=>by have:=hk k m;exact ZE this
 refine#[h.ok.put hkn #[h0.1,!ZF h0 hc] (!ZG h0 hl hc),λc m=>?_,λc m=>?_]
 ·rw[n6] at m;rcases s6.mp m with m|m
  ·exact h.lt c m
  ·simp at m;exact ZI h0 m
 ·rw[Eo hkn];rw[n6] at m;split
  ·exact hv
  ·rename_i hne;rcases s6.mp m with m|m
   ·exact h.act c m
   ·simp at m;exact absurd m hne
theorem HV(hk:k∉r.map (·.1)):dO (dG r) k (.int v)=dG (r++[(k,v)]):=tR hk
noncomputable abbrev rP(pen size count names others SD sizes Mq lines state line terminal way goals symbol one Mr at_ masks rests frame rules packed:LV):Loc:=[((bI "pen"),pen),((bI "size"),size),((bI "count"),count),((bI "names"),names),((bI "others"),others),((bI "sides"),SD),((bI "sizes"),sizes),((bI "aheads"),Mq),((bI "lines"),lines),((bI "state"),state),((bI "line"),line),((bI "terminal"),terminal),((bI "way"),way),((bI "goals"),goals),((bI "symbol"),symbol),((bI "one"),one),((bI "usuals"),Mr),((bI "at"),at_),((bI "masks"),masks),((bI "rests"),rests),((bI "frame"),frame),((bI "rules"),rules),((bI "packed"),packed),((bI "_law_draw"),.glob),((bI "len"),.glob),((bI "_law_rules"),.glob),((bI "range"),.glob),((bI "_law_pick"),.glob),((bI "ACCEPT"),.glob),((bI "BARRED"),.glob),((bI "dict"),.glob),((bI "PackedTables"),.glob),((bI "packed_rows"),.glob)]
variable{C:Cx}{n:Nat}{H:AH}{Q:AV->AH->Prop}
end
section
theorem zh:nK C H [.int a,.int b] [.int a,.int b]:=.cons (.int _) (.cons (.int _) .nil)
theorem aB.SE(h:Q (.bool (Bool.not ((decide (a=x)||decide (b=x))))) H):aB C n (compareOp .NotIn) (.int x) (.tup [.int a,.int b]) H Q:=by
 refine .aen (es:=[.int a,.int b]) (.int x) (.tup zh) rfl rfl (!s8 _) ?_;have:([J8 a,J8 b].any λy=>I7 y (.int x))=(decide (a=x)||decide (b=x)):=by
  simp[I7];by_cases h1:a=x<;>by_cases h2:b=x<;>simp[h1,h2]
 rw[this];exact h
set_option tactic.hygienic true in
theorem aP.SG {F F':Fm} {names:List (Str×NameKind)} {ρ:Loc} {scope:Scope} (cf:CF F names F') (kind:scope.kind=.function) (nd:(scope.names.map (·.1)).Nodup) (xV:(scope.names.all λp=>p.2 !=.globalExplicit)=true)
 (free:(scope.names.all λp=>p.2 !=.free||((match ρ.get p.1 with|some (.val _)=>true|_=>false)&&names.lookup p.1 !=some .local&&(names.lookup p.1).isSome))=true):aP F' ρ scope where
 kind:=kind
 nd:=nd
 xV:=xV
 free:=λp hp e=>by
  have:=n9.mp free p hp;rw[e] at this;simp only[bne_self_eq_false,Bool.false_or,D0] at this;obtain⟨⟨h1,h2⟩,h3⟩:=this;refine#[?_,?_]
  ·revert h1;split
   ·rename_i v hv;intro _;exact#[v,hv]
   ·intro h;cases h
  ·refine xE (O2.mp h3) λk hk=>?_;rw[hk] at h2;by_cases hf:k=.free
   ·subst hf;exact cf.free _ hk
   ·rw[cf.kind _ _ hk hf];intro q;cases q;simp at h2
theorem gC(one:List Int)(k:Nat):eO one (k+1)=eO one k++if aD one k≠-1 then[k] else[]:=by
 unfold eO;rw[K2,M4]
 congr 1
 by_cases h:aD one k=-1<;>simp[h]
theorem gD(one:List Int)(u:Int)(k:Nat):jk one u (k+1)=jk one u k++if aD one k≠-1/\aD one k≠u then[((k:Int),aD one k)] else[]:=by
 unfold jk;rw[K2,M4,n6]
 congr 1
 by_cases h:aD one k≠-1/\aD one k≠u
 ·rw[if_pos h];simp[h]
 ·rw[if_neg h];rw[T5 (by simpa using h)];rfl
theorem lT(one:List Int)(u:Int)(k:Nat):((jk one u k).map (·.1)).Nodup/\(∀c:Int,c∈(jk one u k).map (·.1)->0<=c/\c<k)/\(jk one u k).length<=k:=by
 induction k with
 |zero=>simp[jk]
 |succ k ih=>
  refine kh ih λh1 h2 h3=>?_;rw[gD];split
  ·refine#[?_,λc hc=>?_,by simp;exact Oc h3]
   ·rw[n6,K1];exact#[h1,!G5.mpr #[m8,J9],λa ha b hb=>by simp at hb;subst hb;have:=h2 a ha;exact ZJ this]
   ·rw[n6] at hc;rcases s6.mp hc with hc|hc
    ·have:=h2 c hc;exact OJ this
    ·simp at hc;exact ZK hc
  ·rw[v7];exact#[h1,λc hc=>by have:=h2 c hc;exact OJ this,!MO h3]
theorem nv(hs:size<=3)(h:fQ size one):gw (bW one)/\∀c:Int,c∈(bW one).map (·.1)->c<size:=by
 refine kh (lT one (cH one) one.length) λh1 h2 h3=>?_;have hl:=h.ln;exact#[#[h1,by unfold bW;exact ZL h3 hl hs,λc hc=>by have:=h2 c hc;exact ZM this hl hs],λc hc=>by have:=h2 c hc;exact ZN this hl]
theorem eF.Jz(hp:eF H p c b)(h:H a=some o)(hne:∀s r,o≠.list [.ref c,.int s,.int r]):a≠p:=by
 rintro rfl;refine tG hp.e λns s r h1 Z=>?_;rw[h] at h1;exact hne _ _ (m9 h1)
theorem eF.pH(hp:eF H p c b)(h:H a=some (.list (ak l))):a≠p:=hp.Jz h λs r e=>by cases l<;>simp[ak] at e
theorem eF.CO(hp:eF H p c b)(h:H a=some (.dI l)):a≠p:=hp.Jz h λs r e=>nomatch e
theorem bw.dR(h:bw H vs rs)(hp:eF H p c b)(k:Kp [p] H H'):bw H' vs rs:=h.rY k λa kvs e=>by simp;exact hp.CO e
theorem bE.dR(h:bE H vs rs)(hp:eF H p c b)(k:Kp [p] H H'):bE H' vs rs:=#[h.1,λi r e=>by refine bz (h.2 i r e) λa h1 h2=>?_;exact#[a,h1,k.at h2 (by simp;exact hp.pH h2)]]
variable{C:Cx}{n:Nat}{H:AH}{Q:AV->AH->Prop}
theorem oJ(one:List Int)(k:Nat):(eO one k).length<=k:=by
 unfold eO;exact g9 (J4 _ _) (by simp)
theorem Kp.af9(k:Kp S' H H')(h:∀x∈S',H x=b6\/x∈S):Kp S H H':=λb o n e=>k b o (λm=>by
 rcases h b m with h|h
 ·exact gc (E1 (G0 (h)) e)
 ·exact n h) e
theorem Kp.Ep(k:Kp [p,a] H H')(h:H a=b6\/a∈[p]):Kp [p] H H':=k.af9 λz hz=>by
 rcases l9.mp hz with rfl|hz
 ·exact .inr (.head _)
 ·rw[j0.mp hz];exact h
noncomputable abbrev Nn:List (Str×NameKind):=p_ (tS 69)
noncomputable abbrev BI(k:Nat):Stmt:=(fB (tS 69)).getD k dS
theorem ne2{x y z:Addr}(h:z≠x)(h':z≠y):z∉[x,y]:=λm=>by
 rcases l9.mp m with m|m
 ·exact h m
 ·exact ne1 h' m
theorem Kp.hd1(k:Kp [x] H H'):Kp [x,y] H H':=k.hd
inductive LpL(p c la:Addr)(b:Int)(size count nL:Nat)(H0:AH)(i:Nat)(H:AH):Prop
 |mk (nH:List AV) (rows:List Row) (SH:H la=some (.list nH)) (hrs:bw H nH rows) (hrl:rows.length=i) (hrk:∀r∈rows,cP size count nL r) (hp:eF H p c (b+10*i)) (k:Kp [p,la] H0 H):LpL p c la b size count nL H0 i H
inductive SI(p c da:Addr)(b:Int)(size count nL:Nat)(H0:AH)(k:Nat)(H:AH):Prop
 |mk (r:Row) (er:H da=some (.dI (dG r))) (ok:cP size count nL r) (rk:∀c:Int,c∈r.map (·.1)->c<k) (rl:r.length<=k) (hp:eF H p c (b+2*k)) (kp:Kp [p,da] H0 H):SI p c da b size count nL H0 k H
theorem SI.put{p c da:Addr}{b:Int}{size count nL k:Nat}{H0 H3:AH}{r:Row}{v:Int}(rk:∀c:Int,c∈r.map (·.1)->c<k)(rQ:cP size count nL r)(rl:r.length<=k)(hc:count=4\/count=5)(hkn:k<count)(Fw:da≠p/\da≠c)(hv:jV size nL v)(hp3:eF H3 p c (b+2*k+2))(k3:Kp [p,da] H0 H3):SI p c da b size count nL H0 (k+1) (H3.set da ((oX C).ao (dO (dG r) k (.int v)))):=by
 have rkn:(k:Int)∉r.map (·.1):=λm=>by have:=rk k m;exact ZO this
 refine#[r++[((k:Int),v)],by rw[AH.aq,HV rkn];rfl,rQ.put rk #[!bN,!gI hkn] (!ZP hc) (!Ox rl) hv,λc hc=>?_,by rw[lG];exact M0 rl,(hp3.put Fw.1 Fw.2).mono (!acG),k3.trans (Kp.mem (.tail _ (.head _)))];rw[n6] at hc;rcases s6.mp hc with hc|hc
 ·have:=rk c hc;exact Ga this
 ·rewrite [j0.mp hc];exact Int.lt_succ _
theorem Er (cc:CC C) {F:Fm} (hf:F.fn=true) (hk:F.env.scope.kind=.function) {p c sa la:Addr} {b:Int} {size count:Nat} {L:List Int} {vn vo ve va y1 y2 y3 y4 y5 y6 y7 y8 y9 y10:LV} {Qo:Out->Loc->AH->Prop} (hp:eF H p c b) (hb:b<=80000) (hs:1<=size/\size<=3) (hc:count=4\/count=5) (e6:H sa=some (.list (ak L))) (r2:2<=L.length/\L.length<=4) (hla:H la=some (.list [])) (Fx:la≠p/\la≠c) (lsa:la≠sa)
 (hq:∀nH rows H',H' la=some (.list nH)->bw H' nH rows->rows.length=size->(∀r∈rows,cP size count L.length r)->eF H' p c (b+30)->Kp [p,la] H H'->Qo .next (rP (.val (.ref p)) (.val (.int size)) (.val (.int count)) vn vo (.val (.ref sa)) ve va (.val (.ref la)) .undef .undef .undef .undef y1 y2 y3 y4 y5 y6 y7 y8 y9 y10) H'):
 Ex C (n+4) F (BI 5) (rP (.val (.ref p)) (.val (.int size)) (.val (.int count)) vn vo (.val (.ref sa)) ve va (.val (.ref la)) .undef .undef .undef .undef y1 y2 y3 y4 y5 y6 y7 y8 y9 y10) H Qo:=by
 have UA:=hp.pH e6;have l6:(ak L).length=L.length:=az L;refine Ex.forR hf ["state","line","terminal","way"] `wk (aZ.range `get (aU cc) ?_ bu.name);lk;refine iO.nat (g9 hs.2 (!b7 rfl)) (jl.nats (LpL p c la b size count L.length H) #[[],[],hla,#[rfl,λi r e=>nomatch e],rfl,(λr h=>nomatch h),hp.mono (!OL),Kp.refl] (λi H1 hin x=>x.casesOn λnH rows SH hrs hrl hrk hpi ki K kk=>?_) λH1 x=>x.casesOn λnH rows SH hrs hrl hrk hpi ki=>hq nH rows H1 SH hrs hrl hrk (hpi.mono (!ZX hs)) ki);refine b_.aT (u:=.undef) `get hf c7 ?_;refine aG.cD `set ?_;refine aG.cons ?_;refine Ex.qG (u:=.undef) `get c7 hf ?_;refine Ev.zQ (oX C) λda hda=>LD hda λH2 kd ed=>?_;have Fw:=hpi.ap hda;have hpd:=hpi.cQ kd;have dla:la≠da:=AH.aJ hda SH;have hd9:=ki.SA hda;have e6d:H2 sa=some (.list (ak L)):=kd.aK (ki.at e6 (ne2 UA (q9 lsa)));have sad:sa≠da:=λz=>by rw[z,ed] at e6d;cases e6d
 refine aG.cD `set ?_;refine aG.cons ?_;refine Ex.forR hf ["terminal","way"] `wk (aZ.range `get (aU cc) ?_ bu.name);lk;refine iO.nat (by rcases hc with rfl|rfl<;>decide) (jl.nats (SI p c da (b+10*i) size count L.length H2) #[[],ed,.nil,(λc h=>nomatch h),r7 _,hpd.mono (!OM),Kp.refl] (λk H3 hkn x=>x.casesOn λr er rQ rk rl hp2 k2 K jj=>?_) λH3 x=>x.casesOn λr er rQ rk rl hp2 k2=>?_)
 ·have ln10:(dG r).length<=1000000:=by have:=rQ.ok.ln;rw[dG,b9];exact AL this
  refine b_.aT (u:=.undef) `get hf c7 ?_;refine aG.cD `set ?_;refine aG.cons ?_;refine Ex.qG (u:=.undef) `get c7 hf ?_;lk;refine bU cc hp2 (!ZQ hs hc hb hin hkn) `e `e λwy H4 wy0 wy1 hp3 k3=>?_;have UB:=k3.at er (ne1 Fw.1);have SJ:=k2.trans k3.hd1;have e63:=SJ.at e6d (ne2 UA sad);lk;refine aB.kI (λc0=>?_) λc0=>?_
  ·lk;refine#[sz rfl,λt ht=>newL ht λH4 j4 e4=>?_];lk;refine qc cc (hp3.cQ j4) (!KG hs hc hb hin hkn) e4 (hp3.ap ht).1 (n8 _) (!b7 rfl) λm v H5 hm vK k5=>?_;obtain⟨y,rfl,hy⟩:∃y:Int,v=.int y/\(y=1048576\/y=-1048576):=by
    match m,hm with
    |0,e=>exact#[_,(m9 e).symm,.inl rfl]
    |1,e=>exact#[_,(m9 e).symm,.inr rfl]
    |m+2,e=>exact gc e
   have SK:=k5.at (j4.aK UB) (ne1 Fw.1);lk;refine cZ.dict (oX C) SK ln10 ?_;lk;exact jj #[`k,.put rk rQ rl hc hkn Fw (by unfold jV;exact ZR hy) (vK.mono (!Gg)) ((SJ.trans j4.any).trans k5.hd1)]
  lk;refine aB.kI (λc1=>?_) λc1=>?_
  ·lk;refine aB.fK ?_;lk;refine aj.bM e63 (!AM r2 l6) ?_;rw[l6];lk;refine aB.fK ?_;lk;refine bU cc hp3 (!KG hs hc hb hin hkn) (!ON r2) (!OO r2) λy H5 y0 y1 vK k5=>?_;have SK:=k5.at UB (ne1 Fw.1);refine aB.fK ?_;lk;refine cZ.dict (oX C) SK ln10 ?_;lk;exact jj #[`k,.put rk rQ rl hc hkn Fw (by unfold jV;exact ZS y0 y1) (vK.mono (!Gg)) (SJ.trans k5.hd1)]
  lk;have skip:SI p c da (b+10*i) size count L.length H2 (k+1) H4:=#[r,UB,rQ,λc hc=>by have:=rk c hc;exact Ga this,!MO rl,hp3.mono (!ZT),SJ];refine aB.kI (λc2=>?_) λc2=>?_
  ·lk;refine aB.yp (λc3=>?_) λc3=>?_
   ·lk;refine aB.fK ?_;lk;refine bU cc hp3 (!KG hs hc hb hin hkn) (!OP c3) (!OQ hs) λy H5 y0 y1 vK k5=>?_;have SK:=k5.at UB (ne1 Fw.1);refine aB.bL ?_;lk;refine cZ.dict (oX C) SK ln10 ?_;lk;exact jj #[`k,.put rk rQ rl hc hkn Fw (by unfold jV;exact ZU y0 y1) (vK.mono (!Gg)) (SJ.trans k5.hd1)]
   ·lk;exact jj #[`k,skip]
  ·lk;exact jj #[`k,skip]
 have hL2:=k2.at (kd.aK SH) (ne2 Fx.1 dla);have t_:=kd.any.trans k2;have hr2:=hrs.rY t_ λa kvs e=>ne2 (hpi.CO e) (AH.aJ hda e);lk;ktn_no "meth";lk;refine aj.append hL2 (by rw[hrs.1];exact ZV hs hrl hin) (g_ λH4 k4 e4=>?_);lk;have nla:∀{a:Addr} {kvs:List (Int×AV)},H3 a=some (.dI kvs)->a∉[la]:=λe=>ne1 λz=>by rw[z,hL2] at e;cases e
 refine kk #[`k,nH++[.ref da],rows++[r],e4,(hr2.rY k4 λa kvs e=>nla e).snoc (k4.at er (nla er)),by rw[lG,hrl];rfl,λr' hr'=>?_,(hp2.keep k4 (ne1 Fx.1.symm) (ne1 Fx.2.symm)).mono (!ZW hc),λx o m e=>k4.at (k2.at (kd.aK (ki.at e m)) (ne2 (λz=>m (z▸.head _)) λz=>?_)) (ne1 λz=>m (z▸.tail _ (.head _)))]
 ·rcases s6.mp hr' with hr'|hr'
  ·exact hrk r' hr'
  ·rw[j0.mp hr'];exact rQ
 ·have:=ki.at e m;rw[z,hda] at this;cases this
inductive LgL(p c ga:Addr)(b:Int)(size:Nat)(H0:AH)(i:Nat)(H:AH):Prop
 |mk (iI:List AV) (gs:List (List Int)) (UC:H ga=some (.list iI)) (hgs:bE H iI gs) (sI:gs.length=i) (jx:∀r∈gs,fQ size r) (hp:eF H p c (b+10*i)) (k:Kp [p,ga] H0 H):LgL p c ga b size H0 i H
inductive Ms(p c:Addr)(b:Int)(size:Nat)(H0:AH):Nat->List AV->AH->Prop
 |mk (one:List Int) (H:AH) (ov:∀x∈one,x=-1\/(1<=x/\x<=(size:Int) - 1)) (hp:eF H p c (b+2*one.length)) (k:Kp [p] H0 H):Ms p c b size H0 one.length (ak one) H
@[elab_as_elim] theorem Ms.el{p c:Addr}{b:Int}{size k:Nat}{H0 H:AH}{ys:List AV}{P:List AV->Prop}(x:Ms p c b size H0 k ys H)(f:∀one:List Int,one.length=k->(∀x∈one,x=-1\/(1<=x/\x<=(size:Int) - 1))->eF H p c (b+2*k)->Kp [p] H0 H->P (ak one)):P ys:=by
 induction x with
 |mk one H ov hp k=>exact f one rfl ov hp k
theorem Ms.push{p c:Addr}{b b':Int}{size k:Nat}{H0 H3:AH}{one:List Int}{y:Int}(hk:one.length=k)(ov:∀x∈one,x=-1\/(1<=x/\x<=(size:Int) - 1))(hy:y=-1\/(1<=y/\y<=(size:Int) - 1))(hp:eF H3 p c b')(hb:b'<=b+2*k+2)(kp:Kp [p] H0 H3):Ms p c b size H0 (k+1) (ak one++[.int y]) H3:=by
 subst hk;have:=Ms.mk (p:=p) (c:=c) (b:=b) (size:=size) (H0:=H0) (one++[y]) H3 (λx hx=>by
  rcases s6.mp hx with hx|hx
  ·exact ov x hx
  ·rw[j0.mp hx];exact hy) (hp.mono (by rw[lG];show _<=b+2*((one.length+1:Nat):Int);exact acH hb)) kp
 rwa [<-bO,lG] at this
theorem Es (cc:CC C) {F:Fm} (hf:F.fn=true) (hk:F.env.scope.kind=.function) (hn:F.env.scope.names=Nn) {p c ga:Addr} {b:Int} {size others:Nat} {vc vn vs ve va vl v1 v2 v3 v4 y3 y4 y5 y6 y7 y8 y9:LV} {Qo:Out->Loc->AH->Prop} (hp:eF H p c b) (hb:b<=80000) (hs:1<=size/\size<=3) (ho:others=2\/others=3) (hga:H ga=some (.list [])) (gap:ga≠p/\ga≠c)
 (hq:∀iI gs H',H' ga=some (.list iI)->bE H' iI gs->gs.length=others->(∀r∈gs,fQ size r)->eF H' p c (b+30)->Kp [p,ga] H H'->Qo .next (rP (.val (.ref p)) (.val (.int size)) vc vn (.val (.int others)) vs ve va vl v1 v2 v3 v4 (.val (.ref ga)) .undef .undef y3 y4 y5 y6 y7 y8 y9) H'):
 Ex C (n+4) F (BI 7) (rP (.val (.ref p)) (.val (.int size)) vc vn (.val (.int others)) vs ve va vl v1 v2 v3 v4 (.val (.ref ga)) .undef .undef y3 y4 y5 y6 y7 y8 y9) H Qo:=by
 refine Ex.forR hf ["symbol","one"] `wk (aZ.range `get (aU cc) ?_ bu.name);lk;refine iO.nat (by rcases ho with rfl|rfl<;>decide) (jl.nats (LgL p c ga b size H) #[[],[],hga,#[rfl,λi r e=>nomatch e],rfl,(λr h=>nomatch h),hp.mono (!OL),Kp.refl] (λi H1 hin x=>x.casesOn λiI gs UC hgs sI jx hpi ki K kk=>?_) λH1 x=>x.casesOn λiI gs UC hgs sI jx hpi ki=>hq iI gs H1 UC hgs sI jx (hpi.mono (!aaf ho)) ki);refine b_.aT (u:=.undef) `get hf c7 ?_;refine aG.cD `set ?_;refine aG.cons ?_;refine Ex.dH (w:=.undef) (λu=>[(".0",.undef),("state",u),("_law_draw",.glob),("pen",.val (.ref p)),("size",.val (.int size))]) (aP.of hn rfl `d `d `k) `get c7 hf `k (λZ Z=>`set) (λZ=>`get) (.inl `k) ?_ (cT hn hk true `k);refine aZ.range `get (aU cc) ?_ bu.name;lk;refine iO.nat (g9 hs.2 (!b7 rfl)) #[by rw[bx];exact Gh hs,Ms p c (b+10*i) size H1,.mk [] _ (λx h=>nomatch h) (hpi.mono (!OM)) Kp.refl,λZ Z Z Z Z=>trivial,?_,?_]
 ·intro F' cf k v ys H2 hv x;obtain⟨rfl,hkn⟩:=bk hv;refine x.el λone xM hov hp2 k2=>?_;refine kC.nil ?_;lk;refine aB.yp (λc1=>?_) λc1=>?_
  ·lk;refine bU cc hp2 (!ZY hs ho hb hin hkn) `e `e λd H3 d0 d1 hp3 k3=>?_;lk;refine aB.kI (λc2=>?_) λc2=>?_
   ·lk;refine aB.fK ?_;lk;refine bU cc hp3 (!ZZ hs ho hb hin hkn) (!OP c1) (!OQ hs) λy H4 y0 y1 tW k4=>?_;refine aB.bL ?_;exact .push xM hov (.inr (!Z_ y0 rfl y1)) tW (!Gg) ((k2.trans k3).trans k4)
   ·lk;refine kY.fC ?_;exact .push xM hov (.inl rfl) hp3 (!aaa) (k2.trans k3)
  ·lk;refine kY.fC ?_;exact .push xM hov (.inl rfl) hp2 (!aab) k2
 ·intro oa ys H2 x;rw[bx] at x;refine x.el λone xM hov hp2 k2 hoa=>newL hoa λH3 ko eo=>?_;have hG2:=k2.at UC (ne1 gap.1);have hG3:=ko.aK hG2;have Mt:=(hgs.dR hpi k2).keep ko;refine aG.cD `set ?_;lk;ktn_no "meth";lk;refine aj.append hG3 (by rw[Mt.1];exact aad ho sI hin) (g_ λH4 k4 e4=>?_);lk;refine kk #[`k,iI++[.ref oa],gs++[one],e4,bE.snoc #[Mt.1,λj r e=>?_] (k4.at eo (ne1 (AH.aJ hoa hG2).symm)),by rw[lG,sI];rfl,λr' hr'=>?_,((hp2.cQ ko).keep k4 (ne1 gap.1.symm) (ne1 gap.2.symm)).mono (!aae hs),(ki.trans (k2.trans ko.any).hd).trans (k4.tl (.head _))]
  ·refine bz (Mt.2 j r e) λa h1 h2=>?_;refine#[a,h1,k4.at h2 (ne1 λz=>?_)];rw[z,hG3] at h2;have e':iI=ak r:=AO.list.inj (m9 h2);rw[e',ak,j9] at h1;refine bz (l8.mp h1) λZ Z q=>?_;cases q
  ·rcases s6.mp hr' with hr'|hr'
   ·exact jx r' hr'
   ·rw[j0.mp hr'];exact#[xM,hov]
theorem xq(h:¬(x≠-1/\x≠m)):(Bool.not ((decide (-1=x)||decide (m=x))))=false:=by
 by_cases q:-1=x
 ·rw[decide_eq_true q];rfl
 ·rw[decide_eq_false q,decide_eq_true (X7 λq2=>h #[q9 q,q9 q2])];rfl
theorem kG{α:Type}{f:α->Int}{l:List α}{i:Nat}(h:i<l.length):aD (l.map f) i=f l[i]:=by
 unfold aD;rw[j7];simp[h]
end
section
variable{C:Cx}{n:Nat}{H:AH}{Q:AV->AH->Prop}
theorem BJ (cc:CC C) (hf:F.fn=true) (hk:F.env.scope.kind=.function) (hn:F.env.scope.names=Nn) (hs:1<=size) (hg:H ga=some (.list iI)) (hgs:bE H iI gs) (sI:gs.length<=3) (jx:∀r∈gs,fQ size r)
 (hq:∀ua H',H' ua=some (.list (ak (gs.map cH)))->Kp [] H H'->Qo .next (rP a1 a2 a3 a4 a5 a6 a7 a8 a9 v1 v2 v3 v4 (.val (.ref ga)) u0 w0 (.val (.ref ua)) y4 y5 y6 y7 y8 y9) H'):
 Ex C (n+4) F (BI 8) (rP a1 a2 a3 a4 a5 a6 a7 a8 a9 v1 v2 v3 v4 (.val (.ref ga)) u0 w0 .undef y4 y5 y6 y7 y8 y9) H Qo:=by
 refine Ex.qG (u:=.undef) `get c7 hf ?_ (cT hn hk false `k);refine Ev.bJ (λu=>[(".0",.undef),("one",u),("max",.glob)]) (aP.of hn rfl `d `d `k) `k (λZ Z=>`set) (λZ=>`get) (.inl `k) ?_;refine aZ.list ?_ bu.name;lk;refine#[ga,_,rfl,hg,gZ.map (us:=ak (gs.map cH)) (by rw[az,b9,hgs.1]) (by rw[az,b9];exact qi sI) hg (λF' cf k v hv=>?_) λua hua=>newL hua λH' k e=>hq ua H' e k];have iY:k<gs.length:=by rw[<-hgs.1];exact(c9.mp hv).1
 refine bz (hgs.2 k gs[k] (b8 iY)) λa h1 h2=>?_;obtain rfl:v=.ref a:=by rw[hv] at h1;exact m9 h1
 have hl:=(jx _ (m6 iY)).ln;lk;refine aj.max h2 (!Gi hs hl) λM hM hx=>#[?_];rw[uq (!Gi hs hl) hM hx,ak,j9,j9,b8 iY];rfl
theorem Et (cc:CC C) (hf:F.fn=true) (hk:F.env.scope.kind=.function) (hn:F.env.scope.names=Nn) (hs:1<=size/\size<=3) (hg:H ga=some (.list iI)) (hgs:bE H iI gs) (sI:gs.length<=3) (jx:∀r∈gs,fQ size r)
 (hq:∀ma H',H' ma=some (.list (ak (gs.map cy)))->Kp [] H H'->Qo .next (rP a1 (.val (.int size)) a3 a4 a5 a6 a7 a8 a9 v1 v2 v3 v4 (.val (.ref ga)) u0 w0 x0 y4 (.val (.ref ma)) y6 y7 y8 y9) H'):
 Ex C (n+4) F (BI 9) (rP a1 (.val (.int size)) a3 a4 a5 a6 a7 a8 a9 v1 v2 v3 v4 (.val (.ref ga)) u0 w0 x0 y4 .undef y6 y7 y8 y9) H Qo:=by
 refine Ex.dH (λu=>[(".0",.undef),("one",u),("sum",.glob),("range",.glob),("size",.val (.int size))]) (aP.of hn rfl `d `d `k) (w:=.undef) `get c7 hf `k (λZ Z=>`set) (λZ=>`get) (.inr `k) ?_ (cT hn hk true `k);refine aZ.list ?_ bu.name;lk;refine#[ga,_,rfl,hg,gZ.map (us:=ak (gs.map cy)) (by rw[az,b9,hgs.1]) (by rw[az,b9];exact qi sI) hg (λF' cf k v hv=>.forget ?_) λma hma=>newL hma λH' k e=>hq ma H' e k];have iY:k<gs.length:=by rw[<-hgs.1];exact(c9.mp hv).1
 refine bz (hgs.2 k gs[k] (b8 iY)) λa h1 h2=>?_;obtain rfl:v=.ref a:=by rw[hv] at h1;exact m9 h1
 have hl:=(jx _ (m6 iY)).ln;lk;refine Ev.bJ (λu=>[(".0",.undef),("at",u),("one",.val (.ref a))]) (aP.SG cf rfl `d `d `k) `k (λZ Z=>`set) (λZ=>`get) (.inl `k) ?_;refine aZ.range `get (aU cc) ?_ bu.name;lk;refine iO.nat (g9 hs.2 (!b7 rfl)) (gZ.zT (f:=λj=>ak ((eO gs[k] j).map λi:Nat=>(2:Int) ^ i)) (by rw[bx];exact Gh hs) trivial rfl (λF2 cf2 j v hv=>?_) λb hb=>newL hb λH2 kb eb=>?_)
 ·obtain⟨rfl,hj⟩:=bk hv;refine kC.one ?_;lk;refine aF.aD (λZ Z=>rfl) h2 (!bN) (!cI hj hl) (!KH hs hl) ?_;lk;refine kY.fC ?_;refine aB.wC (λc1=>?_) λc1=>?_
  ·ktn_no "no";exact#[by rw[gC,if_neg (not_not_intro c1),v7]]
  ·ktn_no "yes";refine aB.BF (!bN) (!aag hs hj) (!b7 rfl) #[?_];rw[gC,if_pos c1,n6,bO,j7];rfl
 rw[bx] at eb;lk;refine aj.sum eb #[H,kb,#[?_]];rw[ak,j9,j9,b8 iY];simp only[cy,I9,hl]
inductive LpR(ra:Addr)(gs:List (List Int))(H0:AH)(i:Nat)(H:AH):Prop
 |mk (Eu:List AV) (UD:H ra=some (.list Eu)) (hrs:bw H Eu ((gs.take i).map bW)) (k:Kp [ra] H0 H):LpR ra gs H0 i H
theorem Ew (cc:CC C) {F:Fm} (hf:F.fn=true) (hk:F.env.scope.kind=.function) (hn:F.env.scope.names=Nn) {ga ua ra:Addr} {size others:Nat} {iI:List AV} {gs:List (List Int)} {a1 a3 a4 a6 a7 a8 a9 v1 v2 v3 v4 u0 w0 y6 y7 y8 y9 z0:LV} {Qo:Out->Loc->AH->Prop} (hs:1<=size/\size<=3) (hg:H ga=some (.list iI)) (hgs:bE H iI gs) (sI:gs.length=others) (ho:others<=3) (jx:∀r∈gs,fQ size r) (hu:H ua=some (.list (ak (gs.map cH)))) (zj:H ra=some (.list [])) (rgu:ra≠ga/\ra≠ua) (rg:∀a r,H a=some (.list (ak r))->r≠[]->a≠ra)
 (hq:∀Eu H',H' ra=some (.list Eu)->bw H' Eu (gs.map bW)->Kp [ra] H H'->Qo .next (rP a1 (.val (.int size)) a3 a4 (.val (.int others)) a6 a7 a8 a9 v1 v2 v3 v4 (.val (.ref ga)) u0 w0 (.val (.ref ua)) .undef z0 (.val (.ref ra)) y6 y7 y8) H'):
 Ex C (n+4) F (BI 11) (rP a1 (.val (.int size)) a3 a4 (.val (.int others)) a6 a7 a8 a9 v1 v2 v3 v4 (.val (.ref ga)) u0 w0 (.val (.ref ua)) .undef z0 (.val (.ref ra)) y6 y7 y8) H Qo:=by
 have UE:(gs.map cH).length=others:=by rw[b9];exact sI
 refine Ex.forR hf ["at"] `wk (aZ.range `get (aU cc) ?_ bu.name);lk;refine iO.nat (g9 ho (!b7 rfl)) (jl.nats (LpR ra gs H) #[[],zj,#[rfl,λi r e=>nomatch e],Kp.refl] (λi H1 hin x=>x.casesOn λEu UD hrs ki K kk=>?_) λH1 x=>x.casesOn λEu UD hrs ki=>hq Eu H1 UD (by rw[z9 (I5 sI)] at hrs;exact hrs) ki);have hil:i<gs.length:=by exact Cp hin sI
 refine bz (hgs.2 i gs[i] (b8 hil)) λa h1 h2=>?_;have hl:=(jx _ (m6 hil)).ln;have ha:=ki.at h2 (ne1 (rg a _ h2 (λz=>by rw[z] at hl;exact aah hs hl)));have hgH:=ki.at hg (ne1 rgu.1.symm);have huH:=ki.at hu (ne1 rgu.2.symm);have um:aD (gs.map cH) i=cH gs[i]:=kG hil;have ra4:(Eu.length:Int)<=3:=by have:=hrs.1;rw[b9,F3] at this;exact aai this hin ho
 refine b_.aT (u:=.undef) `get hf c7 ?_;refine aG.cD `set ?_;lk;ktn_no "meth";lk;refine Ev.bJ (λu=>[(".0",.undef),("state",u),("at",.val (.int i)),("goals",.val (.ref ga)),("usuals",.val (.ref ua))]) (aP.of hn rfl `d `d `k) `k (λZ Z=>`set) (λZ=>`get) (.inl `k) ?_;refine aZ.range `get (aU cc) ?_ bu.name;lk;refine iO.nat (g9 hs.2 (!b7 rfl)) (gZ.zT (f:=λj=>(jk gs[i] (cH gs[i]) j).map bS) (by rw[bx];exact Gh hs) trivial rfl (λF2 cf2 j v hv=>?_) λbb Sw=>newL Sw λH3 kb eb=>?_)
 ·obtain⟨rfl,hj⟩:=bk hv;have hgz:iI.length<=1000000:=by rw[hgs.1];exact gW sI ho
  refine kC.one ?_;lk;refine aF.list (λZ Z=>rfl) hgH (!bN) (v:=.ref a) h1 hgz ?_;lk;refine aF.aD (λZ Z=>rfl) ha (!bN) (!cI hj hl) (!KH hs hl) ?_;lk;refine kY.fC ?_;lk;refine aF.aD (λZ Z=>rfl) huH (!bN) (!cI hin UE) (!qh UE ho) ?_;rw[um];lk;refine#[sz rfl,?_];refine aB.SE ?_;refine#[_,rfl,?_];by_cases c1:aD gs[i] j≠-1/\aD gs[i] j≠cH gs[i]
  ·rw[decide_eq_false (λz=>c1.1 z.symm),decide_eq_false (λz=>c1.2 z.symm)];ktn_no "yes";refine aF.list (λZ Z=>rfl) hgH (!bN) (v:=.ref a) h1 hgz ?_;lk;refine aF.aD (λZ Z=>rfl) ha (!bN) (!cI hj hl) (!KH hs hl) ?_;lk;refine#[sz rfl,#[?_]];rw[gD,if_pos c1,n6];rfl
  ·rw[xq c1];ktn_no "if";exact#[by rw[gD,if_neg c1,v7]]
 rw[bx] at eb;refine kh (lT gs[i] (cH gs[i]) size) λn1 n2 n3=>?_;lk;refine aj.Jd eb (!aaj hs n3) n1 λD hD=>?_;rw[show(jk gs[i] (cH gs[i]) size).map (λx=>(x.1,AV.int x.2))=dG (bW gs[i]) by unfold bW dG;rw[hl]];refine LD hD λH4 kd ed=>?_;have kb:=kb.trans kd;have hR4:=kb.aK UD;lk;refine aj.append hR4 (!aak ra4) (g_ λH5 k5 e5=>?_);lk;have SM:∀{a:Addr} {kvs:List (Int×AV)},H4 a=some (.dI kvs)->a∉[ra]:=λe=>ne1 λz=>by rw[z,hR4] at e;cases e
 refine kk #[`k,Eu++[.ref D],e5,?_,(ki.trans kb.any).trans k5];rw[l7 hil,n6];exact((hrs.keep kb).rY k5 λa kvs e=>SM e).snoc (k5.at ed (SM ed))
inductive SN(p c:Addr)(b:Int)(N:Nat)(H0:AH):Nat->List AV->AH->Prop
 |mk (rl:List Int) (H:AH) (ov:∀x∈rl,0<=x/\x<(N:Int)) (hp:eF H p c (b+rl.length)) (k:Kp [p] H0 H):SN p c b N H0 rl.length (ak rl) H
@[elab_as_elim] theorem SN.el{p c:Addr}{b:Int}{N k:Nat}{H0 H:AH}{ys:List AV}{P:List AV->Prop}(x:SN p c b N H0 k ys H)(f:∀rl:List Int,rl.length=k->(∀x∈rl,0<=x/\x<(N:Int))->eF H p c (b+k)->Kp [p] H0 H->P (ak rl)):P ys:=by
 induction x with
 |mk rl H ov hp k=>exact f rl rfl ov hp k
theorem Ey (cc:CC C) {F:Fm} (hf:F.fn=true) (hk:F.env.scope.kind=.function) (hn:F.env.scope.names=Nn) {p c sa:Addr} {b:Int} {size:Nat} {L:List Int} {a3 a4 a5 a7 a8 a9 v1 v2 v3 v4 v5 u0 w0 x0 x1 x2 x3 y7 y8:LV} {Qo:Out->Loc->AH->Prop} (hp:eF H p c b) (hb:b<=80000) (hs:1<=size/\size<=3) (e6:H sa=some (.list (ak L))) (r2:2<=L.length/\L.length<=4)
 (hq:∀qa rl H',H' qa=some (.list (ak rl))->rl.length=size->(∀i∈rl,0<=i/\i<(L.length:Int))->eF H' p c (b+3)->Kp [p] H H'->Qo .next (rP (.val (.ref p)) (.val (.int size)) a3 a4 a5 (.val (.ref sa)) a7 a8 a9 v1 v2 v3 v4 v5 u0 w0 x0 x1 x2 x3 y7 (.val (.ref qa)) y8) H'):
 Ex C (n+4) F (BI 13) (rP (.val (.ref p)) (.val (.int size)) a3 a4 a5 (.val (.ref sa)) a7 a8 a9 v1 v2 v3 v4 v5 u0 w0 x0 x1 x2 x3 y7 .undef y8) H Qo:=by
 have UA:=ne1 (hp.pH e6);refine Ex.dH (λu=>[(".0",.undef),("state",u),("_law_draw",.glob),("len",.glob),("pen",.val (.ref p)),("sides",.val (.ref sa))]) (aP.of hn rfl `d `d `k) (w:=.undef) `get c7 hf `k (λZ Z=>`set) (λZ=>`get) (.inl `k) ?_ (cT hn hk true `k);refine aZ.range `get (aU cc) ?_ bu.name;lk;refine iO.nat (g9 hs.2 (!b7 rfl)) #[by rw[bx];exact Gh hs,SN p c b L.length H,.mk [] _ (λx h=>nomatch h) (hp.mono (!aal)) Kp.refl,λZ Z Z Z Z=>trivial,?_,?_]
 ·intro F' cf k v ys H2 hv x;obtain⟨rfl,hkn⟩:=bk hv;refine x.el λrl xM hov hp2 k2=>?_;refine kC.nil ?_;lk;refine aj.bM (k2.at e6 UA) (by rw[az];exact Ct r2) ?_;rw[az];lk;refine bU cc hp2 (!aam hs hb hkn) (!aan r2) (!aao r2) λd H3 d0 d1 hp3 k3=>?_;have:=SN.mk (rl++[d]) H3 (p:=p) (c:=c) (b:=b) (N:=L.length) (H0:=H) (λx hx=>by
   rcases s6.mp hx with hx|hx
   ·exact hov x hx
   ·rw[j0.mp hx];exact#[d0,d1]) (hp3.mono (by rw[lG,xM];exact aap)) (k2.trans k3)
  rwa [lG,xM,<-bO] at this
 ·intro qa ys H2 x;rw[bx] at x;refine x.el λrl xM hov hp2 k2 hqa=>newL hqa λH3 kq eq=>?_;exact hq qa rl H3 eq xM hov ((hp2.cQ kq).mono (!aaq hs)) (k2.trans kq.any)
end
section
variable{C:Cx}{n:Nat}{H:AH}{Q:AV->AH->Prop}
theorem By.dR(h:By H v cd)(hp:eF H p c b)(k:Kp [p] H H'):By H' v cd:=by
 rcases h with h|⟨a,code,e1,e2,e3⟩
 ·exact .inl h
 ·refine .inr #[a,code,e1,e2,k.at e3 ?_];simp;refine hp.Jz e3 λs r e=>?_;cases code<;>simp[cS] at e
theorem cY.dR(hp:eF H p c b)(k:Kp [p] H H'):cY H vs us->cY H' vs us:=cY.ind trivial λa Z i=>#[a.dR hp k,i]
theorem pg.dR(h:pg H a b1 b2 b3 b4 q)(hp:eF H p c b)(k:Kp [p] H H'):pg H' a b1 b2 b3 b4 q:=
 #[by refine xE h.o λd e=>?_;exact#[d,k.at e (by simp;exact hp.Jz e λs r e=>nomatch e)],k.at h.h1 (by simp;exact hp.pH h.h1),k.at h.h2 (by simp;exact hp.pH h.h2),k.at h.h3 (by simp;exact hp.pH h.h3),k.at h.h4 (by simp;exact hp.pH h.h4)]
theorem oh.dR{H H':AH}{p c a:Addr}{b:Int}{q:Hq}{f:xK}(h:oh H a q f)(hp:eF H p c b)(k:Kp [p] H H'):oh H' a q f:=
 #[by refine xE h.o λd e=>?_;exact#[d,k.at e (by simp;exact hp.Jz e λs r e=>nomatch e)],k.at h.n (by simp;exact hp.Jz h.n λs r e=>by revert e;cases f.names<;>simp[aC]),k.at h.l (by simp;exact hp.pH h.l),k.at h.e (by simp;exact hp.pH h.e),k.at h.b (by simp;exact hp.pH h.b),k.at h.d (by simp;exact hp.pH h.d),h.acts.dR hp k,h.cg.dR hp k,k.at h.gd (by simp;exact hp.pH h.gd),k.at h.gm (by simp;exact hp.pH h.gm)]
theorem tD (cc:CC C) {p c:Addr} {b:Int} (hp:eF H p c b) (hb:b<=70000)
 (hq:∀(d:Dr) pk q la nH ga iI ca gK H',BH d->oh H' pk q d.fld->H' la=some (.list nH)->bw H' nH d.lines->H' ga=some (.list iI)->bE H' iI d.goals->H' ca=some (.list gK)->cY H' gK d.codes->eF H' p c (b+200)->Kp [p] H H'->Q (.tup [.ref pk,.ref la,.ref ga,.ref ca]) H'):aj C (n+9) (.ref 853) [.ref p] H Q:=
 sW cc λF hf hn hk=>by
  show aG _ _ _ _ (rP (.val (.ref p)) .undef .undef .undef .undef .undef .undef .undef .undef .undef .undef .undef .undef .undef .undef .undef .undef .undef .undef .undef .undef .undef .undef) _ _;have Np:F.env.scope.names=Nn:=hn;refine aG.cons ?_;refine Ex.qw ?_ (hw:=by unfold swappedStores Z4 W9;rw[hk,hn];kernel_rfl);lk;refine bU cc hp (!aar hb) `e `e λd1 H1 Uo d11 hp1 k1=>?_;refine aB.bL ?_;lk;refine bU cc hp1 (!aas hb) `e `e λd2 H2 Sz Uz hp2 k2=>?_;refine aB.bL ?_;obtain⟨size,es,hs1,JA⟩:∃size:Nat,1+d1=size/\1<=size/\size<=3:=#[(1+d1).toNat,!OR Uo,!OS Uo,!aat d11];obtain⟨count,ec,lU⟩:∃count:Nat,4+d2=count/\(count=4\/count=5):=#[(4+d2).toNat,!aau Sz,!aav Sz Uz];rw[es,ec];have kk:=k1.trans k2;clear k1 k2 hp1 es ec Uo d11 Sz Uz;lk;refine#[sz rfl,?_];refine b_.tup rfl rfl ?_;refine e_.cons (b_.aT (u:=.undef) `get hf c7 ?_);refine e_.cD `set ?_;refine e_.cons (b_.aT (u:=.undef) `get hf c7 ?_);refine e_.cD `set ?_;refine e_.nil ?_;lk;refine#[sz rfl,λt1 ht1=>newL ht1 λH3 j1 e1=>?_];have hp3:=hp2.cQ j1;lk;refine#[t1,_,count,rfl,rfl,e1,!b7 rfl,λt2 ht2=>newL ht2 λH4 j2 e2=>?_];have tW:=hp3.cQ j2;lk;refine#[sz rfl,λt3 ht3=>newL ht3 λH5 j3 e3=>?_];have vK:=tW.cQ j3;lk;refine bU cc vK (!aaw hb) `e `e λd3 H6 d30 d31 Bb k6=>?_;refine aB.bL ?_;obtain⟨others,eo,oK⟩:∃others:Nat,2+d3=others/\(others=2\/others=3):=#[(2+d3).toNat,!aax d30,!aay d30 d31];rw[eo];have e3:=k6.at e3 (by simp;exact(tW.ap ht3).1);have e2:=k6.at (j3.aK e2) (by simp;exact(hp3.ap ht2).1);refine#[t3,_,others,rfl,rfl,e3,!b7 rfl,λt4 ht4=>newL ht4 λH7 j4 e4=>?_];have HQ:=Bb.cQ j4;have e2:=j4.aK e2;refine aB.Ls e2 e4 (by simp;exact aaz) λna hna=>newL hna λH8 j5 e5=>?_;have Jy:=HQ.cQ j5;have np:=HQ.ap hna;have e5:H8 na=some (.list (aC (Ft.take count++Fv.take others))):=by
   rw[e5];rcases lU with rfl|rfl<;>rcases oK with rfl|rfl<;>rfl
  have kk:Kp [p] H H8:=((((((kk.trans j1.any).trans j2.any).trans j3.any).trans k6).trans j4.any).trans j5.any);have nal:(aC (Ft.take count++Fv.take others)).length=count+others:=by
   rcases lU with rfl|rfl<;>rcases oK with rfl|rfl<;>rfl
  clear e1 e2 e3 e4 j1 j2 j3 j4 j5 k6 hp2 hp3 tW vK Bb HQ ht1 ht2 ht3 ht4 hna d30 d31 eo;lk;refine aj.bM e5 (!aaA oK lU nal) ?_;rw[nal];lk;refine aB.fK ?_;rw[show((count+others:Nat):Int) - count=(others:Nat) by exact aaB];refine aG.cD `set ?_;refine aG.cons ?_;refine Ex.qw ?_ (hw:=by exact rfl);lk;refine Em cc Jy (!aaC hb) (!aaD oK) (!aaE oK) λL E A sa ea aa H9 e6 e7 e8 ru r2 Fp k9=>?_;have e5:=k9.at e5 (ne1 (np.1));have kk:=kk.trans k9;clear Jy k9;refine b_.tup rfl rfl ?_;refine e_.cons (b_.aT (u:=.undef) `get hf c7 ?_);refine e_.cD `set ?_;refine e_.cons (b_.aT (u:=.undef) `get hf c7 ?_);refine e_.cD `set ?_;refine e_.cons (b_.aT (u:=.undef) `get hf c7 ?_);refine e_.cD `set ?_;refine e_.nil ?_;have SO:=ru.n2;have ps:=Fp.pH e6;have pe:=Fp.pH e7;have pa:=Fp.pH e8;lk;refine#[sz rfl,λla hla=>newL hla λDR Mu vN=>?_];have vq:=Fp.cQ Mu;have Fx:=Fp.ap hla;have la5:na≠la:=AH.aJ hla e5;have la6:sa≠la:=AH.aJ hla e6;have la7:ea≠la:=AH.aJ hla e7;have la8:aa≠la:=AH.aJ hla e8;have e5:=Mu.aK e5;have e6:=Mu.aK e6;have e7:=Mu.aK e7;have e8:=Mu.aK e8;have laH:=kk.SA hla;have kk:=kk.trans Mu.any;clear Mu Fp;refine aG.cD `set ?_;refine aG.cons (Er cc hf hk vq (!aaF hb) #[hs1,JA] lU e6 #[r2,SO] vN Fx (q9 la6) λnH rows vd vN hrs hrl hrk xj iK=>?_);have e5:=iK.at e5 (ne2 np.1 la5);have e6:=iK.at e6 (ne2 ps la6);have e7:=iK.at e7 (ne2 pe la7);have e8:=iK.at e8 (ne2 pa la8);have kk:Kp [p] H vd:=(kk.hd.trans iK).Ep laH;clear vq iK laH;lk;refine#[sz rfl,λga hga=>newL hga λRM HW eG=>?_];have HT:=xj.cQ HW;have gap:=xj.ap hga;have g5:na≠ga:=AH.aJ hga e5;have g6:sa≠ga:=AH.aJ hga e6;have g7:ea≠ga:=AH.aJ hga e7;have g8:aa≠ga:=AH.aJ hga e8;have gL:la≠ga:=AH.aJ hga vN;have gR:∀a kvs,vd a=some (.dI kvs)->a≠ga:=λa kvs e=>AH.aJ hga e;have gaH:=kk.SA hga;have kk:=kk.trans HW.any;refine aG.cD `set ?_;refine aG.cons (Es cc hf hk Np HT (!aaG hb) #[hs1,JA] oK eG gap λiI gs Fq eG hgs sI jx HU oH=>?_);have e5:=oH.at (HW.aK e5) (ne2 np.1 g5);have e6:=oH.at (HW.aK e6) (ne2 ps g6);have e7:=oH.at (HW.aK e7) (ne2 pe g7);have e8:=oH.at (HW.aK e8) (ne2 pa g8);have vN:=oH.at (HW.aK vN) (ne2 Fx.1 gL);have hrs:=hrs.rY (HW.any.trans oH) λa kvs e=>ne2 (xj.CO e) (gR a kvs e);have kk:Kp [p] H Fq:=(kk.hd.trans oH).Ep gaH;clear xj HT oH HW gaH gR;refine aG.cons (BJ cc hf hk Np hs1 eG hgs (!KI oK sI) jx λua H14 eU Aq=>?_);refine aG.cons (Et cc hf hk Np #[hs1,JA] (Aq.aK eG) (hgs.keep Aq) (!KI oK sI) jx λma H15 eM Sv=>?_);have Ez:=Aq.trans Sv;have eG:=Ez.aK eG;have hgs:=hgs.keep Ez;have eU:=Sv.aK eU;have e5:=Ez.aK e5;have e6:=Ez.aK e6;have e7:=Ez.aK e7;have e8:=Ez.aK e8;have vN:=Ez.aK vN;have hrs:=hrs.keep Ez;have Mw:=HU.cQ Ez;have kk:=kk.trans Ez.any;clear Aq Sv Ez HU;lk;refine#[sz rfl,λra zj=>newL zj λH16 SP eR=>?_];have rG:ga≠ra:=AH.aJ zj eG;have rU:ua≠ra:=AH.aJ zj eU;have rap:=Mw.ap zj;have out:∀{a:Addr} {o:AO},H15 a=some o->a∉[ra]:=λe=>ne1 (AH.aJ zj e);have raH:=kk.SA zj;refine aG.cD `set ?_;refine aG.cons (Ew (y9:=.undef) cc hf hk Np #[hs1,JA] (SP.aK eG) (hgs.keep SP) sI (!KJ oK) jx (SP.aK eU) eR #[q9 rG,q9 rU] (λa r e hne z=>by rw[z,eR] at e;cases r<;>simp[ak] at e hne) λEu UG eR hrr k17=>?_);have sJ:Kp [ra] H15 UG:=SP.any.trans k17;have eG:=sJ.at eG (out eG);have hgs:bE UG iI gs:=(#[hgs.1,λi r e=>by refine bz (hgs.2 i r e) λa h1 h2=>?_;exact#[a,h1,sJ.at h2 (out h2)]]:bE UG iI gs);have eU:=sJ.at eU (out eU);have eM:=sJ.at eM (out eM);have e5:=sJ.at e5 (out e5);have e6:=sJ.at e6 (out e6);have e7:=sJ.at e7 (out e7);have e8:=sJ.at e8 (out e8);have vN:=sJ.at vN (out vN);have hrs:=hrs.rY sJ λa kvs e=>out e;have zm:=Mw.keep sJ (ne1 (q9 rap.1)) (ne1 (q9 rap.2));have kk:Kp [p] H UG:=(kk.hd.trans (sJ.tl (.head _))).Ep raH;clear out k17 sJ SP Mw raH zj;lk;refine#[sz rfl,?_];refine aG.cD `set ?_;refine aG.cons (Ey cc hf hk Np zm (!aaH hb) #[hs1,JA] e6 #[r2,SO] λqa rl H18 eQ hql hqr SQ Ax=>?_);have eG:=Ax.at eG (ne1 (gap.1));have hgs:=hgs.dR zm Ax;have eU:=Ax.at eU (ne1 (zm.pH eU));have eM:=Ax.at eM (ne1 (zm.pH eM));have e5:=Ax.at e5 (ne1 (np.1));have e6:=Ax.at e6 (ne1 (ps));have e7:=Ax.at e7 (ne1 (pe));have e8:=Ax.at e8 (ne1 (pa));have vN:=Ax.at vN (ne1 (Fx.1));have eR:=Ax.at eR (ne1 (rap.1));have hrs:=hrs.dR zm Ax;have hrr:=hrr.dR zm Ax;have kk:=kk.trans Ax;clear zm Ax;lk;refine eu cc vN hrs #[!OT hrl JA,λr hr=>(hrk r hr).ok] λxa x1 Ug x3 x4 H19 PA UH=>?_;lk;refine eu cc (UH.aK eR) (hrr.keep UH) #[by rw[b9];exact KI oK sI,λr hr=>by
   obtain⟨one,h1,rfl⟩:=m5.mp hr;exact(nv JA (jx one h1)).1] λya y1 y2 y3 y4 H20 PG k20=>?_
  have HX:=UH.trans k20;lk;refine lR cc (f:=Dr.fld #[count,Ft.take count++Fv.take others,L,E,A,rl,rows,gs,[]]) (HX.aK e5) (HX.aK e6) (HX.aK e7) (HX.aK e8) (HX.aK eQ) (PA.keep k20) PG (HX.aK eU) (HX.aK eM) (by show(0:Int)<=count;exact bN) (by
   show(count:Int)<=(Ft.take count++Fv.take others).length;rcases lU with rfl|rfl<;>rcases oK with rfl|rfl<;>decide) (by
   show(Ft.take count++Fv.take others).length<=1000;rcases lU with rfl|rfl<;>rcases oK with rfl|rfl<;>decide) λpk nu H21 PT k21=>?_
  have JB:=HX.trans k21;have eG:=JB.aK eG;have hgs:=hgs.keep JB;have vN:=JB.aK vN;have hrs:=hrs.keep JB;have e6:=JB.aK e6;have HY:=SQ.cQ JB;have kk:=kk.trans JB.any;clear UH k20 k21 HX JB PA PG eR hrr eU eM e5 e7 e8 SQ eQ;lk;refine Ev.bJ (λu=>[(".0",.undef),("side",u),("_law_code",.glob),("pen",.val (.ref p))]) (aP.of Np rfl `d `d `k) `k (λZ Z=>`set) (λZ=>`get) (.inl `k) ?_;refine aZ.list ?_ bu.name;lk;refine#[sa,_,rfl,e6,by rw[az];exact aaI SO,λk ys H'=>Cc λMx=>TS (cY H' ys Mx) (Mx.length=k) ((∀c∈Mx,DC c)) (eF H' p c (b+150+4*k)) (Kp [p] H21 H'),#[[],trivial,rfl,(λc h=>nomatch h),HY.mono (!aaJ),Kp.refl],?_,?_,?_]
  ·rintro k ys H' _ ⟨_,_,_,_,_,k1⟩;exact k1.at e6 (ne1 (ps))
  ·rintro F' cf k v ys H' hv ⟨Mx,hcd,hcl,hcD,hp2,k2⟩;have hk4:k<4:=by have:=(c9.mp hv).1;rw[az] at this;exact aaK this SO
   refine kC.nil ?_;lk;refine HS cc hp2 (!aaL hb hk4) λv cd H3 hv hdc hp3 k3=>?_;exact#[Mx++[cd],(cY.dR hp2 k3 hcd).push hv,by simp[hcl],λx hx=>by
    rcases s6.mp hx with hx|hx
    ·exact hcD x hx
    ·rw[j0.mp hx];exact hdc,hp3.mono (!aaM),k2.trans k3]
  ·rintro ca gK H' ⟨Mx,hcd,hcl,hcD,hp2,k2⟩ hca;rw[az] at hcl hp2;have eG:=k2.at eG (ne1 (gap.1));have vN:=k2.at vN (ne1 (Fx.1));have hgs:=hgs.dR HY k2;have hrs:=hrs.dR HY k2;have PT:=PT.dR HY k2;have kc:=Kp.new (S:=[]) (o:=.list gK) hca;have ec:(H'.set ca (.list gK)) ca=_:=AH.aq _ _ _;generalize H'.set ca (.list gK)=H22 at kc ec⊢;lk;refine#[sz rfl,?_];refine hq #[count,Ft.take count++Fv.take others,L,E,A,rl,rows,gs,Mx] pk _ la nH ga iI ca gK H22 ?_ (PT.keep kc) (kc.aK vN) (hrs.keep kc) (kc.aK eG) (hgs.keep kc) ec (hcd.keep kc) ((hp2.cQ kc).mono (!aaN SO)) ((kk.trans k2).trans kc.any);exact{s:=by show 1<=rows.length/\rows.length<=3;exact aaO hs1 hrl JA,c:=by show(count:Int)=4\/(count:Int)=5;exact aaP lU,o:=by show gs.length=2\/gs.length=3;exact aaQ oK sI,nm:=by show Ft.take count++Fv.take others=Ft.take (count:Int).toNat++Fv.take gs.length;rw[sI,j7],ru:=by show jd count gs.length L E A;rw[sI];exact ru,r2:=r2,df:=#[by show rl.length=rows.length;exact OU hql hrl,hqr],li:=λr hr=>by show cP rows.length count L.length r;rw[hrl];exact hrk r hr,go:=λr hr=>by show fQ rows.length r;rw[hrl];exact jx r hr,cd:=#[hcl,hcD]}
end
section
noncomputable def rZ:Code:=some [("push",.int 77),("set",.none)]
def SR(c:Code):Prop:=DC c\/c=rZ
noncomputable def nA(l:List Str):List Str:=l.dropLast++[(l.getLastD "")++"x"]
noncomputable def lA(count:Int)(others:Nat):List Str:=Ft.take count.toNat++Fv.take others
structure vt(d:Dr):Prop where
 s:1<=d.lines.length/\d.lines.length<=3
 c:d.count=4\/d.count=5
 o:d.goals.length=2\/d.goals.length=3
 nm:d.names=lA d.count d.goals.length\/d.names=nA (lA d.count d.goals.length)
 r2:2<=d.aN.length/\d.aN.length<=4
 e1:d.aI.length=d.aN.length
 a1:d.aQ.length=d.aN.length
 l0:aD d.aN 0=d.count
 e0:aD d.aI 0=2
 l:∀i:Int,1<=i->i<d.aN.length->d.count+1<=aD d.aN i/\aD d.aN i<=d.count+d.goals.length - 1
 e:∀i:Int,0<=i->i<d.aN.length->0<=aD d.aI i/\aD d.aI i<=13
 a:∀i:Int,0<=i->i<d.aN.length->0<=aD d.aQ i/\aD d.aQ i<=3/\(aD d.aQ i≠0->aD d.aI i=0)
 df:d.rules.length=d.lines.length/\∀i∈d.rules,0<=i/\i<d.aN.length
 li:∀r∈d.lines,cP d.lines.length d.count d.aN.length r
 go:∀one∈d.goals,fQ d.lines.length one
 cd:d.codes.length=d.aN.length/\∀c∈d.codes,SR c
theorem BH.Nq(h:BH d):vt d:=
 #[h.s,h.c,h.o,.inl h.nm,#[h.r2,h.ru.n2],h.ru.e1,h.ru.a1,h.ru.l0,h.ru.e0,h.ru.l,λi a b=>#[(h.ru.e i a b).1,by have:=(h.ru.e i a b).2;exact aaR this],λi a b=>#[(h.ru.a i a b).1,by have:=(h.ru.a i a b).2.1;exact aaS this,(h.ru.a i a b).2.2],h.df,h.li,h.go,h.cd.1,λc hc=>.inl (h.cd.2 c hc)]
structure agi(count:Int)(others:Nat)(l:List Str):Prop where
 ln:l.length=count.toNat+others
 ch:(l.all λy=>y.cps.toList.all λc=>decide (c=10\/(32<=c/\c<=126)))=true
 nd:l.Nodup
 t3:l.take 3=firsts
 acc:l[count.toNat]? =some "$accept"
 sh:(fq (aC l)).length<=200
theorem JC(hc:count=4\/count=5)(ho:others=2\/others=3)(h:l=lA count others\/l=nA (lA count others)):agi count others l:=by
 rcases hc with rfl|rfl<;>rcases ho with rfl|rfl<;>rcases h with rfl|rfl<;>exact#[`d,`d,`d,`d,`d,`d]
theorem BK(h:i.natAbs<10 ^ 10):(num i).length<=11:=by
 rcases K6 0 i with h0|h0
 ·obtain⟨m,rfl⟩:∃m:Nat,i=m:=#[i.toNat,!lX h0];have:=iU (m:=m) (!JX h);exact aaT this
 ·by_cases hz:i=0
  ·subst hz;decide+kernel
  ·obtain⟨m,rfl,hm⟩:∃m:Nat,i=-(m:Int)/\0<m:=#[(-i).toNat,!vR h0,!vU h0 hz];rw[fW hm];have:=iU (m:=m) (!JV h);simp;exact aaU this
theorem EA(h:∀i∈ns,i.natAbs<10 ^ 10):(fq (ak ns)).length<=12*ns.length:=by
 induction ns with
 |nil=>exact r7 _
 |cons a l ih=>
  have h1:=BK (h a (!.head _));have h2:=ih λi hi=>h i (!.tail _ `a);simp only[ak,q7,jg,RD,x9,lG] at h2⊢;exact aaV h1 h2
theorem dM(h:∀i∈ns,i.natAbs<10 ^ 10)(hl:ns.length<=1000):pn ns:=#[h,by have:=EA h;exact aaW this hl]
theorem kH {code:List (Str×AV)} {D:List Int} (dl:D.length=code.length+1) (sm:code.length<=8) (d0:aD D 0=0) (dn:aD D code.length=0) (ge:∀x∈D,0<=x)
 (it:∀i,i<code.length->∃op w,code[i]? =some (op,w)/\vM code.length op w/\(rL op).1<=aD D i/\∀g∈dK op w i,∃j:Int,g=.int j/\i<j/\j<=code.length/\aD D j=aD D i - (rL op).1+(rL op).2):oB code D where
 dl:=dl
 sm:=sm
 d0:=d0
 dn:=dn
 ge:=λi h0 h1=>by
  unfold aD;rw[c8,b8 (!aaX h1 dl)];exact ge _ (m6 _)
 it:=λi op w e=>by
  refine lC (it i (c9.mp e).1) λop' w' e' h=>?_;rw[e] at e';cases e';exact h
theorem HZ:rL "arg"=(0,1)/\rL "push"=(0,1)/\rL "get"=(0,1)/\rL "set"=(1,0)/\rL "put"=(1,0)/\rL "unless"=(1,0)/\rL "two"=(2,1)/\rL "one"=(1,1)/\rL "word"=(0,0):=by decide+kernel
theorem BL(h:gv op ["jump","unless","when"]=false):dK op w i=[.int (i+1)]:=by unfold dK;rw[h];rfl
theorem bX{op:Str}{w:AV}{i:Nat}{n:Nat}{D:List Int}{t u:Int}(h:gv op ["jump","unless","when"]=false)(hi:i<n)(hd:aD D ((i:Int)+1)=aD D i - t+u):∀g∈dK op w i,∃j:Int,g=.int j/\i<j/\j<=n/\aD D j=aD D i - t+u:=λg hg=>by
 rw[BL h] at hg;rw[j0.mp hg];exact#[_,rfl,!aaY,!aaZ hi,hd]
theorem ur{s:Str}(h:(s.cps.toList.all λc=>decide (c=10\/(32<=c/\c<=126)))=true):∀ch∈s.cps.toList,Ab ch:=λc hc=>by
 have:=n9.mp h c hc;simpa [Ab] using this
theorem zo{c:Code}{code:List (Str×AV)}(h:SR c)(e:c=some code):(∃D,oB code D)/\pR 1 (cS code):=by
 refine AP HZ λt1 t2 t3 t4 t5 t6 t7 t8 t9=>?_;have two:∀(op:Str) (w:AV),vM 2 op w->rL op=(0,1)->gv op ["jump","unless","when"]=false->Pu 0 w->(∀ch∈op.cps.toList,Ab ch)->(∃D,oB [(op,w),("set",AV.none)] D)/\pR 1 (cS [(op,w),("set",AV.none)]):=λop w hi ht hg hw ho=>
  #[#[[0,1,0],kH rfl (!b7 rfl) rfl rfl `e λi hi2=>by
   match i,hi2 with
   |0,_=>exact#[_,_,rfl,hi,by rw[ht];decide,by rw[ht];exact bX hg `a rfl]
   |1,_=>exact#[_,_,rfl,.set,by rw[t4];decide,by rw[t4];exact bX `d `a rfl]
   |i+2,h=>simp only[x9,N1] at h;omega],#[#[ho,hw,trivial],#[(ur `d),trivial,trivial],trivial]]
 rcases h with h|h
 ·cases h with
  |none=>exact gc e
  |nil=>cases e;exact#[#[[0],kH rfl (!s8 _) rfl rfl `e λi hi=>by simp at hi],trivial]
  |arg i h=>cases e;exact two _ _ (.arg i h.1) t1 `d (by show i.natAbs<10 ^ 10;exact adz h.1 h.2) (ur `d)
  |push w h=>
   cases e;refine two _ _ (.pushS w) t2 `d ?_ (ur `d);have:(rX.all λw=>w.cps.toList.all λc=>decide (c=10\/(32<=c/\c<=126)))=true:=by decide+kernel
   have:=n9.mp this w h;exact ur this
  |get i h=>
   cases e;refine#[#[[0,1,0,1,0],kH rfl (!b7 rfl) rfl rfl `e λj hj=>?_],?_]
   ·match j,hj with
    |0,_=>exact#[_,_,rfl,.get _ `d `d,by rw[t3];decide,by rw[t3];exact bX `d `a rfl]
    |1,_=>
     refine#[_,_,rfl,.unl 4 `e (by simp),by rw[t6];decide,?_];rw[t6];intro g hg;have eg:dK "unless" (.int 4) ((1:Nat):Int)=[.int 2,.int 4]:=by unfold dK;rw[show gv "unless" ["jump","unless","when"]=true by decide+kernel];rfl
     rw[eg] at hg;rcases l9.mp hg with rfl|hg
     ·exact#[2,rfl,`e,by simp,!rfl]
     ·rw[j0.mp hg];exact#[4,rfl,`e,by simp,!rfl]
    |2,_=>exact#[_,_,rfl,.DW i,by rw[t2];decide,by rw[t2];exact bX `d `a rfl]
    |3,_=>exact#[_,_,rfl,.put _ `d `d,by rw[t5];decide,by rw[t5];exact bX `d `a rfl]
    |j+4,h=>simp only[x9,N1] at h;omega
   ·have hn:∀ch∈("n":Str).cps.toList,Ab ch:=ur `d;exact#[#[(ur `d),hn,trivial],#[(ur `d),(by exact b7 rfl:(4:Int).natAbs<10 ^ 10),trivial],#[(ur (s:=bI "push") `d),(by show i.natAbs<10 ^ 10;exact adA h.1 h.2),trivial],#[(ur `d),hn,trivial],trivial]
  |two=>
   cases e;refine#[#[[0,1,2,1,1,0,0],kH rfl (!b7 rfl) rfl rfl `e λj hj=>?_],?_]
   ·match j,hj with
    |0,_=>exact#[_,_,rfl,.arg 1 `e,by rw[t1];decide,by rw[t1];exact bX `d `a rfl]
    |1,_=>exact#[_,_,rfl,.arg 3 `e,by rw[t1];decide,by rw[t1];exact bX `d `a rfl]
    |2,_=>exact#[_,_,rfl,.two,by rw[t7];decide,by rw[t7];exact bX `d `a rfl]
    |3,_=>exact#[_,_,rfl,.one,by rw[t8];decide,by rw[t8];exact bX `d `a rfl]
    |4,_=>exact#[_,_,rfl,.set,by rw[t4];decide,by rw[t4];exact bX `d `a rfl]
    |5,_=>exact#[_,_,rfl,.word,by rw[t9];decide,by rw[t9];exact bX `d `a rfl]
    |j+6,h=>simp only[x9,N1] at h;omega
   ·exact#[#[(ur `d),(by exact b7 rfl:(1:Int).natAbs<10 ^ 10),trivial],#[(ur `d),(by exact b7 rfl:(3:Int).natAbs<10 ^ 10),trivial],#[(ur `d),(ur `d),trivial],#[(ur `d),(ur `d),trivial],#[(ur `d),trivial,trivial],#[(ur `d),(ur `d),trivial],trivial]
 ·rw[h] at e;cases e;exact two _ _ (.DW 77) t2 `d (by show(77:Int).natAbs<10 ^ 10;decide) (ur `d)
end
section
noncomputable def vL:Nat->List (List Int)
 |0=>[[]]
 |n+1=>(vL n).flatMap λl=>[-1::l,1::l,2::l]
theorem EB(hl:l.length=n)(h:∀x∈l,x=-1\/x=1\/x=2):l∈vL n:=by
 induction n generalizing l with
 |zero=>cases l with
  |nil=>exact .head _
  |cons a l=>simp at hl
 |succ n ih=>cases l with
  |nil=>simp at hl
  |cons a l=>
   refine R2.mpr #[l,ih (by simpa using hl) λx hx=>h x (!.tail _ `a),?_];rcases h a (!.head _) with rfl|rfl|rfl<;>simp
noncomputable def mw(k:Nat)(one:List Int):Bool:=decide ((cy one=0↔cH one=-1)/\(cy one).fdiv (2 ^ k)=0/\cH one≠0/\0<=cy one/\cy one<=7)&&(bW one).all λq=>decide (0<=q.1/\iE (cy one) q.1≠0/\q.2≠cH one/\1<=q.2/\q.2∈one)
theorem H_:(vL 1).all (mw 1)=true/\(vL 2).all (mw 2)=true/\(vL 3).all (mw 3)=true:=by decide+kernel
structure SS(size:Nat)(one:List Int):Prop where
 m:cy one=0↔cH one=-1
 f:(cy one).fdiv (2 ^ size)=0
 z:cH one≠0
 b:0<=cy one/\cy one<=7
 r:∀q∈bW one,0<=q.1/\iE (cy one) q.1≠0/\q.2≠cH one/\1<=q.2/\q.2<=(size:Int) - 1
 x:-1<=cH one/\cH one<=(size:Int) - 1
theorem JD(hs:1<=size/\size<=3)(h:fQ size one):SS size one:=by
 have hl:=h.ln;have hv:one∈vL size:=EB hl λx hx=>by have:=h.v x hx;exact OV hs this
 have hg:mw size one=true:=by
  refine kh H_ λg1 g2 g3=>?_;have:size=1\/size=2\/size=3:=by exact OW hs
  rcases this with e|e|e<;>rw[e] at hv⊢
  ·exact n9.mp g1 _ hv
  ·exact n9.mp g2 _ hv
  ·exact n9.mp g3 _ hv
 unfold mw at hg;rw[D0] at hg;refine xA hg λh1 h2=>?_;refine zC (of_decide_eq_true h1) λa1 a2 a3 a4 a5=>?_;refine#[a1,a2,a3,#[a4,a5],λq hq=>?_,?_]
 ·refine zC (of_decide_eq_true (n9.mp h2 q hq)) λb1 b2 b3 b4 b5=>?_;have:=h.v _ b5;exact#[b1,b2,b3,b4,!aa0 this]
 ·have:=h.v _ (Aw (by exact aa1 hs hl:0<one.length)).1;exact aa2 this
theorem vv{l:List Int}{P:Int->Prop}(h:∀i:Int,0<=i->i<l.length->P (aD l i)):∀v∈l,P v:=λv hv=>by
 obtain⟨c,h0,h1,rfl⟩:=nq hv;exact h c h0 h1
noncomputable def My:List Code:=b6::some []::some [(bI "arg",.int 1),(bI "arg",.int 3),(bI "two",.str (bI "+")),(bI "one",.str (bI "-")),(bI "set",.none),(bI "word",.str (bI "yyerrok"))]::(([1,2,3]:List Int).map (λi=>some [(bI "arg",AV.int i),(bI "set",AV.none)])++(rX.map (λw=>some [(bI "push",AV.str w),(bI "set",AV.none)])++([-1,0,1]:List Int).map (λi=>some [(bI "get",AV.str (bI "n")),(bI "unless",AV.int 4),(bI "push",AV.int i),(bI "put",AV.str (bI "n"))])))
noncomputable def SV:List Code:=rZ::My
theorem EC(h:DC c):c∈My:=by
 cases h with
 |none=>exact .head _
 |nil=>exact .tail _ (.head _)
 |arg i h=>exact .tail _ (.tail _ (.tail _ (B0 _ (C6 (by rcases aa3 h with rfl|rfl|rfl<;>decide)))))
 |push w h=>exact .tail _ (.tail _ (.tail _ (u5 _ (B0 _ (C6 h)))))
 |get i h=>exact .tail _ (.tail _ (.tail _ (u5 _ (u5 _ (C6 (by rcases aa4 h with rfl|rfl|rfl<;>decide))))))
 |two=>exact .tail _ (.tail _ (.head _))
theorem Ia(h:SR c):c∈SV:=h.elim (λh=>.tail _ (EC h)) λh=>h▸.head _
theorem ED:SV.all (λc=>decide ((sh (kT c)).length<=1000))=true:=by decide+kernel
theorem Ay:∀{cs:List Code},(∀c∈cs,SR c)->(fq (cs.map kT)).length<=1001*cs.length
 |[],_=>by exact r7 _
 |c::cs,h=>by
  have h1:=of_decide_eq_true (n9.mp ED c (Ia (h c (!.head _))));have h2:=Ay λc hc=>h c (s7 _ hc);simp only[q7,jg,x9,lG] at h2⊢;exact aa5 h1 h2
theorem Az:∀{cs:List Code},(∀c∈cs,SR c)->pR 2 (cs.map kT)
 |[],_=>trivial
 |c::cs,h=>#[by
  cases e:c with
  |none=>exact trivial
  |some code=>exact(zo (h c (!.head _)) e).2,Az λc hc=>h c (s7 _ hc)]
theorem Ib(hw:(bI w).cps.toList.length<=20)(hl:us.length<10 ^ 10)(h:(fq us).length<=50000):(nl (jo w us)).length<=50040:=by
 have:=iU (m:=us.length) hl;simp only[nl,jo,jP,lG,x9,N1];exact aa6 hw this h
theorem EE:∀us:List AV,us.length<=(fq us).length
 |[]=>by exact r7 _
 |v::us=>by have:=EE us;simp only[jg,x9,lG];exact aa7 this
theorem bK{w:String}{us:List AV}(hw:(bI w).cps.toList.length<=20)(h:(fq us).length<=50000):(nl (jo w us)).length<=50040:=Ib hw (by have:=EE us;exact adB this h) h
theorem uu(n:(fq (aC f.names)).length<=50000)(c:pn [f.count])(l:pn f.aN)(e:pn f.aI)(b:pn f.aQ)(d:pn f.defaults)(acts:L_ f.acts)(gd:pn f.fF)(gm:pn f.bH)(cg:L_ f.cg)(k2:(fq tZ).length<=50000):(jQ f tZ).length<=950000:=by
 have e0:∀ls:List Str,(ls.flatMap λy=>y.cps.toList++[10])=ls.flatMap nl:=λZ=>rfl;have h0:(nl "grammarmill parser 1").length<=50040:=by decide+kernel
 have h1:=bK (w:="names") `d n;have h2:(nl (jo "terminals" [.int f.count])).length<=50040:=bK `d c.2;have h3:=bK (w:="lefts") `d l.2;have h4:=bK (w:="lengths") `d e.2;have h5:=bK (w:="befores") `d b.2;have h6:=bK (w:="defaults") `d d.2;have h7:=bK (w:=""++"bases") `d acts.1.2;have h8:=bK (w:=""++"table") `d acts.2.1.2;have h9:=bK (w:=""++"check") `d acts.2.2.1.2;have h10:=bK (w:=""++"owners") `d acts.2.2.2.2;have h11:=bK (w:="goto_defaults") `d gd.2;have h12:=bK (w:="goto_masks") `d gm.2;have h13:=bK (w:="goto_"++"bases") `d cg.1.2;have h14:=bK (w:="goto_"++"table") `d cg.2.1.2;have h15:=bK (w:="goto_"++"check") `d cg.2.2.1.2;have h16:=bK (w:="goto_"++"owners") `d cg.2.2.2.2;have h17:=bK (w:="codes") `d k2;have h18:(num ((ia f tZ).length+1:Nat)).length<=10:=iU (by simp[ia,ou,cL]);have h19:("end ":Str).cps.toList.length<=5:=by decide+kernel
 unfold jQ o_;rw[e0,lG,lG,lG];generalize hz:(num ((ia f tZ).length+1:Nat)).length=z at h18;rw[show((ia f tZ).flatMap nl).length=(nl "grammarmill parser 1").length+(nl (jo "names" (aC f.names))).length+(nl (jo "terminals" [.int f.count])).length+(nl (jo "lefts" (ak f.aN))).length+(nl (jo "lengths" (ak f.aI))).length+(nl (jo "befores" (ak f.aQ))).length+(nl (jo "defaults" (ak f.defaults))).length+(nl (jo (""++"bases") (ak f.acts.bases))).length+(nl (jo (""++"table") (ak f.acts.table))).length+(nl (jo (""++"check") (ak f.acts.check))).length+(nl (jo (""++"owners") (ak f.acts.owners))).length+(nl (jo "goto_defaults" (ak f.fF))).length+(nl (jo "goto_masks" (ak f.bH))).length+(nl (jo ("goto_"++"bases") (ak f.cg.bases))).length+(nl (jo ("goto_"++"table") (ak f.cg.table))).length+(nl (jo ("goto_"++"check") (ak f.cg.check))).length+(nl (jo ("goto_"++"owners") (ak f.cg.owners))).length+(nl (jo "codes" tZ)).length by
  unfold ia ou cL;simp only[S2,C3,List.flatMap_nil,lG,N1];exact aa8]
 simp only[x9,N1];exact acI h0 h1 h2 h3 h4 h5 h6 h7 h8 h9 h10 h11 h12 h13 h14 h15 h16 h17 h19 h18
theorem vt.good{d:Dr}(h:vt d):Jp d.fld d.codes:=by
 obtain⟨⟨s1,s3⟩,hc,ho,hnm,⟨r2,r4⟩,e1,a1,l0,e0,hl,he,ha,⟨JE,df2⟩,li,go,HF,UI⟩:=h;obtain⟨AA,nch,nnd,nt3,agj,nsh⟩:=JC hc ho hnm;have SW:∀y∈d.names,∀ch∈y.cps.toList,Ab ch:=λy hy=>ur (n9.mp nch y hy);have cN:(d.count.toNat:Int)=d.count:=by exact OX hc
 have SX:c_ d.lines:=#[s3,λr hr=>(li r hr).ok];have E:=kF SX;have SY:c_ (d.goals.map bW):=#[by rw[b9];exact KJ ho,λr hr=>by
  obtain⟨one,h1,rfl⟩:=m5.mp hr;exact(nv s3 (go one h1)).1]
 have G:=kF SY;refine pG (xh SX E) λva1 va2 va3 va4=>?_;refine pG (xh SY G) λvg1 vg2 vg3 vg4=>?_;have ga:=rW SX E (cols:=d.count) λr hr c hc=>(li r hr).lt c hc;have gg:=rW SY G (cols:=d.lines.length) λr hr c hc=>by
  obtain⟨one,h1,rfl⟩:=m5.mp hr;exact(nv s3 (go one h1)).2 c hc
 have gf:=λ(one:List Int) (h1:one∈d.goals)=>JD #[s1,s3] (go one h1);have lr:∀i∈d.aN,d.count<=i/\i<=(d.names.length:Int) - 1:=vv (P:=λi=>d.count<=i/\i<=(d.names.length:Int) - 1) λi i0 i1=>by
  by_cases z:i=0
  ·subst z;rw[l0];exact aa9 ho AA
  ·have:=hl i (!aa_ i0 z) i1;exact aba this AA
 have er:∀i∈d.aI,0<=i/\i<=13:=vv (P:=λi=>0<=i/\i<=13) λi i0 i1=>he i i0 (!FO i1 e1);have br:∀i∈d.aQ,0<=i/\i<=3:=vv (P:=λi=>0<=i/\i<=3) λi i0 i1=>by have:=ha i i0 (!FO i1 a1);exact abb this
 have ol:=dD d.lines;have ogl:=dD (d.goals.map bW);have ta:∀i∈(cK d.lines).table,i.natAbs<=1048576:=λi hi=>by
  rcases va1 i hi with rfl|⟨r,hr,c,hc,rfl⟩
  ·exact s8 _
  ·have:=(li r hr).act c hc;unfold jV at this;exact abd this s3 r4
 have tg:∀i∈(cK (d.goals.map bW)).table,0<=i/\i<=(d.lines.length:Int) - 1:=λi hi=>by
  rcases vg1 i hi with rfl|⟨r,hr,c,hc,rfl⟩
  ·exact#[R1 _,(acJ s1).2]
  ·obtain⟨one,h1,rfl⟩:=m5.mp hr;obtain⟨q,hq,rfl⟩:=m5.mp hc;have:=vh hc;obtain⟨b1,b2,b3,b4,b5⟩:=(gf one h1).r (q.1,pT (bW one) q.1) (by
    unfold pT;cases z:(bW one).find? (λp=>p.1=q.1) with
    |none=>have:=P8.mp z q hq;simp at this
    |some x=>
     have h2:=R5 z;have h3:=List.find?_some z;simp at h3;rw[<-h3];exact h2)
   simp only at b4 b5;exact abe b4 b5
 have JF:∀{rs:List Row},c_ rs->BE rs (cK rs) (cj rs (bC rs).length).1->(cK rs).table.length<=100/\(cK rs).check.length<=30/\(cK rs).bases.length<=3/\(cK rs).owners.length<=3:=λ{rs} ok P=>by
  have h1:=P.kl;have h2:=P.bl;have h3:=P.own;have h4:=dD rs;have h5:=ok.ln;have h6:(cK rs).table.length=(cK rs).check.length:=(rW ok P (cols:=10) λr hr c hc=>((ok.ok r hr).ps c hc).2).sz.tc;rw[h3];exact abf h6 h1 h2 h4 h5
 refine pG (JF SX E) λza1 za2 za3 za4=>?_;refine pG (JF SY G) λzg1 zg2 zg3 zg4=>?_;have ok1:pn [d.count]:=dM (λi hi=>by rw[j0.mp hi];exact adC hc) (!n8 _);have ok2:pn d.aN:=dM (λi hi=>by have:=lr i hi;exact adD hc ho this.2 this.1 AA) (!OY r4);have ok3:pn d.aI:=dM (λi hi=>by have:=er i hi;exact adE this.1 this.2) (!OZ e1 r4);have ok4:pn d.aQ:=dM (λi hi=>by have:=br i hi;exact uB this.1 this.2) (!OZ a1 r4);have ok5:pn d.rules:=dM (λi hi=>by have:=df2 i hi;exact adF this.1 this.2 r4) (!Gj JE s3);have ok6:L_ (cK d.lines):=#[dM (λi hi=>by have:=va3 i hi;exact Gm this) (!Cr za3),dM (λi hi=>by have:=ta i hi;exact PE this) (!Kq za1),dM (λi hi=>by have:=va2 i hi;exact uB this.1 this.2) (!O_ za2),dM (λi hi=>by have:=va4 i hi;exact uB this.1 this.2) (!Cr za4)];have ok7:L_ (cK (d.goals.map bW)):=#[dM (λi hi=>by have:=vg3 i hi;exact Gm this) (!Cr zg3),dM (λi hi=>by have:=tg i hi;exact PI this.1 this.2 s3) (!Kq zg1),dM (λi hi=>by have:=vg2 i hi;exact uB this.1 this.2) (!O_ zg2),dM (λi hi=>by have:=vg4 i hi;exact uB this.1 this.2) (!Cr zg4)];have ok8:pn (d.goals.map cH):=dM (λi hi=>by
  obtain⟨one,h1,rfl⟩:=m5.mp hi;have:=(gf one h1).x;exact adG this.1 this.2 s3) (by rw[b9];exact Pa ho)
 have ok9:pn (d.goals.map cy):=dM (λi hi=>by
  obtain⟨one,h1,rfl⟩:=m5.mp hi;have:=(gf one h1).b;exact adH this.1 this.2) (by rw[b9];exact Pa ho)
 have okc:=Ay UI;refine#[#[SW,nnd,nt3,by show 3<=d.count;exact abg hc,by show d.count<=(d.names.length:Int) - 1;exact abh ho AA,by show d.names.length<=1000;exact abi hc ho AA,agj,λz=>by change d.aN=[] at z;rw[z] at r2;simp at r2,by show d.aN.length<=1000;exact OY r4,l0,lr,λz=>?_,e1,a1,λi hi=>by have:=er i hi;exact adI this.1 this.2,λi hi=>by have:=br i hi;exact adJ this.1 this.2,e0,λi hi hn=>(ha i (!bN) (by show(i:Int)<d.aN.length;exact P0.mpr hi)).2.2 hn],#[SW,by show(fq (aC d.names)).length<=_;exact Pb nsh,ok1,ok2,ok3,ok4,ok5,ok6,ok8,ok9,ok7,Az UI,!Pc okc HF r4,g9 (uu (by show(fq (aC d.names)).length<=_;exact Pb nsh) ok1 ok2 ok3 ok4 ok5 ok6 ok8 ok9 ok7 (!Pc okc HF r4)) (!b7 rfl)],λi hi=>by have:=df2 i hi;show 0<=i/\i<=(d.aN.length:Int) - 1;exact abj this,by show 0<d.rules.length/\d.rules.length<=1000;exact abk s1 JE s3,by rw[show d.fld.defaults.length=d.lines.length from JE];exact ga,#[λi hi=>by have:=va3 i hi;exact Gm this,λi hi=>by have:=ta i hi;exact PE this,λi hi=>by have:=va2 i hi;exact uB this.1 this.2,λi hi=>by have:=va4 i hi;exact uB this.1 this.2,λi hi=>#[λl e=>(nomatch e),λl e=>(nomatch e)]],?_,?_,?_,?_,?_,?_,?_,HF,λcode hcode=>#[(zo (UI _ hcode) rfl).1,(zo (UI _ hcode) rfl).2]]
 ·have z':d.count∈d.aN.drop 1:=z;refine TM z' λj hj ej=>?_;rw[List.getElem_drop] at ej;rw[U7] at hj;have:=hl ((1+j:Nat):Int) (!acK) (!acL hj);unfold aD at this;rw[j7,c8,b8 (!acM hj)] at this;simp only[Option.getD_some,ej] at this;exact acN this.1
 ·intro i hi q hq;have hi':i<d.lines.length:=by rw[show d.fld.acts.owners=bT d.lines from rfl,ol] at hi;exact hi
  have h1:=Ar SX E hi' hq;rw[rS] at h1;have hm:d.lines.getD i []∈d.lines:=by rw[c8,b8 hi'];exact m6 _
  split at h1
  ·rename_i hk;rw[<-m9 h1,show d.fld.defaults.length=d.lines.length from JE];exact(li _ hm).act _ hk
  ·exact gc h1
 ·show((d.goals.map cH).length:Int)=d.names.length - d.count;rw[b9];exact Pd cN AA
 ·show((d.goals.map cy).length:Int)=d.names.length - d.count;rw[b9];exact Pd cN AA
 ·intro i hi;obtain⟨one,h1,rfl⟩:=m5.mp hi;have:=(gf one h1).x;show _/\_<=(d.rules.length:Int) - 1;exact abl this JE
 ·rw[show d.fld.defaults.length=d.lines.length from JE,show d.fld.bH.length=(d.goals.map bW).length by show(d.goals.map cy).length=_;rw[b9,b9]];exact gg
 ·rw[show d.fld.defaults.length=d.lines.length from JE];exact#[λi hi=>by have:=vg3 i hi;exact Gm this,λi hi=>by have:=tg i hi;exact PI this.1 this.2 s3,λi hi=>by have:=vg2 i hi;exact uB this.1 this.2,λi hi=>by have:=vg4 i hi;exact uB this.1 this.2,λi hi=>#[λl e=>by cases e;exact(tg i hi).1,λl e=>by cases e;exact(tg i hi).2]]
 ·rw[show d.fld.defaults.length=d.lines.length from JE];refine#[by show(d.goals.map cH).length=(d.goals.map cy).length;rw[b9,b9],by show(bT (d.goals.map bW)).length=(d.goals.map cy).length;rw[ogl,b9,b9],λi hi=>?_];have hi':i<d.goals.length:=by rw[show d.fld.bH=d.goals.map cy from rfl,b9] at hi;exact hi
  rw[show d.fld.bH=d.goals.map cy from rfl,show d.fld.fF=d.goals.map cH from rfl,kG hi',kG hi'];have g:=gf _ (m6 hi');refine#[g.m,by rw[j7];exact g.f,g.z,λq hq=>?_];have h1:=Ar SY G (i:=i) (by rw[b9];exact hi') hq;rw[show(d.goals.map bW).getD i []=bW d.goals[i] by rw[c8];simp[hi']] at h1;unfold pB at h1;refine bz (l8.mp h1) λx hx e=>?_;have hm:=R5 hx;have h3:=List.find?_some hx;simp at h3;refine zC (g.r x hm) λb1 b2 b3 b4 b5=>?_;rw[<-h3,<-e];exact#[b1,b2,b3,b4]
end
section
noncomputable def gF(m:Int)(k:Nat):List Int:=((C4 k).filter λi:Nat=>decide (iE m i=1)).map λi:Nat=>(i:Int)
theorem zp(m:Int)(k:Nat):gF m (k+1)=gF m k++if iE m k=1 then[(k:Int)] else[]:=by
 unfold gF;rw[K2,M4,n6]
 congr 1
 by_cases h:iE m k=1
 ·rw[if_pos h];simp[h]
 ·rw[if_neg h,T5 (by simpa using h)];rfl
theorem EF:([0,1,2,3,4,5,6,7]:List Int).all (λm=>([0,1,2,3]:List Nat).all λk=>decide ((m.fdiv (2 ^ k)).fdiv (2 ^ (1:Int).toNat)=m.fdiv (2 ^ (k+1))/\(m.fdiv (2 ^ (k+1))<m.fdiv (2 ^ k)\/m.fdiv (2 ^ k)=0)/\0<=m.fdiv (2 ^ k)/\(m.fdiv (2 ^ k)=0->gF m k=gF m 3)/\(k=3->m.fdiv (2 ^ k)=0)))=true:=by decide+kernel
theorem BN(h:0<=m/\m<=7)(hk:k<=3):(m.fdiv (2 ^ k)).fdiv (2 ^ (1:Int).toNat)=m.fdiv (2 ^ (k+1))/\(m.fdiv (2 ^ (k+1))<m.fdiv (2 ^ k)\/m.fdiv (2 ^ k)=0)/\0<=m.fdiv (2 ^ k)/\(m.fdiv (2 ^ k)=0->gF m k=gF m 3)/\(k=3->m.fdiv (2 ^ k)=0):=by
 have h1:=n9.mp EF m (by
  have:m=0\/m=1\/m=2\/m=3\/m=4\/m=5\/m=6\/m=7:=by exact abm h
  rcases this with rfl|rfl|rfl|rfl|rfl|rfl|rfl|rfl<;>decide)
 exact of_decide_eq_true (n9.mp h1 k (by
  have:k=0\/k=1\/k=2\/k=3:=by exact abn hk
  rcases this with rfl|rfl|rfl|rfl<;>decide))
variable{C:Cx}{n:Nat}{H:AH}{Q:AV->AH->Prop}
theorem Ic(cc:CC C)(h:0<=m/\m<=7)(hq:∀a H',H a=b6->H' a=some (.list (ak (gF m 3)))->Kp [] H H'->Q (.ref a) H'):aj C (n+1) (.ref 264) [.int m] H Q:=
 GX cc λF hf hn hk=>by
  refine aG.cons ?_;lk;refine#[sz rfl,λa ha=>newL ha λH1 k1 e1=>?_];lk;refine Ex.nO (λw ρ' H'=>∃k:Nat,k<=3/\w=(m.fdiv (2 ^ k)).toNat/\ρ'=([("mask",.val (.int m)),("found",.val (.ref a)),("at",.val (.int k)),("left",.val (.int (m.fdiv (2 ^ k))))]:Loc)/\H' a=some (.list (ak (gF m k)))/\Kp [a] H1 H') m.toNat #[0,!s8 _,by simp,by simp,e1,Kp.refl] ?_;rintro w ρ' H' ⟨k,Uc,rfl,rfl,e2,k2⟩;refine zC (BN h Uc) λs1 s2 s3 s4 s5=>?_;lk;refine aB.yp (λc=>?_) λc=>?_
  ·have hk2:k<3:=by
    by_cases z:k=3
    ·have:=s5 z;exact abo c this
    ·exact abp Uc z
   lk;refine aB.Ll ?_;lk;refine aB.Gv ?_;refine#[_,rfl,?_];have bs:=zp m k;have bo:iE m k=Q8 (m.fdiv (2 ^ k)) 1:=by unfold iE;rw[j7]
   rw[bo] at bs;have fin:∀H3,H3 a=some (.list (ak (gF m (k+1))))->Kp [a] H1 H3->WhK (λw ρ' H'=>∃k:Nat,k<=3/\w=(m.fdiv (2 ^ k)).toNat/\ρ'=([("mask",.val (.int m)),("found",.val (.ref a)),("at",.val (.int k)),("left",.val (.int (m.fdiv (2 ^ k))))]:Loc)/\H' a=some (.list (ak (gF m k)))/\Kp [a] H1 H') (m.fdiv (2 ^ k)).toNat (λo cB cF=>True) .next [("mask",.val (.int m)),("found",.val (.ref a)),("at",.val (.int (k+1))),("left",.val (.int ((m.fdiv (2 ^ k)).fdiv (2 ^ (1:Int).toNat))))] H3:=λH3 e3 k3=>
    #[_,!adV s2 c,k+1,!abq hk2,rfl,by rw[s1];simp,e3,k3]
   by_cases c1:Q8 (m.fdiv (2 ^ k)) 1=1
   ·rw[decide_eq_true c1];rw[if_pos c1] at bs;lk;ktn_no "meth";lk;refine aj.append e2 (by
     have:(gF m k).length<=k:=by unfold gF;rw[b9];exact g9 (J4 _ _) (by simp)
     rw[az];exact abr this hk2) ?_
    lk;refine aB.CN `e ?_;lk;refine aB.bL ?_;lk;exact fin _ (by rw[AH.aq,bs,bO]) (k2.trans (Kp.mem (!.head _)))
   ·rw[decide_eq_false c1];rw[if_neg c1,v7] at bs;lk;refine aB.CN `e ?_;lk;refine aB.bL ?_;lk;exact fin _ (by rw[bs];exact e2) k2
  ·lk;exact hq a _ ha (by rw[e2,s4 (!OA s3 c)]) (k1.lu k2 (.inl ha))
theorem r_(cc:CC C){a:Addr}{q:Hq}{f:xK}{s:Int}(hp:oh H a q f)(h:0<=s/\s<f.defaults.length)(hz:f.defaults.length<=1000)(hq:Q (.int (aD f.defaults s)) H):aj C (n+1) (.ref 327) [.ref a,.int s] H Q:=
 mJ cc λF hf hn hk=>by
  refine xE hp.o λd e0=>?_;refine aG.cons ?_;lk;exact aF.aD (λZ Z=>rfl) hp.d h.1 h.2 (!sM hz) hq
theorem sq(cc:CC C)(hp:oh H a q f)(hz:f.acts.bases.length<=1000)(hq:Q (.int f.acts.bases.length) H):aj C (n+1) (.ref 543) [.ref a] H Q:=
 fV cc λF hf hn hk=>by
  refine xE hp.o λd e0=>?_;refine aG.cons ?_;lk;refine aj.bM hp.acts.h1 (by rw[az];exact pF hz) ?_;rw[az];exact hq
theorem xr(cc:CC C){a:Addr}{q:Hq}{f:xK}{s t:Int}(hp:oh H a q f)(sz:Ma f.acts)(h:0<=s/\s<f.acts.bases.length)(hq:Q (.int ((jR f.acts s t).getD 0)) H):aj C (n+3) (.ref 550) [.ref a,.int s,.int t] H Q:=
 h_ cc λF hf hn hk=>by
  refine xE hp.o λd e0=>?_;refine xE hp.acts.o λd2 e2=>?_;refine aG.cons ?_;lk;ktn_no "meth";lk;refine DS cc hp.acts sz h.1 h.2 ?_;cases hl:jR f.acts s t with
  |none=>
   rw[hl] at hq;lk;refine aB.Fi ?_;refine#[_,rfl,?_];ktn_no "yes";exact hq
  |some v=>
   rw[hl] at hq;lk;refine aB.Fi ?_;refine#[_,rfl,?_];ktn_no "no";exact hq
theorem Ie(cc:CC C){a:Addr}{q:Hq}{f:xK}{s row:Int}(hp:oh H a q f)(sz:Ma f.cg)(hs:0<=s)(hr:0<=row/\row<f.bH.length)(hz:f.bH.length<=1000)(h1:f.cg.bases.length=f.bH.length)(h2:f.fF.length=f.bH.length)(hq:Q (.int (if iE (aD f.bH row) s=0 then -1 else(jR f.cg row s).getD (aD f.fF row))) H):aj C (n+3) (.ref 557) [.ref a,.int s,.int (f.count+row)] H Q:=
 jF cc λF hf hn hk=>by
  refine xE hp.o λd e0=>?_;refine xE hp.cg.o λd2 e2=>?_;refine aG.cons ?_;lk;refine aB.fK ?_;rw[show f.count+row - f.count=row by exact Cq];lk;refine aB.ltI ?_;lk;refine#[_,rfl,?_];ktn_no "no";refine aj.bM hp.gm (by rw[az];exact pF hz) ?_;rw[az];refine aB.IK ?_;refine#[_,rfl,?_];ktn_no "no";refine aF.aD (λZ Z=>rfl) hp.gm hr.1 hr.2 (!sM hz) ?_;lk;refine aB.CN hs ?_;lk;refine aB.Ll ?_;lk;refine aB.Gv ?_;refine#[_,rfl,?_];change Q (.int (if Q8 ((aD f.bH row).fdiv (2 ^ s.toNat)) 1=0 then _ else _)) H at hq;by_cases c:Q8 ((aD f.bH row).fdiv (2 ^ s.toNat)) 1=0
  ·rw[decide_eq_true c];rw[if_pos c] at hq;lk;refine kY.fC ?_;exact hq
  ·rw[decide_eq_false c];rw[if_neg c] at hq;lk;ktn_no "meth";lk;refine DS cc hp.cg sz hr.1 (!Ks hr h1) ?_;cases hl:jR f.cg row s with
   |none=>
    rw[hl] at hq;lk;refine aB.Fi ?_;refine#[_,rfl,?_];ktn_no "yes";refine aF.aD (λZ Z=>rfl) hp.gd hr.1 (!Ks hr h2) (!FY h2 hz) ?_;exact hq
   |some v=>
    rw[hl] at hq;lk;refine aB.Fi ?_;refine#[_,rfl,?_];ktn_no "no";exact hq
end
section
noncomputable def UJ(s nt v:Int):AV:=.tup [.int s,.int nt,.int v]
noncomputable def pW(count:Int)(row:Nat)(one:List Int)(ss:List Nat):List AV:=ss.map λs:Nat=>UJ s (count+row) (aD one s)
noncomputable def gG(count:Int)(gs:List (List Int))(k:Nat):List AV:=(C4 k).flatMap λrow=>pW count row (gs.getD row []) (eO (gs.getD row []) (gs.getD row []).length)
theorem jY(count:Int)(gs:List (List Int))(k:Nat):gG count gs (k+1)=gG count gs k++pW count k (gs.getD k []) (eO (gs.getD k []) (gs.getD k []).length):=by
 unfold gG;rw[K2,S2];simp
noncomputable def EG(k:Nat)(one:List Int):Bool:=decide (gF (cy one) 3=(eO one k).map λi:Nat=>(i:Int))&&(C4 k).all λs=>decide ((if iE (cy one) s=0 then -1 else(pB (bW one) s).getD (cH one))=aD one s)
theorem EH:(vL 1).all (EG 1)=true/\(vL 2).all (EG 2)=true/\(vL 3).all (EG 3)=true:=by decide+kernel
theorem EI(hs:1<=size/\size<=3)(h:fQ size one):gF (cy one) 3=((eO one size).map λi:Nat=>(i:Int))/\∀s:Nat,s<size->(if iE (cy one) s=0 then -1 else(pB (bW one) s).getD (cH one))=aD one s:=by
 have hl:=h.ln;have hv:one∈vL size:=EB hl λx hx=>by have:=h.v x hx;exact OV hs this
 have hg:EG size one=true:=by
  refine kh EH λg1 g2 g3=>?_;have:size=1\/size=2\/size=3:=by exact OW hs
  rcases this with e|e|e<;>rw[e] at hv⊢
  ·exact n9.mp g1 _ hv
  ·exact n9.mp g2 _ hv
  ·exact n9.mp g3 _ hv
 unfold EG at hg;rw[D0] at hg;exact#[of_decide_eq_true hg.1,λs h1=>of_decide_eq_true (n9.mp hg.2 s (by simpa using h1))]
theorem BO:∀{c:Int},c∉r.map (·.1)->dX (dG r) c=b6:=by
 induction r with
 |nil=>
  intro _ _;exact rfl
 |cons p0 r ih=>
  obtain⟨k,v⟩:=p0;intro c h;have h1:k≠c:=λe=>h (by simp[e]);have h2:=ih (c:=c) λm=>h (!.tail _ `a);unfold dX dG at h2⊢;simpa [h1] using h2
theorem nB(r:Row)(c:Int):dX (dG r) c=(pB r c).map .int:=by
 rw[rS];by_cases h:c∈r.map (·.1)
 ·rw[if_pos h,vh h];rfl
 ·rw[if_neg h,BO h];rfl
theorem lV{d:Dr}(h:vt d){s:Nat}(hs:s<d.lines.length)(t:Int):jR d.fld.acts s t=pB (d.lines.getD s []) t:=
 have ok:c_ d.lines:=#[h.s.2,λr hr=>(h.li r hr).ok]
 rT ok (kF ok) hs t
theorem oM(h:vt d):c_ (d.goals.map bW):=#[by have:=h.o;rw[b9];exact KJ this,λr hr=>by
 obtain⟨one,h1,rfl⟩:=m5.mp hr;exact(nv h.s.2 (h.go one h1)).1]
theorem zu(h:vt d)(hi:i<d.goals.length)(s:Int):jR d.fld.cg i s=pB (bW d.goals[i]) s:=by
 have h1:=rT (oM h) (kF (oM h)) (i:=i) (by rw[b9];exact hi) s;rw[show(d.goals.map bW).getD i []=bW d.goals[i] by rw[c8];simp[hi]] at h1;exact h1
theorem sr(h:vt d)(hi:i<d.goals.length)(hs:s<d.lines.length):(if iE (aD d.fld.bH i) s=0 then -1 else(jR d.fld.cg i s).getD (aD d.fld.fF i))=aD d.goals[i] s:=by
 rw[show d.fld.bH=d.goals.map cy from rfl,show d.fld.fF=d.goals.map cH from rfl,kG hi,kG hi,zu h hi];exact(EI h.s (h.go _ (m6 hi))).2 s hs
variable{C:Cx}{n:Nat}{H:AH}{Q:AV->AH->Prop}
theorem xu(cc:CC C)(h:vt d)(hp:oh H a q d.fld)(hi:i<d.goals.length)(hs:s<d.lines.length)(hq:Q (.int (aD d.goals[i] s)) H):aj C (n+3) (.ref 557) [.ref a,.int s,.int (d.fld.count+i)] H Q:=by
 have g:=h.good;have gm:d.fld.bH.length=d.goals.length:=b9 ..;have gd:d.fld.fF.length=d.goals.length:=b9 ..;have ho:=h.o;refine Ie cc hp g.cg.sz (!bN) #[!bN,!cI hi gm] (!abt ho gm) (by have:=g.cg.fr.lb;exact Ky this) (!OU gd gm) ?_;rw[sr h hi hs];exact hq
theorem tE(cc:CC C)(h:vt d)(hp:oh H a q d.fld)(hq:∀b H',H b=b6->H' b=some (.list (gG d.count d.goals d.goals.length))->Kp [] H H'->Q (.ref b) H'):aj C (n+4) (.ref 815) [.ref a] H Q:=
 sV cc λF hf hn hk=>by
  refine xE hp.o λdd e0=>?_;have gm:d.fld.bH.length=d.goals.length:=b9 ..;have ho:=h.o;refine xA h.s λs1 s3=>?_;refine aG.cons ?_;lk;refine#[sz rfl,λb hb=>newL hb λH1 k1 e1=>?_];refine aG.cD `set ?_;refine aG.cons ?_;refine Ex.gY (aZ.range `get (aU cc) ?_ bu.name);have hp1:=hp.keep k1;refine xE hp1.o λdd1 e01=>?_;lk;refine aj.bM hp1.gm (by rw[az];exact sN ho gm) ?_;rw[az,gm];refine#[_,rfl,!qj,!adK ho,?_];rw[j7];refine nM.op (λi ρ' H'=>Ex3 λu v w=>TS ((LV.ok u/\LV.ok v/\LV.ok w)) (ρ'=([("packed",.val (.ref a)),("found",.val (.ref b)),("row",u),("nonterminal",v),("state",w),("range",.glob),("len",.glob),("bits",.glob)]:Loc)) (H' b=some (.list (gG d.count d.goals i))) ((gG d.count d.goals i).length<=3*i) (Kp [b] H1 H')) λI mk un=>?_;have bn:∀{x:Addr} {o:AO},H x=some o->x∉[b]:=λe=>by simp;exact AH.aJ hb e
  refine#[I,mk #[.undef,.undef,.undef,#[trivial,trivial,trivial],rfl,e1,!r7 _,Kp.refl],λZ Z Z Z Z=>trivial,?_,?_]
  ·intro i v ρ' H' hv hi;obtain⟨u1,u2,u3,⟨hu1,Cd,hu3⟩,rfl,eb,el,k2⟩:=un hi;obtain⟨rfl,hin⟩:=bk hv;have hp2:oh H' a q d.fld:=hp.keep (k1.lu k2 (.inl hb));refine xE hp2.o λdd2 e02=>?_;have gk:=h.go _ (m6 hin);have g1:=JD #[s1,s3] gk;have g2:=(EI #[s1,s3] gk).1;have hl:=gk.ln;have hgd:d.goals.getD i []=d.goals[i]:=by rw[c8,b8 hin];rfl
   have hps:=jY d.count d.goals i;rw[hgd,hl] at hps;refine b_.aT `get hf hu1 ?_;refine aG.cD `set ?_;lk;refine aB.bL ?_;refine aG.cD `set ?_;refine aG.cons ?_;refine Ex.gY (aZ.list ?_ bu.name);lk;refine aF.aD (λZ Z=>rfl) hp2.gm (!bN) (!cI hin gm) (!abu ho gm) ?_;rw[show aD d.fld.bH i=cy d.goals[i] from kG hin];lk;refine Ic cc g1.b λba H3 hba eba kba=>?_;rw[g2] at eba;refine#[ba,_,rfl,eba,?_];have bba:b≠ba:=AH.aJ hba eb;refine nM.op (λj ρ' H'=>Cc λw=>C_ (LV.ok w) (ρ'=([("packed",.val (.ref a)),("found",.val (.ref b)),("row",.val (.int i)),("nonterminal",.val (.int (d.fld.count+i))),("state",w),("range",.glob),("len",.glob),("bits",.glob)]:Loc)) (H' b=some (.list (gG d.count d.goals i++pW d.count i d.goals[i] ((eO d.goals[i] d.lines.length).take j)))) (Kp [b] H3 H')) λJ mj uj=>?_;have sl:=oJ d.goals[i] d.lines.length;have il:(ak ((eO d.goals[i] d.lines.length).map λi:Nat=>(i:Int))).length=(eO d.goals[i] d.lines.length).length:=by simp[ak]
   refine#[J,mj #[u3,hu3,rfl,by rw[kba.aK eb];simp[pW],Kp.refl],?_,?_,?_]
   ·intro j ρ' H4 _ hj;obtain⟨w,hw,_,_,k4⟩:=uj hj;exact k4.at eba (!ne1 (q9 `a))
   ·intro j v ρ' H4 hv hj;obtain⟨w,hw,rfl,UK,k4⟩:=uj hj;obtain⟨s,hs,rfl⟩:∃s:Nat,(eO d.goals[i] d.lines.length)[j]? =some s/\v=.int s:=by
     simp only[ak,K8,j9,l8] at hv;refine bz hv λs e1 e2=>?_;exact#[s,e1,e2.symm]
    have hsz:s<d.lines.length:=by
     have:=j8 hs;unfold eO at this;simpa using(I0.mp this).1
    have tW:oh H4 a q d.fld:=hp.keep ((k1.lu k2 (.inl hb)).trans kba |>.lu k4 (.inl hb));refine xE tW.o λdd4 e04=>?_;refine b_.aT `get hf hw ?_;refine aG.cD `set ?_;lk;ktn_no "meth";lk;ktn_no "meth";lk;refine xu cc h tW hin hsz ?_;lk;refine#[sz rfl,?_];lk;refine aj.append UK (by simp only[lG,pW,b9,F3];exact abv ho el sl hin s3) ?_;lk;refine mj #[.val (.int s),trivial,rfl,?_,k4.trans (Kp.mem (!.head _))];rw[AH.aq,x8,X3,hs];simp[pW,UJ];rfl
   ·intro ρ' H4 hj;obtain⟨w,hw,rfl,UK,k4⟩:=uj hj;rw[il,z8,<-hps] at UK;lk;exact mk #[.val (.int i),.val (.int (d.fld.count+i)),w,#[trivial,trivial,hw],rfl,UK,by rw[hps];simp only[lG,pW,b9];exact Pe el sl s3,(k2.trans kba.any).trans k4]
  ·intro ρ' H' hi;obtain⟨u1,u2,u3,hu,rfl,eb,el,k2⟩:=un hi;rw[bx] at eb;lk;exact hq b H' hb eb (k1.lu k2 (.inl hb))
end
section
variable{C:Cx}{n:Nat}{H:AH}{Q:AV->AH->Prop}
theorem aB.EJ{v u:AV}{d:PyData}(hv:Den C H v d)(hu:Den C H u d)(cd:d.canLay0=true)(hd:d.depth<=60)(h:Q (.bool false) H):aB C n (compareOp .NotEq) v u H Q:=.CO hv hu cd cd hd (by rw[PySem.SeqAt.eqv_refl d cd];exact h)
theorem aB.Mz{v u:AV}{d:PyData}(hv:Den C H v d)(hu:Den C H u d)(cd:d.canLay0=true)(hd:d.depth<=60)(h:Q (.bool true) H):aB C n (compareOp .Eq) v u H Q:=.eqD hv hu cd cd hd (by rw[PySem.SeqAt.eqv_refl d cd];exact h)
theorem xw{ys:List Str}:C0 (ys.map M3)=0:=by
 induction ys with
 |nil=>rfl
 |cons y ys ih=>exact by assumption
noncomputable def dW:AV->PyData
 | .int i=>.int i
 | .str x=>.str x
 |_=>.none
noncomputable def uv(code:List (Str×AV)):List PyData:=code.map λp=>.tuple [.str p.1,dW p.2]
noncomputable def dC:Code->PyData
 |b6=>.none
 |some code=>.list (uv code)
theorem EK{code:List (Str×AV)}:pR 1 (cS code)->(∀H,nK C H (cS code) (uv code))/\r8 (uv code)=true/\C0 (uv code)<=10:=by
 induction code with
 |nil=>
  intro _;exact#[λZ=>.nil,rfl,s8 _]
 |cons p0 code ih=>
  obtain⟨op,w⟩:=p0;intro h;refine kh (ih h.2) λh1 h2 h3=>?_;obtain⟨p1,p2,_⟩:Pu 0 (.str op)/\Pu 0 w/\True:=#[h.1.1,h.1.2.1,trivial];have l1:F5 op=true:=jN p1;have hw:(∀H,Den C H w (dW w))/\(dW w).canLay0=true/\(dW w).depth<=1:=by
   cases w with
   |none=>exact#[λZ=>.none,rfl,!s8 _]
   |int i=>exact#[λZ=>.int i,rfl,!s8 _]
   |str x=>exact#[λZ=>.str x,jN p2,!s8 _]
   |_=>exact p2.elim
  refine#[λH=>.cons (.tup (.cons (.str op) (.cons (hw.1 H) .nil))) (h1 H),?_,?_]
  ·show r8 (P6 [.str op,dW w]::uv code)=true;rw[r8,h2,C8,r8,r8,C8,l1,hw.2.1];rfl
  ·show C0 (P6 [.str op,dW w]::uv code)<=10;have:=hw.2.2;simp only[C0,G4];exact adL hw.2.2 h3
theorem EL{v:AV}{c:Code}(h:By H v c)(hp:∀code,c=some code->pR 1 (cS code)):Den C H v (dC c)/\(dC c).canLay0=true/\(dC c).depth<=12:=by
 rcases h with⟨rfl,rfl⟩|⟨a,code,rfl,rfl,e⟩
 ·exact#[.none,rfl,!s8 _]
 ·refine kh (EK (C:=C) (hp code rfl)) λh1 h2 h3=>?_;refine#[.list e (h1 H),`a,?_];unfold dC;rw[G4];exact abw h3
theorem ux(h:cY H vs cs)(hp:∀code,some code∈cs->pR 1 (cS code)):nK C H vs (cs.map dC)/\r8 (cs.map dC)=true/\C0 (cs.map dC)<=12:=
 cY.ind (P:=λvs cs=>(∀code,some code∈cs->pR 1 (cS code))->nK C H vs (cs.map dC)/\r8 (cs.map dC)=true/\C0 (cs.map dC)<=12) (λZ=>#[.nil,rfl,s8 _]) (λ{v c vs cs} a Z i hp=>by
  refine kh (i λcode hc=>hp code (s7 _ hc)) λh1 h2 h3=>?_;refine kh (EL (C:=C) a λcode e=>hp code (by rw[e];exact .head _)) λg1 g2 g3=>?_;refine#[.cons g1 h1,?_,?_]
  ·rw[q7,r8,g2,h2];rfl
  ·rw[q7,C0];exact adM g3 h3) h hp
theorem EM:(∀v∈vs,∃a b c,v=UJ a b c)->∃ds,(∀H,nK C H vs ds)/\r8 ds=true/\C0 ds<=10:=by
 induction vs with
 |nil=>
  intro _;exact#[[],λZ=>.nil,rfl,s8 _]
 |cons v vs ih=>
  intro h;refine f_ (ih λv hv=>h v (s7 _ hv)) λds h1 h2 h3=>?_;obtain⟨a,b,c,rfl⟩:=h v (!.head _);refine#[.tuple [.int a,.int b,.int c]::ds,λH=>.cons (.tup (.cons (.int a) (.cons (.int b) (.cons (.int c) .nil)))) (h1 H),?_,?_]
  ·exact by assumption
  ·simp only[C0,G4];exact adN h3
theorem xx{count:Int}{gs:List (List Int)}{k:Nat}:∀v∈gG count gs k,∃a b c,v=UJ a b c:=λv hv=>by
 refine bz (R2.mp hv) λi Z hi=>?_;obtain⟨s,_,rfl⟩:=m5.mp hi;exact#[_,_,_,rfl]
theorem sA{count:Int}{gs:List (List Int)}(hg:∀i,(gs.getD i []).length<=3):∀k,(gG count gs k).length<=3*k
 |0=>by exact r7 _
 |k+1=>by
  have:=sA (count:=count) hg k;have h2:=oJ (gs.getD k []) (gs.getD k []).length;have h3:=hg k;rw[jY,lG];unfold pW;rw[b9];exact Pe this h2 h3
inductive AlI(d:Dr)(pa:Addr)(H1:AH)(i:Nat)(H:AH):Prop
 |mk (ep:H pa=some (.list (gG d.count d.goals i))) (k:Kp [pa] H1 H):AlI d pa H1 i H
inductive AlJ(d:Dr)(g:List Int)(pa:Addr)(i:Nat)(H1:AH)(j:Nat)(H:AH):Prop
 |mk (ep:H pa=some (.list (gG d.count d.goals i++pW d.count i g (eO g j)))) (k:Kp [pa] H1 H):AlJ d g pa i H1 j H
theorem BP:pW c i g (l++[s])=pW c i g l++[.tup [.int s,.int (c+i),.int (aD g s)]]:=n6 ..
theorem EN (cc:CC C) {d:Dr} (h:vt d) {a b hl la ga ca:Addr} {q q':Hq} {hvs nH iI gK:List AV} (hp:oh H b q' d.fld) (hh:H hl=some (.list hvs)) (hc:cY H hvs d.codes) (pp:oh H a q d.fld)
 (hla:H la=some (.list nH)) (hlr:bw H nH d.lines) (hga:H ga=some (.list iI)) (hgr:bE H iI d.goals) (hca:H ca=some (.list gK)) (JG:cY H gK d.codes) (hq:Q (.bool true) H):aj C (n+6) (.ref 860) [.tup [.ref b,.ref hl],.ref a,.ref la,.ref ga,.ref ca] H Q:=
 .forget <| kO cc λF hf hn hk=>by
  have g:=h.good;refine xA h.s λs1 s3=>?_;have ho:=h.o;have hcn:=h.c;have pul:∀code,some code∈d.codes->pR 1 (cS code):=λcode hm=>(g.cd code hm).2;have nok:∀y∈d.fld.names,F5 y=true:=λy hy=>jN (g.fr.n1 y hy);have ll:=hlr.1;have gl:=hgr.1;have df:d.fld.defaults.length=d.lines.length:=h.df.1;have cN:(d.count.toNat:Int)=d.count:=by exact OX hcn
  have c5:d.count.toNat<=1000000:=by exact acO hcn
  have g3:d.goals.length<=1000000:=by exact abP ho
  refine xE hp.o λdd e0=>?_;refine xE pp.o λdp e1=>?_;refine aG.cons ?_;refine Ex.qw ?_;lk;refine b_.tup rfl rfl ?_;refine e_.names hf `nm `sx ?_;lk;refine#[sz rfl,?_];lk;refine#[sz rfl,?_];refine aB.EJ (d:=.tuple [.list (d.fld.names.map M3),.int d.fld.count,.list (d.fld.aN.map J8)]) (.tup (.cons (.list hp.n iD) (.cons (.int _) (.cons (.list hp.l dB) .nil)))) (.tup (.cons (.list pp.n iD) (.cons (.int _) (.cons (.list pp.l dB) .nil)))) (by simp[C8,r8,lay_ints,jO nok]) (by simp[G4,C0,jS,xw]) ?_;refine#[_,rfl,?_];lk;refine#[sz rfl,?_];lk;refine#[sz rfl,?_];refine kh (ux (C:=C) hc pul) λc1 c2 c3=>?_;refine aB.EJ (d:=.tuple [.list (d.fld.aI.map J8),.list (d.fld.aQ.map J8),.list (d.codes.map dC)]) (.tup (.cons (.list hp.e dB) (.cons (.list hp.b dB) (.cons (.list hh c1) .nil)))) (.tup (.cons (.list pp.e dB) (.cons (.list pp.b dB) (.cons (.list hca (ux JG pul).1) .nil)))) (by simp[C8,r8,lay_ints,c2]) (by simp only[G4,C0,jS];exact adO c3) ?_;refine#[_,rfl,?_];lk;refine Ex.forR hf ["state","terminal","at"] `wk (aZ.range `get (aU cc) ?_ bu.name);lk;refine aj.bM hla (!gW ll s3) ?_;rw[ll];refine iO.nat (!g9 s3 (!b7 rfl)) (jl.Dj (λs hs K kk=>?_) ?_)
  ·refine bz (hlr.2 s d.lines[s] (b8 hs)) λra r1 r2=>?_;refine b_.aT (u:=.undef) `get hf c7 ?_;refine aG.cD `set ?_;refine aG.cons ?_;refine Ex.forR hf ["terminal"] `wk (aZ.range `get (aU cc) ?_ bu.name);lk;rw[show d.fld.count=(d.count.toNat:Int) from cN.symm];refine iO.nat c5 (jl.Dj (λt ht K jj=>?_) ?_)
   ·refine b_.aT (u:=.undef) `get hf c7 ?_;refine aG.cD `set ?_;lk;ktn_no "meth";lk;refine xr cc hp g.acts.sz #[!bN,by have:=g.acts.fr.lb;exact Pf hs this df] ?_;rw[lV h hs,show d.lines.getD s []=d.lines[s] by rw[c8,b8 hs];rfl];lk;refine aF.list (λZ Z=>rfl) hla (!bN) (v:=.ref ra) r1 (!gW ll s3) ?_;lk;ktn_no "meth";lk;refine aj.aeF (oX C) (k:=(t:Int)) (kvs:=dG d.lines[s]) (v:=.int 0) r2 ?_;rewrite [nB,show((pB d.lines[s] t).map AV.int).getD (.int 0)=.int ((pB d.lines[s] t).getD 0) by cases pB d.lines[s] t<;>rfl];refine aB.iQ rfl ?_;ktn_no "no";exact jj #[`k]
   refine aG.cons ?_;refine Ex.forR hf ["at"] `wk (aZ.range `get (aU cc) ?_ bu.name);lk;refine aj.bM hga (!sN ho gl) ?_;rw[gl];refine iO.nat g3 (jl.Dj (λt ht K jj=>?_) ?_)
   ·refine bz (hgr.2 t d.goals[t] (b8 ht)) λoa o1 o2=>?_;have ol:=(h.go _ (m6 ht)).ln;refine b_.aT (u:=.undef) `get hf c7 ?_;refine aG.cD `set ?_;lk;ktn_no "meth";lk;refine aB.bL ?_;lk;refine xu cc h hp ht hs ?_;lk;refine aF.list (λZ Z=>rfl) hga (!bN) (v:=.ref oa) o1 (!sN ho gl) ?_;lk;refine aF.aD (λZ Z=>rfl) o2 (!bN) (!cI hs ol) (!qh ol s3) ?_;refine aB.iQ rfl ?_;ktn_no "no";exact jj #[`k]
   lk;ktn_no "meth";lk;refine r_ cc hp #[!bN,!cI hs df] (!Gj df s3) ?_;lk;ktn_no "meth";lk;refine r_ cc pp #[!bN,!cI hs df] (!Gj df s3) ?_;refine aB.iQ rfl ?_;ktn_no "no";exact kk #[`k]
  lk;refine#[sz rfl,λpa hpa=>newL hpa λH1 k1 ep=>?_];have hp1:=hp.keep k1;have S_:=k1.aK hga;have agm:=k1.aK hla;have gap:=ne1 (AH.aJ hpa hga);have Fx:=ne1 (AH.aJ hpa hla);have gl3:∀i,(d.goals.getD i []).length<=3:=λi=>by
   by_cases hi:i<d.goals.length
   ·rw[c8,b8 hi];have:=(h.go _ (m6 hi)).ln;exact OT this s3
   ·rw[c8,Q2 (!AK hi)];exact s8 _
  refine aG.cD `set ?_;refine aG.cons ?_;refine Ex.forR hf ["state","at"] `wk (aZ.range `get (aU cc) ?_ bu.name);lk;refine aj.bM S_ (!sN ho gl) ?_;rw[gl];refine iO.nat g3 (jl.nats (AlI d pa H1) (.mk ep .refl) (λi H2 hin x=>x.casesOn λep k2 K kk=>?_) λH2 x=>x.casesOn λep k2=>?_)
  ·refine bz (hgr.2 i d.goals[i] (b8 hin)) λoa o1 o0=>?_;have o2:=k1.aK o0;have ol:=(h.go _ (m6 hin)).ln;have hgd:d.goals.getD i []=d.goals[i]:=by rw[c8,b8 hin];rfl
   have hps:=jY d.count d.goals i;rw[hgd,ol] at hps;have pl:=sA (count:=d.count) gl3 i;have oap:=ne1 (AH.aJ hpa o0);refine b_.aT (u:=.undef) `get hf c7 ?_;refine aG.cD `set ?_;refine aG.cons ?_;refine Ex.forR hf ["state"] `wk (aZ.range `get (aU cc) ?_ bu.name);lk;refine aj.bM (k2.at agm Fx) (!gW ll s3) ?_;rw[ll];refine iO.nat (!g9 s3 (!b7 rfl)) (jl.nats (AlJ d d.goals[i] pa i H1) (.mk (by rw[ep];exact congrArg (λl=>some (AO.list l)) (v7 _).symm) k2) (λs H4 hs x=>x.casesOn λTc k4 K jj=>?_) λH4 x=>x.casesOn λTc k4=>?_)
   ·have Td:=k4.at S_ gap;have o4:=k4.at o2 oap;have tW:oh H4 b q' d.fld:=hp.keep (k1.lu k4 (.inl hpa));refine xE tW.o λd4 e4=>?_;have ss:=gC d.goals[i] s;have sl:=oJ d.goals[i] s;refine b_.aT (u:=.undef) `get hf c7 ?_;refine aG.cD `set ?_;lk;refine aF.list (λZ Z=>rfl) Td (!bN) (v:=.ref oa) o1 (!sN ho gl) ?_;lk;refine aF.aD (λZ Z=>rfl) o4 (!bN) (!cI hs ol) (!qh ol s3) ?_;lk;refine kY.fC ?_;refine aB.wC (λc=>?_) λc=>?_
    ·ktn_no "no";exact jj #[`k,.mk (by rw[ss,if_neg (not_not_intro c),v7];exact Tc) k4]
    ·ktn_no "yes";ktn_no "meth";lk;refine aB.bL ?_;lk;refine aF.list (λZ Z=>rfl) Td (!bN) (v:=.ref oa) o1 (!sN ho gl) ?_;lk;refine aF.aD (λZ Z=>rfl) o4 (!bN) (!cI hs ol) (!qh ol s3) ?_;lk;refine#[sz rfl,?_];lk;refine aj.append Tc (by simp only[lG,pW,b9];exact abx s3 ho hin pl hs sl) (g_ λH5 k5 ep5=>?_);lk;exact jj #[`k,.mk (by rw[ep5,ss,if_pos c,x8,BP];rfl) (k4.trans k5)]
   rw[<-hps] at Tc;lk;exact kk #[`k,.mk Tc k4]
  have k2:=k1.lu k2 (.inl hpa);have hp2:=hp.keep k2;refine xE hp2.o λd2 e2=>?_;lk;ktn_no "meth";lk;have bl:d.fld.acts.bases.length=d.lines.length:=by have:=g.acts.fr.lb;exact aby this df
  refine sq cc hp2 (!Gj bl s3) ?_;rw[bl];lk;refine aj.bM (k2.aK hla) (!gW ll s3) ?_;rw[ll];refine aB.Gv ?_;rw[decide_eq_true rfl];ktn_no "yes";refine tE cc h hp2 λgp H3 hgp egp k3=>?_;lk;refine f_ (EM (C:=C) (xx (count:=d.count) (gs:=d.goals) (k:=d.goals.length))) λds z1 z2 z3=>?_;refine aB.Mz (d:=.list ds) (.list egp (z1 H3)) (.list (k3.aK ep) (z1 H3)) `a (by rw[G4];exact Oa z3) ?_;exact#[H,λa o e=>(k2.trans k3).aK e,hq]
end
section
variable{C:Cx}{n:Nat}{H:AH}{Q:AV->AH->Prop}
structure PR where
 (nm sd sz ah ru li go cd:Addr)
 (la ga:List Addr)
 (gK:List AV)
noncomputable abbrev PR.nH(r:PR):List AV:=r.la.map .ref
noncomputable abbrev PR.iI(r:PR):List AV:=r.ga.map .ref
structure bf(H:AH)(pa:Addr)(r:PR)(d:Dr):Prop where
 o:H pa=some (.list [.ref r.nm,.ref r.sd,.ref r.sz,.ref r.ah,.ref r.ru,.ref r.li,.ref r.go,.ref r.cd])
 n:H r.nm=some (.list (aC d.names))
 s:H r.sd=some (.list (ak d.aN))
 z:H r.sz=some (.list (ak d.aI))
 a:H r.ah=some (.list (ak d.aQ))
 u:H r.ru=some (.list (ak d.rules))
 l:H r.li=some (.list r.nH)
 lr:bw H r.nH d.lines
 g:H r.go=some (.list r.iI)
 gr:bE H r.iI d.goals
 c:H r.cd=some (.list r.gK)
 cr:cY H r.gK d.codes
theorem bf.keep(h:bf H pa r d)(k:Kp [] H H'):bf H' pa r d:=
 #[k.aK h.o,k.aK h.n,k.aK h.s,k.aK h.z,k.aK h.a,k.aK h.u,k.aK h.l,h.lr.keep k,k.aK h.g,h.gr.keep k,k.aK h.c,h.cr.keep k]
noncomputable def txt(d:Dr):Str:=#[(jQ d.fld (d.codes.map kT)).toArray]
theorem oN(cc:CC C)(h:vt d)(hp:oh H a q d.fld)(hc:H cl=some (.list gK))(hs:cY H gK d.codes)(hq:Q (.str (txt d)) H):aj C (n+8) (.ref 775) [.ref a,.ref cl] H Q:=
 jh cc hp hc (hs.shw λcode hm=>(h.good.cd code hm).2) h.good.ok hq
theorem nC(cc:CC C)(h:vt d)(pp:oh H a q d.fld)(P:bf H pa r d)(hq:Q (.bool true) H):aj C (n+15) (.ref 884) [.ref a,.ref pa,.str (txt d)] H Q:=
 .forget <| uV cc λF hf hn hk=>by
  refine aG.cons ?_;lk;refine rN cc h.good λb q' hl hvs H1 hb Sl hcl k1=>?_;have P1:=P.keep k1;have UM:=pp.keep k1;refine aG.cD `set ?_;lk;refine aF.list (λZ Z=>rfl) P1.o `e (v:=.ref r.li) rfl (!b7 rfl) ?_;lk;refine aF.list (λZ Z=>rfl) P1.o `e (v:=.ref r.go) rfl (!b7 rfl) ?_;lk;refine aF.list (λZ Z=>rfl) P1.o `e (v:=.ref r.cd) rfl (!b7 rfl) ?_;lk;refine EN cc h hb Sl hcl UM P1.l P1.lr P1.g P1.gr P1.c P1.cr ?_;ktn_no "yes";refine aF.tup (λZ Z=>rfl) `e (v:=.ref b) rfl (!b7 rfl) ?_;lk;refine aF.tup (λZ Z=>rfl) `e (v:=.ref hl) rfl (!b7 rfl) ?_;lk;refine oN cc h hb Sl hcl ?_;lk;refine aB.fJ ?_;rw[decide_eq_true rfl];exact#[H,λa o e=>k1.aK e,hq]
end
section
variable{C:Cx}{n:Nat}{H:AH}{Q:AV->AH->Prop}
structure Al(H0 H:AH)(As:List Addr):Prop where
 nd:As.Nodup
 fr:∀x∈As,H0 x=b6
 hd:∀x∈As,H x≠b6
theorem Al.nil{H0 H:AH}:Al H0 H []:=#[.nil,λZ h=>(nomatch h),λZ h=>(nomatch h)]
theorem Al.keep{H0 H H':AH}{As:List Addr}(h:Al H0 H As)(k:Kp [] H H'):Al H0 H' As:=#[h.nd,h.fr,λx m e=>h.hd x m (k.nn e)]
theorem Al.add{H0 H H':AH}{As:List Addr}(h:Al H0 H As)(k0:Kp [] H0 H){x:Addr}{o:AO}(hx:H x=b6)(k:Kp [] H H')(e:H' x=some o):Al H0 H' (x::As):=by
 refine#[G5.mpr #[λm=>h.hd x m hx,h.nd],λy m=>?_,λy m=>?_]
 ·rcases l9.mp m with rfl|m
  ·exact k0.nn hx
  ·exact h.fr y m
 ·rcases l9.mp m with rfl|m
  ·rw[e];simp
  ·exact(h.keep k).hd y m
theorem Al.perm{H0 H:AH}{As Bs:List Addr}(h:Al H0 H As)(p:As.Perm Bs):Al H0 H Bs:=#[p.nodup_iff.mp h.nd,λx m=>h.fr x (p.mem_iff.mpr m),λx m=>h.hd x (p.mem_iff.mpr m)]
theorem Al.push{H0 H H':AH}{As Bs:List Addr}(h:Al H0 H (As++Bs))(k0:Kp [] H0 H){x:Addr}{o:AO}(hx:H x=b6)(k:Kp [] H H')(e:H' x=some o):Al H0 H' ((As++[x])++Bs):=
 (h.add k0 hx k e).perm (by rw[x8];exact(List.perm_middle).symm)
noncomputable abbrev PR.all(r:PR)(pa:Addr):List Addr:=pa::r.cd::r.go::(r.ga++r.li::(r.la++[r.ru,r.ah,r.sz,r.sd,r.nm]))
theorem vA (cc:CC C) {d:Dr} (h:vt d) {a la ga ca:Addr} {q:Hq} {nH iI gK:List AV} (pp:oh H a q d.fld)
 (hla:H la=some (.list nH)) (hlr:bw H nH d.lines) (hga:H ga=some (.list iI)) (hgr:bE H iI d.goals) (hca:H ca=some (.list gK)) (JG:cY H gK d.codes)
 (hq:∀pa r H',bf H' pa r d->Al H H' (r.all pa)->r.gK=gK->Kp [] H H'->Q (.ref pa) H'):aj C (n+4) (.ref 865) [.ref a,.ref la,.ref ga,.ref ca] H Q:=
 uU cc λF hf hn hk=>by
  refine xA h.s λs1 s3=>?_;have ho:=h.o;have hc:=h.c;have sL:=h.r2;have tU:=h.e1;have ha1:=h.a1;have hd1:=h.df.1;have hc1:=h.cd.1;have ll:=hlr.1;have gl:=hgr.1;have cl:=JG.len;have nl:(aC d.names).length<=1000:=by have:=h.good.fr.nz;show(d.names.map AV.str).length<=_;rw[b9];exact this
  refine xE pp.o λdd e0=>?_;refine aG.cons ?_;lk;refine aj.qC pp.n (by show(aC d.names).length<=_;exact pF nl) λnm hnm=>newL hnm λH1 k1 n1=>?_;have A1:=(Al.nil (H0:=H) (H:=H)).add Kp.refl hnm k1 n1;have UM:=pp.keep k1;refine xE UM.o λd1 e1=>?_;lk;refine aj.qC UM.l (by rw[az];show d.aN.length<=_;exact Ct sL) λsd hsd=>newL hsd λH2 k2 n2=>?_;have A2:=A1.add k1 hsd k2 n2;have n1:=k2.aK n1;have k2:=k1.trans k2;have pp2:=pp.keep k2;refine xE pp2.o λd2 e2=>?_;lk;refine aj.qC pp2.e (by rw[az];show d.aI.length<=_;exact AM sL tU) λsz hsz=>newL hsz λH3 k3 n3=>?_;have A3:=A2.add k2 hsz k3 n3;have n1:=k3.aK n1;have n2:=k3.aK n2;have k3:=k2.trans k3;have pp3:=pp.keep k3;refine xE pp3.o λd3 e3=>?_;lk;refine aj.qC pp3.b (by rw[az];show d.aQ.length<=_;exact AM sL ha1) λah hah=>newL hah λH4 k4 n4=>?_;have A4:=A3.add k3 hah k4 n4;have n1:=k4.aK n1;have n2:=k4.aK n2;have n3:=k4.aK n3;have k4:=k3.trans k4;have pp4:=pp.keep k4;refine xE pp4.o λd4 e4=>?_;lk;refine aj.qC pp4.d (by rw[az];show d.rules.length<=_;exact gW hd1 s3) λru hru=>newL hru λH5 k5 n5=>?_;have A5:=A4.add k4 hru k5 n5;have n1:=k5.aK n1;have n2:=k5.aK n2;have n3:=k5.aK n3;have n4:=k5.aK n4;have k5:=k4.trans k5;lk;have Te:=k5.aK hla;refine Ev.bJ (λu=>[(".0",.undef),("line",u),("dict",.glob)]) (aP.of hn rfl `d `d `k) `k (λZ Z=>`set) (λZ=>`get) (.inl `k) ?_;refine aZ.list ?_ bu.name;lk;refine#[la,_,rfl,Te,!gW ll s3,λk ys H'=>Cc λas=>C_ (ys=as.map AV.ref) (bw H' (as.map AV.ref) (d.lines.take k)) (Al H H' (as++[ru,ah,sz,sd,nm])) (Kp [] H5 H'),#[[],rfl,#[rfl,λi r e=>by simp at e],A5,Kp.refl],?_,?_,?_]
  ·rintro k ys H' _ ⟨_,_,_,_,k6⟩;exact k6.aK Te
  ·rintro F' cf k v ys H' hv ⟨as,rfl,R,A,k6⟩;have iY:k<d.lines.length:=by rw[<-ll];exact(c9.mp hv).1
   refine bz (hlr.2 k d.lines[k] (b8 iY)) λx x1 x2=>?_;obtain rfl:v=.ref x:=by rw[hv] at x1;exact m9 x1
   have Tf:=k5.trans k6;have rQ:=(h.li _ (m6 iY)).ok;refine kC.nil ?_;lk;refine aj.I_ (oX C) (kvs:=dG d.lines[k]) (Tf.aK x2) (by have:=rQ.ln;simp[dG];exact AL this) λy hy=>?_;have ky:=Kp.new (S:=[]) (o:=(oX C).ao (dG d.lines[k])) hy;have ey:(H'.set y ((oX C).ao (dG d.lines[k]))) y=some (.dI (dG d.lines[k])):=AH.aq _ _ _;refine#[as++[y],by simp,?_,A.push Tf hy ky ey,k6.trans ky];rw[n6,l7 iY];exact(R.keep ky).snoc ey
  rintro li ys H6 ⟨as,rfl,R,A,k6⟩ hli;rw[ll,z8] at R;have kl:=Kp.new (S:=[]) (o:=.list (as.map AV.ref)) hli;have el:(H6.set li (.list (as.map AV.ref))) li=some (.list (as.map AV.ref)):=AH.aq _ _ _;have A6:=A.add (k5.trans k6) hli kl el;have R6:=R.keep kl;have k57:=k6.trans kl;have k6:=(k5.trans k6).trans kl;generalize H6.set li (.list (as.map AV.ref))=H7 at el A6 R6 k6 k57⊢;clear A R kl hli A1 A2 A3 A4;lk;have Tg:=k6.aK hga;refine Ev.bJ (λu=>[(".0",.undef),("one",u),("list",.glob)]) (aP.of hn rfl `d `d `k) `k (λZ Z=>`set) (λZ=>`get) (.inl `k) ?_;refine aZ.list ?_ bu.name;lk;refine#[ga,_,rfl,Tg,!sN ho gl,λk ys H'=>Cc λbs=>C_ (ys=bs.map AV.ref) (bE H' (bs.map AV.ref) (d.goals.take k)) (Al H H' (bs++li::(as++[ru,ah,sz,sd,nm]))) (Kp [] H7 H'),#[[],rfl,#[rfl,λi r e=>by simp at e],A6,Kp.refl],?_,?_,?_]
  ·rintro k ys H' _ ⟨_,_,_,_,k6⟩;exact k6.aK Tg
  ·rintro F' cf k v ys H' hv ⟨bs,rfl,R,A,k7⟩;have iY:k<d.goals.length:=by rw[<-gl];exact(c9.mp hv).1
   refine bz (hgr.2 k d.goals[k] (b8 iY)) λx x1 x2=>?_;obtain rfl:v=.ref x:=by rw[hv] at x1;exact m9 x1
   have Tf:=k6.trans k7;have ol:=(h.go _ (m6 iY)).ln;refine kC.nil ?_;lk;refine aj.qC (Tf.aK x2) (by rw[az];exact gW ol s3) λy hy=>?_;have ky:=Kp.new (S:=[]) (o:=.list (ak d.goals[k])) hy;have ey:(H'.set y (.list (ak d.goals[k]))) y=some (.list (ak d.goals[k])):=AH.aq _ _ _;refine#[bs++[y],by simp,?_,A.push Tf hy ky ey,k7.trans ky];rw[n6,l7 iY];exact(R.keep ky).snoc ey
  rintro go ys H8 ⟨bs,rfl,G,A,k7⟩ hgo;rw[gl,z8] at G;have kl:=Kp.new (S:=[]) (o:=.list (bs.map AV.ref)) hgo;have eg:(H8.set go (.list (bs.map AV.ref))) go=some (.list (bs.map AV.ref)):=AH.aq _ _ _;have A8:=A.add (k6.trans k7) hgo kl eg;have G8:=G.keep kl;have k79:=k7.trans kl;generalize H8.set go (.list (bs.map AV.ref))=H9 at eg A8 G8 k79⊢;clear A G kl hgo k7;have k9:=k6.trans k79;lk;refine aj.qC (k9.aK hca) (!Pg sL cl hc1) λcd hcd=>newL hcd λDR oA ec=>?_;have A10:=A8.add k9 hcd oA ec;have k70:=k79.trans oA;have Th:=k9.trans oA;lk;refine#[Mine.sz rfl,λpa hpa=>newL hpa λvd iK epa=>?_];have A11:=A10.add Th hpa iK epa;have kk:=Th.trans iK;have k71:=k70.trans iK;have Ti:=k57.trans k71;exact hq pa #[nm,sd,sz,ah,ru,li,go,cd,as,bs,gK] vd #[epa,Ti.aK n1,Ti.aK n2,Ti.aK n3,Ti.aK n4,Ti.aK n5,k71.aK el,R6.keep k71,(oA.trans iK).aK eg,G8.keep (oA.trans iK),iK.aK ec,JG.keep kk] A11 rfl kk
end
section
structure Apart(r:PR)(pa:Addr):Prop where
 t:[pa,r.cd,r.go,r.li,r.ru,r.ah,r.sz,r.sd,r.nm].Nodup
 lN:r.la.Nodup
 gN:r.ga.Nodup
 lO:∀x∈r.la,x∉[pa,r.cd,r.go,r.li,r.ru,r.ah,r.sz,r.sd,r.nm]
 gO:∀x∈r.ga,x∉[pa,r.cd,r.go,r.li,r.ru,r.ah,r.sz,r.sd,r.nm]
 lg:∀x∈r.la,x∉r.ga
theorem Al.apart{H0 H:AH}{r:PR}{pa:Addr}(h:Al H0 H (r.all pa)):Apart r pa:=by
 obtain⟨nm,sd,sz,ah,ru,li,go,cd,la,ga,gK⟩:=r;have p:(PR.all #[nm,sd,sz,ah,ru,li,go,cd,la,ga,gK] pa).Perm ([pa,cd,go,li,ru,ah,sz,sd,nm]++(ga++la)):=by
  show(pa::cd::go::(ga++li::(la++[ru,ah,sz,sd,nm]))).Perm _;refine .cons _ (.cons _ (.cons _ ?_));refine List.perm_middle.trans (.cons _ ?_);show(ga++(la++[ru,ah,sz,sd,nm])).Perm ([ru,ah,sz,sd,nm]++(ga++la));rw[<-x8];exact List.perm_append_comm
 have nd:=p.nodup_iff.mp h.nd;refine kh (K1.mp nd) λt n2 dj=>?_;refine kh (K1.mp n2) λg l dl=>?_;exact#[t,l,g,λx hx m=>dj x m x (u5 _ hx) rfl,λx hx m=>dj x m x (B0 _ hx) rfl,λx hx m=>dl x m x hx rfl]
theorem uy{l:List Addr}{j:Nat}{x:Addr}{H H':AH}(nd:l.Nodup)(hj:l[j]? =some x)(k:Kp [x] H H')(i:Nat){y:Addr}{o:AO}(e:H y=some o)(hi:l[i]? =some y)(ne:(i==j)=false):H' y=some o:=
 k.at e (ne1 λq=>by subst q;rw[(List.getElem?_inj (c9.mp hi).1 nd).mp (hi.trans hj.symm),BEq.rfl] at ne;cases ne)
theorem EO{l:List Addr}{x:Addr}{H H':AH}(nm:x∉l)(k:Kp [x] H H')(i:Nat){y:Addr}{o:AO}(e:H y=some o)(hi:l[i]? =some y):H' y=some o:=
 k.at e (ne1 λq=>nm (q▸j8 hi))
theorem bw.fG{H H':AH}{la:List Addr}{rs:List Row}{x:Addr}(h:bw H (la.map AV.ref) rs)(k:Kp [x] H H')(n:x∉la):bw H' (la.map AV.ref) rs:=#[h.1,λi r e=>by
 refine bz (h.2 i r e) λa h1 h2=>?_;refine#[a,h1,k.at h2 ?_];refine bz (m5.mp (j8 h1)) λb hb q=>?_;cases q;exact ne1 λq=>n (q▸hb)]
theorem bE.fG{H H':AH}{la:List Addr}{rs:List (List Int)}{x:Addr}(h:bE H (la.map AV.ref) rs)(k:Kp [x] H H')(n:x∉la):bE H' (la.map AV.ref) rs:=#[h.1,λi r e=>by
 refine bz (h.2 i r e) λa h1 h2=>?_;refine#[a,h1,k.at h2 ?_];refine bz (m5.mp (j8 h1)) λb hb q=>?_;cases q;exact ne1 λq=>n (q▸hb)]
theorem bw.setM{H H':AH}{la:List Addr}{rs:List Row}{i:Nat}{x:Addr}{r:Row}(h:bw H (la.map AV.ref) rs)(nd:la.Nodup)(hi:la[i]? =some x)(k:Kp [x] H H')(e:H' x=some (.dI (dG r))):bw H' (la.map AV.ref) (rs.set i r):=#[by rw[x6];exact h.1,λj r' ej=>by
 rw[Z1] at ej;split at ej
 ·rename_i hij;subst hij;split at ej
  ·cases ej;exact#[x,by rw[j9,hi];rfl,e]
  ·exact gc ej
 ·rename_i hij;refine bz (h.2 j r' ej) λa h1 h2=>?_;refine#[a,h1,k.at h2 ?_];simp only[j0];rintro rfl;rw[j9] at h1;refine bz (l8.mp h1) λb hb eb=>?_;cases eb;refine xE (c9.mp hi) λl1 e1=>?_;refine xE (c9.mp hb) λl2 e2=>?_;rcases X6 hij with q|q
  ·exact x7.mp nd _ _ l1 l2 q (e1.trans e2.symm)
  ·exact x7.mp nd _ _ l2 l1 q (e2.trans e1.symm)]
theorem bE.setM{H H':AH}{la:List Addr}{rs:List (List Int)}{i:Nat}{x:Addr}{r:List Int}(h:bE H (la.map AV.ref) rs)(nd:la.Nodup)(hi:la[i]? =some x)(k:Kp [x] H H')(e:H' x=some (.list (ak r))):bE H' (la.map AV.ref) (rs.set i r):=#[by rw[x6];exact h.1,λj r' ej=>by
 rw[Z1] at ej;split at ej
 ·rename_i hij;subst hij;split at ej
  ·cases ej;exact#[x,by rw[j9,hi];rfl,e]
  ·exact gc ej
 ·rename_i hij;refine bz (h.2 j r' ej) λa h1 h2=>?_;refine#[a,h1,k.at h2 ?_];simp only[j0];rintro rfl;rw[j9] at h1;refine bz (l8.mp h1) λb hb eb=>?_;cases eb;refine xE (c9.mp hi) λl1 e1=>?_;refine xE (c9.mp hb) λl2 e2=>?_;rcases X6 hij with q|q
  ·exact x7.mp nd _ _ l1 l2 q (e1.trans e2.symm)
  ·exact x7.mp nd _ _ l2 l1 q (e2.trans e1.symm)]
theorem cY.nF{H0 H H':AH}{S:List Addr}(k:Kp S H H')(fr:∀x∈S,H0 x=b6){vs:List AV}{cs:List Code}(h0:cY H0 vs cs):cY H vs cs->cY H' vs cs:=cY.ind (P:=λvs cs=>cY H vs cs->cY H' vs cs) id (λa Z i h=>#[(by
 rcases h.1 with h1|⟨b,code,e1,e2,e3⟩
 ·exact .inl h1
 ·refine .inr #[b,code,e1,e2,k.at e3 λm=>?_];rcases a with⟨g1,Z⟩|⟨a',code',g1,g2,g3⟩
  ·exact avN (E1 (G0 g1) e1) rfl
  ·rw[AV.ref.inj (g1.symm.trans e1)] at g3;exact gc ((fr b m).symm.trans g3)),i h.2]) h0
section
variable{H H':AH}{pa:Addr}{r:PR}{d:Dr}
theorem bf.Tj{ns:List Str}(P:bf H pa r d)(A:Apart r pa)(k:Kp [r.nm] H H')(c:cY H' r.gK d.codes)(e:H' r.nm=some (.list (aC ns))):bf H' pa r {d with names:=ns}:=
 have K:=@uy _ 8 _ _ _ A.t rfl k;have M:=j8 (l:=[pa,r.cd,r.go,r.li,r.ru,r.ah,r.sz,r.sd,r.nm]) (i:=8) rfl
 #[K 0 P.o rfl rfl,e,K 7 P.s rfl rfl,K 6 P.z rfl rfl,K 5 P.a rfl rfl,K 4 P.u rfl rfl,K 3 P.l rfl rfl,P.lr.fG k λm=>A.lO _ m M,K 2 P.g rfl rfl,P.gr.fG k λm=>A.gO _ m M,K 1 P.c rfl rfl,c]
theorem bf.Tn{ns:List Int}(P:bf H pa r d)(A:Apart r pa)(k:Kp [r.sd] H H')(c:cY H' r.gK d.codes)(e:H' r.sd=some (.list (ak ns))):bf H' pa r {d with aN:=ns}:=
 have K:=@uy _ 7 _ _ _ A.t rfl k;have M:=j8 (l:=[pa,r.cd,r.go,r.li,r.ru,r.ah,r.sz,r.sd,r.nm]) (i:=7) rfl
 #[K 0 P.o rfl rfl,K 8 P.n rfl rfl,e,K 6 P.z rfl rfl,K 5 P.a rfl rfl,K 4 P.u rfl rfl,K 3 P.l rfl rfl,P.lr.fG k λm=>A.lO _ m M,K 2 P.g rfl rfl,P.gr.fG k λm=>A.gO _ m M,K 1 P.c rfl rfl,c]
theorem bf.JH{ns:List Int}(P:bf H pa r d)(A:Apart r pa)(k:Kp [r.sz] H H')(c:cY H' r.gK d.codes)(e:H' r.sz=some (.list (ak ns))):bf H' pa r {d with aI:=ns}:=
 have K:=@uy _ 6 _ _ _ A.t rfl k;have M:=j8 (l:=[pa,r.cd,r.go,r.li,r.ru,r.ah,r.sz,r.sd,r.nm]) (i:=6) rfl
 #[K 0 P.o rfl rfl,K 8 P.n rfl rfl,K 7 P.s rfl rfl,e,K 5 P.a rfl rfl,K 4 P.u rfl rfl,K 3 P.l rfl rfl,P.lr.fG k λm=>A.lO _ m M,K 2 P.g rfl rfl,P.gr.fG k λm=>A.gO _ m M,K 1 P.c rfl rfl,c]
theorem bf.To{ns:List Int}(P:bf H pa r d)(A:Apart r pa)(k:Kp [r.ah] H H')(c:cY H' r.gK d.codes)(e:H' r.ah=some (.list (ak ns))):bf H' pa r {d with aQ:=ns}:=
 have K:=@uy _ 5 _ _ _ A.t rfl k;have M:=j8 (l:=[pa,r.cd,r.go,r.li,r.ru,r.ah,r.sz,r.sd,r.nm]) (i:=5) rfl
 #[K 0 P.o rfl rfl,K 8 P.n rfl rfl,K 7 P.s rfl rfl,K 6 P.z rfl rfl,e,K 4 P.u rfl rfl,K 3 P.l rfl rfl,P.lr.fG k λm=>A.lO _ m M,K 2 P.g rfl rfl,P.gr.fG k λm=>A.gO _ m M,K 1 P.c rfl rfl,c]
theorem bf.Tp{ns:List Int}(P:bf H pa r d)(A:Apart r pa)(k:Kp [r.ru] H H')(c:cY H' r.gK d.codes)(e:H' r.ru=some (.list (ak ns))):bf H' pa r {d with rules:=ns}:=
 have K:=@uy _ 4 _ _ _ A.t rfl k;have M:=j8 (l:=[pa,r.cd,r.go,r.li,r.ru,r.ah,r.sz,r.sd,r.nm]) (i:=4) rfl
 #[K 0 P.o rfl rfl,K 8 P.n rfl rfl,K 7 P.s rfl rfl,K 6 P.z rfl rfl,K 5 P.a rfl rfl,e,K 3 P.l rfl rfl,P.lr.fG k λm=>A.lO _ m M,K 2 P.g rfl rfl,P.gr.fG k λm=>A.gO _ m M,K 1 P.c rfl rfl,c]
theorem bf.MA{i:Nat}{x:Addr}{row:Row}(P:bf H pa r d)(A:Apart r pa)(hi:r.la[i]? =some x)(k:Kp [x] H H')(c:cY H' r.gK d.codes)(e:H' x=some (.dI (dG row))):bf H' pa r {d with lines:=d.lines.set i row}:=
 have m:=j8 hi;have K:=@EO _ _ _ _ (A.lO x m) k
 #[K 0 P.o rfl,K 8 P.n rfl,K 7 P.s rfl,K 6 P.z rfl,K 5 P.a rfl,K 4 P.u rfl,K 3 P.l rfl,P.lr.setM A.lN hi k e,K 2 P.g rfl,P.gr.fG k (A.lg x m),K 1 P.c rfl,c]
theorem bf.Tq{i:Nat}{x:Addr}{one:List Int}(P:bf H pa r d)(A:Apart r pa)(hi:r.ga[i]? =some x)(k:Kp [x] H H')(c:cY H' r.gK d.codes)(e:H' x=some (.list (ak one))):bf H' pa r {d with goals:=d.goals.set i one}:=
 have m:=j8 hi;have K:=@EO _ _ _ _ (A.gO x m) k
 #[K 0 P.o rfl,K 8 P.n rfl,K 7 P.s rfl,K 6 P.z rfl,K 5 P.a rfl,K 4 P.u rfl,K 3 P.l rfl,P.lr.fG k λq=>A.lg x q m,K 2 P.g rfl,P.gr.setM A.gN hi k e,K 1 P.c rfl,c]
theorem bf.Tt{MB:List AV}{cs:List Code}(P:bf H pa r d)(A:Apart r pa)(k:Kp [r.cd] H H')(c:cY H' MB cs)(e:H' r.cd=some (.list MB)):bf H' pa {r with gK:=MB} {d with codes:=cs}:=
 have K:=@uy _ 1 _ _ _ A.t rfl k;have M:=j8 (l:=[pa,r.cd,r.go,r.li,r.ru,r.ah,r.sz,r.sd,r.nm]) (i:=1) rfl
 #[K 0 P.o rfl rfl,K 8 P.n rfl rfl,K 7 P.s rfl rfl,K 6 P.z rfl rfl,K 5 P.a rfl rfl,K 4 P.u rfl rfl,K 3 P.l rfl rfl,P.lr.fG k λm=>A.lO _ m M,K 2 P.g rfl rfl,P.gr.fG k λm=>A.gO _ m M,e,c]
end
end
section
noncomputable def kU(r:Row)(c v:Int):Row:=if r.any (λp=>p.1=c) then r.map (λp=>if p.1=c then(p.1,v) else p) else r++[(c,v)]
theorem sC(r:Row)(c v:Int):dO (dG r) c (.int v)=dG (kU r c v):=by
 unfold dO kU dG;rw[List.any_map];by_cases h:r.any (λp=>p.1=c)
 ·rw[if_pos `a,if_pos h,K8,K8];refine R9 λp Z=>?_;simp only[Q5];split<;>rfl
 ·rw[if_neg `a,if_neg h,n6];rfl
theorem cY.set{H:AH}{v:AV}{c:Code}(hv:By H v c){vs:List AV}{cs:List Code}:cY H vs cs->∀i,cY H (vs.set i v) (cs.set i c):=cY.ind (P:=λvs cs=>∀i,cY H (vs.set i v) (cs.set i c)) (λZ=>trivial) λa h i j=>j.casesOn #[hv,h] λj=>#[a,i j]
inductive Turn(d:Dr):Dr->List Str->Prop
 |none:Turn d d []
 |names:Turn d {d with names:=nA d.names} ["names"]
 |aN (s:Nat) (h1:1<=s) (h2:s<d.aN.length) (h3:d.goals.length=3):Turn d {d with aN:=d.aN.set s (2*d.count+3 - aD d.aN s)} ["lefts"]
 |aI (s:Nat) (h1:1<=s) (h2:s<d.aN.length) (h3:0<aD d.aI s):Turn d {d with aI:=d.aI.set s (aD d.aI s+1)} ["lengths"]
 |aQ (s:Nat) (h1:1<=s) (h2:s<d.aN.length) (h3:aD d.aI s=0):Turn d {d with aQ:=d.aQ.set s (aD d.aQ s+1)} ["befores"]
 |defaults (t:Nat) (h:t<d.lines.length):Turn d {d with rules:=d.rules.set t ((aD d.rules t+1).fmod d.aN.length)} ["defaults"]
 |line (t c:Nat) (h:t<d.lines.length) (hc:(c:Int)<d.count):Turn d {d with lines:=d.lines.set t (kU (d.lines.getD t []) c (if pB (d.lines.getD t []) c=some 1048576 then -1048576 else 1048576))} ["bases","owners","table","check"]
 |goal (t:Nat) (h:t<d.lines.length) (h1:1<d.lines.length):Turn d {d with goals:=d.goals.set (d.goals.length - 1) ((d.goals.getD (d.goals.length - 1) []).set t (if aD (d.goals.getD (d.goals.length - 1) []) t=1 then -1 else 1))} ["goto_bases","goto_owners","goto_table","goto_check","goto_defaults","goto_masks"]
 |code (s:Nat) (h1:1<=s) (h2:s<d.aN.length):Turn d {d with codes:=d.codes.set s rZ} ["codes"]
variable{C:Cx}{n:Nat}{H:AH}{Q:AV->AH->Prop}
section
variable{pa x:Addr}{r:PR}
theorem PR.mT(h:x∈[r.ru,r.ah,r.sz,r.sd,r.nm]):x∈r.all pa:=.tail _ (.tail _ (.tail _ (u5 _ (.tail _ (u5 _ h)))))
theorem PR.mpa:pa∈r.all pa:=.head _
theorem PR.mcd:r.cd∈r.all pa:=.tail _ (.head _)
theorem PR.mgo:r.go∈r.all pa:=.tail _ (.tail _ (.head _))
theorem PR.mga(h:x∈r.ga):x∈r.all pa:=.tail _ (.tail _ (.tail _ (B0 _ h)))
theorem PR.mli:r.li∈r.all pa:=.tail _ (.tail _ (.tail _ (u5 _ (.head _))))
theorem PR.mla(h:x∈r.la):x∈r.all pa:=.tail _ (.tail _ (.tail _ (u5 _ (.tail _ (B0 _ h)))))
theorem PR.mru:r.ru∈r.all pa:=mT (.head _)
theorem PR.mah:r.ah∈r.all pa:=mT (.tail _ (.head _))
theorem PR.Tu:r.sz∈r.all pa:=mT (.tail _ (.tail _ (.head _)))
theorem PR.msd:r.sd∈r.all pa:=mT (.tail _ (.tail _ (.tail _ (.head _))))
theorem PR.mnm:r.nm∈r.all pa:=mT (.tail _ (.tail _ (.tail _ (.tail _ (.head _)))))
end
theorem bf.AB{H':AH}{x pa:Addr}{r:PR}{d:Dr}(P:bf H pa r d)(k:Kp [x] H H')(hx:x∉r.all pa)(c:cY H' r.gK d.codes):bf H' pa r d:=
 have f:∀{y o},y∈r.all pa->H y=some o->H' y=some o:=λm e=>k.at e (ne1 λq=>hx (q▸m))
 #[f PR.mpa P.o,f PR.mnm P.n,f PR.msd P.s,f PR.Tu P.z,f PR.mah P.a,f PR.mru P.u,f PR.mli P.l,P.lr.fG k λm=>hx (PR.mla m),f PR.mgo P.g,P.gr.fG k λm=>hx (PR.mga m),f PR.mcd P.c,c]
noncomputable abbrev UN(p a pa:Addr)(r:PR)(w ct sp st te:LV):Loc:=[("pen",.val (.ref p)),("packed",.val (.ref a)),("parts",.val (.ref pa)),("names",.val (.ref r.nm)),("sides",.val (.ref r.sd)),("sizes",.val (.ref r.sz)),("aheads",.val (.ref r.ah)),("rules",.val (.ref r.ru)),("lines",.val (.ref r.li)),("goals",.val (.ref r.go)),("codes",.val (.ref r.cd)),("way",w),("count",ct),("spot",sp),("state",st),("terminal",te),("_law_draw",.glob),("len",.glob),("ACCEPT",.glob),("BARRED",.glob)]
theorem Ig{count:Int}{others:Nat}{l:List Str}(hc:count=4\/count=5)(ho:others=2\/others=3)(h:l=lA count others\/l=nA (lA count others)):(l.getLastD "").length<=20/\l≠[]:=by
 rcases hc with rfl|rfl<;>rcases ho with rfl|rfl<;>rcases h with rfl|rfl<;>exact#[`d,`d]
theorem EP{l:List Str}{y:Str}(h:l≠[]):l.set (l.length - 1) y=l.dropLast++[y]:=by
 induction l with
 |nil=>exact absurd rfl h
 |cons a l ih=>
  cases l with
  |nil=>rfl
  |cons b l=>
   have:=ih (!F4 _ _);simp only[x9,X0] at this⊢;rw[List.set_cons_succ,this];rfl
theorem ER{l:List Str}(h:l≠[]):l[l.length - 1]? =some (l.getLastD ""):=by
 rw[<-J2,E2 h,R7,E2 h];rfl
theorem tF (cc:CC C) {d:Dr} (h:vt d) {H0:AH} {p c a pa:Addr} {b:Int} {q:Hq} {r:PR} (hp:eF H p c b) (hb:b<=80000) (pp:oh H a q d.fld) (P:bf H pa r d) (A:Al H0 H (r.all pa)) (c0:cY H0 r.gK d.codes) (hp0:p∉r.all pa)
 (hq:∀wa words d' r' H',H' wa=some (.list (aC words))->Turn d d' words->bf H' pa r' d'->Kp (p::r.all pa) H H'->Q (.ref wa) H'):aj C (n+2) (.ref 877) [.ref p,.ref a,.ref pa] H Q:=
 sX cc λF hf hn hk=>by
  refine xA h.s λs1 s3=>?_;have hcn:=h.c;have sL:=h.r2;have tU:=h.e1;have ha1:=h.a1;have hgo:=h.o;have hd1:=h.df.1;have hc1:=h.cd.1;have AA:=(JC h.c h.o h.nm).ln;have B:=A.apart;refine xE pp.o λdd e0=>?_;have Ih:∀{x},x∈r.all pa->∀y∈[x],H0 y=b6:=λhx y hy=>by rw[j0.mp hy];exact A.fr _ hx
  refine aG.cons ?_;refine Ex.qw ?_;lk;refine b_.list P.o rfl rfl ?_;refine e_.names hf `nm `sx ?_;refine aG.cons ?_;refine Ex.Qm (names:=["way","count","spot"]) ?_ (by unfold swappedStores Z4 W9;rw[hk,hn];kernel_rfl);lk;refine bU cc hp (!abz hb) `e `e λwy H1 w0 w1 hp1 k1=>?_;have P1:=P.AB k1 hp0 (cY.dR hp k1 P.cr);have e01:=k1.at e0 (ne1 (hp.Jz e0 λs r e=>nomatch e));lk;refine aj.bM P1.s (by rw[az];exact Ct sL) ?_;rw[az];lk;refine aB.fK ?_;lk;refine bU cc hp1 (!abA hb) (!ON sL) (!OO sL) λsp H2 p0 p1 hp2 k2=>?_;have P2:=P1.AB k2 hp0 (cY.dR hp1 k2 P1.cr);obtain⟨s,es,hs1,hs2⟩:∃s:Nat,1+sp=s/\1<=s/\s<d.aN.length:=#[(1+sp).toNat,!OR p0,!OS p0,!abB p0 p1];refine aB.bL ?_;rw[es];lk;refine#[sz rfl,[.int wy,.int d.fld.count,.int s],rfl,rfl,?_];show tH C F ["spot","count","way"] [.int s,.int d.fld.count,.int wy] _ _ _;refine tH.uo (u:=.undef) `get c7 hf `set ?_;refine tH.uo (u:=.undef) `get c7 hf `set ?_;refine tH.uo (u:=.undef) `get c7 hf `set ?_;refine tH.nil ?_;have t_:=k1.trans k2;clear P P1 hp hp1 k1 k2 e0 e01 pp p1 p0 es;show aG _ _ _ _ (UN p a pa r (.val (.int wy)) (.val (.int d.count)) (.val (.int s)) .undef .undef) _ _;have K:∀{x:Addr} {H3:AH},x∈r.all pa->Kp [x] H2 H3->Kp (p::r.all pa) H H3:=λhx k3=>t_.hd.trans (k3.tl hx);lk;refine aB.kI (λz0=>?_) λz0=>?_
  ·refine xA (Ig h.c h.o h.nm) λnz nne=>?_;have nl:(aC d.names).length=d.names.length:=b9 ..;have gl:(aC d.names)[d.names.length - 1]? =some (.str (d.names.getLastD "")):=by unfold aC;rw[j9,ER nne];rfl
   lk;refine kY.fC ?_;refine aF.fT (k:=-1) (λZ Z=>rfl) P2.n `e (by rw[nl];exact Ph AA hgo) (v:=.str (d.names.getLastD "")) (by rw[nl,show(-1+(d.names.length:Int)).toNat=d.names.length - 1 by exact FZ];exact gl) (by rw[nl];exact KL hcn hgo AA) ?_;lk;refine aB.gX (abC nz `d) ?_;lk;refine kY.fC ?_;refine cZ.fT (k:=-1) P2.n `e (by rw[nl];exact Ph AA hgo) (by rw[nl];exact KL hcn hgo AA) ?_;refine g_ λH3 k3 e3=>?_;have e3:H3 r.nm=some (.list (aC (nA d.names))):=by
    rw[e3,nl,show(-1+(d.names.length:Int)).toNat=d.names.length - 1 by exact FZ];unfold aC nA;rw[<-EP nne,List.map_set]
   have P3:=P2.Tj B k3 (c0.nF k3 (Ih PR.mnm) P2.cr) e3;lk;refine#[sz rfl,λwa kQ=>newL kQ λH4 k4 ew=>?_];exact hq wa ["names"] _ r H4 ew .names (P3.keep k4) ((K PR.mnm k3).trans k4.any)
  lk;have JI:aG C (n+1) F ((fB (tS 73)).drop 4) (UN p a pa r (.val (.int wy)) (.val (.int d.count)) (.val (.int s)) .undef .undef) H2 λo Z H'=>Q (eL o) H':=by
   refine aG.cons ?_;lk;refine aB.kI (λz2=>?_) λz2=>?_
   ·lk;refine aF.aD (λZ Z=>rfl) P2.z (!bN) (!cI hs2 tU) (!AN sL tU) ?_;lk;refine aF.aD (λZ Z=>rfl) P2.z (!bN) (!cI hs2 tU) (!AN sL tU) ?_;lk;refine aB.yp (λg=>?_) λg=>?_
    ·lk;refine aB.bL ?_;lk;refine cZ.list P2.z (!bN) (by rw[az];exact cI hs2 tU) (by rw[az];exact AM sL tU) ?_;refine g_ λH3 k3 e3=>?_;rw[ints_set,j7] at e3;have P3:=P2.JH B k3 (c0.nF k3 (Ih PR.Tu) P2.cr) e3;lk;refine aF.aD (λZ Z=>rfl) e3 (!bN) (by rw[x6];exact cI hs2 tU) (by rw[x6];exact AN sL tU) ?_;rw[show aD (d.aI.set s (aD d.aI s+1)) s=aD d.aI s+1 by rw[<-j7 s];rw[nj (!bN) (!cI hs2 tU) (!abD)];simp];lk;refine aB.ae4 (!abE g) ?_;lk;refine#[sz rfl,λwa kQ=>newL kQ λH4 k4 ew=>?_];exact hq wa ["lengths"] _ r H4 ew (.aI s hs1 hs2 g) (P3.keep k4) ((K PR.Tu k3).trans k4.any)
    ·lk;refine aB.bL ?_;lk;refine cZ.list P2.z (!bN) (by rw[az];exact cI hs2 tU) (by rw[az];exact AM sL tU) ?_;refine g_ λH3 k3 e3=>?_;rw[ints_set,j7,show d.aI.set s (aD d.aI s+0)=d.aI by
      rw[V9];unfold aD;rw[j7,c8,b8 (!Cp hs2 tU)];exact List.set_getElem_self _] at e3
     have P3:bf H3 pa r d:=P2.JH B k3 (c0.nF k3 (Ih PR.Tu) P2.cr) e3;lk;refine aF.aD (λZ Z=>rfl) e3 (!bN) (!cI hs2 tU) (!AN sL tU) ?_;lk;refine aB.uJ g ?_;lk;refine#[sz rfl,λwa kQ=>newL kQ λH4 k4 ew=>?_];exact hq wa [] d r H4 ew .none (P3.keep k4) ((K PR.Tu k3).trans k4.any)
   lk;have JJ:aG C (n+1) F ((fB (tS 73)).drop 6) (UN p a pa r (.val (.int wy)) (.val (.int d.count)) (.val (.int s)) .undef .undef) H2 λo Z H'=>Q (eL o) H':=by
    refine aG.cons ?_;lk;refine aj.bM P2.l (by rw[P2.lr.1];exact qi s3) ?_;rw[P2.lr.1];lk;refine bU cc hp2 (!abF hb) (!KN s1) (!abG s3) λst H3 t0 t1 hp3 k3=>?_;have P3:=P2.AB k3 hp0 (cY.dR hp2 k3 P2.cr);obtain⟨t,rfl,ht⟩:∃t:Nat,st=t/\t<d.lines.length:=#[st.toNat,!lX t0,!Kc t0 t1];have oH:=t_.trans k3;have K3:∀{x:Addr} {H4:AH},x∈r.all pa->Kp [x] H3 H4->Kp (p::r.all pa) H H4:=λhx k4=>oH.hd.trans (k4.tl hx);clear P2 k3 t_ K t0 t1;lk;refine aB.kI (λz4=>?_) λz4=>?_
    ·lk;refine aF.aD (λZ Z=>rfl) P3.u (!bN) (!cI ht hd1) (!qh hd1 s3) ?_;lk;refine aB.bL ?_;lk;refine aj.bM P3.s (by rw[az];exact Ct sL) ?_;rw[az];refine aB.uG (!abH sL) ?_;lk;refine cZ.list P3.u (!bN) (by rw[az];exact cI ht hd1) (by rw[az];exact gW hd1 s3) ?_;refine g_ λH4 k4 e4=>?_;rw[ints_set,j7] at e4;have P4:=P3.Tp B k4 (c0.nF k4 (Ih PR.mru) P3.cr) e4;lk;refine#[sz rfl,λwa kQ=>newL kQ λH5 k5 ew=>?_];exact hq wa ["defaults"] _ r H5 ew (.defaults t ht) (P4.keep k5) ((K3 PR.mru k4).trans k5.any)
    lk;refine aB.kI (λz5=>?_) λz5=>?_
    ·lk;refine bU cc hp3 (!abI hb) (!abJ hcn) (!abK hcn) λtm H4 u0 u1 tW k4=>?_;have P4:=P3.AB k4 hp0 (cY.dR hp3 k4 P3.cr);obtain⟨e,rfl,he⟩:∃e:Nat,tm=e/\(e:Int)<d.count:=#[tm.toNat,!lX u0,!abL u0 u1];refine bz (P4.lr.2 t d.lines[t] (b8 ht)) λx x1 x2=>?_;have x3:r.la[t]? =some x:=by
      rw[j9] at x1;refine bz (l8.mp x1) λy hy ey=>?_;cases ey;exact hy
     have xm:x∈r.all pa:=by
      have:=j8 x3;exact PR.mla this
     have gd:d.lines.getD t []=d.lines[t]:=by rw[c8,b8 ht];rfl
     have ln:=((h.li _ (m6 ht)).ok).ln;lk;refine aF.list (λZ Z=>rfl) P4.l (!bN) (v:=.ref x) `a (by rw[P4.lr.1];exact qi s3) ?_;lk;ktn_no "meth";lk;refine aj.aeG (oX C) (k:=(e:Int)) (kvs:=dG d.lines[t]) x2 ?_;rw[nB];lk;have fin:∀v,v=(if pB (d.lines.getD t []) e=some 1048576 then -1048576 else 1048576)->∀H5,Kp [x] H4 H5->H5 x=some ((oX C).ao (dO (dG d.lines[t]) (e:Int) (.int v)))->∀wa,H5 wa=b6->Q (.ref wa) (H5.set wa (.list [.str "bases",.str "owners",.str "table",.str "check"])):=λv hv H5 k5 e5 wa kQ=>newL kQ λH6 k6 ew=>by
      have e5':H5 x=some (.dI (dG (kU d.lines[t] e v))):=by rw[e5,sC];rfl
      have P5:=P4.MA B x3 k5 (c0.nF k5 (Ih xm) P4.cr) e5';rw[<-gd,hv] at P5;exact hq wa ["bases","owners","table","check"] _ r H6 ew (.line t e ht he) (P5.keep k6) ((oH.trans k4).hd.trans (k5.tl xm) |>.trans k6.any)
     have ne:∀(o:Option Int) {Q:AV->AH->Prop},Q (.bool (Bool.not (decide (o=some 1048576)))) H4->aB C (n+1) (compareOp .NotEq) ((o.map AV.int).getD .none) (.int 1048576) H4 Q:=λo Q hQ=>by
      cases o with
      |none=>exact aB.CO .none (.int _) rfl rfl (!s8 _) `a
      |some v=>
       refine aB.pH ?_;simpa using hQ
     refine ne _ ?_;refine#[_,rfl,?_];by_cases g:pB d.lines[t] e=some 1048576
     ·rw[decide_eq_true g];ktn_no "no";refine aF.list (λZ Z=>rfl) P4.l (!bN) (v:=.ref x) `a (by rw[P4.lr.1];exact qi s3) ?_;lk;refine cZ.dict (oX C) x2 (by simp[dG];exact AL ln) ?_;refine g_ λH5 k5 e5=>?_;lk;exact#[sz rfl,λwa kQ=>fin _ (by rw[gd,if_pos g]) H5 k5 e5 wa kQ]
     ·rw[decide_eq_false g];ktn_no "yes";refine aF.list (λZ Z=>rfl) P4.l (!bN) (v:=.ref x) `a (by rw[P4.lr.1];exact qi s3) ?_;lk;refine cZ.dict (oX C) x2 (by simp[dG];exact AL ln) ?_;refine g_ λH5 k5 e5=>?_;lk;exact#[sz rfl,λwa kQ=>fin _ (by rw[gd,if_neg g]) H5 k5 e5 wa kQ]
    ktn_no "if";refine aG.nil ?_;have JK:aG C (n+1) F ((fB (tS 73)).drop 10) (UN p a pa r (.val (.int wy)) (.val (.int d.count)) (.val (.int s)) (.val (.int t)) .undef) H3 λo Z H'=>Q (eL o) H':=by
     refine aG.cons ?_;lk;refine aB.kI (λz7=>?_) λz7=>?_
     ·lk;refine#[sz rfl,?_];lk;refine#[sz rfl,?_];lk;refine#[sz rfl,λna hna=>newL hna λH4 k4 e4=>?_];lk;have cl:=P3.cr.len;refine cZ.list (k4.aK P3.c) (!bN) (!Pf hs2 cl hc1) (!Pg sL cl hc1) ?_;rw[j7];refine g_ λH5 k5 e5=>?_;have P4:=P3.keep k4;have ncd:na≠r.cd:=λz=>by have:=P3.c;rw[<-z,hna] at this;cases this
      have c5:cY H5 (r.gK.set s (.ref na)) (d.codes.set s rZ):=by
       have c4:=c0.nF k5 (Ih PR.mcd) P4.cr;have hn5:By H5 (.ref na) rZ:=.inr #[na,_,rfl,rfl,k5.at e4 (ne1 ncd)];exact cY.set hn5 c4 s
      have P5:=P4.Tt B k5 c5 e5;lk;refine#[sz rfl,λwa kQ=>newL kQ λH6 k6 ew=>?_];exact hq wa ["codes"] _ _ H6 ew (.code s hs1 hs2) (P5.keep k6) ((oH.hd.trans k4.any).trans (k5.tl PR.mcd) |>.trans k6.any)
     ·lk;refine#[sz rfl,λwa kQ=>newL kQ λH6 k6 ew=>?_];exact hq wa [] d r H6 ew .none (P3.keep k6) (oH.hd.trans k6.any)
    lk;refine aB.kI (λz6=>?_) λz6=>?_
    ·lk;refine aj.bM P3.l (by rw[P3.lr.1];exact qi s3) ?_;rw[P3.lr.1];lk;refine aB.yp (λg1=>?_) λg1=>?_
     ·lk;have gi:d.goals.length - 1<d.goals.length:=by exact KO hgo
      refine bz (P3.gr.2 (d.goals.length - 1) d.goals[d.goals.length - 1] (b8 gi)) λx x1 x2=>?_;have x3:r.ga[d.goals.length - 1]? =some x:=by
       rw[j9] at x1;refine bz (l8.mp x1) λy hy ey=>?_;cases ey;exact hy
      have xm:x∈r.all pa:=by
       have:=j8 x3;exact PR.mga this
      have gd:d.goals.getD (d.goals.length - 1) []=d.goals[d.goals.length - 1]:=by rw[c8,b8 gi];rfl
      have ol:=(h.go _ (m6 gi)).ln;have gl:=P3.gr.1;have x4:r.iI[(-1+(r.iI.length:Int)).toNat]? =some (.ref x):=by rw[gl,show(-1+(d.goals.length:Int)).toNat=d.goals.length - 1 by exact FZ];exact x1
      have fin:∀v,v=(if aD (d.goals.getD (d.goals.length - 1) []) t=1 then -1 else 1)->∀H5,Kp [x] H3 H5->H5 x=some (.list ((ak d.goals[d.goals.length - 1]).set t (.int v)))->∀wa,H5 wa=b6->Q (.ref wa) (H5.set wa (.list [.str "goto_bases",.str "goto_owners",.str "goto_table",.str "goto_check",.str "goto_defaults",.str "goto_masks"])):=λv hv H5 k5 e5 wa kQ=>newL kQ λH6 k6 ew=>by
       rw[ints_set] at e5;have P5:=P3.Tq B x3 k5 (c0.nF k5 (Ih xm) P3.cr) e5;rw[hv,<-gd] at P5;exact hq wa ["goto_bases","goto_owners","goto_table","goto_check","goto_defaults","goto_masks"] _ r H6 ew (.goal t ht (!abM g1)) (P5.keep k6) ((K3 xm k5).trans k6.any)
      refine kY.fC ?_;refine aF.fT (k:=-1) (λZ Z=>rfl) P3.g `e (!KP gi gl) (v:=.ref x) x4 (!sN hgo gl) ?_;lk;refine aF.aD (λZ Z=>rfl) x2 (!bN) (!cI ht ol) (!qh ol s3) ?_;lk;refine aB.wC (λg=>?_) λg=>?_
      ·ktn_no "no";refine kY.fC ?_;lk;refine kY.fC ?_;refine aF.fT (k:=-1) (λZ Z=>rfl) P3.g `e (!KP gi gl) (v:=.ref x) x4 (!sN hgo gl) ?_;lk;refine cZ.list x2 (!bN) (by rw[az];exact cI ht ol) (by rw[az];exact gW ol s3) ?_;rw[j7];refine g_ λH5 k5 e5=>?_;lk;exact#[sz rfl,λwa kQ=>fin _ (by rw[gd,if_pos g]) H5 k5 e5 wa kQ]
      ·ktn_no "yes";refine kY.fC ?_;refine aF.fT (k:=-1) (λZ Z=>rfl) P3.g `e (!KP gi gl) (v:=.ref x) x4 (!sN hgo gl) ?_;lk;refine cZ.list x2 (!bN) (by rw[az];exact cI ht ol) (by rw[az];exact gW ol s3) ?_;rw[j7];refine g_ λH5 k5 e5=>?_;lk;exact#[sz rfl,λwa kQ=>fin _ (by rw[gd,if_neg g]) H5 k5 e5 wa kQ]
     ·ktn_no "if";refine aG.nil ?_;exact JK
    ·ktn_no "if";ktn_no "if";refine aG.nil ?_;exact JK
   refine aB.kI (λz3=>?_) λz3=>?_
   ·lk;refine aF.aD (λZ Z=>rfl) P2.z (!bN) (!cI hs2 tU) (!AN sL tU) ?_;lk;refine aB.kI (λg=>?_) λg=>?_
    ·lk;refine aF.aD (λZ Z=>rfl) P2.a (!bN) (!cI hs2 ha1) (!AN sL ha1) ?_;lk;refine aB.bL ?_;lk;refine cZ.list P2.a (!bN) (by rw[az];exact cI hs2 ha1) (by rw[az];exact AM sL ha1) ?_;refine g_ λH3 k3 e3=>?_;rw[ints_set,j7] at e3;have P3:=P2.To B k3 (c0.nF k3 (Ih PR.mah) P2.cr) e3;lk;refine#[sz rfl,λwa kQ=>newL kQ λH4 k4 ew=>?_];exact hq wa ["befores"] _ r H4 ew (.aQ s hs1 hs2 g) (P3.keep k4) ((K PR.mah k3).trans k4.any)
    ·ktn_no "if";refine aG.nil ?_;exact JJ
   ·ktn_no "if";ktn_no "if";refine aG.nil ?_;exact JJ
  refine aB.kI (λz1=>?_) λz1=>?_
  ·lk;refine aj.bM P2.n (by rw[aC,b9];exact KL hcn hgo AA) ?_;rw[show(aC d.names).length=d.names.length from b9 ..];lk;refine aB.bL ?_;refine aB.yp (λg=>?_) λg=>?_
   ·lk;refine aB.mulL (!b7 rfl) ?_;lk;refine aB.bL ?_;lk;refine aF.aD (λZ Z=>rfl) P2.s (!bN) (!gI hs2) (!abN sL) ?_;refine aB.fK ?_;lk;refine cZ.list P2.s (!bN) (by rw[az];exact gI hs2) (by rw[az];exact Ct sL) ?_;refine g_ λH3 k3 e3=>?_;rw[ints_set,j7] at e3;have P3:=P2.Tn B k3 (c0.nF k3 (Ih PR.msd) P2.cr) e3;lk;refine#[sz rfl,λwa kQ=>newL kQ λH4 k4 ew=>?_];exact hq wa ["lefts"] _ r H4 ew (.aN s hs1 hs2 (!abO hgo g hcn AA)) (P3.keep k4) ((K PR.msd k3).trans k4.any)
   ·ktn_no "if";refine aG.nil ?_;exact JI
  ktn_no "if";ktn_no "if";refine aG.nil ?_;exact JI
end
section
variable{C:Cx}{n:Nat}{H:AH}{Q:AV->AH->Prop}
open Classical in
noncomputable def HN(H:AH):AH:=λx=>match H x with|some o=>if Dm o then some o else b6|none=>b6
theorem zw(H:AH):∀a o,HN H a=some o->H a=some o:=λa o e=>by
 unfold HN at e;cases q:H a with
 |none=>rw[q] at e;cases e
 |some o'=>rw[q] at e;simp only at e;exact(Option.ite_none_right_eq_some.mp e).2
theorem gU(e:H a=some o)(n:Dm o):HN H a=some o:=by unfold HN;rw[e];simp only;rw[if_pos n]
theorem JL(H:AH):Be (HN H):=λa o e=>by
 unfold HN at e;cases q:H a with
 |none=>rw[q] at e;cases e
 |some o'=>
  rw[q] at e;by_cases h:Dm o'
  ·exact m9 ((if_pos h).symm.trans e)▸h
  ·exact gc ((if_neg h).symm.trans e)
theorem Be.set{H:AH}(h:Be H){a:Addr}{o:AO}(n:Dm o):Be (H.set a o):=λb o' e=>by
 unfold AH.set at e;split at e
 ·cases e;exact n
 ·exact h b o' e
theorem je(l:List Int):Dm (.list (ak l)):=λv hv=>by
 obtain⟨i,_,rfl⟩:=m5.mp hv;exact trivial
theorem Ii(l:List Str):Dm (.list (aC l)):=λv hv=>by
 obtain⟨i,_,rfl⟩:=m5.mp hv;exact trivial
theorem vB(l:List Addr):Dm (.list (l.map AV.ref)):=λv hv=>by
 obtain⟨i,_,rfl⟩:=m5.mp hv;exact trivial
theorem ES(r:Row):Dm (.dI (dG r)):=λp hp=>by
 obtain⟨i,_,rfl⟩:=m5.mp hp;exact trivial
structure jZ(H:AH)(pa:Addr)(r:PR)(d:Dr):Prop where
 o:H pa=some (.list [.ref r.nm,.ref r.sd,.ref r.sz,.ref r.ah,.ref r.ru,.ref r.li,.ref r.go,.ref r.cd])
 n:H r.nm=some (.list (aC d.names))
 s:H r.sd=some (.list (ak d.aN))
 z:H r.sz=some (.list (ak d.aI))
 a:H r.ah=some (.list (ak d.aQ))
 u:H r.ru=some (.list (ak d.rules))
 l:H r.li=some (.list r.nH)
 lr:bw H r.nH d.lines
 g:H r.go=some (.list r.iI)
 gr:bE H r.iI d.goals
theorem jZ.nt(P:jZ H pa r d):jZ (HN H) pa r d:=
 #[gU P.o (λv hv=>by simp at hv;rcases hv with rfl|rfl|rfl|rfl|rfl|rfl|rfl|rfl<;>exact trivial),gU P.n (Ii _),gU P.s (je _),gU P.z (je _),gU P.a (je _),gU P.u (je _),gU P.l (vB _),#[P.lr.1,λi r e=>by refine bz (P.lr.2 i r e) λa h1 h2=>?_;exact#[a,h1,gU h2 (ES _)]],gU P.g (vB _),#[P.gr.1,λi r e=>by refine bz (P.gr.2 i r e) λa h1 h2=>?_;exact#[a,h1,gU h2 (je _)]]]
theorem bf.toB(P:bf H pa r d):jZ H pa r d:=#[P.o,P.n,P.s,P.z,P.a,P.u,P.l,P.lr,P.g,P.gr]
theorem jZ.keep(h:jZ H pa r d)(k:Kp [] H H'):jZ H' pa r d:=
 #[k.aK h.o,k.aK h.n,k.aK h.s,k.aK h.z,k.aK h.a,k.aK h.u,k.aK h.l,h.lr.keep k,k.aK h.g,h.gr.keep k]
noncomputable def ntB:LV->Bool
 | .val (.tup _)=>false
 |_=>true
theorem MC(h:ρ.all (λp=>ntB p.2)=true):Rh ρ:=by
 induction ρ with
 |nil=>intro x v e;cases e
 |cons p ρ ih=>
  obtain⟨k,u⟩:=p;rw[List.all_cons,D0] at h;intro x v e;rw[Loc.kW] at e;split at e
  ·have h:=h.1;cases e;cases v<;>first|trivial|cases h
  ·exact ih h.2 x v e
noncomputable abbrev ZrK(us:List Str)(dJ:Loc)(I:Nat->AH->Prop)(k:Nat)(Q:Out->Loc->AH->Prop):Out->Loc->AH->Prop:=λo ρ H=>match o with| .next=>WI us dJ (λH=>∃H₂,(∀a o,H₂ a=some o->H a=some o)/\I (k+1) H₂) ρ H| .cont=>False| .brk=>False| .ret _=>False
theorem Ex.Ij {F:Fm} {ρ dJ:Loc} {x1 x2:Str} {np p1 p2 cp tp pos:Pos} {es:List Expr} {k0:Nat} {body:List Stmt} {Q:Out->Loc->AH->Prop} {l1 l2:Addr} {vs1 vs2:List AV} (hf:F.fn=true) (us:List Str) (e:fo us ρ=dJ) (hz:dJ.get ("zip":Str)=some .glob) (gz:Gb C ("zip":Str) (.type "zip"))
 (e1:Ev C n F (.Name x1 p1) dJ H λv H'=>v=.ref l1/\H=H') (e2:Ev C n F (.Name x2 p2) dJ H λv H'=>v=.ref l2/\H=H') (a1:H l1=some (.list vs1)) (a2:H l2=some (.list vs2)) (ntl:Rh dJ)
 (I:Nat->AH->Prop) (i0:I 0 H) (nt:∀k H',I k H'->Be H'/\H' l1=some (.list vs1)/\H' l2=some (.list vs2))
 (turn:∀(k:Nat) v1 v2 H',vs1[k]? =some v1->vs2[k]? =some v2->I k H'->∀K,(∀{o ρ' H'},ZrK us dJ I k Q o ρ' H'->K o ρ' H')->b_ C F (.Tuple es k0 tp) (.tup [v1,v2]) dJ H' (mC C n F body H' K))
 (fin:∀H',I (min vs1.length vs2.length) H'->Q .next dJ H')
 (he:autoParam (starEach [.Name x1 p1,.Name x2 p2] F.env=[(false,eval (.Name x1 p1) F.env),(false,eval (.Name x2 p2) F.env)]) A1)
 (hs:autoParam (∀y,foldedSetIterable (.Call (.Name ("zip":Str) np) [.Name x1 p1,.Name x2 p2] [] cp) F.env y=pure y) A1):
 Ex C n F (.For (.Tuple es k0 tp) (.Call (.Name ("zip":Str) np) [.Name x1 p1,.Name x2 p2] [] cp) body [] pos) ρ H Q:=by
 refine Ex.wk hf e (Ex.LM hz gz e1 e2 a1 a2 (λk ρ' H'=>dJ=ρ'/\I k H') #[rfl,i0] (λk ρ' H' i=>#[i.1▸ntl,nt k H' i.2]) (λk v1 v2 ρ' H' h1 h2 i=>?_) (λρ' H' i=>i.1▸fin H' i.2) he hs);obtain⟨rfl,i⟩:=i;refine(turn k v1 v2 H' h1 h2 i _ id).mono λLz b=>b.post hf us λo QY H2 q=>?_;cases o with
 |next=>obtain⟨e,H₂,s,p⟩:=q;exact#[H₂,s,e.symm,p]
 |_=>exact q.elim
theorem ET{P:AH->Prop}{H:AH}{a:Addr}{vs:List AV}(ha:H a=b6)(hn:Be H)(nt:Dm (.list vs))(h:∀H',Kp [] H H'->H' a=some (.list vs)->Be H'->P H'):P (H.set a (.list vs)):=h _ (Kp.new ha) (AH.aq _ _ _) (hn.set nt)
inductive UO(d:Dr)(ra:Addr)(H0:AH)(k:Nat)(H:AH):Prop
 |mk (as:List Addr) (e:H ra=some (.list (as.map AV.ref))) (rows:bw H (as.map AV.ref) ((d.goals.take k).map bW)) (nh:Be H) (kp:Kp [ra] H0 H):UO d ra H0 k H
theorem UO.push{d:Dr}{ra D:Addr}{H0 H1 H6 H7:AH}{as:List Addr}{k:Nat}(hk:k<d.goals.length)(h0:Be H0)(rows:bw H1 (as.map AV.ref) ((d.goals.take k).map bW))(kp:Kp [ra] H0 H1)(k6:Kp [] H1 H6)(eR:H6 ra=some (.list (as.map AV.ref)))(eD:H6 D=some (.dI (dG (bW d.goals[k]))))(k7:Kp [ra] H6 H7)(e7:H7 ra=some (.list (as.map AV.ref++[.ref D]))):UO d ra H0 (k+1) (HN H7):=by
 have SM:∀{a:Addr} {kvs:List (Int×AV)},H6 a=some (.dI kvs)->a∉[ra]:=λe=>ne1 λz=>by rw[z,eR] at e;cases e
 have rw7:=((rows.keep k6).rY k7 λa kvs e=>SM e).snoc (k7.at eD (SM eD));refine#[as++[D],gU (by rw[e7,n6];rfl) (vB _),?_,JL _,λb o nb e=>gU (k7 b o nb (k6.aK (kp b o nb e))) (h0 b o e)];rw[l7 hk,n6,n6];exact#[rw7.1,λi r e=>by refine bz (rw7.2 i r e) λa q1 q2=>?_;exact#[a,q1,gU q2 (ES _)]]
theorem xy (cc:CC C) {d:Dr} (h:vt d) {a pa dd:Addr} {r:PR} {fs:List (Str×AV)} (hnt:Be H) (e0:H a=some (.inst 567 dd fs)) (ef:fget fs "terminal_count"=some (.int d.count)) (P:jZ H pa r d)
 (hq:∀pk q H',oh H' pk q d.fld->Kp [] H H'->Q (.ref pk) H'):aj C (n+7) (.ref 870) [.ref a,.ref pa] H Q:=
 wK cc λF hf hn hk=>by
  refine xA h.s λs1 s3=>?_;have hgo:=h.o;have g3:d.goals.length<=1000000:=by rcases hgo with e|e<;>rw[e]<;>decide
  have ll:=P.lr.1;have gl:=P.gr.1;refine aG.cons ?_;refine Ex.qw ?_;lk;refine b_.list P.o rfl rfl ?_;refine e_.names hf `nm `sx ?_;refine aG.cons ?_;refine Ex.dH (λu=>[(".0",.undef),("one",u),("max",.glob)]) (aP.of hn rfl `d `d `k) (w:=.undef) `get c7 hf `k (λZ Z=>`set) (λZ=>`get) (.inl `k) ?_ (cT hn hk true `k);refine aZ.list ?_ bu.name;lk;refine#[r.go,_,rfl,P.g,gZ.map (us:=ak (d.goals.map cH)) (by rw[az,b9,gl]) (by rw[az,b9];exact g3) P.g (λF' cf k v hv=>?_) λua hua=>ET hua hnt (je _) λH1 k1 eU hn1=>?_]
  ·have iY:k<d.goals.length:=by rw[<-gl];exact(c9.mp hv).1
   refine bz (P.gr.2 k d.goals[k] (b8 iY)) λx h1 h2=>?_;obtain rfl:v=.ref x:=by rw[hv] at h1;exact m9 h1
   have hl:=(h.go _ (m6 iY)).ln;lk;refine aj.max h2 (!Gi s1 hl) λM hM hx=>#[?_];rw[uq (!Gi s1 hl) hM hx,ak,j9,j9,b8 iY];rfl
  refine aG.cD `set ?_;have P1:=P.keep k1;lk;refine aj.bM P1.l (!gW ll s3) ?_;rw[ll];refine aG.cD `set ?_;refine aG.cons ?_;refine Ex.dH (λu=>[(".0",.undef),("one",u),("sum",.glob),("range",.glob),("size",.val (.int d.lines.length))]) (aP.of hn rfl `d `d `k) (w:=.undef) `get c7 hf `k (λZ Z=>`set) (λZ=>`get) (.inr `k) ?_ (cT hn hk true `k);refine aZ.list ?_ bu.name;lk;refine#[r.go,_,rfl,P1.g,gZ.map (us:=ak (d.goals.map cy)) (by rw[az,b9,gl]) (by rw[az,b9];exact g3) P1.g (λF' cf k v hv=>.forget ?_) λma hma=>ET hma hn1 (je _) λH3 k3 eM hn3=>?_]
  ·have iY:k<d.goals.length:=by rw[<-gl];exact(c9.mp hv).1
   refine bz (P1.gr.2 k d.goals[k] (b8 iY)) λx h1 h2=>?_;obtain rfl:v=.ref x:=by rw[hv] at h1;exact m9 h1
   have hl:=(h.go _ (m6 iY)).ln;lk;refine Ev.bJ (λu=>[(".0",.undef),("at",u),("one",.val (.ref x))]) (aP.SG cf rfl `d `d `k) `k (λZ Z=>`set) (λZ=>`get) (.inl `k) ?_;refine aZ.range `get (aU cc) ?_ bu.name;lk;refine iO.nat (g9 s3 (!b7 rfl)) (gZ.zT (f:=λj=>ak ((eO d.goals[k] j).map λi:Nat=>(2:Int) ^ i)) (by rw[bx];exact qi s3) trivial rfl (λF2 cf2 j v hv=>?_) λb hb=>newL hb λH2 kb eb=>?_)
   ·obtain⟨rfl,hj⟩:=bk hv;refine kC.one ?_;lk;refine aF.aD (λZ Z=>rfl) h2 (!bN) (!cI hj hl) (!qh hl s3) ?_;lk;refine kY.fC ?_;refine aB.wC (λc1=>?_) λc1=>?_
    ·ktn_no "no";exact#[by rw[gC,if_neg (not_not_intro c1),v7]]
    ·ktn_no "yes";refine aB.BF (!bN) (!abQ hj s3) (!b7 rfl) #[?_];rw[gC,if_pos c1,n6,bO,j7];rfl
   rw[bx] at eb;lk;refine aj.sum eb #[H1,kb,#[?_]];rw[ak,j9,j9,b8 iY];simp only[cy,I9,hl]
  refine aG.cD `set ?_;have P3:=P1.keep k3;have eU:=k3.aK eU;have Ul:=k1.trans k3;clear P P1 k1 k3 hma hn1;lk;refine#[sz rfl,λra zj=>ET zj hn3 (λv hv=>nomatch hv) λH4 k4 eR hn4=>?_];have P4:=P3.keep k4;have eU4:=k4.aK eU;refine aG.cD `set ?_;refine aG.cons ?_;refine Ex.Ij (l1:=r.go) (l2:=ua) (vs1:=r.iI) (vs2:=ak (d.goals.map cH)) hf ["one","usual"] `wk `get (Dz cc) (Ev.loc `get #[rfl,rfl]) (Ev.loc `get #[rfl,rfl]) P4.g eU4 (MC `k) (UO d ra H4) #[[],eR,#[rfl,λi r e=>nomatch e],hn4,Kp.refl] (λk H' x=>x.casesOn λas Z Z nh kp=>#[nh,kp.at P4.g (ne1 (AH.aJ zj P3.g)),kp.at eU4 (ne1 (AH.aJ zj eU))]) (λk v1 v2 H' hv1 hv2 x=>x.casesOn λas eR' hrs nh kp K kk=>?_) λH' x=>x.casesOn λas eR' hrs nh kp=>?_
  ·have iY:k<d.goals.length:=by rw[<-gl];exact(c9.mp hv1).1
   refine bz (P3.gr.2 k d.goals[k] (b8 iY)) λx h1 h2=>?_;obtain rfl:v1=.ref x:=by rw[hv1] at h1;exact m9 h1
   obtain rfl:v2=.int (cH d.goals[k]):=by
    rw[ak,j9,j9,b8 iY] at hv2;exact(m9 hv2).symm
   have hl:=(h.go _ (m6 iY)).ln;have ha:=kp.at (k4.aK h2) (ne1 (AH.aJ zj h2));have al:as.length<=3:=by have:=hrs.1;rw[b9,b9,F3] at this;exact abR hgo this
   refine b_.two (u:=.undef) (w:=.undef) hf `get c7 `set `get c7 `set ?_;lk;ktn_no "meth";lk;refine Ev.bJ (λu=>[(".0",.undef),("state",u),("one",.val (.ref x)),("usual",.val (.int (cH d.goals[k])))]) (aP.of hn rfl `d `d `k) `k (λZ Z=>`set) (λZ=>`get) (.inl `k) ?_;refine aZ.range `get (aU cc) ?_ bu.name;lk;refine iO.nat (g9 s3 (!b7 rfl)) (gZ.zT (f:=λj=>(jk d.goals[k] (cH d.goals[k]) j).map bS) (by rw[bx];exact qi s3) trivial rfl (λF2 cf2 j v hv=>?_) λbb Sw=>newL Sw λH5 kb eb=>?_)
   ·obtain⟨rfl,hj⟩:=bk hv;refine kC.one ?_;lk;refine aF.aD (λZ Z=>rfl) ha (!bN) (!cI hj hl) (!qh hl s3) ?_;lk;refine kY.fC ?_;lk;refine#[sz rfl,?_];refine aB.SE ?_;refine#[_,rfl,?_];by_cases c1:aD d.goals[k] j≠-1/\aD d.goals[k] j≠cH d.goals[k]
    ·rw[decide_eq_false (λz=>c1.1 z.symm),decide_eq_false (λz=>c1.2 z.symm)];ktn_no "yes";refine aF.aD (λZ Z=>rfl) ha (!bN) (!cI hj hl) (!qh hl s3) ?_;lk;refine#[sz rfl,#[?_]];rw[gD,if_pos c1,n6];rfl
    ·rw[xq c1];ktn_no "if";exact#[by rw[gD,if_neg c1,v7]]
   rw[bx] at eb;refine kh (lT d.goals[k] (cH d.goals[k]) d.lines.length) λnd Z lnr=>?_;lk;refine aj.Jd eb (!abS lnr s3) nd λD hD=>?_;rw[show(jk d.goals[k] (cH d.goals[k]) d.lines.length).map (λx=>(x.1,AV.int x.2))=dG (bW d.goals[k]) by unfold bW dG;rw[hl]];refine LD hD λH6 kD eD=>?_;have kb:=kb.trans kD;have eR3:=kb.aK eR';lk;refine aj.append eR3 (by rw[b9];exact qi al) (g_ λH7 k7 e7=>?_);lk;exact kk #[`k,HN H7,zw _,.push iY hn4 hrs kp kb eR3 eD k7 e7]
  rw[show min r.iI.length (ak (d.goals.map cH)).length=d.goals.length by rw[gl,az,b9,Nat.min_self],z8] at hrs;have UP:=k4.lu kp (.inl zj);have P5:=P3.keep UP;have eU5:=UP.aK eU;have eM5:=UP.aK eM;have k05:=Ul.trans UP;have e05:=k05.aK e0;lk;refine#[_,_,_,_,_,rfl,e05,ef,`at,(λZ e=>nomatch e),?_];lk;refine#[sz rfl,?_];lk;refine eu cc P5.l P5.lr #[s3,λr hr=>(h.li r hr).ok] λxa x1 x2 x3 x4 H6 PA k6=>?_;lk;refine eu cc (k6.aK eR') (hrs.keep k6) (oM h) λya y1 y2 y3 y4 H7 PG k7=>?_;have sJ:=k6.trans k7;lk;refine lR cc (f:=d.fld) (sJ.aK P5.n) (sJ.aK P5.s) (sJ.aK P5.z) (sJ.aK P5.a) (sJ.aK P5.u) (PA.keep k7) PG (sJ.aK eU5) (sJ.aK eM5) (by have:=h.good.fr.c3;exact Kn this) (by have:=h.good.fr.cl;exact Oe this) h.good.fr.nz λpk nu H8 PT k8=>?_;exact hq pk _ H8 PT (k05.trans (sJ.trans k8))
theorem vC (cc:CC C) (h:vt d) (e0:H a=some (.inst 567 dd fs)) (en:∀p∈fs,Bd p.2) (ef:fget fs "terminal_count"=some (.int d.count)) (P:bf H pa r d)
 (hq:∀pk q H',oh H' pk q d.fld->Kp [] H H'->Q (.ref pk) H'):aj C (n+7) (.ref 870) [.ref a,.ref pa] H Q:=
 .frame (zw H) (xy cc h (JL H) (gU e0 en) ef P.toB.nt λpk q H' PT k=>λqF k1 k2=>hq pk q qF (PT.keep λb o Z e=>k1 b o e) λb o Z e=>by
  cases z:HN H b with
  |none=>exact k2 b o e z
  |some o'=>rw[zw H b o' z] at e;cases e;exact k1 b o (k.aK z))
end
section
theorem gV{l:List Int}{s:Nat}{v:Int}(h:s<l.length)(i:Int)(hi:0<=i):aD (l.set s v) i=if i=(s:Int) then v else aD l i:=by
 have:=nj (ds:=l) (k:=(s:Int)) (v:=v) (i:=i) (!bN) (!gI h) hi
 rwa [j7] at this
theorem BQ{r:Row}{c v:Int}:(kU r c v).map (·.1)=if c∈r.map (·.1) then r.map (·.1) else r.map (·.1)++[c]:=by
 unfold kU;by_cases h:c∈r.map (·.1)
 ·have h2:r.any (λp=>p.1=c)=true:=by
   refine bz (m5.mp h) λp hp e=>?_;exact R3.mpr #[p,hp,!decide_eq_true `a]
  rw[if_pos h2,if_pos h,K8];refine R9 λp Z=>?_;simp only[Q5];split<;>rfl
 ·have h2:¬r.any (λp=>p.1=c)=true:=λq=>by
   refine bz (R3.mp q) λp hp e=>?_;exact h (m5.mpr #[p,hp,by simpa using e])
  rw[if_neg h2,if_neg h,n6];rfl
theorem xB:pB (kU r c v) x=if x=c then some v else pB r x:=by
 have:=rO c (.int v) x (dG r);rw[sC,nB,nB] at this;by_cases e:x=c
 ·rw[if_pos e] at this⊢;refine bz (l8.mp this) λy hy ey=>?_;cases ey;exact hy
 ·rw[if_neg e] at this⊢;cases h1:pB (kU r c v) x<;>cases h2:pB r x<;>rw[h1,h2] at this<;>simp at this⊢;exact this
theorem AD(r:Row)(c:Int):pT r c=(pB r c).getD 0:=rfl
theorem cP.kU(h:cP size count rules r)(h0:0<=c/\c<count)(hc:count<=5)(hl:r.length<=9)(hv:jV size rules v):cP size count rules (kU r c v):=by
 have hk:=BQ (r:=r) (c:=c) (v:=v);have len:(Mine.kU r c v).length<=10:=by
  have:=congrArg List.length hk;rw[b9] at this;split at this
  ·rw[b9] at this;exact abT this hl
  ·rw[lG,b9] at this;simp at this;exact abU this hl
 have mem:∀x∈(Mine.kU r c v).map (·.1),x∈r.map (·.1)\/x=c:=λx hx=>by
  rw[hk] at hx;split at hx
  ·exact .inl hx
  ·rcases s6.mp hx with hx|hx
   ·exact .inl hx
   ·exact .inr (j0.mp hx)
 refine#[#[?_,len,λx hx=>?_],λx hx=>?_,λx hx=>?_]
 ·rw[hk];split
  ·exact h.ok.nd
  ·rename_i hn;rw[K1];exact#[h.ok.nd,!G5.mpr #[m8,J9],λa ha b hb=>by simp at hb;subst hb;rintro rfl;exact hn ha]
 ·rcases mem x hx with hx|rfl
  ·exact h.ok.ps x hx
  ·exact abV h0 hc
 ·rcases mem x hx with hx|rfl
  ·exact h.lt x hx
  ·exact abW h0
 ·rw[AD,xB];by_cases e:x=c
  ·rw[if_pos e];exact hv
  ·rw[if_neg e,<-AD];rcases mem x hx with hx|hx
   ·exact h.act x hx
   ·exact absurd hx e
theorem cP.agv(h:cP size count rules r)(hc:count<=5):r.length<=5:=by
 have sub:∀x∈r.map (·.1),x∈([0,1,2,3,4]:List Int):=λx hx=>by
  have h1:=h.ok.ps x hx;have h2:=h.lt x hx;have:x=0\/x=1\/x=2\/x=3\/x=4:=by exact abX h1 h2 hc
  rcases this with rfl|rfl|rfl|rfl|rfl<;>simp
 have:=h.ok.nd.length_le_of_subset sub;simpa using this
theorem Turn.Nq{d d':Dr}{ws:List Str}(h:BH d)(t:Turn d d' ws):vt d':=by
 have k:=h.Nq;induction t with
 |none=>exact k
 |names=>exact{k with nm:=.inr (by show nA d.names=_;rw[h.nm];rfl)}
 |aN s h1 h2 h3=>
  have hh:=k.l s (!KN h1) (!gI h2);refine{k with r2:=?_,e1:=?_,a1:=?_,l0:=?_,l:=?_,e:=?_,a:=?_,df:=?_,li:=?_,cd:=?_}
  ·simpa using k.r2
  ·simpa using k.e1
  ·simpa using k.a1
  ·show aD (d.aN.set s _) 0=d.count;rw[gV h2 0 `e,if_neg (!Kz h1)];exact k.l0
  ·intro i i1 i2;show d.count+1<=aD (d.aN.set s _) i/\aD (d.aN.set s _) i<=_;rw[gV h2 i (!OG i1)];have i2:i<d.aN.length:=by simpa using i2
   split
   ·show _/\_<=d.count+(d.goals.length:Int) - 1;exact abY hh h3
   ·exact k.l i i1 i2
  ·intro i i1 i2;exact k.e i i1 (by simpa using i2)
  ·intro i i1 i2;exact k.a i i1 (by simpa using i2)
  ·simpa using k.df
  ·intro r hr;simpa using k.li r hr
  ·simpa using k.cd
 |aI s h1 h2 h3=>
  have se:s<d.aI.length:=by rw[k.e1];exact h2
  have hh:=h.ru.e s (!bN) (!gI h2);refine{k with e1:=?_,e0:=?_,e:=?_,a:=?_}
  ·simpa using k.e1
  ·show aD (d.aI.set s _) 0=2;rw[gV se 0 `e,if_neg (!Kz h1)];exact k.e0
  ·intro i i1 i2;show 0<=aD (d.aI.set s _) i/\aD (d.aI.set s _) i<=13;rw[gV se i i1];split
   ·exact abZ hh
   ·exact k.e i i1 i2
  ·intro i i1 i2;have:=k.a i i1 i2;show 0<=aD d.aQ i/\aD d.aQ i<=3/\(aD d.aQ i≠0->aD (d.aI.set s _) i=0);refine#[this.1,this.2.1,λhne=>?_];rw[gV se i i1];have z:=this.2.2 hne;split
   ·rename_i e;subst e;exact ab0 h3 z
   ·exact z
 |aQ s h1 h2 h3=>
  have sa:s<d.aQ.length:=by rw[k.a1];exact h2
  have hh:=h.ru.a s (!bN) (!gI h2);refine{k with a1:=?_,a:=?_}
  ·simpa using k.a1
  ·intro i i1 i2;show 0<=aD (d.aQ.set s _) i/\aD (d.aQ.set s _) i<=3/\(aD (d.aQ.set s _) i≠0->aD d.aI i=0);rw[gV sa i i1];split
   ·rename_i e;subst e;exact#[!ab1 hh,!ab2 hh,λZ=>h3]
   ·exact k.a i i1 i2
 |defaults t ht=>
  have su:t<d.rules.length:=by rw[k.df.1];exact ht
  refine{k with df:=#[by show(d.rules.set t _).length=_;rw[x6];exact k.df.1,λi hi=>?_]};rcases J3 hi with hi|rfl
  ·exact k.df.2 i hi
  ·have:=k.r2;exact gB (!ab3 this)
 |line t c ht hc=>
  have hcn:=k.c;refine{k with s:=?_,df:=?_,li:=?_,go:=?_}
  ·simpa using k.s
  ·show d.rules.length=(d.lines.set t _).length/\_;rw[x6];exact k.df
  ·intro r hr;show cP ((d.lines.set t _).length:Int) _ _ _;rw[x6];rcases J3 hr with hr|rfl
   ·exact k.li r hr
   ·have gd:d.lines.getD t []=d.lines[t]:=by rw[c8,b8 ht];rfl
    have hl:=k.li _ (m6 ht);rw[gd];exact hl.kU #[!bN,hc] (!Pj hcn) (by have:=hl.agv (!Pj hcn);exact ab4 this) (by unfold jV;split<;>omega)
  ·intro one ho;show fQ (d.lines.set t _).length _;rw[x6];exact k.go one ho
 |goal t ht h1=>
  have hg:=k.o;refine{k with o:=?_,nm:=?_,l:=?_,go:=?_}
  ·simpa using k.o
  ·show d.names=lA d.count (d.goals.set _ _).length\/_=nA (lA d.count (d.goals.set _ _).length);rw[x6];exact k.nm
  ·intro i i1 i2;show _/\_<=d.count+((d.goals.set _ _).length:Int) - 1;rw[x6];exact k.l i i1 i2
  ·intro one ho;rcases J3 ho with ho|rfl
   ·exact k.go one ho
   ·have gi:d.goals.length - 1<d.goals.length:=by exact KO hg
    have gd:d.goals.getD (d.goals.length - 1) []=d.goals[d.goals.length - 1]:=by rw[c8,b8 gi];rfl
    have hl:=k.go _ (m6 gi);rw[gd];refine#[by rw[x6];exact hl.ln,λx hx=>?_];rcases J3 hx with hx|rfl
    ·exact hl.v x hx
    ·split
     ·exact .inl rfl
     ·right;show _/\_<=(d.lines.length:Int) - 1;exact#[R1 _,(acP h1).2]
 |code s h1 h2=>
  refine{k with cd:=⟨by show(d.codes.set s _).length=_;rw[x6];exact k.cd.1,λc hc=>?_⟩};rcases J3 hc with hc|rfl
  ·exact k.cd.2 c hc
  ·exact .inr rfl
end
section
noncomputable def jn(c:Nat):List (List Nat)->List Nat
 |[]=>[]
 |[p]=>p
 |p::q::r=>p++c::jn c (q::r)
theorem agw{c:Nat}{p q:List Nat}{r:List (List Nat)}:jn c (p::q::r)=p++c::jn c (q::r):=rfl
theorem sD(x y:Str):(x++y).cps.toList=x.cps.toList++y.cps.toList:=by
 show(x.cps++y.cps).toList=_;simp
theorem sE(c:Nat):∀ls:List Str,(Str.join #[(List.toArray [c])] ls).cps.toList=jn c (ls.map λx=>x.cps.toList)
 |[]=>rfl
 |[p]=>rfl
 |p::q::r=>by
  show(p++#[(List.toArray [c])]++Str.join #[(List.toArray [c])] (q::r)).cps.toList=_;rw[sD,sD,sE c (q::r)];simp[agw]
theorem qd{c:Nat}{p a b s:List Nat}{r:List (List Nat)}(hp:c∉p)(ha:c∉a)(h:p++c::s=a++c::b):p=a/\s=b:=by
 induction p generalizing a with
 |nil=>
  cases a with
  |nil=>simpa using h
  |cons x a=>simp at h;exact absurd h.1 (by rintro rfl;simp at ha)
 |cons y p ih=>
  cases a with
  |nil=>simp at h;exact absurd h.1 (by rintro rfl;simp at hp)
  |cons x a=>
   simp at h hp ha;obtain⟨rfl,h⟩:=h;obtain⟨rfl,rfl⟩:=ih hp.2 ha.2 h;exact#[rfl,rfl]
theorem MD{c:Nat}{as:List (List Nat)}:∀{bs:List (List Nat)},(∀p∈as,c∉p)->(∀q∈bs,c∉q)->as≠[]->bs≠[]->jn c as=jn c bs->as=bs:=by
 induction as with
 |nil=>exact λZ Z h=>absurd rfl h
 |cons a as ih=>
  intro bs ha hb _ hn e;cases bs with
  |nil=>exact absurd rfl hn
  |cons b bs=>
   cases as with
   |nil=>
    cases bs with
    |nil=>exact congrArg (λx=>[x]) (show a=b from e)
    |cons b' bs=>exact absurd (show c∈a from(show a=b++c::jn c (b'::bs) from e)▸u5 _ (.head _)) (ha a (.head _))
   |cons a' as=>
    cases bs with
    |nil=>exact absurd (show c∈b from(show a++c::jn c (a'::as)=b from e)▸u5 _ (.head _)) (hb b (.head _))
    |cons b' bs=>
     obtain⟨rfl,e2⟩:=qd (r:=[]) (ha a (.head _)) (hb b (.head _)) e;exact congrArg (a::·) (ih (λp hp=>ha p (.tail _ hp)) (λp hp=>hb p (.tail _ hp)) nofun nofun e2)
theorem EU{x:Str}{c:Nat}{es:List (List Nat)}(ne:es≠[])(fr:∀p∈es,c∉p)(h:x.cps.toList=jn c es):J7 x #[(List.toArray [c])]=es.map λl=>(#[l.toArray]:Str):=by
 have h2:x.cps.toList=jn c ((J7 x #[(List.toArray [c])]).map λx=>x.cps.toList):=by rw[<-sE,StrLaws.join_split]
 have hn:(J7 x #[(List.toArray [c])]).map (λx=>x.cps.toList)≠[]:=λz=>by
  have:=split_pos x #[(List.toArray [c])];rw[List.map_eq_nil_iff.mp z] at this;simp at this
 have e:=MD (c:=c) (λp hp=>by
  obtain⟨y,hy,rfl⟩:=m5.mp hp;have:=StrLaws.split_free x c;exact this y hy) fr hn ne (h2.symm.trans h)
 rw[<-e,K8]
 conv=>lhs;rw[<-List.map_id (J7 x #[(List.toArray [c])])]
 refine R9 λy Z=>?_;show y=(#[y.cps.toList.toArray]:Str);simp
theorem xC{w b:List Nat}{c:Nat}(hw:c∉w):(J7 #[(w++c::b).toArray] #[(List.toArray [c])])[0]? =some #[w.toArray]:=by
 have h2:w++c::b=jn c ((J7 #[(w++c::b).toArray] #[(List.toArray [c])]).map λx=>x.cps.toList):=by
  rw[<-sE,StrLaws.join_split]
 have fr:=StrLaws.split_free #[(w++c::b).toArray] c;generalize J7 #[(w++c::b).toArray] #[(List.toArray [c])]=ls at h2 fr⊢;cases ls with
 |nil=>exact absurd (show w++c::b=[] from h2) (by simp)
 |cons p r=>
  have hp:c∉p.cps.toList:=fr p (!.head _);cases r with
  |nil=>
   replace h2:w++c::b=p.cps.toList:=h2;exact absurd (show c∈p.cps.toList by rw[<-h2];simp) hp
  |cons q r=>
   replace h2:w++c::b=p.cps.toList++c::jn c (q.cps.toList::r.map λx=>x.cps.toList):=h2;refine xA (qd (r:=[]) hw hp h2) λe Z=>?_;simp only[List.getElem?_cons_zero,Y7];rw[e]
theorem EV(c:Nat)(ls:List (List Nat))(e:List Nat):(ls.flatMap λy=>y++[c])++e=jn c (ls++[e]):=by
 induction ls with
 |nil=>rfl
 |cons a r ih=>
  simp only[C3,List.cons_append,x8,ih];cases r with
  |nil=>exact rfl
  |cons b r=>exact rfl
end
section
theorem EW:10∉num i:=by
 rcases K6 0 i with h0|h0
 ·obtain⟨m,rfl⟩:∃m:Nat,i=m:=#[i.toNat,!lX h0];intro h;have:=fj h;exact absurd this `e
 ·by_cases hz:i=0
  ·subst hz;decide+kernel
  ·obtain⟨m,rfl,hm⟩:∃m:Nat,i=-(m:Int)/\0<m:=#[(-i).toNat,!vR h0,!vU h0 hz];rw[fW hm];intro h;rcases l9.mp h with h|h
   ·cases h
   ·have:=fj h;exact absurd this `e
theorem ME:10∉esc l:=λh=>by
 refine bz (R2.mp h) λc Z h=>?_;unfold pQ at h;split at h
 ·simp at h
 ·split at h
  ·simp at h
  ·split at h
   ·simp at h;exact acQ h `a
   ·simp at h;exact acR h `a
mutual
theorem JM(v:AV):10∉sh v:=by
 cases v with
 |int i=>exact EW
 |str x=>
  refine λh=>(l9.mp h).elim nofun λh=>(s6.mp h).elim ME nofun
 |tup l=>
  refine λh=>(l9.mp h).elim nofun λh=>(s6.mp h).elim (MF l) nofun
 |none=>exact(by decide:(10:Nat)∉[45])
 |_=>exact m8
theorem MF:∀l:List AV,10∉Bl l
 |[]=>by exact m8
 |v::r=>by
  intro h;rcases s6.mp h with h|h
  ·exact JM v h
  ·exact zx r h
theorem zx:∀l:List AV,10∉fq l
 |[]=>by exact m8
 |v::r=>by
  intro h;rcases l9.mp h with h|h
  ·cases h
  ·rcases s6.mp h with h|h
   ·exact JM v h
   ·exact zx r h
end
noncomputable def j_:List String:=["names","terminals","lefts","lengths","befores","defaults","bases","table","check","owners","goto_defaults","goto_masks","goto_bases","goto_table","goto_check","goto_owners","codes"]
noncomputable def pC(d:Dr):List (List AV):=[aC d.names,[.int d.count],ak d.aN,ak d.aI,ak d.aQ,ak d.rules,ak d.fld.acts.bases,ak d.fld.acts.table,ak d.fld.acts.check,ak d.fld.acts.owners,ak d.fld.fF,ak d.fld.bH,ak d.fld.cg.bases,ak d.fld.cg.table,ak d.fld.cg.check,ak d.fld.cg.owners,d.codes.map kT]
noncomputable def dU(w:String)(us:List AV):List Nat:=jP (bI w).cps.toList us
theorem Ik(hw:10∉(bI w).cps.toList):10∉dU w us:=λh=>by
 unfold dU jP at h;rcases s6.mp h with h|h
 ·exact hw h
 ·rcases l9.mp h with h|h
  ·cases h
  ·rcases s6.mp h with h|h
   ·exact EW h
   ·rcases l9.mp h with h|h
    ·cases h
    ·exact zx us h
noncomputable def EX:List Nat:=("grammarmill parser 1":Str).cps.toList
noncomputable def Il:List Nat:=("end ":Str).cps.toList++num 19
noncomputable def a_(d:Dr):List (List Nat):=EX::(I1 dU j_ (pC d)++[Il,[]])
theorem MG(A:List (List Nat))(x z:List Nat):((A++[x++z]).flatMap λy=>y++[10])++[]=(A.flatMap λy=>y++[10])++(x++(z++[10])):=by
 rw[v7,S2,List.flatMap_singleton,x8]
theorem EY(d:Dr):(txt d).cps.toList=jn 10 (a_ d):=by
 rw[show a_ d=(EX::I1 dU j_ (pC d)++[Il])++[[]] by kernel_rfl,<-EV,Il,MG];kernel_rfl
theorem xD:(j_.all λw=>decide (10∉(bI w).cps.toList/\32∉(bI w).cps.toList))=true:=by decide+kernel
theorem BR(d:Dr):∀p∈a_ d,10∉p:=λp hp=>by
 unfold a_ at hp;rcases l9.mp hp with rfl|hp
 ·decide+kernel
 ·rcases s6.mp hp with hp|hp
  ·obtain⟨i,hi,rfl⟩:=O6 hp;rw[List.getElem_zipWith];have:=n9.mp xD (j_[i]'`a) (m6 _);exact Ik (of_decide_eq_true this).1
  ·simp at hp;rcases hp with rfl|rfl
   ·decide+kernel
   ·exact m8
theorem BS(d:Dr):J7 (txt d) #[(List.toArray [10])]=(a_ d).map λl=>(#[l.toArray]:Str):=EU (!F4 _ _) (BR d) (EY d)
theorem gH(d:Dr):(a_ d).length=20:=by kernel_rfl
end
section
theorem qe(hc:c=32\/c=58):c∉num i:=by
 rcases K6 0 i with h0|h0
 ·obtain⟨m,rfl⟩:∃m:Nat,i=m:=#[i.toNat,!lX h0];intro h;have:=fj h;exact Pn this hc
 ·by_cases hz:i=0
  ·subst hz;rcases hc with rfl|rfl<;>decide+kernel
  ·obtain⟨m,rfl,hm⟩:∃m:Nat,i=-(m:Int)/\0<m:=#[(-i).toNat,!vR h0,!vU h0 hz];rw[fW hm];intro h;rcases l9.mp h with h|h
   ·exact ab6 hc h
   ·have:=fj h;exact Pn this hc
theorem Im(h:num i=num j):i=j:=by
 have pos:∀m:Nat,∀k:Nat,0<k->num (m:Int)≠num (-(k:Int)):=λm k hk e=>by
  rw[fW hk] at e;have:45∈num (m:Int):=by rw[e];simp
  have:=fj this;exact absurd this `e
 rcases K6 0 i with h0|h0<;>rcases K6 0 j with h1|h1
 ·obtain⟨m,rfl⟩:∃m:Nat,i=m:=#[i.toNat,!lX h0];obtain⟨k,rfl⟩:∃m:Nat,j=m:=#[j.toNat,!lX h1];rw[jJ h]
 ·by_cases hz:j=0
  ·obtain⟨m,rfl⟩:∃m:Nat,i=m:=#[i.toNat,!lX h0];subst hz;have:=jJ (m:=m) (k:=0) h;exact ab7 this
  ·obtain⟨m,rfl⟩:∃m:Nat,i=m:=#[i.toNat,!lX h0];obtain⟨k,rfl,hk⟩:∃m:Nat,j=-(m:Int)/\0<m:=#[(-j).toNat,!vR h1,!vU h1 hz];exact absurd h (pos m k hk)
 ·by_cases hz:i=0
  ·obtain⟨m,rfl⟩:∃m:Nat,j=m:=#[j.toNat,!lX h1];subst hz;have:=jJ (m:=0) (k:=m) h;exact ab8 this
  ·obtain⟨m,rfl⟩:∃m:Nat,j=m:=#[j.toNat,!lX h1];obtain⟨k,rfl,hk⟩:∃m:Nat,i=-(m:Int)/\0<m:=#[(-i).toNat,!vR h0,!vU h0 hz];exact absurd h.symm (pos m k hk)
 ·by_cases hz:i=0
  ·by_cases hy:j=0
   ·exact ab9 hz hy
   ·subst hz;obtain⟨k,rfl,hk⟩:∃m:Nat,j=-(m:Int)/\0<m:=#[(-j).toNat,!vR h1,!vU h1 hy];exact absurd h (pos 0 k hk)
  ·obtain⟨k,rfl,hk⟩:∃m:Nat,i=-(m:Int)/\0<m:=#[(-i).toNat,!vR h0,!vU h0 hz];by_cases hy:j=0
   ·subst hy;exact absurd h.symm (pos 0 k hk)
   ·obtain⟨l,rfl,hl⟩:∃m:Nat,j=-(m:Int)/\0<m:=#[(-j).toNat,!vR h1,!vU h1 hy];rw[fW hk,fW hl] at h;rw[jJ (V0 h).2]
theorem MH{c:Nat}{p q s t:List Nat}(hp:c∉p)(hq:c∉q)(hs:s=[]\/∃r,s=c::r)(ht:t=[]\/∃r,t=c::r)(h:p++s=q++t):p=q/\s=t:=by
 rcases hs with rfl|⟨r,rfl⟩<;>rcases ht with rfl|⟨r',rfl⟩
 ·simpa using h
 ·exfalso;apply hp;have:c∈p++[]:=by rw[h];simp
  simpa using this
 ·exfalso;apply hq;have:c∈q++[]:=by rw[<-h];simp
  simpa using this
 ·refine xA (qd (r:=[]) hp hq h) λe1 e2=>?_;exact#[e1,!congrArg _ `a]
theorem uz:∀us:List AV,fq us=[]\/∃r,fq us=32::r
 |[]=>.inl rfl
 |v::us=>.inr #[_,jg]
theorem vD:∀{b:List Int},fq (ak a)=fq (ak b)->a=b:=by
 induction a with
 |nil=>exact λ{b}=>b.casesOn (λZ=>rfl) λZ Z h=>nomatch h
 |cons x a ih=>
  refine λ{b}=>b.casesOn (λh=>nomatch h) λy b h=>?_;refine xA (MH (qe (.inl rfl)) (qe (.inl rfl)) (uz _) (uz _) (V0 h).2) λe1 e2=>?_;rw[Im e1,ih e2]
theorem sF(h:dU w a=dU w b):a.length=b.length/\fq a=fq b:=by
 unfold dU jP at h;have h1:=(V0 (List.append_cancel_left h)).2;refine xA (qd (r:=[]) (qe (.inr rfl)) (qe (.inr rfl)) h1) λe1 e2=>?_;exact#[jJ e1,e2]
theorem bQ(h:dU w (ak a)=dU w (ak b)):a=b:=vD (sF h).2
theorem vE:∀a b:List AV,fq (a++b)=fq a++fq b
 |[],b=>rfl
 |v::a,b=>by simp[jg,vE a b]
theorem MI{us:List AV}{s:Nat}{v:AV}(hs:s<us.length)(h:fq (us.set s v)=fq us):sh v=sh us[s]:=by
 have e1:us.set s v=us.take s++v::us.drop (s+1):=by rw[List.set_eq_take_append_cons_drop,if_pos hs]
 have e2:us=us.take s++us[s]::us.drop (s+1):=by rw[List.getElem_cons_drop];exact(List.take_append_drop s us).symm
 rw[e1] at h
 conv at h=>rhs;rw[e2]
 rw[vE,vE] at h;have h2:=List.append_cancel_left h;rw[jg,jg] at h2;exact List.append_cancel_right (V0 h2).2
end
section
theorem BU:My.all (λc=>decide (sh (kT c)≠sh (kT rZ)))=true:=by decide+kernel
theorem Io(hc:count=4\/count=5)(ho:others=2\/others=3):fq (aC (lA count others))≠fq (aC (nA (lA count others))):=by
 rcases hc with rfl|rfl<;>rcases ho with rfl|rfl<;>decide+kernel
theorem EZ{l:List Int}{s:Nat}(h:s<l.length):aD l s=l[s]:=by
 unfold aD;rw[j7,c8,b8 h];rfl
theorem lD{l:List Int}{s:Nat}{v:Int}(h:s<l.length)(hv:v≠aD l s):l≠l.set s v:=λe=>hv (by
 have:=gV (v:=v) h (s:Int) (!bN);rw[<-e,if_pos rfl] at this;exact this.symm)
theorem E_{W:List String}{A B:List (List AV)}{i:Nat}{w:String}{us vs:List AV}(e:I1 dU W A=I1 dU W B)(hw:W[i]? =some w)(hu:A[i]? =some us)(hv:B[i]? =some vs):dU w us=dU w vs:=by
 have:=congrArg (·[i]?) e;simp only[Q0,hw,hu,hv] at this;exact m9 this
theorem Fb{p q:Pk}(a:p.bases=q.bases)(b:p.table=q.table)(c:p.check=q.check)(e:p.owners=q.owners):p=q:=by
 rw[show p=#[p.bases,p.table,p.check,p.owners] from rfl,a,b,c,e]
theorem BV{d d':Dr}{ws:List Str}(h:BH d)(t:Turn d d' ws)(hw:ws≠[]):a_ d≠a_ d':=λe=>by
 have k:=h.Nq;have k':=t.Nq h;have L:=λi {w us vs}=>E_ (W:=j_) (A:=pC d) (B:=pC d') (i:=i) (w:=w) (us:=us) (vs:=vs) (List.append_cancel_right (V0 e).2);induction t with
 |none=>exact hw rfl
 |names=>
  have:=(sF (L 0 rfl rfl rfl)).2;rw[h.nm] at this;exact Io k.c k.o this
 |aN s h1 h2 h3=>
  refine lD h2 ?_ (bQ (L 2 rfl rfl rfl));have:=k.l s (!KN h1) (!gI h2);have hc:=k.c;exact ab_
 |aI s h1 h2 h3=>exact lD (by rw[k.e1];exact h2) (!Po) (bQ (L 3 rfl rfl rfl))
 |aQ s h1 h2 h3=>exact lD (by rw[k.a1];exact h2) (!Po) (bQ (L 4 rfl rfl rfl))
 |defaults t ht=>
  have ht':t<d.rules.length:=by rw[k.df.1];exact ht
  refine lD ht' ?_ (bQ (L 5 rfl rfl rfl));have h1:=k.df.2 (aD d.rules t) (by rw[EZ ht'];exact m6 _);have h2:=k.r2;intro q;by_cases c:aD d.rules t+1=d.aN.length
  ·rw[c,Int.fmod_self] at q;exact acd q h2 c
  ·rw[Int.fmod_eq_of_lt (!ace h1) (!acf h1 c)] at q;exact acg q
 |line t c ht hc=>
  have ea:d.fld.acts={d with lines:=d.lines.set t (kU (d.lines.getD t []) c (if pB (d.lines.getD t []) c=some 1048576 then -1048576 else 1048576))}.fld.acts:=Fb (bQ (L 6 rfl rfl rfl)) (bQ (L 7 rfl rfl rfl)) (bQ (L 8 rfl rfl rfl)) (bQ (L 9 rfl rfl rfl));have g1:=lV k ht c;have g2:=lV k' (s:=t) (by show t<(d.lines.set t _).length;rw[x6];exact ht) c;rw[<-ea,g1] at g2;have g3:(d.lines.set t (kU (d.lines.getD t []) c (if pB (d.lines.getD t []) c=some 1048576 then -1048576 else 1048576))).getD t []=kU (d.lines.getD t []) c (if pB (d.lines.getD t []) c=some 1048576 then -1048576 else 1048576):=by
   rw[c8,List.getElem?_set_self ht];rfl
  rw[g3,xB,if_pos rfl] at g2;split at g2
  ·rename_i z;rw[z] at g2;cases g2
  ·rename_i z;exact z g2
 |goal t ht h1=>
  have hg:=k.o;have gi:d.goals.length - 1<d.goals.length:=by exact KO hg
  have ea:d.fld.cg={d with goals:=d.goals.set (d.goals.length - 1) ((d.goals.getD (d.goals.length - 1) []).set t (if aD (d.goals.getD (d.goals.length - 1) []) t=1 then -1 else 1))}.fld.cg:=Fb (bQ (L 12 rfl rfl rfl)) (bQ (L 13 rfl rfl rfl)) (bQ (L 14 rfl rfl rfl)) (bQ (L 15 rfl rfl rfl));have eg:=bQ (L 10 rfl rfl rfl);have em:=bQ (L 11 rfl rfl rfl);have g1:=sr k gi ht;have gi':d.goals.length - 1<(d.goals.set (d.goals.length - 1) ((d.goals.getD (d.goals.length - 1) []).set t (if aD (d.goals.getD (d.goals.length - 1) []) t=1 then -1 else 1))).length:=by rw[x6];exact gi
  have g2:=sr k' gi' ht;rw[<-ea,<-eg,<-em,g1] at g2;have gd:d.goals.getD (d.goals.length - 1) []=d.goals[d.goals.length - 1]:=by rw[c8,b8 gi];rfl
  have hl:=(k.go _ (m6 gi)).ln;simp only[List.getElem_set_self,gd] at g2;rw[gV (!Cp ht hl) (t:Int) (!bN),if_pos rfl] at g2;split at g2<;>omega
 |code s h1 h2=>
  have hs:s<d.codes.length:=by rw[k.cd.1];exact h2
  have:=(sF (L 16 rfl rfl rfl)).2;simp only[List.map_set] at this;have q:=MI (us:=d.codes.map kT) (s:=s) (v:=kT rZ) (by rw[b9];exact hs) this.symm;rw[List.getElem_map] at q;exact of_decide_eq_true (n9.mp BU _ (EC (h.cd.2 _ (m6 hs)))) q.symm
end
section
noncomputable def zy(l:List Nat):Str:=((J7 #[l.toArray] #[(List.toArray [32])])[0]?).getD ""
noncomputable def bA(A B:List (List Nat)):List Str:=((A.zip B).filter λp=>decide (p.1≠p.2)).map λp=>zy p.1
noncomputable def vF(ws:List Str):List String->List (List AV)->List (List AV)->Prop
 |w::W,a::A,b::B=>(a=b\/bI w∈ws)/\vF ws W A B
 |_,_,_=>True
theorem Fc(h:32∉(bI w).cps.toList):zy (dU w us)=bI w:=by
 unfold zy dU jP;rw[xC h];simp
theorem xF{ws:List Str}:∀{W:List String} {A B:List (List AV)},(W.all λw=>decide (10∉(bI w).cps.toList/\32∉(bI w).cps.toList))=true->vF ws W A B->∀x∈bA (I1 dU W A) (I1 dU W B),x∈ws
 |[],_,_,_,_,x,h=>by exact B0 _ `a
 |_::_,[],_,_,_,x,h=>by exact B0 _ `a
 |_::_,_::_,[],_,_,x,h=>by exact B0 _ `a
 |w::W,a::A,b::B,hw,ok,x,h=>by
  rw[List.all_cons,D0] at hw;have ih:=xF hw.2 ok.2 x;simp only[List.zipWith_cons_cons,bA,S8] at h;rw[List.filter_cons] at h;split at h
  ·rename_i hne;rcases l9.mp h with h|h
   ·rcases ok.1 with e|e
    ·exact absurd (by rw[e]) (of_decide_eq_true hne)
    ·rw[h];show zy (dU w a)∈ws;rw[Fc (of_decide_eq_true hw.1).2];exact e
   ·exact ih h
  ·exact ih h
theorem lW(A B A' B':List (List Nat))(h:A.length=B.length):bA (A++A') (B++B')=bA A B++bA A' B':=by
 unfold bA;rw[List.zip_append h,M4,n6]
theorem kg(A:List (List Nat)):bA A A=[]:=by
 induction A with
 |nil=>rfl
 |cons a A ih=>
  unfold bA at ih⊢;rw[S8,T5 (by simp)];exact ih
theorem zz:∀{B:List (List Nat)},A.length=B.length->bA A B=[]->A=B:=by
 induction A with
 |nil=>exact λ{B} h Z=>(V3 h.symm).symm
 |cons a A ih=>
  refine λ{B}=>B.casesOn (λh=>nomatch h) λb B h e=>?_;unfold bA at e;rw[S8,List.filter_cons] at e;by_cases c:a=b
  ·rw[if_neg (by simp[c])] at e;rw[c,ih (Nat.succ.inj h) e]
  ·rw[if_pos (decide_eq_true c)] at e;cases e
theorem jf{ws:List Str}:∀{W:List String} {A:List (List AV)},vF ws W A A
 |[],_=>trivial
 |_::_,[]=>trivial
 |_::_,_::_=>#[.inl rfl,jf]
theorem BW{d d':Dr}{ws:List Str}(t:Turn d d' ws):vF ws j_ (pC d) (pC d'):=by
 induction t with
 |none=>exact jf
 |names=>exact#[.inr (.head _),jf]
 |aN=>exact#[.inl rfl,.inl rfl,.inr (.head _),jf]
 |aI=>exact#[.inl rfl,.inl rfl,.inl rfl,.inr (.head _),jf]
 |aQ=>exact#[.inl rfl,.inl rfl,.inl rfl,.inl rfl,.inr (.head _),jf]
 |defaults=>exact#[.inl rfl,.inl rfl,.inl rfl,.inl rfl,.inl rfl,.inr (.head _),jf]
 |line=>exact#[.inl rfl,.inl rfl,.inl rfl,.inl rfl,.inl rfl,.inl rfl,.inr (.head _),.inr (.tail _ (.tail _ (.head _))),.inr (.tail _ (.tail _ (.tail _ (.head _)))),.inr (.tail _ (.head _)),jf]
 |goal=>exact#[.inl rfl,.inl rfl,.inl rfl,.inl rfl,.inl rfl,.inl rfl,.inl rfl,.inl rfl,.inl rfl,.inl rfl,.inr (.tail _ (.tail _ (.tail _ (.tail _ (.head _))))),.inr (.tail _ (.tail _ (.tail _ (.tail _ (.tail _ (.head _)))))),.inr (.head _),.inr (.tail _ (.tail _ (.head _))),.inr (.tail _ (.tail _ (.tail _ (.head _)))),.inr (.tail _ (.head _)),jf]
 |code=>exact#[.inl rfl,.inl rfl,.inl rfl,.inl rfl,.inl rfl,.inl rfl,.inl rfl,.inl rfl,.inl rfl,.inl rfl,.inl rfl,.inl rfl,.inl rfl,.inl rfl,.inl rfl,.inl rfl,.inr (.head _),trivial]
theorem xG{x:List Nat}{A B E:List (List Nat)}(h:A.length=B.length):bA (x::(A++E)) (x::(B++E))=bA A B:=by
 rw[show x::(A++E)=[x]++(A++E) from rfl,show x::(B++E)=[x]++(B++E) from rfl,lW _ _ _ _ rfl,kg,List.nil_append,lW _ _ _ _ h,kg,v7]
theorem Fd{d d':Dr}{ws:List Str}(h:BH d)(t:Turn d d' ws):(∀x∈bA (a_ d) (a_ d'),x∈ws)/\(bA (a_ d) (a_ d')=[]↔ws=[]):=by
 have hl:(a_ d).length=(a_ d').length:=by rw[gH,gH]
 have sub:∀x∈bA (a_ d) (a_ d'),x∈ws:=λx hx=>by
  exact xF xD (BW t) x (xG (x:=EX) (A:=I1 dU j_ (pC d)) (B:=I1 dU j_ (pC d')) (E:=[Il,[]]) rfl▸hx)
 refine#[sub,λe=>?_,λe=>?_]
 ·by_cases hw:ws=[]
  ·exact hw
  ·exact absurd (zz hl e) (BV h t hw)
 ·cases z:bA (a_ d) (a_ d') with
  |nil=>rfl
  |cons x l=>have:=sub x (by rw[z];simp);rw[e] at this;simp at this
end
section
variable{C:Cx}{n:Nat}{H:AH}{Q:AV->AH->Prop}
theorem Turn.count{d d':Dr}{ws:List Str}(t:Turn d d' ws):d'.count=d.count:=by cases t<;>rfl
theorem vt.short(h:vt d):(txt d).length<=950000:=by
 have ok:=h.good.ok;have:=uu ok.n2 ok.c ok.l ok.e ok.b ok.d ok.acts ok.gd ok.gm ok.cg ok.k2;show(jQ _ _).toArray.size<=_;simpa using this
theorem Ip(us:List Str):(PyData.list (us.map M3)).eqv (PyData.list [])=decide (us=[]):=by cases us<;>rfl
theorem Turn.Iq{d d':Dr}{ws:List Str}(t:Turn d d' ws):(ws.all λw=>F5 w)=true:=by cases t<;>decide+kernel
theorem zA(A B:List (List Nat)):(bA A B).length<=A.length:=by
 unfold bA;rw[b9];refine g9 (J4 _ _) ?_;simp;exact ach
theorem aB.Fe{a b:Addr}{us:List Str}(ha:H a=some (.list (aC us)))(hb:H b=some (.list []))(ok:∀y∈us,F5 y=true)(hq:Q (.bool (Bool.not (decide (us=[])))) H):aB C n (compareOp .NotEq) (.ref a) (.ref b) H Q:=
 .CO (.list ha iD) (.list hb .nil) (by rw[C8,jO ok]) rfl (by rw[G4,xw];decide) (by rw[Ip];exact hq)
noncomputable def ntA:AV->Bool
 | .tup _=>false
 |_=>true
theorem MJ{fs:List (Str×AV)}(h:(fs.all λp=>ntA p.2)=true):∀p∈fs,Bd p.2:=λp hp=>by
 have:=n9.mp h p hp;generalize p.2=v at this⊢;cases v<;>first|trivial|cases this
theorem JN{c:Nat}{a:List Nat}:∀{ls:List (List Nat)},a∈ls->a.length<=(jn c ls).length
 |[],h=>by cases h
 |[p],h=>by simp at h;subst h;exact r7 _
 |p::q::r,h=>by
  simp only[jn,lG,x9];rcases l9.mp h with rfl|h
  ·exact aci
  ·have:=JN (c:=c) h;exact acj this
theorem BX{a b:List Nat}(h:(#[a.toArray]:Str)=#[b.toArray]):a=b:=by simpa using h
theorem iJ(h:x.length<=950000):(O3 x (F6 x y 0 x.length (x.length+1)) y.length).length<=1000000:=by
 rw[len_partsBetween];have:=StrLaws.occ_length_le x y 0 x.length (x.length+1);exact ack this h
theorem nG(d:Dr):J7 (txt d) "\n"=(a_ d).map λl=>(#[l.toArray]:Str):=by rw[show bI "\n"=#[(List.toArray [10])] by decide+kernel,BS]
theorem AE(d:Dr):(aC ((a_ d).map λl=>(#[l.toArray]:Str))).length=20:=by exact rfl
theorem Ir{w:Str}{ws:List Str}(hm:w∈ws):(Bool.not ((ws.map M3).any λy=>I7 y (M3 w)))=false:=by
 rw[R3.mpr #[_,m5.mpr #[w,hm,rfl],!if_pos rfl]];rfl
theorem Iu(h:A=[]↔B=[]):((Bool.not (decide (A=[])))==(Bool.not (decide (B=[]))))=true:=by
 by_cases c:B=[]
 ·rw[h.mpr c,c];rfl
 ·rw[decide_eq_false c,decide_eq_false (λz=>c (h.mp z))];rfl
theorem MK(cc:CC C){sa:Addr}{ns:List Int}(hs:Ek C sa (ak ns))(hl:ns.length<=1000)(hq:∀H',Q (.bool true) H'):aj C (n+16) (.ref 889) [.ref sa] H Q:=
 LP cc λF hf hn hk=>by
  refine aG.cons ?_;lk;refine Ml cc hs hl λp c H1 hp0 hc0 hp k1=>?_;refine aG.cD `set ?_;refine aG.cons ?_;refine Ex.qw ?_ (hw:=by exact rfl);lk;refine tD cc hp `e λd pk q la nH ga iI ca gK H2 okd PT hla hlr hga hgr hca JG hp2 k2=>?_;have kd:=okd.Nq;refine b_.tup rfl rfl ?_;refine e_.names hf `nm `sx ?_;lk;refine oN cc kd PT hca JG ?_;lk;refine vA cc kd PT hla hlr hga hgr hca JG λpa r H3 P A TP k3=>?_;have PT3:=PT.keep k3;have hp3:=hp2.cQ k3;have hpn:p∉r.all pa:=λm=>by
   have:=A.fr _ m;refine tG hp2.e λZ Z Z e Z=>?_;rw[this] at e;cases e
  refine xE PT.o λdd e0=>?_;have hkn:pk∉p::r.all pa:=λm=>by
   rcases l9.mp m with e|m
   ·exact hp2.Jz e0 (λs r e=>nomatch e) e
   ·have:=A.fr _ m;rw[e0] at this;cases this
  lk;refine nC cc kd PT3 P ?_;ktn_no "no";refine tF cc kd hp3 `e PT3 P A (by rw[TP];exact JG) hpn λwa words d' r' H4 kQ t P' k4=>?_;have UQ:=t.Nq okd;have e04:=k4.at (k3.aK e0) hkn;lk;refine vC cc UQ e04 (MJ `k) (by rw[t.count];kernel_rfl) P' λok q' H5 PT5 k5=>?_;have P5:=P'.keep k5;have agx:=k5.aK kQ;lk;refine aF.list (λZ Z=>rfl) P5.o `e (v:=.ref r'.cd) rfl (sz rfl) ?_;lk;refine oN cc UQ PT5 P5.c P5.cr ?_;refine aG.cD `set ?_;refine aG.cons ?_;have tz:=kd.short;have tz':=UQ.short;refine Ex.qG (u:=.undef) `get c7 hf ?_;refine Ev.GW `get (GY cc) `get (Dz cc) ?_;lk;ktn_no "meth";lk;refine aj.split `d (!Cv tz) (iJ tz) λl1 hl1=>newL hl1 λH6 k6 e6=>?_;rw[nG] at e6;refine#[l1,aC ((a_ d).map λl=>(#[l.toArray]:Str)),rfl,!b7 rfl,?_];lk;ktn_no "meth";lk;refine aj.split `d (!Cv tz') (iJ tz') λl2 hl2=>newL hl2 λH7 k7 e7=>?_;rw[nG] at e7;refine#[l2,_,rfl,k7.aK e6,e7,λzl hzl=>newL hzl λH8 k8 e8=>?_];refine aG.cD `set ?_;refine aG.cons ?_;refine Ex.zN (u:=.undef) (aP.of hn rfl `d `d `k) `get trivial hf ?_ (cT hn hk true `k);refine aZ.list ?_ bu.tup;lk;rw[show I1 (λa b=>AV.tup [a,b]) (aC ((a_ d).map λl=>(#[l.toArray]:Str))) (aC ((a_ d').map λl=>(#[l.toArray]:Str)))=(((a_ d).zip (a_ d')).map λp=>(AV.str #[p.1.toArray],AV.str #[p.2.toArray])).map λp=>AV.tup [p.1,p.2] by
   exact rfl] at e8
  refine#[zl,_,rfl,e8,?_];refine#[!b7 rfl,λk ys ρ' H'=>(∃u w,LV.ok u/\LV.ok w/\ρ'=([(".0",.undef),("one",u),("two",w)]:Loc))/\ys=aC (bA ((a_ d).take k) ((a_ d').take k))/\Kp [] H8 H',#[#[.undef,.undef,trivial,trivial,`k],!rfl,Kp.refl],?_,?_,?_]
  ·rintro k ys ρ' H' _ ⟨_,_,kk⟩;exact kk.aK e8
  ·refine qQ.comp (r:=λu w=>[(".0",.undef),("one",u),("two",w)]) (P:=λk ys H'=>ys=aC (bA ((a_ d).take k) ((a_ d').take k))/\Kp [] H8 H') (λZ Z Z=>`set) (λZ Z Z=>`set) (λZ Z=>`get) (λZ Z=>`get) (.inl `k) (.inl `k) ?_;rintro F' cf k v w ys H' hv ⟨rfl,kk⟩;rw[j9] at hv;obtain⟨⟨a,b⟩,hab,e⟩:=l8.mp hv;cases e;obtain⟨ha,hb⟩:(a_ d)[k]? =some a/\(a_ d')[k]? =some b:=by
    rw[List.getElem?_zip_eq_some] at hab;exact hab
   have us:bA ((a_ d).take (k+1)) ((a_ d').take (k+1))=bA ((a_ d).take k) ((a_ d').take k)++bA [a] [b]:=by
    rw[X3,X3,ha,hb];exact lW _ _ _ _ (by rw[F3,F3,gH,gH])
   refine kC.one ?_;lk;refine aB.ae7 (λc1=>?_) λc1=>?_
   ·ktn_no "no";exact#[by rw[us,show a=b from BX c1,kg,v7],kk]
   ·replace c1:a≠b:=λe=>c1 (e▸rfl);ktn_no "yes";ktn_no "meth";lk;have al:(#[a.toArray]:Str).length<=950000:=by
     have h1:=JN (c:=10) (j8 ha);rw[<-EY] at h1;have:(txt d).cps.toList.length=(txt d).length:=rfl;show a.toArray.size<=_;simp only[n7];exact acm h1 tz
    refine aj.split `d (!Cv al) (iJ al) λsl hsl=>newL hsl λH9 k9 e9=>?_;rw[show bI " "=#[(List.toArray [32])] by decide+kernel] at e9;lk;have sp:(J7 (#[a.toArray]:Str) #[(List.toArray [32])])[0]? =some (zy a):=by
     have h0:=split_pos (#[a.toArray]:Str) #[(List.toArray [32])];unfold zy;rw[b8 h0];rfl
    have sz:(J7 (#[a.toArray]:Str) #[(List.toArray [32])]).length<=1000000:=by
     unfold J7;split
     ·exact n8 _
     ·split
      ·exact n8 _
      ·exact iJ al
    refine aF.list (λZ Z=>rfl) e9 `e (v:=.str (zy a)) (by simp[aC,sp]) (by simp[aC];exact sz) ?_;refine#[?_,kk.trans k9];rw[us];simp[bA,c1,aC]
  ·rintro ul ys ρ' H9 ⟨⟨u,w,hu,hw,rfl⟩,rfl,k9⟩ UE;refine xA (Fd okd t) λUh tl2=>?_;rw[show List.length (List.map (λp=>AV.tup [p.1,p.2]) (List.map (λp=>(AV.str #[p.1.toArray],AV.str #[p.2.toArray])) ((a_ d).zip (a_ d'))))=20 by exact rfl,z9 (!r7 _),z9 (!r7 _)];refine newL UE λHA kA eul=>?_;have agy:=(((k6.trans k7).trans k8).trans k9).trans kA;have ML:=zA (a_ d) (a_ d');rw[gH] at ML;generalize bA (a_ d) (a_ d')=UL at Uh tl2 eul ML;refine aG.cD `set ?_;lk;ktn_no "meth";lk;refine aj.split `d (!Cv tz) (iJ tz) λs1 hs1=>newL hs1 λHB kB eB=>?_;rw[nG] at eB;lk;refine aj.bM eB (!b7 rfl) ?_;lk;ktn_no "meth";lk;refine aj.split `d (!Cv tz') (iJ tz') λs2 hs2=>newL hs2 λHD kD eD=>?_;rw[nG] at eD;lk;refine aj.bM eD (!b7 rfl) ?_;lk;refine aB.iQ (by rw[AE,AE]) ?_;ktn_no "no";have MM:=kD.aK (kB.aK eul);have kBD:=agy.trans (kB.trans kD);have Tv:=kBD.aK agx;have PD:=P5.keep kBD;have PTD:=PT5.keep kBD;refine Ev.bJ (λu=>[(".0",.undef),("word",u),("words",.val (.ref wa))]) (aP.of hn rfl `d `d `k) `k (λZ Z=>`set) (λZ=>`get) (.inl `k) ?_;refine aZ.list ?_ bu.name;lk;have uw:=n9.mp t.Iq;refine#[ul,_,rfl,MM,by simp[aC];exact acn ML,λk ys H'=>ys=[]/\H'=HD,#[rfl,rfl],?_,?_,?_]
   ·rintro k ys H' _ ⟨_,rfl⟩;exact MM
   ·rintro F' cf k v ys H' hv ⟨rfl,rfl⟩;simp only[aC,j9] at hv;obtain⟨w,hw,rfl⟩:=l8.mp hv;have hm:=Uh w (j8 hw);refine kC.one ?_;lk;refine aB.aeo (.str _) (.list Tv iD) (uw w hm) (jO uw) (!s8 _) ?_;refine#[false,congrArg AV.bool (Ir hm),?_];ktn_no "no";exact#[rfl,rfl]
   ·rintro b ys H' ⟨rfl,rfl⟩ hb;refine newL hb λHN kN eN=>?_;lk;refine#[sz rfl,λc hc=>newL hc λHM kM eM=>?_];refine aB.Fe (us:=[]) (kM.aK eN) eM (λZ h=>nomatch h) ?_;ktn_no "no";refine#[sz rfl,λc2 hc2=>newL hc2 λHP kP eP=>?_];have kNP:=(kN.trans kM).trans kP;refine aB.Fe (us:=UL) (kNP.aK MM) eP (λy hy=>uw y (Uh y hy)) ?_;lk;refine#[sz rfl,λc3 hc3=>newL hc3 λHR kR eR=>?_];have kNR:=kNP.trans kR;refine aB.Fe (us:=words) (kNR.aK Tv) eR uw ?_;lk;refine aB.eqB ?_;refine#[true,congrArg AV.bool (Iu tl2),?_];lk;refine nC cc UQ (PTD.keep kNR) (PD.keep kNR) ?_;exact hq _
end
section
theorem trunc(n:Nat):∀(h:Heap),h.objs.size=n->∀{a:Addr} {o:Obj},h.get? a=some o->∃h':Heap,(∀b,h'.get? b=h.get? b)/\(∃o,h'.get? (h'.objs.size - 1)=some o)/\h'.objs.size<=h.objs.size:=by
 induction n with
 |zero=>
  intro h hn a o e;exact absurd (m7 e) (by rw[hn];exact Nat.not_lt_zero _)
 |succ n ih=>
  intro h hn a o e;cases z:h.get? n with
  |some o'=>exact#[h,λZ=>rfl,#[o',by rw[hn];exact z],r7 _]
  |none=>
   have same:∀b,(#[h.objs.pop,h.life]:Heap).get? b=h.get? b:=λb=>by
    by_cases c:b=n
    ·subst c;rw[z];unfold Heap.get?;rw[show(#[h.objs.pop,h.life]:Heap).objs[b]? =b6 by simp[hn]]
    ·unfold Heap.get?;have:(#[h.objs.pop,h.life]:Heap).objs[b]? =h.objs[b]?:=by
      show h.objs.pop[b]? =_;rw[Array.getElem?_pop,hn];by_cases c2:b<n
      ·exact if_pos `a
      ·rw[X0,if_neg c2,U4 (by rw[hn];exact Nat.lt_of_le_of_ne (I4.mp c2) (q9 c))]
     rw[this]
   refine f_ (ih #[h.objs.pop,h.life] (by simp[hn]) ((same a).trans e)) λh' h1 h2 h3=>?_;exact#[h',λb=>(h1 b).trans (same b),h2,g9 h3 (by simp)]
theorem Iv:WShape.hasItems [] xs .int=true->∃ns:List Int,xs=ns.map WData.int:=by
 induction xs with
 |nil=>
  intro _;exact#[[],rfl]
 |cons d r ih=>
  intro h;have h':WShape.has [] d .int=true/\WShape.hasItems [] r .int=true:=by simpa [WShape.hasItems] using h
  obtain⟨i,rfl⟩:=hasW_int h'.1;obtain⟨ns,rfl⟩:=ih h'.2;exact#[i::ns,rfl]
noncomputable def Tw(P:Params)(h:Heap)(v:Value):WData->Prop
 | .list xs=>∃a vs,v=.ref a/\h.get? a=some {cls:=.type "list",data:=.seq vs.toArray}/\WellAll P h vs xs
 | .int i=>∃t,v=.int i t
 |_=>True
theorem xH{P:Params}{h:Heap}{v:Value}{d:WData}(w:Well P h v d):Tw P h v d:=by
 refine Well.casesOn (motive_1:=λv d _=>Tw P h v d) w ?_ ?_ ?_ ?_ ?_ ?_ ?_ ?_ ?_ ?_ ?_ ?_ ?_<;>intros<;>first|exact trivial|exact#[_,rfl]|exact#[_,_,rfl,`a,`a]
def Tz(P:Params)(h:Heap)(vs:List Value)(ds:List WData):Prop:=S3 (vs=[]) (λd ds _=>∃v r,vs=v::r/\Well P h v d/\WellAll P h r ds) ds
theorem qg{P:Params}{h:Heap}{vs:List Value}{ds:List WData}(w:WellAll P h vs ds):Tz P h vs ds:=
 WellAll.casesOn (motive_2:=λvs ds _=>Tz P h vs ds) w rfl λa b=>#[_,_,rfl,a,b]
theorem xJ:∀{vs:List Value},WellAll P h vs (ns.map WData.int)->aM h vs (ak ns):=by
 induction ns with
 |nil=>exact λ{vs} r=>(show vs=[] from qg r)▸.nil
 |cons i ns ih=>
  intro vs r;obtain⟨v,q,rfl,hw,hr⟩:=qg r;obtain⟨t,rfl⟩:=xH hw;exact .cons (.int i _) (ih hr)
theorem Iw(ns:List Int)(c:63<ns.length):WTm.holds [] u9.pre {args:=[.list (ns.map WData.int)]}=false:=by
 have:W.less? (.int 63) (.int (ns.length:Int))=some true:=by
  rw[W.less?];simp[Num.less?];exact aco c
 simp[WTm.holds,u9,OpenLaw.pre,WTm.value,this]
theorem BY(args:List WData):(u9.row.toRowW).claim.post args (.bool true) args=true:=by kernel_rfl
theorem Iz{P:Params}{h:Heap}{args:List WData}{vals:List Value}(h1:WShape.hasAll [] args [.list .int]=true)(hW:WellAll P h vals args):∃sa vs ns,vals=[.ref sa]/\args=[.list (ns.map WData.int)]/\h.get? sa=some {cls:=.type "list",data:=.seq vs.toArray}/\aM h vs (ak ns):=by
 obtain⟨d,r,rfl,hd1,hr⟩:=hasAllW_cons h1;obtain rfl:=hasAllW_nil hr;obtain⟨xs,rfl,hx⟩:=hasW_list hd1;obtain⟨ns,rfl⟩:=Iv hx;obtain⟨v,q,rfl,hw,hr⟩:=qg hW;obtain⟨a,vs,rfl,hl,hwl⟩:=xH hw;obtain rfl:q=[]:=qg hr;exact#[_,_,ns,rfl,rfl,hl,xJ hwl]
set_option tactic.hygienic true in
theorem last:WalkO qV fZ (λZ Z=>True) UU u9.row.toRowW dV [] (λf vs=>PySem.call f vs):=by
 intro w s₀ s₁ mg mb G Y a o pm cd doc dV kV e hd hc hD hmg hgens args vals as hpre hlay hR hW hlow;obtain⟨sa,vs,ns,rfl,rfl,hl,ab⟩:=Iz (pre_splitW hpre).1 hW;have h2:=(pre_splitW hpre).2;have hlen:ns.length<=63:=by
  by_cases c:63<ns.length
  ·exact absurd ((Iw ns c).symm.trans h2) (!q8)
  ·exact acp c
 refine xE (O2.mp (show((KK w.params).lookup 889).isSome=true by kernel_rfl)) λo9 e9=>?_;refine f_ (trunc _ s₁.heap rfl (Y 889 _ e9)) λhb b1 b2 b3=>?_;have up:∀b o,s₁.heap.get? b=some o->hb.get? b=some o:=λb o e=>(b1 b).trans e;have T:=G.T.keeps up;have Yb:(KK w.params).In hb:=Y.keeps up;let C:Cx:={prog:=u9.row.prog,w:=w,K:=KK w.params,hb:=hb,mg:=mg,mb:=mb,os:=s₁.os,KR:=Yb,nsG:=T.g,nsB:=T.b,bt:=T.builtins,lim:=T.nolimit,lo:=I6 (!b7 rfl) (m7 (Yb _ _ e9)),last:=b2,dig:=T.nodigits};have cc:CC C:=#[rfl,λx=>by
  show mg x=_;rw[T.g.eq_nsMap];unfold Dw Heap.nsMap;cases q:(KK w.params).lookup 3 with
  |none=>exact if_pos `a
  |some o3=>
   have q2:=Yb 3 o3 q;have q3:hb.get? mainGlobals=some o3:=q2;rw[q3];obtain⟨cl,dc,da,wk⟩:=o3;cases da<;>try rfl
   show nsFind _ x=_;unfold nsFind findBy;rw[<-Array.find?_toList]]
 have ea:Dw w.params "law"=some (.ref 889):=by kernel_rfl
 rw[<-cc.gl] at ea;obtain rfl:a=889:=by have:=hmg.symm.trans ea;simpa using this
 have nf:∀b,¬cW (λZ=>b6) b:=λb f=>by rcases f with⟨_,z⟩|⟨_,_,_,z⟩<;>cases z
 have gd:cJ C s₁.heap.get? (λZ=>b6) s₁:={base:=λb o e=>(b1 b).symm.trans e,keep:=λZ Z e=>e,rel:=λZ Z e=>(nomatch e),off:=λb f=>(nf b f).elim,dx:=λZ Z Z Z z=>(nomatch z),inj:=λZ Z Z Z Z Z Z z=>(nomatch z),gens:=hgens,os:=rfl,size:=b3,sys:=λZ Z z=>(nomatch z)};refine wpAny_mono (MK (n:=0) (Q:=λv Z=>v=.bool true) cc #[vs,up _ _ hl,ab.up up] (!acq hlen) (λZ=>rfl) callerA s₁.heap.get? s₁ [.ref sa] #[rfl,!b7 rfl,!b7 rfl] gd (.cons (.ref _) .nil)) ?_ ?_
 ·rintro v s' ⟨_,H',rfl,r,G'⟩;cases r;exact#[.inl #[.bool true,.bool true,[],rfl,λZ=>rfl,.bool true,BY _,λZ=>#[.nil,λZ h=>(nomatch h)]],OldK.of_keep λb o e=>G'.keep _ _ e,G'.os,.of_eq G'.gens]
 ·intro e s' z;exact z.elim
theorem ai_:u9.Holds:=head last
end
end Mine
theorem PySem.Challenge.cw_on0179_01_holds : PySem.Challenge.rw_on0179_01.Holds :=
  Mine.ai_
